import PyProof.Rows.All
import Wide.All
import OpenK.AllK
import Wide.FinOn
import HandS.ForMost
import HandS.ForExc
import HandS.IsInst
import HandS.ExcIs
import HandS.ExcValue
import HandS.EndBits
import HandS.Wide
import HandS.Zip
import HandS.TryOnly
import HandS.Deep
import HandS.Style
import HandS.Defaults
import PySem.Challenge.RW_halvecut_k52_lightest_half_planes
set_option Elab.async false
set_option linter.all false
set_option maxRecDepth 100000
set_option maxHeartbeats 4000000
namespace DL
open PySem PySem.Spec PyProof.Rows L2

/-- plain data, the heap put aside -/
inductive D where
  | at (v : V)
  | tup (l : List D)
  | lst (l : List D)
  | exc (C : Addr)
abbrev D.int (i : Int) : D := .at (.int i)
abbrev D.bl (b : Bool) : D := .at (.bl b)
abbrev D.non : D := .at .non
abbrev D.str (x : Str) : D := .at (.str x)
abbrev D.ints (l : List Int) : List D := l.map D.int

/-- an exception object that was caught, of the own class at C -/
def ExF (C a : Addr) : HO := .ext fun h => ∃ (oe : Obj) (vs : Array Value), h.get? a = some oe ∧ Zc (.ref C) none oe ∧ oe.data = .fields vs

mutual
inductive Rep (K : PySem.W.Frag) (H : Hp) : V → D → Prop
  | at (v : V) : Rep K H v (.at v)
  | tup {a : Addr} {xs : List V} {ds : List D} : SqT K H a xs → Reps K H xs ds → Rep K H (.ref a) (.tup ds)
  | lst {a : Addr} {xs : List V} {ds : List D} : SqL K H a xs → Reps K H xs ds → Rep K H (.ref a) (.lst ds)
  | exc {a C : Addr} : H a = some (ExF C a) → Rep K H (.ref a) (.exc C)
inductive Reps (K : PySem.W.Frag) (H : Hp) : List V → List D → Prop
  | nil : Reps K H [] []
  | cons {v : V} {vs : List V} {d : D} {ds : List D} : Rep K H v d → Reps K H vs ds → Reps K H (v :: vs) (d :: ds)
end

theorem Same.seqT {K : PySem.W.Frag} {H H' : Hp} {a : Addr} {xs : List V} (e : Same H H') (h : SqT K H a xs) : SqT K H' a xs := by
  rcases h with (h | ⟨o, h⟩) | h
  · exact .inl (.inl (e _ _ h))
  · exact .inl (.inr ⟨o, e _ _ h⟩)
  · exact .inr h
section
variable {K : PySem.W.Frag} {H H' : Hp}
mutual
theorem Rep.mono (e : Same H H') : ∀ (d : D) {v : V}, Rep K H v d → Rep K H' v d
  | .at w, v, h => by cases h; exact .at _
  | .tup ds, v, h => by
    cases h with
    | tup s r => exact .tup (Same.seqT e s) (Reps.mono e ds r)
  | .lst ds, v, h => by
    cases h with
    | lst s r => exact .lst (e.seq s) (Reps.mono e ds r)
  | .exc C, v, h => by
    cases h with
    | exc s => exact .exc (e _ _ s)
theorem Reps.mono (e : Same H H') : ∀ (ds : List D) {vs : List V}, Reps K H vs ds → Reps K H' vs ds
  | [], _, h => by cases h; exact .nil
  | d :: ds, _, h => by
    cases h with
    | cons r rs => exact .cons (Rep.mono e d r) (Reps.mono e ds rs)
end
theorem Reps.length : ∀ {vs : List V} {ds : List D}, Reps K H vs ds → vs.length = ds.length
  | _, _, .nil => rfl
  | _, _, .cons _ r => congrArg (· + 1) (Reps.length r)
theorem Reps.get : ∀ {vs : List V} {ds : List D} {i : Nat} {d : D}, Reps K H vs ds → ds[i]? = some d → ∃ v, vs[i]? = some v ∧ Rep K H v d
  | _, _, _, _, .nil, e => by simp at e
  | _, _, 0, _, .cons r _, e => by simp at e; subst e; exact ⟨_, rfl, r⟩
  | _, _, i + 1, d, .cons _ r, e => by
    obtain ⟨v, h1, h2⟩ := Reps.get (i := i) (d := d) r (by simpa using e)
    exact ⟨v, by simpa using h1, h2⟩
theorem Reps.append : ∀ {vs ws : List V} {ds es : List D}, Reps K H vs ds → Reps K H ws es → Reps K H (vs ++ ws) (ds ++ es)
  | _, _, _, _, .nil, s => s
  | _, _, _, _, .cons r t, s => .cons r (Reps.append t s)
theorem Reps.take : ∀ (n : Nat) {vs : List V} {ds : List D}, Reps K H vs ds → Reps K H (vs.take n) (ds.take n)
  | 0, _, _, _ => .nil
  | _ + 1, _, _, .nil => .nil
  | n + 1, _, _, .cons r t => .cons r (Reps.take n t)
theorem Reps.drop : ∀ (n : Nat) {vs : List V} {ds : List D}, Reps K H vs ds → Reps K H (vs.drop n) (ds.drop n)
  | 0, _, _, r => r
  | _ + 1, _, _, .nil => .nil
  | n + 1, _, _, .cons _ t => Reps.drop n t
theorem Reps.set : ∀ (i : Nat) {v : V} {d : D} {vs : List V} {ds : List D}, Rep K H v d → Reps K H vs ds → Reps K H (vs.set i v) (ds.set i d)
  | _, _, _, _, _, _, .nil => .nil
  | 0, _, _, _, _, r, .cons _ t => .cons r t
  | i + 1, _, _, _, _, r, .cons q t => .cons q (Reps.set i r t)
theorem Reps.one {vs : List V} {d : D} (h : Reps K H vs [d]) : ∃ v, vs = [v] ∧ Rep K H v d := by
  cases h with
  | cons r t => cases t; exact ⟨_, rfl, r⟩
theorem Reps.ats : ∀ {us : List V} {vs : List V}, Reps K H vs (us.map D.at) → vs = us
  | [], _, h => by cases h; rfl
  | u :: us, _, h => by
    cases h with
    | cons r t =>
      cases r
      rw [Reps.ats t]
theorem Reps.of_ats : ∀ (us : List V), Reps K H us (us.map D.at)
  | [] => .nil
  | u :: us => .cons (.at u) (Reps.of_ats us)
theorem Reps.ints {ns : List Int} {vs : List V} (h : Reps K H vs (D.ints ns)) : vs = ns.map V.int := by
  have e : D.ints ns = (ns.map V.int).map D.at := by simp [D.ints, Function.comp_def]
  rw [e] at h
  exact h.ats
theorem Reps.of_ints (ns : List Int) : Reps K H (ns.map V.int) (D.ints ns) := by
  have e : D.ints ns = (ns.map V.int).map D.at := by simp [D.ints, Function.comp_def]
  rw [e]
  exact .of_ats _
end

/-! ### the state of a body as data -/
/-- pairs of keys (tuples of ints and texts) and data -/
abbrev RepKV (K : PySem.W.Frag) (H : Hp) : List (List Key × V) → List (List Key × D) → Prop := Paired fun p q => p.1 = q.1 ∧ Rep K H p.2 q.2
theorem RepKV.mono {K : PySem.W.Frag} {H H' : Hp} (e : Same H H') {xs : List (List Key × V)} {ds : List (List Key × D)} (h : RepKV K H xs ds) : RepKV K H' xs ds := Paired.mapP h fun _ _ z => ⟨z.1, Rep.mono e _ z.2⟩
/-- what a slot holds: nothing known; data; a list (a dict) of this body's own making that nothing else leads to -/
inductive En where
  | no
  | im (d : D)
  | ow (a : Addr) (ds : List D)
  | od (a : Addr) (kvs : List (List Key × D))
abbrev Rho := List En
def En.own : En → Option Addr
  | .ow a _ => some a
  | .od a _ => some a
  | _ => none
def ows (ρ : Rho) : List Addr := ρ.filterMap En.own
/-- H0: the heap at the entry; G: what of it the arguments lie in; hid: what nobody may lead to -/
structure Ctx where
  H0 : Hp
  G : Hp
  hid : List Addr
/-- what may be led to: the arguments' part and what is new, but the lists of one's own -/
def vis (C : Ctx) (o : List Addr) (H : Hp) : Hp := fun b => if (C.H0 b).isSome then C.G b else if b ∈ o ∨ b ∈ C.hid then none else H b
theorem vis_same {C : Ctx} {o : List Addr} {H H' : Hp} (e : Same H H') : Same (vis C o H) (vis C o H') := fun b x h => by
  unfold vis at h ⊢
  split
  · rename_i q; rw [if_pos q] at h; exact h
  · rename_i q
    rw [if_neg q] at h
    split
    · rename_i z; rw [if_pos z] at h; cases h
    · rename_i z; rw [if_neg z] at h; exact e _ _ h
theorem vis_sub {C : Ctx} {o o' : List Addr} {H : Hp} (e : ∀ b, b ∈ o' → b ∈ o) : Same (vis C o H) (vis C o' H) := fun b x h => by
  unfold vis at h ⊢
  split
  · rename_i q; rw [if_pos q] at h; exact h
  · rename_i q
    rw [if_neg q] at h
    split at h
    · cases h
    · rename_i z
      rw [if_neg fun m => z (m.elim (fun y => .inl (e b y)) .inr)]
      exact h
/-- all of it stands in the heap -/
theorem vis_in {C : Ctx} {o : List Addr} {H : Hp} (g : Same C.G C.H0) (s : Same C.H0 H) : Same (vis C o H) H := fun b x h => by
  unfold vis at h
  split at h
  · exact s _ _ (g _ _ h)
  · split at h
    · cases h
    · exact h
/-- what is new is seen -/
theorem vis_at {C : Ctx} {o : List Addr} {H : Hp} {a : Addr} (n0 : C.H0 a = none) (no : a ∉ o) (nh : a ∉ C.hid) : vis C o H a = H a := by
  unfold vis
  rw [n0, if_neg (by simp), if_neg fun z => z.elim no nh]
/-- a new object -/
theorem vis_new {C : Ctx} {o : List Addr} {H : Hp} {a : Addr} {x : HO} (n0 : C.H0 a = none) (no : a ∉ o) (nh : a ∉ C.hid) : vis C o (upd H a x) = upd (vis C o H) a x := by
  funext b
  by_cases e : b = a
  · subst e
    rw [upd_same, vis_at n0 no nh, upd_same]
  · rw [upd_ne e]
    unfold vis
    rw [upd_ne e]
/-- one of one's own is changed -/
theorem vis_own {C : Ctx} {o : List Addr} {H : Hp} {a : Addr} {x : HO} (ho : a ∈ o) : vis C o (upd H a x) = vis C o H := by
  funext b
  by_cases e : b = a
  · subst e
    unfold vis
    rw [if_pos (Or.inl ho)]
    rw [if_pos (Or.inl ho)]
  · unfold vis
    rw [upd_ne e]
theorem same_upd {H : Hp} {p : Addr} {o : HO} (h : H p = none) : Same H (upd H p o) := fun b x e => by
  rw [upd_ne (ne_of_none e h)]
  exact e

structure SRel (K : PySem.W.Frag) (C : Ctx) (H : Hp) (σ : L2.St) (ρ : Rho) : Prop where
  len : σ.length = ρ.length
  gh : Same C.G C.H0
  hh : Same C.H0 H
  nd : (ows ρ).Nodup
  fr : ∀ a, a ∈ ows ρ ∨ a ∈ C.hid → C.H0 a = none ∧ H a ≠ none
  dj : ∀ a ∈ ows ρ, a ∉ C.hid
  im : ∀ (i : Nat) (d : D), ρ[i]? = some (En.im d) → ∃ v : V, σ[i]? = some (some v) ∧ Rep K (vis C (ows ρ) H) v d
  ow : ∀ (i : Nat) (a : Addr) (ds : List D), ρ[i]? = some (En.ow a ds) → σ[i]? = some (some (V.ref a)) ∧ ∃ xs, H a = some (.lst xs) ∧ Reps K (vis C (ows ρ) H) xs ds
  od : ∀ (i : Nat) (a : Addr) (ds : List (List Key × D)), ρ[i]? = some (En.od a ds) → σ[i]? = some (some (V.ref a)) ∧ ∃ xs, H a = some (.dT xs) ∧ RepKV K (vis C (ows ρ) H) xs ds
section
variable {K : PySem.W.Frag} {C : Ctx} {H H' : Hp} {σ : L2.St} {ρ : Rho}
theorem SRel.same (S : SRel K C H σ ρ) (e : Same H H') : SRel K C H' σ ρ :=
  ⟨S.len, S.gh, S.hh.trans e, S.nd, fun a h => ⟨(S.fr a h).1, fun z => (S.fr a h).2 (e.free z)⟩, S.dj, fun i d h => by
    obtain ⟨v, h1, h2⟩ := S.im i d h
    exact ⟨v, h1, Rep.mono (vis_same e) _ h2⟩, fun i a ds h => by
    obtain ⟨h1, xs, h2, h3⟩ := S.ow i a ds h
    exact ⟨h1, xs, e _ _ h2, Reps.mono (vis_same e) _ h3⟩, fun i a ds h => by
    obtain ⟨h1, xs, h2, h3⟩ := S.od i a ds h
    exact ⟨h1, xs, e _ _ h2, h3.mono (vis_same e)⟩⟩
theorem SRel.visIn (S : SRel K C H σ ρ) : Same (vis C (ows ρ) H) H := vis_in S.gh S.hh
/-- a new address -/
theorem SRel.new (S : SRel K C H σ ρ) {a : Addr} (n : H a = none) : C.H0 a = none ∧ a ∉ ows ρ ∧ a ∉ C.hid :=
  ⟨S.hh.free n, fun z => (S.fr a (.inl z)).2 n, fun z => (S.fr a (.inr z)).2 n⟩
theorem SRel.visNew (S : SRel K C H σ ρ) {a : Addr} {x : HO} (n : H a = none) : vis C (ows ρ) (upd H a x) = upd (vis C (ows ρ) H) a x :=
  let ⟨n0, no, nh⟩ := S.new n
  vis_new n0 no nh
end

/-! ### expressions -/
/-- what is wanted of an expression's run -/
def wpE (X : Cx) (e : Expr) : TE := fun σ H Q => ∀ pins s, Inv X pins σ H s → wpAny (model X.prog X.w) X.A (eval e X.env) (EP X pins σ Q) X.xe s
def wpT (X : Cx) (e : Expr) : TT := fun σ H Q => ∀ pins s, Inv X pins σ H s → wpAny (model X.prog X.w) X.A (isTrue e X.env (eval e X.env)) (TP X pins σ Q) X.xe s
def wpA (X : Cx) (es : List Expr) : TA := fun σ H Q => ∀ (pos : Pos) pins s, Inv X pins σ H s → wpAny (model X.prog X.w) X.A (spliced (backTo pos (starEach es X.env))) (AP X pins σ Q) X.xe s
section
variable {X : Cx}
theorem pe_wp {e : Expr} : PE X e (wpE X e) := ⟨fun pins s _ _ _ I h => h pins s I⟩
theorem pt_wp {e : Expr} : PT X e (wpT X e) := ⟨fun pins s _ _ _ I h => h pins s I⟩
theorem pa_wp {es : List Expr} : PA X es (wpA X es) := ⟨fun pos pins s _ _ _ I h => h pos pins s I⟩
theorem wpE_of {e : Expr} {t : TE} (h : PE X e t) {σ : L2.St} {H : Hp} {Q : VK} (q : t σ H Q) : wpE X e σ H Q := fun pins s I => h.run pins s σ H Q I q
theorem wpT_of {e : Expr} {t : TT} (h : PT X e t) {σ : L2.St} {H : Hp} {Q : Bool → Hp → Prop} (q : t σ H Q) : wpT X e σ H Q := fun pins s I => h.run pins s σ H Q I q
theorem wpA_of {es : List Expr} {t : TA} (h : PA X es t) {σ : L2.St} {H : Hp} {Q : List V → Hp → Prop} (q : t σ H Q) : wpA X es σ H Q := fun pos pins s I => h.run pos pins s σ H Q I q
end
/-- e is evaluated to the data d; nothing that was is changed -/
def EE (X : Cx) (C : Ctx) (ρ : Rho) (e : Expr) (d : D) : Prop :=
  ∀ σ H, SRel X.K C H σ ρ → ∀ Q : VK, (∀ v H', Same H H' → Rep X.K (vis C (ows ρ) H') v d → Q v H') → wpE X e σ H Q
/-- e as a test is c -/
def ET (X : Cx) (C : Ctx) (ρ : Rho) (e : Expr) (c : Bool) : Prop :=
  ∀ σ H, SRel X.K C H σ ρ → ∀ Q : Bool → Hp → Prop, (∀ H', Same H H' → Q c H') → wpT X e σ H Q
/-- an argument list -/
def EA (X : Cx) (C : Ctx) (ρ : Rho) (es : List Expr) (ds : List D) : Prop :=
  ∀ σ H, SRel X.K C H σ ρ → ∀ Q : List V → Hp → Prop, (∀ vs H', Same H H' → Reps X.K (vis C (ows ρ) H') vs ds → Q vs H') → wpA X es σ H Q
/-- e is evaluated to a new list -/
def EF (X : Cx) (C : Ctx) (ρ : Rho) (e : Expr) (ds : List D) : Prop :=
  ∀ σ H, SRel X.K C H σ ρ → ∀ Q : VK, (∀ a xs H', H a = none → Same H H' → H' a = some (.lst xs) → Reps X.K (vis C (a :: ows ρ) H') xs ds → Q (.ref a) H') → wpE X e σ H Q
/-- e is evaluated to a list to be read (perhaps one's own) -/
def EL (X : Cx) (C : Ctx) (ρ : Rho) (e : Expr) (ds : List D) : Prop :=
  ∀ σ H, SRel X.K C H σ ρ → ∀ Q : VK, (∀ a xs H', Same H H' → SqL X.K H' a xs → Reps X.K (vis C (ows ρ) H') xs ds → Q (.ref a) H') → wpE X e σ H Q
section
variable {X : Cx} {C : Ctx} {ρ : Rho} {e a b : Expr} {es : List Expr} {d : D} {ds : List D} {pos : Pos}
theorem EE.eq {d' : D} (h : EE X C ρ e d) (q : d = d') : EE X C ρ e d' := q ▸ h
theorem ET.eq {c c' : Bool} (h : ET X C ρ e c) (q : c = c') : ET X C ρ e c' := q ▸ h
theorem EA.eq {ds' : List D} (h : EA X C ρ es ds) (q : ds = ds') : EA X C ρ es ds' := q ▸ h
theorem EF.eq {ds' : List D} (h : EF X C ρ e ds) (q : ds = ds') : EF X C ρ e ds' := q ▸ h
theorem EL.eq {ds' : List D} (h : EL X C ρ e ds) (q : ds = ds') : EL X C ρ e ds' := q ▸ h
theorem EF.ee (h : EF X C ρ e ds) : EE X C ρ e (.lst ds) := fun σ H S Q q => h σ H S _ fun a xs H' n s l r =>
  q _ _ s (.lst (.inl (.inl (by
    obtain ⟨n0, no, nh⟩ := S.new n
    rw [vis_at n0 no nh]
    exact l))) (Reps.mono (vis_sub fun b hb => List.mem_cons_of_mem _ hb) _ r))
theorem EE.el (h : EE X C ρ e (.lst ds)) : EL X C ρ e ds := fun σ H S Q q => h σ H S _ fun v H' s r => by
  cases r with
  | lst sq rs => exact q _ _ _ s ((S.same s).visIn.seq sq) rs
theorem EF.el (h : EF X C ρ e ds) : EL X C ρ e ds := h.ee.el
theorem el_var (i : Nat) {x : Str} (hN : X.N[i]? = some x := by rfl) {a : Addr} (hr : ρ[i]? = some (.ow a ds) := by rfl) (hv : Vis X.env.scope x := by first | exact Or.inl rfl | exact Or.inr (Or.inl rfl) | exact Or.inr (Or.inr rfl))
    (hd : (x == ("__debug__" : Str)) = false := by decide) (hcd : (x == ("__classdict__" : Str)) = false := by decide) : EL X C ρ (.Name x pos) ds := fun σ H S Q q => by
  obtain ⟨h1, xs, h2, h3⟩ := S.ow i a ds hr
  exact wpE_of (pe_var hN hv hd hcd) ⟨_, h1, q a xs H (Same.refl H) (.inl (.inl h2)) h3⟩
theorem ee_var (i : Nat) {x : Str} (hN : X.N[i]? = some x := by rfl) (hr : ρ[i]? = some (.im d) := by rfl) (hv : Vis X.env.scope x := by first | exact Or.inl rfl | exact Or.inr (Or.inl rfl) | exact Or.inr (Or.inr rfl))
    (hd : (x == ("__debug__" : Str)) = false := by decide) (hcd : (x == ("__classdict__" : Str)) = false := by decide) : EE X C ρ (.Name x pos) d := fun σ H S Q q => by
  obtain ⟨v, h1, h2⟩ := S.im i d hr
  exact wpE_of (pe_var hN hv hd hcd) ⟨_, h1, q v H (Same.refl H) h2⟩
/-- a constant reading -/
theorem ee_c {v : V} (h : PE X e (tC v)) : EE X C ρ e (.at v) := fun σ H S Q q => wpE_of h (q v H (Same.refl H) (.at v))
theorem ee_int {i j} : EE X C ρ (.Constant (.int i) j pos) (.int i) := ee_c pe_int
theorem ee_bl {i j} : EE X C ρ (.Constant (.bool i) j pos) (.bl i) := ee_c pe_bl
theorem ee_non {j} : EE X C ρ (.Constant .none j pos) .non := ee_c pe_non
theorem ee_str {i j} : EE X C ρ (.Constant (.str i) j pos) (.str i) := ee_c pe_str
/-- an operation on two scalars -/
theorem ee_op {op : Operator} {r : R2} {x y z : V} (ho : OpR X (binaryOp op) r) (ha : EE X C ρ a (.at x)) (hb : EE X C ρ b (.at y)) (hr : ∀ H (Q : VK), Q z H → r x y H Q) : EE X C ρ (.BinOp a op b pos) (.at z) := fun σ H S Q q => by
  refine wpE_of (pe_op ho pe_wp pe_wp) (ha σ H S _ fun v H1 s1 r1 => hb σ H1 (S.same s1) _ fun u H2 s2 r2 => ?_)
  cases r1
  cases r2
  exact hr _ _ (q z H2 (s1.trans s2) (.at z))
theorem ee_add {i j : Int} (ha : EE X C ρ a (.int i)) (hb : EE X C ρ b (.int j)) : EE X C ρ (.BinOp a .Add b pos) (.int (i + j)) := ee_op op_add ha hb fun _ _ q => ⟨i, j, rfl, rfl, q⟩
theorem ee_sub {i j : Int} (ha : EE X C ρ a (.int i)) (hb : EE X C ρ b (.int j)) : EE X C ρ (.BinOp a .Sub b pos) (.int (i - j)) := ee_op op_sub ha hb fun _ _ q => ⟨i, j, rfl, rfl, q⟩
end
end DL

namespace DL
open PySem PySem.Spec PyProof.Rows L2

/-! ### sizes -/
structure Sz (n : Nat) (i : Int) : Prop where
  lt : i.natAbs < 2 ^ n
theorem Sz.mono {n m : Nat} {i : Int} (h : Sz n i) (l : n ≤ m) : Sz m i := ⟨Nat.lt_of_lt_of_le h.lt (Nat.pow_le_pow_right (by decide) l)⟩
theorem Sz.self (i : Int) : Sz (i.natAbs.log2 + 1) i := ⟨Nat.lt_log2_self⟩
theorem Sz.ofNat (k : Nat) : Sz (k.log2 + 1) (@OfNat.ofNat Int k _) := ⟨by
  show Int.natAbs ((k : Nat) : Int) < _
  rw [Int.natAbs_natCast]
  exact Nat.lt_log2_self⟩
theorem Sz.add {n m : Nat} {i j : Int} (h : Sz n i) (k : Sz m j) : Sz (max n m + 1) (i + j) := by
  have h1 : i.natAbs < 2 ^ max n m := (h.mono (Nat.le_max_left _ _)).lt
  have h2 : j.natAbs < 2 ^ max n m := (k.mono (Nat.le_max_right _ _)).lt
  refine ⟨?_⟩
  rw [Nat.pow_succ]
  omega
theorem Sz.neg {n : Nat} {i : Int} (h : Sz n i) : Sz n (-i) := ⟨by rw [Int.natAbs_neg]; exact h.lt⟩
theorem Sz.sub {n m : Nat} {i j : Int} (h : Sz n i) (k : Sz m j) : Sz (max n m + 1) (i - j) := by
  rw [Int.sub_eq_add_neg]
  exact h.add k.neg
theorem Sz.mul {n m : Nat} {i j : Int} (h : Sz n i) (k : Sz m j) : Sz (n + m) (i * j) := ⟨wide_lt h.lt k.lt⟩
theorem Sz.emod {m : Nat} {i j : Int} (k : Sz m j) (hj : 0 < j) : Sz m (i % j) := by
  have h0 := Int.emod_nonneg i (Int.ne_of_gt hj)
  have h1 := Int.emod_lt_of_pos i hj
  have k' := k.lt
  exact ⟨by omega⟩
theorem natAbs_ediv_le (i j : Int) (hj : 0 < j) : (i / j).natAbs ≤ i.natAbs := by
  by_cases h : 0 ≤ i
  · have h1 := Int.ediv_le_self j h
    have h2 := Int.ediv_nonneg h (Int.le_of_lt hj)
    omega
  · have h3 : i < 0 := Int.not_le.mp h
    have h6 : i / j < 0 := Int.ediv_neg_of_neg_of_pos h3 hj
    have e := Int.mul_ediv_add_emod i j
    have h4 := Int.emod_nonneg i (Int.ne_of_gt hj)
    have h5 := Int.emod_lt_of_pos i hj
    by_cases hc : i ≤ i / j
    · omega
    · exfalso
      have h9 : (j - 1) * (i / j) ≤ (j - 1) * (-1) := Int.mul_le_mul_of_nonneg_left (by omega) (by omega)
      have h10 : (j - 1) * (i / j) = j * (i / j) - i / j := by rw [Int.sub_mul, Int.one_mul]
      have h11 : (j - 1) * (-1) = 1 - j := by omega
      omega
theorem Sz.le {n : Nat} {i j : Int} (h : i.natAbs ≤ j.natAbs) (k : Sz n j) : Sz n i := ⟨Nat.lt_of_le_of_lt h k.lt⟩
theorem Sz.ediv {n : Nat} {i j : Int} (h : Sz n i) (hj : 0 < j) : Sz n (i / j) := .le (natAbs_ediv_le i j hj) h
theorem Sz.ite {n m : Nat} {c : Prop} [Decidable c] {i j : Int} (h : Sz n i) (k : Sz m j) : Sz (max n m) (if c then i else j) := by
  split
  · exact h.mono (Nat.le_max_left _ _)
  · exact k.mono (Nat.le_max_right _ _)
theorem Sz.nabs {n : Nat} {i : Int} (h : Sz n i) : Sz n (i.natAbs : Int) := ⟨by rw [Int.natAbs_natCast]; exact h.lt⟩
theorem Sz.zero (n : Nat) : Sz n 0 := ⟨Nat.two_pow_pos n⟩
theorem Sz.of_bits {n : Nat} {i : Int} (h : Builtin.Int.intBits i ≤ n) : Sz n i := by
  unfold Builtin.Int.intBits at h
  split at h
  · rename_i z
    have e : i = 0 := by simpa using z
    subst e
    exact .zero n
  · exact (Sz.self i).mono h
/-- by a bound of small size -/
theorem Sz.of_lt {n : Nat} {i : Int} (m : Nat) (h : i.natAbs < m) (l : m ≤ 2 ^ n) : Sz n i := ⟨Nat.lt_of_lt_of_le h l⟩
theorem Sz.log2 {n : Nat} {i : Int} (h : Sz n i) : i.natAbs.log2 ≤ n := by
  by_cases e : i.natAbs = 0
  · rw [e]
    have : Nat.log2 0 = 0 := by decide
    omega
  · exact Nat.le_of_lt ((Nat.log2_lt e).mpr h.lt)
theorem intBits_le (x : Int) : Builtin.Int.intBits x ≤ x.natAbs.log2 + 1 := by
  unfold Builtin.Int.intBits
  split <;> omega
theorem Sz.ok {n m : Nat} {i j : Int} (h : Sz n i) (k : Sz m j) (l : n + m ≤ 100000000) : IntMulOk i j := by
  have h1 := intBits_le i
  have h2 := intBits_le j
  have h3 := h.log2
  have h4 := k.log2
  have e : bitsLine = 134217728 := by decide
  unfold IntMulOk
  intro z
  rw [Bool.and_eq_true] at z
  have z2 := z.2
  unfold Builtin.Int.intTooBig at z2
  have z3 := of_decide_eq_true z2
  rw [e] at z3
  omega
theorem Sz.noPylong {x y : Int} {n : Nat} (h : Sz n y) (l : n ≤ 8999) : Builtin.divisionGoesByPylong x y = false := PyProof.noPylong_of_log2 (by have := h.log2; omega)

/-! ### more expressions -/
section
variable {X : Cx} {C : Ctx} {ρ : Rho} {e a b c : Expr} {es : List Expr} {d da db : D} {ds : List D} {pos : Pos}
theorem op_mulK : OpR X (binaryOp .Mult) (rI IntMulOk fun i j => .int (i * j)) := opI fun _ _ _ _ _ _ _ hc q => mul_int q hc
theorem op_fdivK : OpR X (binaryOp .FloorDiv) (rI (fun _ j => j ≠ 0 ∧ Sz 8999 j) fun i j => .int (i.fdiv j)) := opI fun _ _ _ _ _ _ _ hc q => floordiv_int hc.1 q (.inl (hc.2.noPylong (by decide)))
theorem ee_mul {i j : Int} (ha : EE X C ρ a (.int i)) (hb : EE X C ρ b (.int j)) (h : IntMulOk i j) : EE X C ρ (.BinOp a .Mult b pos) (.int (i * j)) := ee_op op_mulK ha hb fun _ _ q => ⟨i, j, rfl, rfl, h, q⟩
theorem ee_fdivN {i j : Int} (ha : EE X C ρ a (.int i)) (hb : EE X C ρ b (.int j)) (h0 : j ≠ 0) (h : Sz 8999 j) : EE X C ρ (.BinOp a .FloorDiv b pos) (.int (i.fdiv j)) := ee_op op_fdivK ha hb fun _ _ q => ⟨i, j, rfl, rfl, ⟨h0, h⟩, q⟩
theorem ee_fdiv {i j : Int} (ha : EE X C ρ a (.int i)) (hb : EE X C ρ b (.int j)) (h0 : 0 < j) (h : Sz 8999 j) : EE X C ρ (.BinOp a .FloorDiv b pos) (.int (i / j)) :=
  (ee_fdivN ha hb (Int.ne_of_gt h0) h).eq (by rw [Int.fdiv_eq_ediv_of_nonneg i (Int.le_of_lt h0)])
theorem ee_modN {i j : Int} (ha : EE X C ρ a (.int i)) (hb : EE X C ρ b (.int j)) (h0 : j ≠ 0) : EE X C ρ (.BinOp a .Mod b pos) (.int (i.fmod j)) := ee_op op_modN ha hb fun _ _ q => ⟨i, j, rfl, rfl, h0, q⟩
theorem ee_mod {i j : Int} (ha : EE X C ρ a (.int i)) (hb : EE X C ρ b (.int j)) (h0 : 0 < j) : EE X C ρ (.BinOp a .Mod b pos) (.int (i % j)) :=
  (ee_modN ha hb (Int.ne_of_gt h0)).eq (by rw [Int.fmod_eq_emod_of_nonneg i (Int.le_of_lt h0)])
theorem ee_pow {i j : Int} (ha : EE X C ρ a (.int i)) (hb : EE X C ρ b (.int j)) (h : CPow i j) : EE X C ρ (.BinOp a .Pow b pos) (.int (i ^ j.toNat)) := ee_op op_pow ha hb fun _ _ q => ⟨i, j, rfl, rfl, h, q⟩
theorem ee_neg {i : Int} (ha : EE X C ρ a (.int i)) : EE X C ρ (.UnaryOp .USub a pos) (.int (-i)) := fun σ H S Q q => by
  refine wpE_of (pe_un un_neg pe_wp) (ha σ H S _ fun v H1 s1 r1 => ?_)
  cases r1
  exact ⟨i, rfl, q _ H1 s1 (.at _)⟩
/-- an operation on two data -/
theorem ee_opD {op : Operator} {r : R2} (ho : OpR X (binaryOp op) r) (ha : EE X C ρ a da) (hb : EE X C ρ b db)
    (hr : ∀ σ H v u, SRel X.K C H σ ρ → Rep X.K (vis C (ows ρ) H) v da → Rep X.K (vis C (ows ρ) H) u db → ∀ Q : VK, (∀ w H', Same H H' → Rep X.K (vis C (ows ρ) H') w d → Q w H') → r v u H Q) : EE X C ρ (.BinOp a op b pos) d := fun σ H S Q q => by
  refine wpE_of (pe_op ho pe_wp pe_wp) (ha σ H S _ fun v H1 s1 r1 => hb σ H1 (S.same s1) _ fun u H2 s2 r2 => ?_)
  exact hr σ H2 v u ((S.same s1).same s2) (Rep.mono (vis_same s2) _ r1) r2 Q fun w H' s3 r3 => q w H' ((s1.trans s2).trans s3) r3

/-! ### comparisons -/
def wpC (X : Cx) (op : CmpOp) (a b : Expr) : TE := fun σ H Q => ∀ pins s, Inv X pins σ H s →
  wpAny (model X.prog X.w) X.A (eval a X.env) (fun v s₁ => wpAny (model X.prog X.w) X.A (eval b X.env) (fun u s₂ => wpAny (model X.prog X.w) X.A (compareOp op v u) (EP X pins σ Q) X.xe s₂) X.xe s₁) X.xe s
theorem pc_wp {op : CmpOp} : PC X op a b (wpC X op a b) := ⟨fun pins s _ _ _ I h => h pins s I⟩
/-- the comparison's value is z -/
def EC (X : Cx) (C : Ctx) (ρ : Rho) (op : CmpOp) (a b : Expr) (z : V) : Prop :=
  ∀ σ H, SRel X.K C H σ ρ → ∀ Q : VK, (∀ H', Same H H' → Q z H') → wpC X op a b σ H Q
theorem EC.eq {op : CmpOp} {z z' : V} (h : EC X C ρ op a b z) (q : z = z') : EC X C ρ op a b z' := q ▸ h
theorem ec_opD {op : CmpOp} {r : R2} {z : V} (ho : OpR X (compareOp op) r) (ha : EE X C ρ a da) (hb : EE X C ρ b db)
    (hr : ∀ σ H v u, SRel X.K C H σ ρ → Rep X.K (vis C (ows ρ) H) v da → Rep X.K (vis C (ows ρ) H) u db → ∀ Q : VK, (∀ H', Same H H' → Q z H') → r v u H Q) : EC X C ρ op a b z := fun σ H S Q q pins s I => by
  refine binT pe_wp pe_wp I (R := fun v u H2 => r v u H2 Q) (ha σ H S _ fun v H1 s1 r1 => hb σ H1 (S.same s1) _ fun u H2 s2 r2 => ?_) fun v u s2 x y H2 I2 rx ry q2 => ho pins s2 σ H2 x y v u Q I2 rx ry q2
  exact hr σ H2 v u ((S.same s1).same s2) (Rep.mono (vis_same s2) _ r1) r2 Q fun H' s3 => q H' ((s1.trans s2).trans s3)
theorem ec_op {op : CmpOp} {r : R2} {x y z : V} (ho : OpR X (compareOp op) r) (ha : EE X C ρ a (.at x)) (hb : EE X C ρ b (.at y)) (hr : ∀ H (Q : VK), Q z H → r x y H Q) : EC X C ρ op a b z :=
  ec_opD ho ha hb fun σ H v u S r1 r2 Q q => by
    cases r1
    cases r2
    exact hr H Q (q H (Same.refl H))
theorem ee_cmp {op : CmpOp} {z : V} (h : EC X C ρ op a b z) (h1 : behindInMarks op b = false := by first | exact nobehind _ (by decide) (by decide) | rfl) : EE X C ρ (.Compare a [op] [b] pos) (.at z) := fun σ H S Q q =>
  wpE_of (pe_cmp pc_wp h1) (h σ H S _ fun H' s => q _ H' s (.at z))
theorem et_cmp {op : CmpOp} {k : Bool} (h : EC X C ρ op a b (.bl k)) (h1 : behindInMarks op b = false := by first | exact nobehind _ (by decide) (by decide) | rfl) : ET X C ρ (.Compare a [op] [b] pos) k := fun σ H S Q q =>
  wpT_of (pt_cmp pc_wp h1) (h σ H S _ fun H' s => ⟨k, rfl, q H' s⟩)
theorem ec_lt {i j : Int} (ha : EE X C ρ a (.int i)) (hb : EE X C ρ b (.int j)) : EC X C ρ .Lt a b (.bl (decide (i < j))) := ec_op op_lt ha hb fun _ _ q => ⟨i, j, rfl, rfl, q⟩
theorem ec_le {i j : Int} (ha : EE X C ρ a (.int i)) (hb : EE X C ρ b (.int j)) : EC X C ρ .LtE a b (.bl (decide (i ≤ j))) := ec_op op_le ha hb fun _ _ q => ⟨i, j, rfl, rfl, q⟩
theorem ec_gt {i j : Int} (ha : EE X C ρ a (.int i)) (hb : EE X C ρ b (.int j)) : EC X C ρ .Gt a b (.bl (decide (j < i))) := ec_op op_gt ha hb fun _ _ q => ⟨i, j, rfl, rfl, q⟩
theorem ec_ge {i j : Int} (ha : EE X C ρ a (.int i)) (hb : EE X C ρ b (.int j)) : EC X C ρ .GtE a b (.bl (decide (j ≤ i))) := ec_op op_ge ha hb fun _ _ q => ⟨i, j, rfl, rfl, q⟩
theorem ec_eqI {i j : Int} (ha : EE X C ρ a (.int i)) (hb : EE X C ρ b (.int j)) : EC X C ρ .Eq a b (.bl (decide (i = j))) :=
  ec_op op_eq ha hb fun _ _ q => ⟨rfl, by rw [show decide (V.int i = V.int j) = decide (i = j) by rw [dec_int, Bool.beq_eq_decide_eq]]; exact q⟩
theorem ec_neI {i j : Int} (ha : EE X C ρ a (.int i)) (hb : EE X C ρ b (.int j)) : EC X C ρ .NotEq a b (.bl (!decide (i = j))) :=
  ec_op op_ne ha hb fun _ _ q => ⟨rfl, by rw [show decide (V.int i = V.int j) = decide (i = j) by rw [dec_int, Bool.beq_eq_decide_eq]]; exact q⟩
theorem ec_eqB {i j : Bool} (ha : EE X C ρ a (.bl i)) (hb : EE X C ρ b (.bl j)) : EC X C ρ .Eq a b (.bl (i == j)) :=
  ec_op op_eq ha hb fun _ _ q => ⟨rfl, by rw [dec_bl]; exact q⟩
theorem ec_neB {i j : Bool} (ha : EE X C ρ a (.bl i)) (hb : EE X C ρ b (.bl j)) : EC X C ρ .NotEq a b (.bl (!(i == j))) :=
  ec_op op_ne ha hb fun _ _ q => ⟨rfl, by rw [dec_bl]; exact q⟩
theorem ec_eqS {i j : Str} (ha : EE X C ρ a (.str i)) (hb : EE X C ρ b (.str j)) : EC X C ρ .Eq a b (.bl (i == j)) :=
  ec_op op_eq ha hb fun _ _ q => ⟨rfl, by rw [dec_str]; exact q⟩
theorem ec_neS {i j : Str} (ha : EE X C ρ a (.str i)) (hb : EE X C ρ b (.str j)) : EC X C ρ .NotEq a b (.bl (!(i == j))) :=
  ec_op op_ne ha hb fun _ _ q => ⟨rfl, by rw [dec_str]; exact q⟩
/-- is it None -/
def D.isNon : D → Bool
  | .at .non => true
  | _ => false
theorem Rep.isNon {K : PySem.W.Frag} {H : Hp} : ∀ {v : V} {d : D}, Rep K H v d → decide (v = .non) = d.isNon
  | v, .at w, h => by
    cases h
    cases v <;> first | rfl | simp [D.isNon]
  | _, .tup _, h => by cases h; simp [D.isNon]
  | _, .lst _, h => by cases h; simp [D.isNon]
  | _, .exc _, h => by cases h; simp [D.isNon]
theorem ec_isN (ha : EE X C ρ a d) {j p} : EC X C ρ .Is a (.Constant .none j p) (.bl d.isNon) :=
  ec_opD op_isN ha ee_non fun σ H v u S r1 r2 Q q => by
    cases r2
    refine ⟨rfl, ?_⟩
    rw [r1.isNon]
    exact q H (Same.refl H)
theorem ec_notN (ha : EE X C ρ a d) {j p} : EC X C ρ .IsNot a (.Constant .none j p) (.bl (!d.isNon)) :=
  ec_opD op_notN ha ee_non fun σ H v u S r1 r2 Q q => by
    cases r2
    refine ⟨rfl, ?_⟩
    rw [r1.isNon]
    exact q H (Same.refl H)

/-! ### data compared -/
mutual
def D.py : D → PyData
  | .at .non => .none
  | .at (.bl b) => .bool b
  | .at (.int i) => .int i
  | .at (.str x) => .str x
  | .at _ => .none
  | .tup ds => .tuple (D.pys ds)
  | .lst ds => .list (D.pys ds)
  | .exc _ => .none
def D.pys : List D → List PyData
  | [] => []
  | d :: ds => D.py d :: D.pys ds
end
mutual
def D.pyOk : D → Bool
  | .at .non => true
  | .at (.bl _) => true
  | .at (.int _) => true
  | .at (.str x) => PyData.strOk x
  | .at _ => false
  | .tup ds => D.pysOk ds
  | .lst ds => D.pysOk ds
  | .exc _ => false
def D.pysOk : List D → Bool
  | [] => true
  | d :: ds => D.pyOk d && D.pysOk ds
end
mutual
def D.dep : D → Nat
  | .tup ds => D.deps ds + 1
  | .lst ds => D.deps ds + 1
  | .at _ => 0
  | .exc _ => 0
def D.deps : List D → Nat
  | [] => 0
  | d :: ds => max (D.dep d) (D.deps ds)
end
mutual
theorem D.dp {K : PySem.W.Frag} {H : Hp} : ∀ (d : D) {v : V}, D.pyOk d = true → Rep K H v d → Dp K H v d.py
  | .at w, v, o, h => by
    cases h
    cases w with
    | non => exact .non
    | bl b => exact .bl b
    | int i => exact .int i
    | str x => exact .str x
    | byt _ => cases o
    | flt _ => cases o
    | ref _ => cases o
    | ty _ => cases o
  | .tup ds, v, o, h => by
    cases h with
    | tup s r => exact .tup s (D.dps ds o r)
  | .lst ds, v, o, h => by
    cases h with
    | lst s r => exact .lst s (D.dps ds o r)
  | .exc _, v, o, h => by cases o
theorem D.dps {K : PySem.W.Frag} {H : Hp} : ∀ (ds : List D) {vs : List V}, D.pysOk ds = true → Reps K H vs ds → DpAll K H vs (D.pys ds)
  | [], _, _, h => by cases h; exact .nil
  | d :: ds, _, o, h => by
    cases h with
    | cons r rs =>
      have o' : (D.pyOk d && D.pysOk ds) = true := o
      rw [Bool.and_eq_true] at o'
      exact .cons (D.dp d o'.1 r) (D.dps ds o'.2 rs)
end
mutual
theorem D.lay : ∀ d : D, D.pyOk d = true → d.py.canLay0 = true
  | .at .non, _ => by simp [D.py, PyData.canLay0]
  | .at (.bl b), _ => by simp [D.py, PyData.canLay0]
  | .at (.int i), _ => by simp [D.py, PyData.canLay0]
  | .at (.str x), o => by
    rw [D.py, PyData.canLay0]
    exact o
  | .at (.byt _), _ => by simp [D.py, PyData.canLay0]
  | .at (.flt _), _ => by simp [D.py, PyData.canLay0]
  | .at (.ref _), _ => by simp [D.py, PyData.canLay0]
  | .at (.ty _), _ => by simp [D.py, PyData.canLay0]
  | .tup ds, o => by rw [D.py, PyData.canLay0]; exact D.lays ds o
  | .lst ds, o => by rw [D.py, PyData.canLay0]; exact D.lays ds o
  | .exc _, _ => by simp [D.py, PyData.canLay0]
theorem D.lays : ∀ ds : List D, D.pysOk ds = true → PyData.canLayAll0 (D.pys ds) = true
  | [], _ => by simp [D.pys, PyData.canLayAll0]
  | d :: ds, o => by
    have o' : (D.pyOk d && D.pysOk ds) = true := o
    rw [Bool.and_eq_true] at o'
    rw [D.pys, PyData.canLayAll0, D.lay d o'.1, D.lays ds o'.2]
    rfl
end
mutual
theorem D.depth_py : ∀ d : D, d.py.depth = d.dep
  | .at .non => by simp [D.py, PyData.depth, D.dep]
  | .at (.bl b) => by simp [D.py, PyData.depth, D.dep]
  | .at (.int i) => by simp [D.py, PyData.depth, D.dep]
  | .at (.str x) => by simp [D.py, PyData.depth, D.dep]
  | .at (.byt _) => by simp [D.py, PyData.depth, D.dep]
  | .at (.flt _) => by simp [D.py, PyData.depth, D.dep]
  | .at (.ref _) => by simp [D.py, PyData.depth, D.dep]
  | .at (.ty _) => by simp [D.py, PyData.depth, D.dep]
  | .tup ds => by rw [D.py, PyData.depth, D.dep, D.depths_py ds]
  | .lst ds => by rw [D.py, PyData.depth, D.dep, D.depths_py ds]
  | .exc _ => by simp [D.py, PyData.depth, D.dep]
theorem D.depths_py : ∀ ds : List D, PyData.depthAll (D.pys ds) = D.deps ds
  | [] => by simp [D.pys, PyData.depthAll, D.deps]
  | d :: ds => by rw [D.pys, PyData.depthAll, D.deps, D.depth_py d, D.depths_py ds]
end
/-- == of data -/
def D.eqb (d e : D) : Bool := PyData.eqv d.py e.py
/-- what == can ask of -/
def D.Good (d : D) : Prop := d.pyOk = true ∧ d.dep ≤ 64
theorem D.Good.shaped {d : D} (h : d.Good) : SeqAt.shaped d.py = true := by
  unfold SeqAt.shaped
  rw [D.lay _ h.1, D.depth_py, decide_eq_true h.2]
  rfl
theorem ec_eqD (hu : X.A.units + 64 < cLine) (ha : EE X C ρ a da) (hb : EE X C ρ b db) (ga : da.Good) (gb : db.Good) : EC X C ρ .Eq a b (.bl (D.eqb da db)) :=
  ec_opD (op_eqD hu) ha hb fun σ H v u S r1 r2 Q q => ⟨da.py, db.py, D.dp _ ga.1 (Rep.mono S.visIn _ r1), D.dp _ gb.1 (Rep.mono S.visIn _ r2), ga.shaped, gb.shaped, q H (Same.refl H)⟩
theorem ec_neD (hu : X.A.units + 64 < cLine) (ha : EE X C ρ a da) (hb : EE X C ρ b db) (ga : da.Good) (gb : db.Good) : EC X C ρ .NotEq a b (.bl (!D.eqb da db)) :=
  ec_opD (op_neD hu) ha hb fun σ H v u S r1 r2 Q q => ⟨da.py, db.py, D.dp _ ga.1 (Rep.mono S.visIn _ r1), D.dp _ gb.1 (Rep.mono S.visIn _ r2), ga.shaped, gb.shaped, q H (Same.refl H)⟩
/-- t < u of tuples of ints -/
theorem ec_ltT {ns ms : List Int} (hu : X.A.units < cLine) (ha : EE X C ρ a (.tup (D.ints ns))) (hb : EE X C ρ b (.tup (D.ints ms))) : EC X C ρ .Lt a b (.bl (HT.lexLt ns ms)) :=
  ec_opD (op_ltT hu) ha hb fun σ H v u S r1 r2 Q q => by
    cases r1 with
    | tup s1 t1 =>
      cases r2 with
      | tup s2 t2 =>
        have e1 := t1.ints
        have e2 := t2.ints
        subst e1 e2
        exact ⟨_, _, ns, ms, rfl, rfl, Same.seqT S.visIn s1, Same.seqT S.visIn s2, q H (Same.refl H)⟩
end
end DL

namespace DL
open PySem PySem.Spec PyProof.Rows L2
/-! ### tests -/
section
variable {X : Cx} {C : Ctx} {ρ : Rho} {e a b c : Expr} {es rest : List Expr} {d da db : D} {ds : List D} {pos : Pos} {k k' : Bool}
def wpW (X : Cx) (e : Expr) : TT := fun σ H Q => ∀ (whole : Sem Value) pins s, Inv X pins σ H s → wpAny (model X.prog X.w) X.A (isTrue e X.env whole) (TP X pins σ Q) X.xe s
theorem pw_wp : PW X e (wpW X e) := ⟨fun wh pins s _ _ _ I h => h wh pins s I⟩
theorem wpW_of {t : TT} (h : PW X e t) {σ : L2.St} {H : Hp} {Q : Bool → Hp → Prop} (q : t σ H Q) : wpW X e σ H Q := fun wh pins s I => h.run wh pins s σ H Q I q
/-- and, or as a test -/
def EW (X : Cx) (C : Ctx) (ρ : Rho) (e : Expr) (c : Bool) : Prop :=
  ∀ σ H, SRel X.K C H σ ρ → ∀ Q : Bool → Hp → Prop, (∀ H', Same H H' → Q c H') → wpW X e σ H Q
theorem EW.eq (h : EW X C ρ e k) (q : k = k') : EW X C ρ e k' := q ▸ h
theorem EW.et (h : EW X C ρ e k) : ET X C ρ e k := fun σ H S Q q => wpT_of (PW.pt pw_wp) (h σ H S Q q)
theorem ew_and1 (h : ET X C ρ a k) : EW X C ρ (.BoolOp .And [a] pos) k := fun σ H S Q q => wpW_of (pw_and1 pt_wp) (h σ H S Q q)
theorem ew_or1 (h : ET X C ρ a k) : EW X C ρ (.BoolOp .Or [a] pos) k := fun σ H S Q q => wpW_of (pw_or1 pt_wp) (h σ H S Q q)
theorem ew_and (h : ET X C ρ a k) (h2 : k = true → EW X C ρ (.BoolOp .And (b :: rest) pos) k') : EW X C ρ (.BoolOp .And (a :: b :: rest) pos) (k && k') := fun σ H S Q q => wpW_of (pw_and pt_wp pw_wp) (h σ H S _ fun H1 s1 => by
  cases k with
  | true => exact iteT (h2 rfl σ H1 (S.same s1) Q fun H2 s2 => q H2 (s1.trans s2))
  | false => exact iteF (q H1 s1))
theorem ew_or (h : ET X C ρ a k) (h2 : k = false → EW X C ρ (.BoolOp .Or (b :: rest) pos) k') : EW X C ρ (.BoolOp .Or (a :: b :: rest) pos) (k || k') := fun σ H S Q q => wpW_of (pw_or pt_wp pw_wp) (h σ H S _ fun H1 s1 => by
  cases k with
  | true => exact iteT (q H1 s1)
  | false => exact iteF (h2 rfl σ H1 (S.same s1) Q fun H2 s2 => q H2 (s1.trans s2)))
theorem et_not (h : ET X C ρ a k) : ET X C ρ (.UnaryOp .Not a pos) (!k) := fun σ H S Q q => wpT_of (pt_not pt_wp) (h σ H S _ fun H1 s1 => q H1 s1)
theorem et_val (h : EE X C ρ e (.bl k)) (he : ∀ whole, isTrue e X.env whole = (do let v ← whole; standAt e.pos; holding [v] (truthy v)) := by intro _; rfl) : ET X C ρ e k := fun σ H S Q q =>
  wpT_of (pt_val pe_wp he) (h σ H S _ fun v H1 s1 r1 => by
    cases r1
    exact ⟨k, rfl, q H1 s1⟩)
/-- a list's truth -/
theorem et_lst (h : EL X C ρ e ds) (he : ∀ whole, isTrue e X.env whole = (do let v ← whole; standAt e.pos; holding [v] (truthy v)) := by intro _; rfl) : ET X C ρ e (!ds.isEmpty) := fun σ H S Q q =>
  wpT_of (pt_truth pe_wp he) (h σ H S _ fun a xs H1 s1 l r => by
    refine ⟨_, .inl ⟨xs, l, ?_⟩, q H1 s1⟩
    have e1 := r.length
    cases xs <;> cases ds <;> first | rfl | (simp at e1))
/-! as values -/
theorem ee_b1 {op} (h : EE X C ρ a d) : EE X C ρ (.BoolOp op [a] pos) d := fun σ H S Q q => wpE_of (pe_one pe_wp) (h σ H S Q q)
theorem ee_and (h : EE X C ρ a (.bl k)) (h2 : k = true → EE X C ρ (.BoolOp .And (b :: rest) pos) (.bl k')) : EE X C ρ (.BoolOp .And (a :: b :: rest) pos) (.bl (k && k')) := fun σ H S Q q => wpE_of (pe_and pe_wp pe_wp) (h σ H S _ fun v H1 s1 r1 => by
  cases r1
  refine ⟨k, rfl, ?_⟩
  cases k with
  | true => exact iteT (h2 rfl σ H1 (S.same s1) Q fun v2 H2 s2 r2 => q v2 H2 (s1.trans s2) r2)
  | false => exact iteF (q _ H1 s1 (.at _)))
theorem ee_or (h : EE X C ρ a (.bl k)) (h2 : k = false → EE X C ρ (.BoolOp .Or (b :: rest) pos) (.bl k')) : EE X C ρ (.BoolOp .Or (a :: b :: rest) pos) (.bl (k || k')) := fun σ H S Q q => wpE_of (pe_or pe_wp pe_wp) (h σ H S _ fun v H1 s1 r1 => by
  cases r1
  refine ⟨k, rfl, ?_⟩
  cases k with
  | true => exact iteT (q _ H1 s1 (.at _))
  | false => exact iteF (h2 rfl σ H1 (S.same s1) Q fun v2 H2 s2 r2 => q v2 H2 (s1.trans s2) r2))
theorem ee_not (h : EE X C ρ a (.bl k)) : EE X C ρ (.UnaryOp .Not a pos) (.bl (!k)) := fun σ H S Q q => wpE_of (pe_not pe_wp) (h σ H S _ fun v H1 s1 r1 => by
  cases r1
  exact ⟨k, rfl, q _ H1 s1 (.at _)⟩)
theorem ee_ifExp {d1 d2 : D} (h : ET X C ρ c k) (h1 : k = true → EE X C ρ a d1) (h2 : k = false → EE X C ρ b d2) : EE X C ρ (.IfExp c a b pos) (if k = true then d1 else d2) := fun σ H S Q q => wpE_of (pe_ifExp pt_wp pe_wp pe_wp) (h σ H S _ fun H1 s1 => by
  cases k with
  | true => exact iteT (h1 rfl σ H1 (S.same s1) Q fun v2 H2 s2 r2 => q v2 H2 (s1.trans s2) r2)
  | false => exact iteF (h2 rfl σ H1 (S.same s1) Q fun v2 H2 s2 r2 => q v2 H2 (s1.trans s2) r2))
/-- a < b < c of ints -/
theorem ec_chain {o1 o2 : CmpOp} {p1 p2 : Int → Int → Bool} {i j l : Int} (h1 : OpR X (compareOp o1) (rI0 fun i j => .bl (p1 i j))) (h2 : OpR X (compareOp o2) (rI0 fun i j => .bl (p2 i j)))
    (ha : EE X C ρ a (.int i)) (hb : EE X C ρ b (.int j)) (hc : EE X C ρ c (.int l)) (hm : lastMarks [o1, o2] [b, c] = false := by with_unfolding_all rfl) : EE X C ρ (.Compare a [o1, o2] [b, c] pos) (.bl (p1 i j && p2 j l)) := fun σ H S Q q => by
  refine wpE_of (pe_chain h1 h2 pe_wp pe_wp pe_wp hm) (ha σ H S _ fun v H1 s1 r1 => hb σ H1 (S.same s1) _ fun u H2 s2 r2 => ?_)
  cases r1
  cases r2
  refine ⟨i, j, rfl, rfl, _, rfl, ?_⟩
  cases e : p1 i j with
  | false =>
    refine iteF ?_
    rw [e] at q
    exact q _ H2 (s1.trans s2) (.at _)
  | true =>
    refine iteT (hc σ H2 ((S.same s1).same s2) _ fun w H3 s3 r3 => ?_)
    cases r3
    refine ⟨j, l, rfl, rfl, ?_⟩
    rw [e] at q
    exact q _ H3 ((s1.trans s2).trans s3) (.at _)
theorem et_chain {o1 o2 : CmpOp} {p1 p2 : Int → Int → Bool} {i j l : Int} (h1 : OpR X (compareOp o1) (rI0 fun i j => .bl (p1 i j))) (h2 : OpR X (compareOp o2) (rI0 fun i j => .bl (p2 i j)))
    (ha : EE X C ρ a (.int i)) (hb : EE X C ρ b (.int j)) (hc : EE X C ρ c (.int l)) (hm : lastMarks [o1, o2] [b, c] = false := by with_unfolding_all rfl) : ET X C ρ (.Compare a [o1, o2] [b, c] pos) (p1 i j && p2 j l) := fun σ H S Q q => by
  refine wpT_of (pt_chain h1 h2 pe_wp pe_wp pe_wp hm) (ha σ H S _ fun v H1 s1 r1 => hb σ H1 (S.same s1) _ fun u H2 s2 r2 => ?_)
  cases r1
  cases r2
  refine ⟨i, j, rfl, rfl, _, rfl, ?_⟩
  cases e : p1 i j with
  | false =>
    refine iteF ⟨false, rfl, ?_⟩
    rw [e] at q
    exact q H2 (s1.trans s2)
  | true =>
    refine iteT (hc σ H2 ((S.same s1).same s2) _ fun w H3 s3 r3 => ?_)
    cases r3
    refine ⟨j, l, rfl, rfl, _, rfl, ?_⟩
    rw [e] at q
    exact q H3 ((s1.trans s2).trans s3)

/-! ### argument lists, tuples, lists -/
theorem ea_nil : EA X C ρ [] [] := fun σ H S Q q => wpA_of pa_nil (q [] H (Same.refl H) .nil)
theorem ea_cons (h : EE X C ρ e d) (hr : EA X C ρ es ds) (hs : starEach (e :: es) X.env = (false, eval e X.env) :: starEach es X.env := by rfl) : EA X C ρ (e :: es) (d :: ds) := fun σ H S Q q =>
  wpA_of (pa_cons pe_wp pa_wp hs) (h σ H S _ fun v H1 s1 r1 => hr σ H1 (S.same s1) _ fun vs H2 s2 r2 => q (v :: vs) H2 (s1.trans s2) (.cons (Rep.mono (vis_same s2) _ r1) r2))
/-- an argument list whose parts may be one's own lists: told in the whole heap -/
def EAl (X : Cx) (C : Ctx) (ρ : Rho) (es : List Expr) (ds : List D) : Prop :=
  ∀ σ H, SRel X.K C H σ ρ → ∀ Q : List V → Hp → Prop, (∀ vs H', Same H H' → Reps X.K H' vs ds → Q vs H') → wpA X es σ H Q
theorem EA.al (h : EA X C ρ es ds) : EAl X C ρ es ds := fun σ H S Q q => h σ H S Q fun vs H' s r => q vs H' s (Reps.mono (S.same s).visIn _ r)
theorem eal_nil : EAl X C ρ [] [] := ea_nil.al
theorem eal_cons (h : EE X C ρ e d) (hr : EAl X C ρ es ds) (hs : starEach (e :: es) X.env = (false, eval e X.env) :: starEach es X.env := by rfl) : EAl X C ρ (e :: es) (d :: ds) := fun σ H S Q q =>
  wpA_of (pa_cons pe_wp pa_wp hs) (h σ H S _ fun v H1 s1 r1 => hr σ H1 (S.same s1) _ fun vs H2 s2 r2 => q (v :: vs) H2 (s1.trans s2) (.cons (Rep.mono s2 _ (Rep.mono (S.same s1).visIn _ r1)) r2))
theorem eal_consL {dl : List D} (h : EL X C ρ e dl) (hr : EAl X C ρ es ds) (hs : starEach (e :: es) X.env = (false, eval e X.env) :: starEach es X.env := by rfl) : EAl X C ρ (e :: es) (.lst dl :: ds) := fun σ H S Q q =>
  wpA_of (pa_cons pe_wp pa_wp hs) (h σ H S _ fun a xs H1 s1 l r1 => hr σ H1 (S.same s1) _ fun vs H2 s2 r2 => q (.ref a :: vs) H2 (s1.trans s2)
    (.cons (.lst (s2.seq l) (Reps.mono s2 _ (Reps.mono (S.same s1).visIn _ r1))) r2))
theorem ee_tup (h : EA X C ρ es ds) {x1} (hl : ds.length ≤ sizeLine := by exact Nat.le_of_ble_eq_true rfl) : EE X C ρ (.Tuple es x1 pos) (.tup ds) := fun σ H S Q q =>
  wpE_of (pe_tup pa_wp) (h σ H S _ fun vs H1 s1 r1 => ⟨by rw [r1.length]; exact hl, fun p np => by
    have S1 := S.same s1
    refine q _ _ (s1.trans (same_upd np)) ?_
    rw [S1.visNew np]
    have np' : vis C (ows ρ) H1 p = none := S1.visIn.free np
    exact .tup (.inl (.inl upd_same)) (Reps.mono (same_upd np') _ r1)⟩)
theorem ef_lst (h : EA X C ρ es ds) (hl : ds.length ≤ sizeLine := by exact Nat.le_of_ble_eq_true rfl) : EF X C ρ (.List es pos) ds := fun σ H S Q q =>
  wpE_of (pe_lst pa_wp) (h σ H S _ fun vs H1 s1 r1 => ⟨by rw [r1.length]; exact hl, fun p np => by
    have S1 := S.same s1
    refine q p vs _ (s1.free np) (s1.trans (same_upd np)) upd_same ?_
    refine Reps.mono ?_ _ r1
    intro z o hz
    have nz : z ≠ p := ne_of_none (S1.visIn _ _ hz) np
    have e1 : vis C (p :: ows ρ) (upd H1 p (.lst vs)) z = vis C (ows ρ) H1 z := by
      unfold vis
      rw [upd_ne nz]
      simp [nz]
    rw [e1]
    exact hz⟩)
theorem ee_lst (h : EA X C ρ es ds) (hl : ds.length ≤ sizeLine := by exact Nat.le_of_ble_eq_true rfl) : EE X C ρ (.List es pos) (.lst ds) := (ef_lst h hl).ee

/-! ### subscripts -/
theorem atI_reps {K : PySem.W.Frag} {H : Hp} {vs : List V} {ds : List D} {i : Int} {d : D} (r : Reps K H vs ds) (h : atI ds i = some d) : ∃ v, atI vs i = some v ∧ Rep K H v d := by
  unfold atI at h ⊢
  rw [r.length]
  cases e : ixN ds.length i with
  | none => rw [e] at h; cases h
  | some j =>
    rw [e] at h
    exact r.get h
theorem ee_ixT {i : Int} (ha : EE X C ρ a (.tup ds)) (hb : EE X C ρ b (.int i)) (h : atI ds i = some d) (hp : PlainIx b := by intro _ _; rfl) : EE X C ρ (.Subscript a b pos) d := fun σ H S Q q =>
  wpE_of (pe_ix ix_tup pe_wp pe_wp hp) (ha σ H S _ fun v H1 s1 r1 => hb σ H1 (S.same s1) _ fun u H2 s2 r2 => by
    cases r2
    cases r1 with
    | tup sq rs =>
      have S2 := (S.same s1).same s2
      obtain ⟨v, e1, e2⟩ := atI_reps rs h
      exact ⟨_, _, i, v, rfl, rfl, Same.seqT s2 (Same.seqT (S.same s1).visIn sq), e1, q v H2 (s1.trans s2) (Rep.mono (vis_same s2) _ e2)⟩)
theorem ee_ixL {i : Int} (ha : EL X C ρ a ds) (hb : EE X C ρ b (.int i)) (h : atI ds i = some d) (hp : PlainIx b := by intro _ _; rfl) : EE X C ρ (.Subscript a b pos) d := fun σ H S Q q =>
  wpE_of (pe_ix ix_list pe_wp pe_wp hp) (ha σ H S _ fun p xs H1 s1 l r1 => hb σ H1 (S.same s1) _ fun u H2 s2 r2 => by
    cases r2
    obtain ⟨v, e1, e2⟩ := atI_reps r1 h
    exact ⟨_, _, i, v, rfl, rfl, s2.seq l, e1, q v H2 (s1.trans s2) (Rep.mono (vis_same s2) _ e2)⟩)
def cutD (xs : List D) (lo hi : Option Int) : List D := (xs.drop (HT.sIx xs.length 0 lo)).take (HT.sIx xs.length xs.length hi - HT.sIx xs.length 0 lo)
theorem cut_reps {K : PySem.W.Frag} {H : Hp} {vs : List V} {ds : List D} (lo hi : Option Int) (r : Reps K H vs ds) : Reps K H (cutV vs lo hi) (cutD ds lo hi) := by
  unfold cutV cutD
  rw [r.length]
  exact Reps.take _ (Reps.drop _ r)
def wpO (X : Cx) (e : Option Expr) : TO := fun σ H Q => ∀ pins s, Inv X pins σ H s → wpAny (model X.prog X.w) X.A (evalPart e X.env) (fun u s' => ∃ o H', Inv X pins σ H' s' ∧ IsPart u o ∧ Q o H') X.xe s
theorem po_wp {e : Option Expr} : PO X e (wpO X e) := ⟨fun pins s _ _ _ I h => h pins s I⟩
/-- a slice's part -/
def EO (X : Cx) (C : Ctx) (ρ : Rho) (e : Option Expr) (o : Option Int) : Prop :=
  ∀ σ H, SRel X.K C H σ ρ → ∀ Q : Option Int → Hp → Prop, (∀ H', Same H H' → Q o H') → wpO X e σ H Q
theorem eo_none : EO X C ρ none none := fun σ H S Q q => fun pins s I => po_none.run pins s σ H Q I (q H (Same.refl H))
theorem eo_some {i : Int} (h : EE X C ρ e (.int i)) : EO X C ρ (some e) (some i) := fun σ H S Q q => fun pins s I => (po_some pe_wp).run pins s σ H Q I (h σ H S _ fun v H1 s1 r1 => by
  cases r1
  exact ⟨i, rfl, q H1 s1⟩)
theorem ef_slice {lo hi : Option Expr} {l u : Option Int} {p2 : Pos} (ha : EL X C ρ a ds) (hl : EO X C ρ lo l) (hu : EO X C ρ hi u) : EF X C ρ (.Subscript a (.Slice lo hi none p2) pos) (cutD ds l u) := fun σ H S Q q =>
  wpE_of (pe_slice sl_list pe_wp po_wp po_wp) (ha σ H S _ fun p xs H1 s1 sq r1 => hl σ H1 (S.same s1) _ fun H2 s2 => hu σ H2 ((S.same s1).same s2) _ fun H3 s3 => ⟨p, xs, rfl, s3.seq (s2.seq sq), fun z nz => by
    have S3 := ((S.same s1).same s2).same s3
    refine q z _ _ (((s1.trans s2).trans s3).free nz) (((s1.trans s2).trans s3).trans (same_upd nz)) upd_same ?_
    refine Reps.mono ?_ _ (cut_reps l u r1)
    intro y o hy
    have hy3 := vis_same (C := C) (o := ows ρ) (s2.trans s3) _ _ hy
    have ny : y ≠ z := ne_of_none (S3.visIn _ _ hy3) nz
    have e1 : vis C (z :: ows ρ) (upd H3 z (.lst (cutV xs l u))) y = vis C (ows ρ) H3 y := by
      unfold vis
      rw [upd_ne ny]
      simp [ny]
    rw [e1]
    exact hy3⟩)
theorem ee_sliceT {lo hi : Option Expr} {l u : Option Int} {p2 : Pos} (ha : EE X C ρ a (.tup ds)) (hl : EO X C ρ lo l) (hu : EO X C ρ hi u) (hw : ¬ (HT.sIx ds.length 0 l = 0 ∧ HT.sIx ds.length ds.length u = ds.length)) :
    EE X C ρ (.Subscript a (.Slice lo hi none p2) pos) (.tup (cutD ds l u)) := fun σ H S Q q =>
  wpE_of (pe_slice sl_tup pe_wp po_wp po_wp) (ha σ H S _ fun v H1 s1 r1 => hl σ H1 (S.same s1) _ fun H2 s2 => hu σ H2 ((S.same s1).same s2) _ fun H3 s3 => by
    cases r1 with
    | tup sq rs =>
      have S3 := ((S.same s1).same s2).same s3
      refine ⟨_, _, rfl, Same.seqT s3 (Same.seqT s2 (Same.seqT (S.same s1).visIn sq)), by rw [rs.length]; exact hw, fun z nz => ?_⟩
      refine q _ _ (((s1.trans s2).trans s3).trans (same_upd nz)) ?_
      rw [S3.visNew nz]
      have nz' : vis C (ows ρ) H3 z = none := S3.visIn.free nz
      exact .tup (.inl (.inl upd_same)) (Reps.mono (same_upd nz') _ (Reps.mono (vis_same (s2.trans s3)) _ (cut_reps l u rs))))

/-! ### built-in calls -/
/-- a built-in function by its rule -/
theorem ee_callB {id : String} {x : Str} {p : Pos} {r : List V → Hp → VK → Prop} (hc : CallR X (.builtin id) r) (ha : EAl X C ρ (e :: es) ds) (hr : ∀ σ H vs, SRel X.K C H σ ρ → Reps X.K H vs ds → ∀ Q : VK, (∀ v H', Same H H' → Rep X.K (vis C (ows ρ) H') v d → Q v H') → r vs H Q)
    (hm : X.mg x = none) (hv : bootBuiltins x = some (.builtin id) := by decide +kernel) (hg : Gl X x := by rfl) (hn : x ≠ "__name__" := by decide) (hdb : (x == ("__debug__" : Str)) = false := by decide)
    (he : starEach (e :: es) X.env = (false, eval e X.env) :: starEach es X.env := by rfl) (hpl : (backTo pos (starEach es X.env)).any (·.1) = false := by rfl) : EE X C ρ (.Call (.Name x p) (e :: es) [] pos) d := fun σ H S Q q =>
  wpE_of (pe_callB hc hg hm hv pa_wp hn hdb he hpl) (ha σ H S _ fun vs H1 s1 r1 => hr σ H1 vs (S.same s1) r1 Q fun v H2 s2 r2 => q v H2 (s1.trans s2) r2)
theorem ee_callTy {T : String} {x : Str} {p : Pos} {r : List V → Hp → VK → Prop} (hc : CallR X (.type T) r) (ha : EAl X C ρ (e :: es) ds) (hr : ∀ σ H vs, SRel X.K C H σ ρ → Reps X.K H vs ds → ∀ Q : VK, (∀ v H', Same H H' → Rep X.K (vis C (ows ρ) H') v d → Q v H') → r vs H Q)
    (hm : X.mg x = none) (hv : bootBuiltins x = some (.type T) := by decide +kernel) (hg : Gl X x := by rfl) (hn : x ≠ "__name__" := by decide) (hdb : (x == ("__debug__" : Str)) = false := by decide)
    (he : starEach (e :: es) X.env = (false, eval e X.env) :: starEach es X.env := by rfl) (hpl : (backTo pos (starEach es X.env)).any (·.1) = false := by rfl) : EE X C ρ (.Call (.Name x p) (e :: es) [] pos) d := fun σ H S Q q =>
  wpE_of (pe_callTy hc hg hm hv pa_wp hn hdb he hpl) (ha σ H S _ fun vs H1 s1 r1 => hr σ H1 vs (S.same s1) r1 Q fun v H2 s2 r2 => q v H2 (s1.trans s2) r2)
theorem ee_abs {i : Int} {p : Pos} (hm : X.mg "abs" = none) (ha : EE X C ρ e (.int i)) (hg : Gl X "abs" := by rfl) (he : starEach [e] X.env = (false, eval e X.env) :: starEach [] X.env := by rfl) : EE X C ρ (.Call (.Name "abs" p) [e] [] pos) (.int i.natAbs) :=
  ee_callB call_abs (eal_cons ha eal_nil he) (fun σ H vs S r Q q => by
    obtain ⟨v, rfl, r1⟩ := r.one
    cases r1
    refine ⟨i, rfl, ?_⟩
    rw [show (if i < 0 then -i else i) = (i.natAbs : Int) by split <;> omega]
    exact q _ H (Same.refl H) (.at _)) hm (by decide +kernel) hg (by decide) (by decide) he rfl
theorem reps2 {K : PySem.W.Frag} {H : Hp} {vs : List V} {d d' : D} (h : Reps K H vs [d, d']) : ∃ v u, vs = [v, u] ∧ Rep K H v d ∧ Rep K H u d' := by
  cases h with
  | cons r t =>
    cases t with
    | cons r' t' =>
      cases t'
      exact ⟨_, _, rfl, r, r'⟩
theorem ee_max2 {i j : Int} {p : Pos} (hm : X.mg "max" = none) (ha : EE X C ρ a (.int i)) (hb : EE X C ρ b (.int j)) (hc : X.calm = true := by rfl) (hg : Gl X "max" := by rfl) (he : starEach [a, b] X.env = (false, eval a X.env) :: starEach [b] X.env := by rfl) (he2 : starEach [b] X.env = (false, eval b X.env) :: starEach [] X.env := by rfl)
    (hpl : (backTo pos (starEach [b] X.env)).any (·.1) = false := by rfl) : EE X C ρ (.Call (.Name "max" p) [a, b] [] pos) (.int (max i j)) :=
  ee_callB (call_max2 hc) (eal_cons ha (eal_cons hb eal_nil he2) he) (fun σ H vs S r Q q => by
    obtain ⟨v, u, rfl, r1, r2⟩ := reps2 r
    cases r1
    cases r2
    refine ⟨i, j, rfl, ?_⟩
    rw [show (if j > i then j else i) = max i j by rw [Int.max_def]; split <;> split <;> omega]
    exact q _ H (Same.refl H) (.at _)) hm (by decide +kernel) hg (by decide) (by decide) he hpl
theorem ee_min2 {i j : Int} {p : Pos} (hm : X.mg "min" = none) (ha : EE X C ρ a (.int i)) (hb : EE X C ρ b (.int j)) (hc : X.calm = true := by rfl) (hg : Gl X "min" := by rfl) (he : starEach [a, b] X.env = (false, eval a X.env) :: starEach [b] X.env := by rfl) (he2 : starEach [b] X.env = (false, eval b X.env) :: starEach [] X.env := by rfl)
    (hpl : (backTo pos (starEach [b] X.env)).any (·.1) = false := by rfl) : EE X C ρ (.Call (.Name "min" p) [a, b] [] pos) (.int (min i j)) :=
  ee_callB (call_min2 hc) (eal_cons ha (eal_cons hb eal_nil he2) he) (fun σ H vs S r Q q => by
    obtain ⟨v, u, rfl, r1, r2⟩ := reps2 r
    cases r1
    cases r2
    refine ⟨i, j, rfl, ?_⟩
    rw [show (if j < i then j else i) = min i j by rw [Int.min_def]; split <;> split <;> omega]
    exact q _ H (Same.refl H) (.at _)) hm (by decide +kernel) hg (by decide) (by decide) he hpl
theorem ee_lenL {p : Pos} (hm : X.mg "len" = none) (ha : EL X C ρ e ds) (hg : Gl X "len" := by rfl) (he : starEach [e] X.env = (false, eval e X.env) :: starEach [] X.env := by rfl) : EE X C ρ (.Call (.Name "len" p) [e] [] pos) (.int ds.length) :=
  ee_callB call_len_seq (eal_consL ha eal_nil he) (fun σ H vs S r Q q => by
    obtain ⟨v, rfl, r1⟩ := r.one
    cases r1 with
    | lst sq rs =>
      refine ⟨_, _, rfl, .inl sq, ?_⟩
      rw [rs.length]
      exact q _ H (Same.refl H) (.at _)) hm PySem.boot_len hg (by decide) (by decide) he rfl
theorem ee_lenT {p : Pos} (hm : X.mg "len" = none) (ha : EE X C ρ e (.tup ds)) (hg : Gl X "len" := by rfl) (he : starEach [e] X.env = (false, eval e X.env) :: starEach [] X.env := by rfl) : EE X C ρ (.Call (.Name "len" p) [e] [] pos) (.int ds.length) :=
  ee_callB call_len_seq (eal_cons ha eal_nil he) (fun σ H vs S r Q q => by
    obtain ⟨v, rfl, r1⟩ := r.one
    cases r1 with
    | tup sq rs =>
      refine ⟨_, _, rfl, .inr sq, ?_⟩
      rw [rs.length]
      exact q _ H (Same.refl H) (.at _)) hm PySem.boot_len hg (by decide) (by decide) he rfl
theorem ee_sum {ns : List Int} {p : Pos} (hm : X.mg "sum" = none) (ha : EL X C ρ e (D.ints ns)) (hc : X.calm = true := by rfl) (hg : Gl X "sum" := by rfl) (he : starEach [e] X.env = (false, eval e X.env) :: starEach [] X.env := by rfl) : EE X C ρ (.Call (.Name "sum" p) [e] [] pos) (.int ns.sum) :=
  ee_callB (cr_sum hc) (eal_consL ha eal_nil he) (fun σ H vs S r Q q => by
    obtain ⟨v, rfl, r1⟩ := r.one
    cases r1 with
    | lst sq rs =>
      have e1 := rs.ints
      subst e1
      exact ⟨_, ns, rfl, sq, q _ H (Same.refl H) (.at _)⟩) hm (by decide +kernel) hg (by decide) (by decide) he rfl
theorem ee_intB {p : Pos} (hm : X.mg "int" = none) (ha : EE X C ρ e (.bl k)) (hg : Gl X "int" := by rfl) (he : starEach [e] X.env = (false, eval e X.env) :: starEach [] X.env := by rfl) : EE X C ρ (.Call (.Name "int" p) [e] [] pos) (.int (if k then 1 else 0)) :=
  ee_callTy call_int1 (eal_cons ha eal_nil he) (fun σ H vs S r Q q => by
    obtain ⟨v, rfl, r1⟩ := r.one
    cases r1
    exact .inr ⟨k, rfl, q _ H (Same.refl H) (.at _)⟩) hm (by decide +kernel) hg (by decide) (by decide) he rfl
end
end DL

namespace DL
open PySem PySem.Spec PyProof.Rows L2
section
variable {X : Cx} {C : Ctx} {ρ : Rho} {e a b c : Expr} {es rest : List Expr} {d da db : D} {ds : List D} {pos : Pos} {k k' : Bool}
/-! ### tuple(..), list(..) -/
theorem ee_tupleL {p : Pos} (hm : X.mg "tuple" = none) (ha : EL X C ρ e ds) (hg : Gl X "tuple" := by rfl) (he : starEach [e] X.env = (false, eval e X.env) :: starEach [] X.env := by rfl) : EE X C ρ (.Call (.Name "tuple" p) [e] [] pos) (.tup ds) := fun σ H S Q q =>
  wpE_of (pe_callTy call_tuple_of hg hm (by decide +kernel) (pa_cons pe_wp pa_nil he) (by decide) (by decide) he rfl) (ha σ H S _ fun a xs H1 s1 l r1 => ⟨a, xs, rfl, .inl ⟨l, fun z nz => by
    have S1 := S.same s1
    refine q _ _ (s1.trans (same_upd nz)) ?_
    rw [S1.visNew nz]
    exact .tup (.inl (.inl upd_same)) (Reps.mono (same_upd (S1.visIn.free nz)) _ r1)⟩⟩)
theorem ee_tupleT {p : Pos} (hm : X.mg "tuple" = none) (ha : EE X C ρ e (.tup ds)) (hg : Gl X "tuple" := by rfl) (he : starEach [e] X.env = (false, eval e X.env) :: starEach [] X.env := by rfl) : EE X C ρ (.Call (.Name "tuple" p) [e] [] pos) (.tup ds) := fun σ H S Q q =>
  wpE_of (pe_callTy call_tuple_of hg hm (by decide +kernel) (pa_cons pe_wp pa_nil he) (by decide) (by decide) he rfl) (ha σ H S _ fun v H1 s1 r1 => by
    cases r1 with
    | tup sq rs => exact ⟨_, _, rfl, .inr ⟨Same.seqT (S.same s1).visIn sq, q _ H1 s1 (.tup sq rs)⟩⟩)
theorem vis_upd_ne {C : Ctx} {o : List Addr} {H : Hp} {z y : Addr} {x : HO} (n : y ≠ z) : vis C (z :: o) (upd H z x) y = vis C o H y := by
  unfold vis
  rw [upd_ne n]
  simp [n]
/-- what was seen is seen beside a new list -/
theorem same_visUpd {C : Ctx} {o : List Addr} {H : Hp} {z : Addr} {x : HO} (i : Same (vis C o H) H) (n : H z = none) : Same (vis C o H) (vis C (z :: o) (upd H z x)) := fun y u hy => by
  rw [vis_upd_ne (ne_of_none (i _ _ hy) n)]
  exact hy
theorem ef_listL {p : Pos} (hm : X.mg "list" = none) (ha : EL X C ρ e ds) (hg : Gl X "list" := by rfl) (he : starEach [e] X.env = (false, eval e X.env) :: starEach [] X.env := by rfl) : EF X C ρ (.Call (.Name "list" p) [e] [] pos) ds := fun σ H S Q q =>
  wpE_of (pe_callTy call_list_of hg hm (by decide +kernel) (pa_cons pe_wp pa_nil he) (by decide) (by decide) he rfl) (ha σ H S _ fun a xs H1 s1 l r1 => ⟨a, xs, rfl, .inl l, fun z nz => by
    have S1 := S.same s1
    exact q z xs _ (s1.free nz) (s1.trans (same_upd nz)) upd_same (Reps.mono (same_visUpd S1.visIn nz) _ r1)⟩)
theorem ef_listT {p : Pos} (hm : X.mg "list" = none) (ha : EE X C ρ e (.tup ds)) (hg : Gl X "list" := by rfl) (he : starEach [e] X.env = (false, eval e X.env) :: starEach [] X.env := by rfl) : EF X C ρ (.Call (.Name "list" p) [e] [] pos) ds := fun σ H S Q q =>
  wpE_of (pe_callTy call_list_of hg hm (by decide +kernel) (pa_cons pe_wp pa_nil he) (by decide) (by decide) he rfl) (ha σ H S _ fun v H1 s1 r1 => by
    cases r1 with
    | tup sq rs => exact ⟨_, _, rfl, .inr (Same.seqT (S.same s1).visIn sq), fun z nz => by
        have S1 := S.same s1
        exact q z _ _ (s1.free nz) (s1.trans (same_upd nz)) upd_same (Reps.mono (same_visUpd S1.visIn nz) _ rs)⟩)

/-! ### classes as values, isinstance -/
theorem ee_cls {x : Str} {Cl : Addr} (hm : X.mg x = some (.ref Cl)) (hg : Gl X x := by rfl) (hd : (x == ("__debug__" : Str)) = false := by decide) : EE X C ρ (.Name x pos) (.at (.ref Cl)) := ee_c (pe_glob hg hm rfl hd)
theorem ee_ty {x : Str} {T : String} (hm : X.mg x = none) (hv : bootBuiltins x = some (.type T) := by decide +kernel) (hg : Gl X x := by rfl) (hn : x ≠ "__name__" := by decide) (hd : (x == ("__debug__" : Str)) = false := by decide) : EE X C ρ (.Name x pos) (.at (.ty T)) := ee_c (pe_bltn hg hm hv rfl hn hd)
/-- a module's int -/
theorem ee_gint {x : Str} {i : Int} (hm : ∃ t, X.mg x = some (.int i t)) (hg : Gl X x := by rfl) (hd : (x == ("__debug__" : Str)) = false := by decide) : EE X C ρ (.Name x pos) (.int i) := by
  obtain ⟨t, h⟩ := hm
  exact ee_c (pe_glob hg h ⟨t, rfl⟩ hd)
def D.tyN : D → Option String
  | .at .non => some "NoneType"
  | .at (.bl _) => some "bool"
  | .at (.int _) => some "int"
  | .at (.str _) => some "str"
  | .at _ => none
  | .tup _ => some "tuple"
  | .lst _ => some "list"
  | .exc _ => none
theorem tyx_of {K : PySem.W.Frag} {H : Hp} {v : V} {d : D} {n : String} (r : Rep K H v d) (h : d.tyN = some n) : TyX K H v (.type n) := by
  cases d with
  | «at» w =>
    cases r
    cases v with
    | non => cases h; exact .base .non
    | bl b => cases h; exact .base (.bl b)
    | int b => cases h; exact .base (.int b)
    | str b => cases h; exact .base (.str b)
    | byt _ => cases h
    | flt _ => cases h
    | ref _ => cases h
    | ty _ => cases h
  | tup l =>
    cases h
    cases r with
    | tup s _ =>
      rcases s with (s | ⟨o, s⟩) | ⟨o, its, n, s, c, _⟩
      · exact .base (.tup s)
      · exact .fTuple s
      · exact .kTuple s c
  | lst l =>
    cases h
    cases r with
    | lst s _ =>
      rcases s with (s | ⟨o, s⟩) | ⟨o, its, n, s, c, _⟩
      · exact .base (.lst s)
      · exact .base (.frz s)
      · exact .kList s c
  | exc _ => cases h
theorem ee_isi {p : Pos} {n m : String} (r : Bool) (hm : X.mg "isinstance" = none) (ha : EAl X C ρ [a, b] [d, .at (.ty m)]) (hn : d.tyN = some n) (hr : kitB n m = some r) (hg : Gl X "isinstance" := by rfl) (he : starEach [a, b] X.env = (false, eval a X.env) :: starEach [b] X.env := by rfl)
    (hpl : (backTo pos (starEach [b] X.env)).any (·.1) = false := by rfl) : EE X C ρ (.Call (.Name "isinstance" p) [a, b] [] pos) (.bl r) :=
  ee_callB call_isi ha (fun σ H vs S rr Q q => by
    obtain ⟨v, u, rfl, r1, r2⟩ := reps2 rr
    cases r2
    exact ⟨v, _, _, _, r, rfl, .ty m, tyx_of r1 hn, kit_ty hr, q _ H (Same.refl H) (.at _)⟩) hm (by decide +kernel) hg (by decide) (by decide) he hpl
/-- isinstance(x, (list, tuple)) -/
theorem ee_isiT {p : Pos} {n : String} {ms : List String} (r : Bool) {x1 : Nat} {tp : Pos} (hm : X.mg "isinstance" = none) (ha : EE X C ρ a d) (hb : EA X C ρ es (ms.map fun m => .at (.ty m))) (hn : d.tyN = some n) (hr : PySem.W.kitAny X.K (.type n) (ms.map Value.type) = some r) (hg : Gl X "isinstance" := by rfl)
    (he : starEach [a, .Tuple es x1 tp] X.env = (false, eval a X.env) :: starEach [.Tuple es x1 tp] X.env := by rfl) (he2 : starEach [.Tuple es x1 tp] X.env = (false, eval (.Tuple es x1 tp) X.env) :: starEach [] X.env := by rfl)
    (hpl : (backTo pos (starEach [.Tuple es x1 tp] X.env)).any (·.1) = false := by rfl) (hl : ms.length ≤ sizeLine := by (show _ ≤ 16777216; decide)) : EE X C ρ (.Call (.Name "isinstance" p) [a, .Tuple es x1 tp] [] pos) (.bl r) := fun σ H S Q q =>
  wpE_of (pe_callB call_isiT hg hm (by decide +kernel) (pa_cons pe_wp (pa_cons (pe_tup pa_wp) pa_nil he2) he) (by decide) (by decide) he hpl) (ha σ H S _ fun v H1 s1 r1 => hb σ H1 (S.same s1) _ fun vs H2 s2 r2 => by
    have e1 : vs = ms.map V.ty := by
      have r3 : Reps X.K (vis C (ows ρ) H2) vs ((ms.map V.ty).map D.at) := by rw [List.map_map]; exact r2
      exact r3.ats
    subst e1
    refine ⟨by rw [List.length_map]; exact hl, fun z nz => ?_⟩
    have S2 := (S.same s1).same s2
    have nn : Same H2 (upd H2 z (.tup (ms.map V.ty))) := same_upd nz
    refine ⟨v, z, ms.map V.ty, .type n, ms.map Value.type, r, rfl, upd_same, ?_, tyx_of (Rep.mono nn _ (Rep.mono s2 _ (Rep.mono (S.same s1).visIn _ r1))) hn, hr, q _ _ ((s1.trans s2).trans nn) (.at _)⟩
    clear r2 hb hr nn hl
    induction ms with
    | nil => exact .nil
    | cons m ms ih => exact .cons (.ty m) ih)
/-- isinstance of an exception that was caught -/
def rIsX (K : PySem.W.Frag) : List V → Hp → VK → Prop := fun xs H Q => ∃ (a Cl : Addr) (c : V) (cv : Value) (r : Bool), xs = [.ref a, c] ∧ H a = some (ExF Cl a) ∧ ExcC K Cl ∧ ClsV c cv ∧ PySem.W.kitOne K (.ref Cl) cv = some r ∧ Q (.bl r) H
theorem call_isX : CallR X (.builtin "isinstance") (rIsX X.K) := by
  intro pins s σ H xs us Q I r h
  obtain ⟨a, Cl, c, cv, b, rfl, hH, EC, hcv, e, q⟩ := h
  obtain ⟨u1, u2, rfl, r1, r2⟩ := vals2 r
  have e2 := hcv.eq r2
  subst e2
  cases (show u1 = Value.ref a from r1)
  have hx := I.hok a _ hH
  obtain ⟨⟨oe, vs, hget, hz, hv⟩, _, _⟩ := hx
  have J : PySem.W.InstAt s.heap a oe Cl none := by
    obtain ⟨oc, od, oda, osl⟩ := oe
    obtain ⟨h1, h2⟩ := hz
    dsimp only at h1 h2 hv
    subst h1 h2 hv
    exact ⟨hget, rfl, rfl, trivial⟩
  exact PySem.W.kia_one (PySem.W.handS_kitx_exc EC.hg EC.hk EC.hs EC.hd EC.ha EC.hn EC.ht EC.hm) I.kIn J e (fun z => nomatch z) fun tk => ⟨.bl b, H, I.kept (t' := tk) fun _ _ z => z, rfl, q⟩
theorem ee_isX {p : Pos} {Cl : Addr} {cv : V} {cw : Value} {r : Bool} (hm : X.mg "isinstance" = none) (E : ExcC X.K Cl) (ha : EE X C ρ a (.exc Cl)) (hb : EE X C ρ b (.at cv)) (hk : ClsV cv cw) (hr : PySem.W.kitOne X.K (.ref Cl) cw = some r) (hg : Gl X "isinstance" := by rfl) (he : starEach [a, b] X.env = (false, eval a X.env) :: starEach [b] X.env := by rfl)
    (he2 : starEach [b] X.env = (false, eval b X.env) :: starEach [] X.env := by rfl) (hpl : (backTo pos (starEach [b] X.env)).any (·.1) = false := by rfl) : EE X C ρ (.Call (.Name "isinstance" p) [a, b] [] pos) (.bl r) :=
  ee_callB call_isX (eal_cons ha (eal_cons hb eal_nil he2) he) (fun σ H vs S rr Q q => by
    obtain ⟨v, u, rfl, r1, r2⟩ := reps2 rr
    cases r2
    cases r1 with
    | exc hx => exact ⟨_, Cl, _, cw, r, rfl, hx, E, hk, hr, q _ H (Same.refl H) (.at _)⟩) hm (by decide +kernel) hg (by decide) (by decide) he hpl

/-! ### own defs -/
inductive Ret where
  | im (d : D)
  | fr (ds : List D)
inductive Res where
  | ok (r : Ret)
  | er (c : Addr)
def RetR (K : PySem.W.Frag) (C : Ctx) (H : Hp) (v : V) : Ret → Prop
  | .im d => Rep K (vis C [] H) v d
  | .fr ds => ∃ a xs, v = .ref a ∧ C.H0 a = none ∧ H a = some (.lst xs) ∧ Reps K (vis C [a] H) xs ds
/-- a def over data: its arguments, what it asks of them, what it hands back -/
def spF {α : Type} (K : PySem.W.Frag) (arg : α → List D) (pre : α → Prop) (res : α → Res) : Sp := fun vs H Q E => ∃ (G : Hp) (x : α), Same G H ∧ Reps K G vs (arg x) ∧ pre x ∧
  (∀ r v H', res x = .ok r → Same H H' → RetR K ⟨H, G, []⟩ H' v r → Q v H') ∧ (∀ c H', res x = .er c → Same H H' → E (.ref c) none H')
structure Cal (P : Program) (w : World) (K : PySem.W.Frag) (mg : Str → Option Value) (base : Heap) (k : Nat) (x : Str) (ps : List Str) (sp : Sp) : Prop where
  ex : ∃ (f : Addr) (fd : FuncData) (CX : CXT), mg x = some (.ref f) ∧ PySem.W.keepIn K (.ref f) = true ∧ Binds K fd ps [] ∧ FnOk P w K mg base CX k f fd ps sp ∧ ∀ X : Cx, X.prog = P → X.w = w → Passes CX X E0
/-- .. that may raise -/
structure CalX (P : Program) (w : World) (K : PySem.W.Frag) (mg : Str → Option Value) (base : Heap) (k : Nat) (x : Str) (ps : List Str) (sp : Sp) : Prop where
  ex : ∃ (f : Addr) (fd : FuncData), mg x = some (.ref f) ∧ PySem.W.keepIn K (.ref f) = true ∧ Binds K fd ps [] ∧ FnOk P w K mg base (L2.CX P w) k f fd ps sp
theorem CalX.cal {P : Program} {w : World} {K : PySem.W.Frag} {mg : Str → Option Value} {base : Heap} {k : Nat} {x : Str} {ps : List Str} {sp : Sp} (h : CalX P w K mg base k x ps sp) : Cal P w K mg base k x ps sp := by
  obtain ⟨f, fd, h1, h2, h3, h4⟩ := h.ex
  exact ⟨f, fd, _, h1, h2, h3, h4, fun X e1 e2 => by subst e1 e2; exact passL⟩
/-- the callee's ground is seen by the caller -/
theorem vis_callee {C : Ctx} {o l : List Addr} {H H' : Hp} (s0 : Same C.H0 H) (no : ∀ a, a ∈ o ∨ a ∈ C.hid → H a ≠ none) (hl : ∀ a ∈ l, H a = none) (s : Same H H') : Same (vis ⟨H, vis C o H, []⟩ l H') (vis C (l ++ o) H') := fun b x h => by
  unfold vis at h
  split at h
  · rename_i q
    have h' : vis C o H b = some x := h
    have q' : (H b).isSome = true := q
    have nl : b ∉ l := fun z => by rw [hl b z] at q'; cases q'
    have h2 := vis_same (C := C) (o := o) s _ _ h'
    unfold vis at h2 ⊢
    split at h2
    · rename_i q2; rw [if_pos q2]; exact h2
    · rename_i q2
      split at h2
      · cases h2
      · rename_i q3
        rw [if_neg q2, if_neg]
        · exact h2
        · intro z
          rcases z with z | z
          · rcases List.mem_append.mp z with z | z
            · exact nl z
            · exact q3 (.inl z)
          · exact q3 (.inr z)
  · rename_i q
    have q' : H b = none := by
      have q2 : ¬ (H b).isSome = true := q
      cases e : H b with
      | none => rfl
      | some u => rw [e] at q2; exact absurd rfl q2
    split at h
    · cases h
    · rename_i nl
      have n0 : C.H0 b = none := s0.free q'
      rw [vis_at n0]
      · exact h
      · intro z
        rcases List.mem_append.mp z with z | z
        · exact nl (.inl z)
        · exact no b (.inl z) q'
      · exact fun z => no b (.inr z) q'
variable {α : Type} {arg : α → List D} {pre : α → Prop} {res : α → Res} {k : Nat} {x : Str} {ps : List Str} {p : Pos}
/-- a call of an own def: data -/
theorem ee_call (y : α) (F : Cal X.prog X.w X.K X.mg X.base k x ps (spF X.K arg pre res)) (hr : Room k X.A) (ha : EA X C ρ (e :: es) (arg y)) (hp : pre y) (hd : res y = .ok (.im d)) (hg : Gl X x := by rfl) (hdb : (x == ("__debug__" : Str)) = false := by decide)
    (he : starEach (e :: es) X.env = (false, eval e X.env) :: starEach es X.env := by rfl) (hpl : (backTo pos (starEach es X.env)).any (·.1) = false := by rfl) : EE X C ρ (.Call (.Name x p) (e :: es) [] pos) d := fun σ H S Q q => by
  obtain ⟨f, fd, CX, hm, hk, hb, F, hx⟩ := F.ex
  refine wpE_of (pe_call (dvs := []) F hr hg hm hk hb .nil (hx X rfl rfl) pa_wp hdb he hpl) (ha σ H S _ fun vs H1 s1 r1 => ?_)
  have S1 := S.same s1
  rw [List.append_nil]
  refine ⟨vis C (ows ρ) H1, y, S1.visIn, r1, hp, fun r v H2 hr2 s2 rr => ?_, fun c H2 hr2 _ => by rw [hd] at hr2; cases hr2⟩
  rw [hd] at hr2
  cases hr2
  exact q v H2 (s1.trans s2) (Rep.mono (vis_callee (l := []) S1.hh (fun a h => (S1.fr a h).2) (fun _ z => absurd z List.not_mem_nil) s2) _ rr)
/-- .. a new list -/
theorem ef_call (y : α) (F : Cal X.prog X.w X.K X.mg X.base k x ps (spF X.K arg pre res)) (hr : Room k X.A) (ha : EA X C ρ (e :: es) (arg y)) (hp : pre y) (hd : res y = .ok (.fr ds)) (hg : Gl X x := by rfl) (hdb : (x == ("__debug__" : Str)) = false := by decide)
    (he : starEach (e :: es) X.env = (false, eval e X.env) :: starEach es X.env := by rfl) (hpl : (backTo pos (starEach es X.env)).any (·.1) = false := by rfl) : EF X C ρ (.Call (.Name x p) (e :: es) [] pos) ds := fun σ H S Q q => by
  obtain ⟨f, fd, CX, hm, hk, hb, F, hx⟩ := F.ex
  refine wpE_of (pe_call (dvs := []) F hr hg hm hk hb .nil (hx X rfl rfl) pa_wp hdb he hpl) (ha σ H S _ fun vs H1 s1 r1 => ?_)
  have S1 := S.same s1
  rw [List.append_nil]
  refine ⟨vis C (ows ρ) H1, y, S1.visIn, r1, hp, fun r v H2 hr2 s2 rr => ?_, fun c H2 hr2 _ => by rw [hd] at hr2; cases hr2⟩
  rw [hd] at hr2
  cases hr2
  obtain ⟨a, xs, rfl, n, l, rs⟩ := rr
  have n' : H1 a = none := n
  refine q a xs H2 (s1.free n') (s1.trans s2) l (Reps.mono (vis_callee (l := [a]) S1.hh (fun a h => (S1.fr a h).2) (fun b z => ?_) s2) _ rs)
  have e : b = a := by simpa using z
  rw [e]
  exact n'
/-- a call with one's own lists among the arguments; a scalar comes back -/
theorem ee_callL {v : V} (y : α) (F : Cal X.prog X.w X.K X.mg X.base k x ps (spF X.K arg pre res)) (hr : Room k X.A) (ha : EAl X C ρ (e :: es) (arg y)) (hp : pre y) (hd : res y = .ok (.im (.at v))) (hg : Gl X x := by rfl) (hdb : (x == ("__debug__" : Str)) = false := by decide)
    (he : starEach (e :: es) X.env = (false, eval e X.env) :: starEach es X.env := by rfl) (hpl : (backTo pos (starEach es X.env)).any (·.1) = false := by rfl) : EE X C ρ (.Call (.Name x p) (e :: es) [] pos) (.at v) := fun σ H S Q q => by
  obtain ⟨f, fd, CX, hm, hk, hb, F, hx⟩ := F.ex
  refine wpE_of (pe_call (dvs := []) F hr hg hm hk hb .nil (hx X rfl rfl) pa_wp hdb he hpl) (ha σ H S _ fun vs H1 s1 r1 => ?_)
  rw [List.append_nil]
  refine ⟨H1, y, Same.refl _, r1, hp, fun r v H2 hr2 s2 rr => ?_, fun c H2 hr2 _ => by rw [hd] at hr2; cases hr2⟩
  rw [hd] at hr2
  cases hr2
  cases rr
  exact q _ H2 (s1.trans s2) (.at _)
end
end DL

namespace DL
open PySem PySem.Spec PyProof.Rows L2
/-! ### what is wanted behind statements -/
structure Post where
  nx : Rho → Prop
  rt : Ret → Prop
  bk : Rho → Prop := fun _ => False
  ct : Rho → Prop := fun _ => False
  er : Addr → Rho → Prop := fun _ _ => False
structure Lk (X : Cx) (C : Ctx) (V0 : Hp) (P : Post) (D : Ends) : Prop where
  nx : ∀ ρ σ H, P.nx ρ → SRel X.K C H σ ρ → Same V0 (vis C (ows ρ) H) → D.nx σ H
  bk : ∀ ρ σ H, P.bk ρ → SRel X.K C H σ ρ → Same V0 (vis C (ows ρ) H) → D.bk σ H
  ct : ∀ ρ σ H, P.ct ρ → SRel X.K C H σ ρ → Same V0 (vis C (ows ρ) H) → D.ct σ H
  rt : ∀ r v H, P.rt r → Same C.H0 H → RetR X.K C H v r → D.rt v H
  tk : ∃ W, Takes X W ∧ ∀ c ρ σ H, P.er c ρ → SRel X.K C H σ ρ → Same V0 (vis C (ows ρ) H) → W (.ref c) none σ H
theorem Lk.later {X : Cx} {C : Ctx} {V0 V1 : Hp} {P : Post} {D : Ends} (L : Lk X C V0 P D) (s : Same V0 V1) : Lk X C V1 P D :=
  ⟨fun ρ σ H h S z => L.nx ρ σ H h S (s.trans z), fun ρ σ H h S z => L.bk ρ σ H h S (s.trans z), fun ρ σ H h S z => L.ct ρ σ H h S (s.trans z), L.rt, by
    obtain ⟨W, h1, h2⟩ := L.tk
    exact ⟨W, h1, fun c ρ σ H h S z => h2 c ρ σ H h S (s.trans z)⟩⟩
def wpSs (X : Cx) (st : List Stmt) : TS := fun D σ H => ∀ pins s, Inv X pins σ H s → wpAny (model X.prog X.w) X.A (execs st X.env) (SP X pins D) X.xe s
def wpS (X : Cx) (st : Stmt) : TS := fun D σ H => ∀ pins s, Inv X pins σ H s → wpAny (model X.prog X.w) X.A (exec st X.env) (SP X pins D) X.xe s
def wpG (X : Cx) (tg : Expr) : TG := fun v σ H Q => ∀ pins s u, Inv X pins σ H s → RelV v u → wpAny (model X.prog X.w) X.A (assign tg X.env u) (fun _ s' => ∃ σ' H', Inv X pins σ' H' s' ∧ Q σ' H') X.xe s
section
variable {X : Cx}
theorem pss_wp {st : List Stmt} : PSs X st (wpSs X st) := ⟨fun pins s _ _ _ I h => h pins s I⟩
theorem ps_wp {st : Stmt} : PS X st (wpS X st) := ⟨fun pins s _ _ _ I h => h pins s I⟩
theorem pg_wp {tg : Expr} : PG X tg (wpG X tg) := ⟨fun pins s _ _ _ u _ I r h => h pins s u I r⟩
theorem wpSs_of {st : List Stmt} {t : TS} (h : PSs X st t) {D : Ends} {σ : L2.St} {H : Hp} (q : t D σ H) : wpSs X st D σ H := fun pins s I => h.run pins s σ H D I q
theorem wpS_of {st : Stmt} {t : TS} (h : PS X st t) {D : Ends} {σ : L2.St} {H : Hp} (q : t D σ H) : wpS X st D σ H := fun pins s I => h.run pins s σ H D I q
theorem wpG_of {tg : Expr} {t : TG} (h : PG X tg t) {v : V} {σ : L2.St} {H : Hp} {Q : L2.St → Hp → Prop} (q : t v σ H Q) : wpG X tg v σ H Q := fun pins s u I r => h.run pins s σ H v u Q I r q
end
def WP (X : Cx) (C : Ctx) (ρ : Rho) (st : List Stmt) (P : Post) : Prop := ∀ σ H D, SRel X.K C H σ ρ → Lk X C (vis C (ows ρ) H) P D → wpSs X st D σ H
def WS (X : Cx) (C : Ctx) (ρ : Rho) (st : Stmt) (P : Post) : Prop := ∀ σ H D, SRel X.K C H σ ρ → Lk X C (vis C (ows ρ) H) P D → wpS X st D σ H

/-! ### slots -/
theorem ows_set_sub {i : Nat} {x : En} {ρ : Rho} {b : Addr} (h : b ∈ ows (ρ.set i x)) : b ∈ ows ρ ∨ x.own = some b := by
  unfold ows at h ⊢
  obtain ⟨e, he, q⟩ := List.mem_filterMap.mp h
  rcases List.mem_or_eq_of_mem_set he with z | z
  · exact .inl (List.mem_filterMap.mpr ⟨e, z, q⟩)
  · subst z; exact .inr q
theorem mem_ows {ρ : Rho} {a : Addr} {i : Nat} {e : En} (h : ρ[i]? = some e) (q : e.own = some a) : a ∈ ows ρ := List.mem_filterMap.mpr ⟨e, List.mem_of_getElem? h, q⟩
theorem ows_split : ∀ (ρ : Rho) (i : Nat) (x : En), i < ρ.length → ∃ l r : List Addr, ows ρ = l ++ (match ρ[i]?.bind En.own with | some a => [a] | none => []) ++ r ∧ ows (ρ.set i x) = l ++ (match x.own with | some a => [a] | none => []) ++ r
  | [], i, x, h => by simp at h
  | e :: ρ, 0, x, _ => by
    refine ⟨[], ows ρ, ?_, ?_⟩
    · show List.filterMap En.own (e :: ρ) = _
      simp only [List.filterMap_cons, List.getElem?_cons_zero, Option.bind_some, List.nil_append]
      cases h : e.own <;> simp [ows]
    · show List.filterMap En.own (x :: ρ) = _
      simp only [List.filterMap_cons, List.nil_append]
      cases h : x.own <;> simp [ows]
  | e :: ρ, i + 1, x, h => by
    obtain ⟨l, r, h1, h2⟩ := ows_split ρ i x (by simpa using h)
    cases q : e.own with
    | none =>
      refine ⟨l, r, ?_, ?_⟩
      · show List.filterMap En.own (e :: ρ) = _
        rw [List.filterMap_cons, q, List.getElem?_cons_succ]
        exact h1
      · show List.filterMap En.own (e :: ρ.set i x) = _
        rw [List.filterMap_cons, q]
        exact h2
    | some a =>
      refine ⟨a :: l, r, ?_, ?_⟩
      · show List.filterMap En.own (e :: ρ) = _
        rw [List.filterMap_cons, q]
        show a :: ows ρ = _
        rw [List.getElem?_cons_succ, h1]
        simp
      · show List.filterMap En.own (e :: ρ.set i x) = _
        rw [List.filterMap_cons, q]
        show a :: ows (ρ.set i x) = _
        rw [h2]
        simp
theorem set_oob {ρ : Rho} {i : Nat} {x : En} (h : ¬ i < ρ.length) : ρ.set i x = ρ := List.set_eq_of_length_le (by omega)
theorem set_oobS {σ : L2.St} {i : Nat} {x : Option V} (h : ¬ i < σ.length) : σ.set i x = σ := List.set_eq_of_length_le (by omega)
/-- two slots don't own the same -/
theorem own_inj : ∀ {ρ : Rho} {i j : Nat} {e e' : En} {a : Addr}, (ows ρ).Nodup → ρ[i]? = some e → ρ[j]? = some e' → e.own = some a → e'.own = some a → i = j
  | [], _, _, _, _, _, _, h, _, _, _ => by simp at h
  | x :: ρ, 0, 0, _, _, _, _, _, _, _, _ => rfl
  | x :: ρ, 0, j + 1, e, e', a, nd, h1, h2, o1, o2 => by
    simp at h1; subst h1
    have nd' : (a :: ows ρ).Nodup := by
      have : ows (x :: ρ) = a :: ows ρ := by show List.filterMap En.own (x :: ρ) = _; rw [List.filterMap_cons, o1]; rfl
      rw [← this]; exact nd
    exact absurd (mem_ows (by simpa using h2) o2) (List.nodup_cons.mp nd').1
  | x :: ρ, i + 1, 0, e, e', a, nd, h1, h2, o1, o2 => by
    simp at h2; subst h2
    have nd' : (a :: ows ρ).Nodup := by
      have : ows (x :: ρ) = a :: ows ρ := by show List.filterMap En.own (x :: ρ) = _; rw [List.filterMap_cons, o2]; rfl
      rw [← this]; exact nd
    exact absurd (mem_ows (by simpa using h1) o1) (List.nodup_cons.mp nd').1
  | x :: ρ, i + 1, j + 1, e, e', a, nd, h1, h2, o1, o2 => by
    have nd' : (ows ρ).Nodup := by
      have h : ows (x :: ρ) = (match x.own with | some a => [a] | none => []) ++ ows ρ := by
        show List.filterMap En.own (x :: ρ) = _
        rw [List.filterMap_cons]
        cases x.own <;> simp [ows]
      rw [h] at nd
      exact (List.nodup_append.mp nd).2.1
    exact congrArg (· + 1) (own_inj nd' (by simpa using h1) (by simpa using h2) o1 o2)
section
variable {K : PySem.W.Frag} {C : Ctx} {H H' : Hp} {σ : L2.St} {ρ : Rho}
/-- a slot is given data that can be seen -/
theorem SRel.setIm (S : SRel K C H σ ρ) (i : Nat) {v : V} {d : D} (r : Rep K (vis C (ows ρ) H) v d) : SRel K C H (σ.set i (some v)) (ρ.set i (.im d)) ∧ Same (vis C (ows ρ) H) (vis C (ows (ρ.set i (.im d))) H) := by
  have sub : ∀ b, b ∈ ows (ρ.set i (.im d)) → b ∈ ows ρ := fun b hb => (ows_set_sub hb).elim id fun z => nomatch z
  have sm : Same (vis C (ows ρ) H) (vis C (ows (ρ.set i (.im d))) H) := vis_sub sub
  by_cases hi : i < ρ.length
  · have hiσ : i < σ.length := by rw [S.len]; exact hi
    refine ⟨⟨by simpa using S.len, S.gh, S.hh, ?_, fun a h => S.fr a (h.imp_left (sub a)), fun a h => S.dj a (sub a h), fun j d' h => ?_, fun j a ds h => ?_, fun j a ds h => ?_⟩, sm⟩
    · obtain ⟨l, r', h1, h2⟩ := ows_split ρ i (.im d) hi
      have nd := S.nd
      rw [h1] at nd
      rw [h2]
      show (l ++ [] ++ r').Nodup
      rw [List.append_nil]
      rw [List.nodup_append] at nd ⊢
      obtain ⟨n1, n2, n3⟩ := nd
      exact ⟨(List.nodup_append.mp n1).1, n2, fun x hx y hy => n3 x (List.mem_append_left _ hx) y hy⟩
    · by_cases hj : j = i
      · subst hj
        rw [List.getElem?_set_self hi] at h
        cases h
        exact ⟨v, List.getElem?_set_self hiσ, Rep.mono sm _ r⟩
      · rw [List.getElem?_set_ne (Ne.symm hj)] at h ⊢
        obtain ⟨v', h1, h2⟩ := S.im j d' h
        exact ⟨v', h1, Rep.mono sm _ h2⟩
    · have hj : j ≠ i := fun z => by subst z; rw [List.getElem?_set_self hi] at h; cases h
      rw [List.getElem?_set_ne (Ne.symm hj)] at h ⊢
      obtain ⟨h1, xs, h2, h3⟩ := S.ow j a ds h
      exact ⟨h1, xs, h2, Reps.mono sm _ h3⟩
    · have hj : j ≠ i := fun z => by subst z; rw [List.getElem?_set_self hi] at h; cases h
      rw [List.getElem?_set_ne (Ne.symm hj)] at h ⊢
      obtain ⟨h1, xs, h2, h3⟩ := S.od j a ds h
      exact ⟨h1, xs, h2, h3.mono sm⟩
  · rw [set_oob hi, set_oobS (by rw [S.len]; exact hi)]
    exact ⟨S, Same.refl _⟩
/-- a slot is forgotten -/
theorem SRel.setNo (S : SRel K C H σ ρ) (i : Nat) (x : Option V) : SRel K C H (σ.set i x) (ρ.set i .no) ∧ Same (vis C (ows ρ) H) (vis C (ows (ρ.set i .no)) H) := by
  have sub : ∀ b, b ∈ ows (ρ.set i .no) → b ∈ ows ρ := fun b hb => (ows_set_sub hb).elim id fun z => nomatch z
  have sm : Same (vis C (ows ρ) H) (vis C (ows (ρ.set i .no)) H) := vis_sub sub
  by_cases hi : i < ρ.length
  · refine ⟨⟨by simpa using S.len, S.gh, S.hh, ?_, fun a h => S.fr a (h.imp_left (sub a)), fun a h => S.dj a (sub a h), fun j d' h => ?_, fun j a ds h => ?_, fun j a ds h => ?_⟩, sm⟩
    · obtain ⟨l, r', h1, h2⟩ := ows_split ρ i .no hi
      have nd := S.nd
      rw [h1] at nd
      rw [h2]
      show (l ++ [] ++ r').Nodup
      rw [List.append_nil]
      rw [List.nodup_append] at nd ⊢
      obtain ⟨n1, n2, n3⟩ := nd
      exact ⟨(List.nodup_append.mp n1).1, n2, fun x hx y hy => n3 x (List.mem_append_left _ hx) y hy⟩
    · have hj : j ≠ i := fun z => by subst z; rw [List.getElem?_set_self hi] at h; cases h
      rw [List.getElem?_set_ne (Ne.symm hj)] at h ⊢
      obtain ⟨v', h1, h2⟩ := S.im j d' h
      exact ⟨v', h1, Rep.mono sm _ h2⟩
    · have hj : j ≠ i := fun z => by subst z; rw [List.getElem?_set_self hi] at h; cases h
      rw [List.getElem?_set_ne (Ne.symm hj)] at h ⊢
      obtain ⟨h1, xs, h2, h3⟩ := S.ow j a ds h
      exact ⟨h1, xs, h2, Reps.mono sm _ h3⟩
    · have hj : j ≠ i := fun z => by subst z; rw [List.getElem?_set_self hi] at h; cases h
      rw [List.getElem?_set_ne (Ne.symm hj)] at h ⊢
      obtain ⟨h1, xs, h2, h3⟩ := S.od j a ds h
      exact ⟨h1, xs, h2, h3.mono sm⟩
  · rw [set_oob hi, set_oobS (by rw [S.len]; exact hi)]
    exact ⟨S, Same.refl _⟩
theorem vis_new_same {C : Ctx} {o : List Addr} {H H' : Hp} {a : Addr} (i : Same (vis C o H) H) (n : H a = none) (s : Same H H') : Same (vis C o H) (vis C (a :: o) H') := fun y u hy => by
  have ny : y ≠ a := ne_of_none (i _ _ hy) n
  have h2 := vis_same (C := C) (o := o) s _ _ hy
  unfold vis at h2 ⊢
  simp only [List.mem_cons, ny, false_or]
  exact h2
/-- a slot is given a new object of one's own; e says what -/
theorem SRel.setOwn (S : SRel K C H σ ρ) (i : Nat) (hi : i < ρ.length) {a : Addr} {x : En} (hx : x.own = some a) (n : H a = none) (s : Same H H') (there : H' a ≠ none)
    (hw : ∀ ds, x = .ow a ds → ∃ xs, H' a = some (.lst xs) ∧ Reps K (vis C (a :: ows ρ) H') xs ds) (hd : ∀ ds, x = .od a ds → ∃ xs, H' a = some (.dT xs) ∧ RepKV K (vis C (a :: ows ρ) H') xs ds) (him : ∀ d, x ≠ .im d) :
    SRel K C H' (σ.set i (some (.ref a))) (ρ.set i x) ∧ Same (vis C (ows ρ) H) (vis C (ows (ρ.set i x)) H') := by
  have hiσ : i < σ.length := by rw [S.len]; exact hi
  obtain ⟨n0, no, nh⟩ := S.new n
  have sub : ∀ b, b ∈ ows (ρ.set i x) → b ∈ a :: ows ρ := fun b hb => (ows_set_sub hb).elim (fun z => List.mem_cons_of_mem _ z) fun z => by
    rw [hx] at z
    cases z
    exact List.mem_cons_self
  have sm1 : Same (vis C (a :: ows ρ) H') (vis C (ows (ρ.set i x)) H') := vis_sub sub
  have sm0 : Same (vis C (ows ρ) H) (vis C (a :: ows ρ) H') := vis_new_same S.visIn n s
  have sm := sm0.trans sm1
  refine ⟨⟨by simpa using S.len, S.gh, S.hh.trans s, ?_, fun b h => ?_, fun b h => ?_, fun j d' h => ?_, fun j b ds h => ?_, fun j b ds h => ?_⟩, sm⟩
  · obtain ⟨l, r', h1, h2⟩ := ows_split ρ i x hi
    have nd := S.nd
    rw [h1] at nd no
    rw [h2, hx]
    show (l ++ [a] ++ r').Nodup
    have na1 : a ∉ l := fun z => no (List.mem_append_left _ (List.mem_append_left _ z))
    have na2 : a ∉ r' := fun z => no (List.mem_append_right _ z)
    rw [List.nodup_append] at nd ⊢
    obtain ⟨m1, m2, m3⟩ := nd
    have m1' := (List.nodup_append.mp m1).1
    refine ⟨List.nodup_append.mpr ⟨m1', by simp, fun y hy z hz => ?_⟩, m2, fun y hy z hz => ?_⟩
    · have e : z = a := by simpa using hz
      subst e
      exact fun q => na1 (q ▸ hy)
    · rcases List.mem_append.mp hy with hy | hy
      · exact m3 y (List.mem_append_left _ hy) z hz
      · have e : y = a := by simpa using hy
        subst e
        exact fun q => na2 (q ▸ hz)
  · rcases h with h | h
    · rcases List.mem_cons.mp (sub b h) with z | z
      · subst z; exact ⟨n0, there⟩
      · exact ⟨(S.fr b (.inl z)).1, fun q => (S.fr b (.inl z)).2 (s.free q)⟩
    · exact ⟨(S.fr b (.inr h)).1, fun q => (S.fr b (.inr h)).2 (s.free q)⟩
  · rcases List.mem_cons.mp (sub b h) with z | z
    · subst z; exact nh
    · exact S.dj b z
  · have hj : j ≠ i := fun z => by
      subst z
      rw [List.getElem?_set_self hi] at h
      exact him d' (Option.some.inj h)
    rw [List.getElem?_set_ne (Ne.symm hj)] at h ⊢
    obtain ⟨v', h1, h2⟩ := S.im j d' h
    exact ⟨v', h1, Rep.mono sm _ h2⟩
  · by_cases hj : j = i
    · subst hj
      rw [List.getElem?_set_self hi] at h
      have e := Option.some.inj h
      have eb : a = b := by rw [e] at hx; exact (Option.some.inj hx).symm
      subst eb
      obtain ⟨xs, h1, h2⟩ := hw ds e
      exact ⟨List.getElem?_set_self hiσ, xs, h1, Reps.mono sm1 _ h2⟩
    · rw [List.getElem?_set_ne (Ne.symm hj)] at h ⊢
      obtain ⟨h1, xs, h2, h3⟩ := S.ow j b ds h
      exact ⟨h1, xs, s _ _ h2, Reps.mono sm _ h3⟩
  · by_cases hj : j = i
    · subst hj
      rw [List.getElem?_set_self hi] at h
      have e := Option.some.inj h
      have eb : a = b := by rw [e] at hx; exact (Option.some.inj hx).symm
      subst eb
      obtain ⟨xs, h1, h2⟩ := hd ds e
      exact ⟨List.getElem?_set_self hiσ, xs, h1, h2.mono sm1⟩
    · rw [List.getElem?_set_ne (Ne.symm hj)] at h ⊢
      obtain ⟨h1, xs, h2, h3⟩ := S.od j b ds h
      exact ⟨h1, xs, s _ _ h2, h3.mono sm⟩
/-- a new list in a slot -/
theorem SRel.setOw (S : SRel K C H σ ρ) (i : Nat) (hi : i < ρ.length) {a : Addr} {xs : List V} {ds : List D} (n : H a = none) (s : Same H H') (l : H' a = some (.lst xs)) (r : Reps K (vis C (a :: ows ρ) H') xs ds) :
    SRel K C H' (σ.set i (some (.ref a))) (ρ.set i (.ow a ds)) ∧ Same (vis C (ows ρ) H) (vis C (ows (ρ.set i (.ow a ds))) H') :=
  S.setOwn i hi rfl n s (by rw [l]; intro z; cases z) (fun ds' e => by cases e; exact ⟨xs, l, r⟩) (fun _ e => by cases e) fun _ e => by cases e
/-- one's own is changed -/
theorem SRel.updOwn (S : SRel K C H σ ρ) (i : Nat) {a : Addr} {e x : En} {o : HO} (h : ρ[i]? = some e) (he : e.own = some a) (hx : x.own = some a) (hσ : σ[i]? = some (some (.ref a)))
    (hw : ∀ ds, x = .ow a ds → ∃ xs, o = .lst xs ∧ Reps K (vis C (ows ρ) H) xs ds) (hd : ∀ ds, x = .od a ds → ∃ xs, o = .dT xs ∧ RepKV K (vis C (ows ρ) H) xs ds) (him : ∀ d, x ≠ .im d) :
    SRel K C (upd H a o) σ (ρ.set i x) ∧ Same (vis C (ows ρ) H) (vis C (ows (ρ.set i x)) (upd H a o)) := by
  have hi : i < ρ.length := (List.getElem?_eq_some_iff.mp h).1
  have ma : a ∈ ows ρ := mem_ows h he
  have eo : ows (ρ.set i x) = ows ρ := by
    obtain ⟨l, r', h1, h2⟩ := ows_split ρ i x hi
    rw [h1, h2, hx, h, Option.bind_some, he]
  have ev : vis C (ows (ρ.set i x)) (upd H a o) = vis C (ows ρ) H := by rw [eo, vis_own ma]
  obtain ⟨n0, na⟩ := S.fr a (.inl ma)
  have nj : ∀ (j : Nat) (e' : En) (b : Addr), j ≠ i → ρ[j]? = some e' → e'.own = some b → b ≠ a := fun j e' b hj h' o' z => by
    subst z
    exact hj (own_inj S.nd h' h o' he)
  refine ⟨⟨by simpa using S.len, S.gh, fun b u q => ?_, by rw [eo]; exact S.nd, fun b q => ?_, by rw [eo]; exact S.dj, fun j d' q => ?_, fun j b ds q => ?_, fun j b ds q => ?_⟩, by rw [ev]; exact Same.refl _⟩
  · have nb : b ≠ a := fun z => by rw [z, n0] at q; cases q
    rw [upd_ne nb]
    exact S.hh _ _ q
  · rw [eo] at q
    refine ⟨(S.fr b q).1, ?_⟩
    by_cases z : b = a
    · rw [z, upd_same]; intro y; cases y
    · rw [upd_ne z]; exact (S.fr b q).2
  · rw [ev]
    have hj : j ≠ i := fun z => by
      subst z
      rw [List.getElem?_set_self hi] at q
      exact him d' (Option.some.inj q)
    rw [List.getElem?_set_ne (Ne.symm hj)] at q
    exact S.im j d' q
  · rw [ev]
    by_cases hj : j = i
    · subst hj
      rw [List.getElem?_set_self hi] at q
      have e1 := Option.some.inj q
      have eb : a = b := by rw [e1] at hx; exact (Option.some.inj hx).symm
      subst eb
      obtain ⟨xs, e2, h2⟩ := hw ds e1
      exact ⟨hσ, xs, by rw [upd_same, e2], h2⟩
    · rw [List.getElem?_set_ne (Ne.symm hj)] at q
      obtain ⟨h1, xs, h2, h3⟩ := S.ow j b ds q
      exact ⟨h1, xs, by rw [upd_ne (nj j _ b hj q rfl)]; exact h2, h3⟩
  · rw [ev]
    by_cases hj : j = i
    · subst hj
      rw [List.getElem?_set_self hi] at q
      have e1 := Option.some.inj q
      have eb : a = b := by rw [e1] at hx; exact (Option.some.inj hx).symm
      subst eb
      obtain ⟨xs, e2, h2⟩ := hd ds e1
      exact ⟨hσ, xs, by rw [upd_same, e2], h2⟩
    · rw [List.getElem?_set_ne (Ne.symm hj)] at q
      obtain ⟨h1, xs, h2, h3⟩ := S.od j b ds q
      exact ⟨h1, xs, by rw [upd_ne (nj j _ b hj q rfl)]; exact h2, h3⟩
theorem SRel.updOw (S : SRel K C H σ ρ) (i : Nat) {a : Addr} {ds es : List D} {xs : List V} (h : ρ[i]? = some (.ow a ds)) (r : Reps K (vis C (ows ρ) H) xs es) :
    SRel K C (upd H a (.lst xs)) σ (ρ.set i (.ow a es)) ∧ Same (vis C (ows ρ) H) (vis C (ows (ρ.set i (.ow a es))) (upd H a (.lst xs))) :=
  S.updOwn i h rfl rfl (S.ow i a ds h).1 (fun ds' e => by cases e; exact ⟨xs, rfl, r⟩) (fun _ e => by cases e) fun _ e => by cases e
/-- one's own list becomes data (nobody will change it any more) -/
theorem SRel.freeze (S : SRel K C H σ ρ) (i : Nat) {a : Addr} {ds : List D} (h : ρ[i]? = some (.ow a ds)) : SRel K C H σ (ρ.set i (.im (.lst ds))) ∧ Same (vis C (ows ρ) H) (vis C (ows (ρ.set i (.im (.lst ds)))) H) := by
  have hi : i < ρ.length := (List.getElem?_eq_some_iff.mp h).1
  obtain ⟨h1, xs, h2, h3⟩ := S.ow i a ds h
  obtain ⟨S', s'⟩ := S.setNo i (some (.ref a))
  have eσ : σ.set i (some (.ref a)) = σ := by
    apply List.ext_getElem?
    intro j
    by_cases hj : j = i
    · subst hj
      rw [List.getElem?_set_self (by rw [S.len]; exact hi), h1]
    · rw [List.getElem?_set_ne (Ne.symm hj)]
  rw [eσ] at S'
  have na : a ∉ ows (ρ.set i .no) := by
    obtain ⟨l, r', e1, e2⟩ := ows_split ρ i .no hi
    have nd := S.nd
    rw [e1, h] at nd
    rw [e2]
    show a ∉ l ++ [] ++ r'
    have nd' : (l ++ [a] ++ r').Nodup := nd
    rw [List.append_nil]
    rw [List.nodup_append] at nd'
    obtain ⟨m1, m2, m3⟩ := nd'
    have m4 := (List.nodup_append.mp m1).2.2
    intro z
    rcases List.mem_append.mp z with z | z
    · exact m4 a z a (by simp) rfl
    · exact m3 a (by simp) a z rfl
  have ma : a ∈ ows ρ := mem_ows h rfl
  have r : Rep K (vis C (ows (ρ.set i .no)) H) (.ref a) (.lst ds) := .lst (.inl (.inl (by
    rw [vis_at (S.fr a (.inl ma)).1 na (S.dj a ma)]
    exact h2))) (Reps.mono s' _ h3)
  obtain ⟨S2, s2⟩ := S'.setIm i r
  rw [eσ, List.set_set] at S2
  rw [List.set_set] at s2
  exact ⟨S2, s'.trans s2⟩
end
end DL

namespace DL
open PySem PySem.Spec PyProof.Rows L2
section
variable {X : Cx} {C : Ctx} {ρ ρ' : Rho} {e a b c tg : Expr} {es rest tgs : List Expr} {st : Stmt} {sts t u : List Stmt} {d da db : D} {ds : List D} {pos p : Pos} {k : Bool} {P : Post}
/-! ### blocks -/
theorem wp_nil (h : P.nx ρ) : WP X C ρ [] P := fun σ H D S L => wpSs_of pss_nil (L.nx ρ σ H h S (Same.refl _))
theorem wp_cons (h : WS X C ρ st { P with nx := fun ρ' => WP X C ρ' sts P }) : WP X C ρ (st :: sts) P := fun σ H D S L =>
  wpSs_of (pss_cons ps_wp pss_wp) (h σ H { D with nx := wpSs X sts D } S ⟨fun ρ' σ' H' q S' z => q σ' H' D S' (L.later z), L.bk, L.ct, L.rt, L.tk⟩)
theorem WP.imp {P' : Post} (h : WP X C ρ sts P) (n : ∀ ρ, P.nx ρ → P'.nx ρ) (r : ∀ x, P.rt x → P'.rt x) (b : ∀ ρ, P.bk ρ → P'.bk ρ) (c : ∀ ρ, P.ct ρ → P'.ct ρ) (e : ∀ x ρ, P.er x ρ → P'.er x ρ) : WP X C ρ sts P' := fun σ H D S L =>
  h σ H D S ⟨fun ρ σ H q => L.nx ρ σ H (n _ q), fun ρ σ H q => L.bk ρ σ H (b _ q), fun ρ σ H q => L.ct ρ σ H (c _ q), fun x v H q => L.rt x v H (r _ q), by
    obtain ⟨W, h1, h2⟩ := L.tk
    exact ⟨W, h1, fun x ρ σ H q => h2 x ρ σ H (e _ _ q)⟩⟩
theorem ws_pass (h : P.nx ρ) : WS X C ρ (.Pass pos) P := fun σ H D S L => wpS_of ps_pass (L.nx ρ σ H h S (Same.refl _))
theorem ws_break (h : P.bk ρ) : WS X C ρ (.Break pos) P := fun σ H D S L => wpS_of ps_break (L.bk ρ σ H h S (Same.refl _))
theorem ws_continue (h : P.ct ρ) : WS X C ρ (.Continue pos) P := fun σ H D S L => wpS_of ps_continue (L.ct ρ σ H h S (Same.refl _))
theorem ws_drop (he : EE X C ρ e d) (h : P.nx ρ) (hs : swapsWith e none pos.line X.env = pure false := by rfl) : WS X C ρ (.Expr e pos) P := fun σ H D S L =>
  wpS_of (ps_expr pe_wp hs) (he σ H S _ fun v H1 s1 r1 => L.nx ρ σ H1 h (S.same s1) (vis_same s1))
theorem ws_ret (he : EE X C ρ e d) (h : P.rt (.im d)) : WS X C ρ (.Return (some e) pos) P := fun σ H D S L =>
  wpS_of (ps_ret pe_wp) (he σ H S _ fun v H1 s1 r1 => L.rt _ v H1 h (S.hh.trans s1) (Rep.mono (vis_sub fun _ z => absurd z List.not_mem_nil) _ r1))
theorem ws_retF (he : EF X C ρ e ds) (h : P.rt (.fr ds)) : WS X C ρ (.Return (some e) pos) P := fun σ H D S L =>
  wpS_of (ps_ret pe_wp) (he σ H S _ fun a xs H1 n s1 l r1 => L.rt _ _ H1 h (S.hh.trans s1) ⟨a, xs, rfl, (S.new n).1, l, Reps.mono (vis_sub fun b z => by
    have e : b = a := by simpa using z
    rw [e]
    exact List.mem_cons_self) _ r1⟩)
theorem ws_retO (i : Nat) {x : Str} {a : Addr} (hr : ρ[i]? = some (.ow a ds) := by rfl) (h : P.rt (.fr ds)) (hN : X.N[i]? = some x := by rfl) (hv : Vis X.env.scope x := by first | exact Or.inl rfl | exact Or.inr (Or.inl rfl) | exact Or.inr (Or.inr rfl))
    (hd : (x == ("__debug__" : Str)) = false := by decide) (hcd : (x == ("__classdict__" : Str)) = false := by decide) : WS X C ρ (.Return (some (.Name x p)) pos) P := fun σ H D S L => by
  obtain ⟨h1, xs, h2, h3⟩ := S.ow i a ds hr
  have ma : a ∈ ows ρ := mem_ows hr rfl
  exact wpS_of (ps_ret (pe_var hN hv hd hcd)) ⟨_, h1, L.rt _ _ H h S.hh ⟨a, xs, rfl, (S.fr a (.inl ma)).1, h2, Reps.mono (vis_sub fun b z => by
    have e : b = a := by simpa using z
    rw [e]
    exact ma) _ h3⟩⟩
theorem ws_retN (h : P.rt (.im .non)) : WS X C ρ (.Return none pos) P := fun σ H D S L => wpS_of ps_retN (L.rt _ _ H h S.hh (.at .non))
theorem ws_if (hc : ET X C ρ c k) (h1 : k = true → WP X C ρ t P) (h2 : k = false → WP X C ρ u P) : WS X C ρ (.If c t u pos) P := fun σ H D S L =>
  wpS_of (ps_if pt_wp pss_wp pss_wp) (hc σ H S _ fun H1 s1 => by
    cases k with
    | true => exact iteT (h1 rfl σ H1 D (S.same s1) (L.later (vis_same s1)))
    | false => exact iteF (h2 rfl σ H1 D (S.same s1) (L.later (vis_same s1))))

/-! ### assignments -/
theorem ws_set (i : Nat) {x : Str} {p' : Pos} (he : EE X C ρ e d) (hρ : ρ.set i (.im d) = ρ') (h : P.nx ρ') (hN : X.N.Nodup) (hi : X.N[i]? = some x := by rfl) (hx : Loc X.env.scope x := by first | exact Or.inl rfl | exact Or.inr rfl) (hs : swapsWith e (some (.Name x p')) pos.line X.env = pure false := by rfl)
    (hf : X.fn x = true ∨ X.env.scope.names.lookup x = some .local := by first | exact .inl rfl | exact .inr rfl) : WS X C ρ (.Assign [.Name x p'] e pos) P := fun σ H D S L => by
  subst hρ
  refine wpS_of (ps_set hN hi hx pe_wp hs hf) (he σ H S _ fun v H1 s1 r1 => ?_)
  obtain ⟨S2, s2⟩ := (S.same s1).setIm i r1
  exact L.nx _ _ H1 h S2 ((vis_same s1).trans s2)
theorem ws_setF (i : Nat) {x : Str} {p' : Pos} (he : EF X C ρ e ds) (h : ∀ a, P.nx (ρ.set i (.ow a ds))) (hN : X.N.Nodup) (hi : X.N[i]? = some x := by rfl) (hl : i < ρ.length := by exact Nat.le_of_ble_eq_true rfl) (hx : Loc X.env.scope x := by first | exact Or.inl rfl | exact Or.inr rfl) (hs : swapsWith e (some (.Name x p')) pos.line X.env = pure false := by rfl)
    (hf : X.fn x = true ∨ X.env.scope.names.lookup x = some .local := by first | exact .inl rfl | exact .inr rfl) : WS X C ρ (.Assign [.Name x p'] e pos) P := fun σ H D S L => by
  refine wpS_of (ps_set hN hi hx pe_wp hs hf) (he σ H S _ fun a xs H1 n s1 l r1 => ?_)
  obtain ⟨S2, s2⟩ := S.setOw i hl n s1 l r1
  exact L.nx _ _ H1 (h a) S2 s2
/-- a, b = e1, e2: two local names -/
theorem ws_par (i j : Nat) {x y : Str} {d1 d2 : D} {px py pt pt2 : Pos} {kt k2 : Nat} (ha : EA X C ρ [a, b] [d1, d2]) (hρ : (ρ.set i (.im d1)).set j (.im d2) = ρ') (h : P.nx ρ') (hN : X.N.Nodup) (hc : X.calm = true := by rfl) (hi : X.N[i]? = some x := by rfl) (hj : X.N[j]? = some y := by rfl) (hij : i ≠ j := by decide)
    (hx : X.env.scope.names.lookup x = some .local := by rfl) (hy : X.env.scope.names.lookup y = some .local := by rfl) (hw : swappedStores [.Tuple [.Name x px, .Name y py] kt pt] (.Tuple [a, b] k2 pt2) X.env = pure (some [x, y]) := by rfl)
    (hs : swapsWithSole [.Tuple [.Name x px, .Name y py] kt pt] (.Tuple [a, b] k2 pt2) pos.line X.env = pure false := by rfl) : WS X C ρ (.Assign [.Tuple [.Name x px, .Name y py] kt pt] (.Tuple [a, b] k2 pt2) pos) P := fun σ H D S L => by
  subst hρ
  refine wpS_of (ps_par hc hN hi hj hij hx hy pa_wp hw hs) (ha σ H S _ fun vs H1 s1 r1 => ?_)
  obtain ⟨v, w, rfl, q1, q2⟩ := reps2 r1
  obtain ⟨S2, s2⟩ := (S.same s1).setIm i q1
  obtain ⟨S3, s3⟩ := S2.setIm j (Rep.mono s2 _ q2)
  exact ⟨v, w, rfl, L.nx _ _ H1 h S3 (((vis_same s1).trans s2).trans s3)⟩
/-- as it was, but for the slots L -/
def Agr (L : List Nat) (σ σ' : L2.St) : Prop := σ'.length = σ.length ∧ ∀ j, j ∉ L → σ'[j]? = σ[j]?
/-- a target is given data; L: the slots that it sets -/
def GT (X : Cx) (C : Ctx) (ρ : Rho) (tg : Expr) (d : D) (ρ' : Rho) (L : List Nat) : Prop :=
  ∀ σ H v, SRel X.K C H σ ρ → Rep X.K (vis C (ows ρ) H) v d → ∀ Q : L2.St → Hp → Prop, (∀ σ', SRel X.K C H σ' ρ' → Same (vis C (ows ρ) H) (vis C (ows ρ') H) → Agr L σ σ' → Q σ' H) → wpG X tg v σ H Q
def wpGs (X : Cx) (ts : List Expr) : TGs := fun vs σ H Q => ∀ pins s us, Inv X pins σ H s → Vals vs us → wpAny (model X.prog X.w) X.A (assignInOrder ((assignEach ts X.env).map (·.2)) us) (fun _ s' => ∃ σ' H', Inv X pins σ' H' s' ∧ Q σ' H') X.xe s
theorem pgs_wp {ts : List Expr} : PGs X ts (wpGs X ts) := ⟨fun pins s _ _ _ us _ I r h => h pins s us I r⟩
def GTs (X : Cx) (C : Ctx) (ρ : Rho) (ts : List Expr) (ds : List D) (ρ' : Rho) (L : List Nat) : Prop :=
  ∀ σ H vs, SRel X.K C H σ ρ → Reps X.K (vis C (ows ρ) H) vs ds → ∀ Q : L2.St → Hp → Prop, (∀ σ', SRel X.K C H σ' ρ' → Same (vis C (ows ρ) H) (vis C (ows ρ') H) → Agr L σ σ' → Q σ' H) → wpGs X ts vs σ H Q
theorem gt_name (i : Nat) {x : Str} (hN : X.N.Nodup) (hρ : ρ.set i (.im d) = ρ') (hi : X.N[i]? = some x := by rfl) (hx : Loc X.env.scope x := by first | exact Or.inl rfl | exact Or.inr rfl) (hf : X.fn x = true ∨ X.env.scope.names.lookup x = some .local := by first | exact .inl rfl | exact .inr rfl) : GT X C ρ (.Name x pos) d ρ' [i] := fun σ H v S r Q q => by
  subst hρ
  obtain ⟨S2, s2⟩ := S.setIm i r
  exact wpG_of (pg_name hN hi hx hf) (q _ S2 s2 ⟨by simp, fun j hj => List.getElem?_set_ne (fun z => hj (by simp [z]))⟩)
theorem gts_nil : GTs X C ρ [] [] ρ [] := fun σ H vs S r Q q pins s us I rv => pgs_nil.run pins s σ H vs us Q I rv ⟨by cases r; rfl, q σ S (Same.refl _) ⟨rfl, fun _ _ => rfl⟩⟩
theorem gts_cons {ρ'' : Rho} {L L' : List Nat} (h1 : GT X C ρ tg d ρ' L) (h2 : GTs X C ρ' tgs ds ρ'' L') (hs : (assignEach (tg :: tgs) X.env).map (·.2) = assign tg X.env :: (assignEach tgs X.env).map (·.2) := by rfl) : GTs X C ρ (tg :: tgs) (d :: ds) ρ'' (L ++ L') := fun σ H vs S r Q q pins s us I rv => by
  cases r with
  | cons r rs =>
    refine (pgs_cons pg_wp pgs_wp hs).run pins s σ H _ us Q I rv ⟨_, _, rfl, h1 σ H _ S r _ fun σ1 S1 s1 k1 => h2 σ1 H _ S1 (Reps.mono s1 _ rs) Q fun σ2 S2 s2 k2 => q σ2 S2 (s1.trans s2) ⟨k2.1.trans k1.1, fun j hj => ?_⟩⟩
    rw [List.mem_append, not_or] at hj
    rw [k2.2 j hj.2, k1.2 j hj.1]
theorem gt_tup {kk : Nat} {L : List Nat} (h : GTs X C ρ tgs ds ρ' L) (hc : X.calm = true := by rfl) (hn : (assignEach tgs X.env).length = ds.length := by rfl) (hst : (assignEach tgs X.env).findIdx? (·.1) = none := by rfl) : GT X C ρ (.Tuple tgs kk pos) (.tup ds) ρ' L := fun σ H v S r Q q => by
  cases r with
  | tup sq rs =>
    exact wpG_of (pg_tup hc pgs_wp hn hst) ⟨_, _, rfl, Same.seqT S.visIn sq, rs.length, h σ H _ S rs Q q⟩
theorem gt_lst {kk : Nat} {L : List Nat} (h : GTs X C ρ tgs ds ρ' L) (hc : X.calm = true := by rfl) (hn : (assignEach tgs X.env).length = ds.length := by rfl) (hst : (assignEach tgs X.env).findIdx? (·.1) = none := by rfl) : GT X C ρ (.Tuple tgs kk pos) (.lst ds) ρ' L := fun σ H v S r Q q => by
  cases r with
  | lst sq rs =>
    exact wpG_of (pg_lst hc pgs_wp hn hst) ⟨_, _, rfl, S.visIn.seq sq, rs.length, h σ H _ S rs Q q⟩
/-- target = value -/
theorem ws_asg {L0 : List Nat} (he : EE X C ρ e d) (hg : GT X C ρ tg d ρ' L0) (h : P.nx ρ') (hs : swapsWithSole [tg] e pos.line X.env = pure false := by rfl) (hw : swappedStores [tg] e X.env = pure none := by rfl) (h1 : (assignEach [tg] X.env).map (·.2) = [assign tg X.env] := by rfl) : WS X C ρ (.Assign [tg] e pos) P := fun σ H D S L =>
  wpS_of (ps_asg pe_wp pg_wp hs hw h1) (he σ H S _ fun v H1 s1 r1 => hg σ H1 v (S.same s1) r1 _ fun σ' S' s' _ => L.nx _ _ H1 h S' ((vis_same s1).trans s'))
/-- n += e -/
theorem ws_augI (i : Nat) {x : Str} {p' : Pos} {n m : Int} (hr : ρ[i]? = some (.im (.int n)) := by rfl) (he : EE X C ρ e (.int m)) (hρ : ρ.set i (.im (.int (n + m))) = ρ') (h : P.nx ρ') (hN : X.N.Nodup) (hi : X.N[i]? = some x := by rfl) (hx : Loc X.env.scope x := by first | exact Or.inl rfl | exact Or.inr rfl)
    (hf : X.fn x = true ∨ X.env.scope.names.lookup x = some .local := by first | exact .inl rfl | exact .inr rfl) : WS X C ρ (.AugAssign (.Name x p') .Add e pos) P := fun σ H D S L => by
  subst hρ
  obtain ⟨v, h1, h2⟩ := S.im i _ hr
  cases h2
  refine wpS_of (ps_aug hN hi hx pe_wp ip_add hf) ⟨_, h1, he σ H S _ fun v H1 s1 r1 => ?_⟩
  cases r1
  obtain ⟨S2, s2⟩ := (S.same s1).setIm i (d := .int (n + m)) (.at _)
  exact ⟨n, m, rfl, rfl, L.nx _ _ H1 h S2 ((vis_same s1).trans s2)⟩
/-- xs.append(e), xs of one's own -/
theorem ws_app (i : Nat) {x : Str} {p1 p2 p3 : Pos} {a : Addr} (hr : ρ[i]? = some (.ow a ds) := by rfl) (he : EE X C ρ e d) (hl : ds.length < sizeLine) (hρ : ρ.set i (.ow a (ds ++ [d])) = ρ') (h : P.nx ρ') (hN : X.N[i]? = some x := by rfl)
    (hv : Vis X.env.scope x := by first | exact Or.inl rfl | exact Or.inr (Or.inl rfl) | exact Or.inr (Or.inr rfl)) (hs : swapsWith (.Call (.Attribute (.Name x p1) "append" p2) [e] [] p3) none pos.line X.env = pure false := by rfl)
    (hfew : ((backTo p3 (starEach [e] X.env)).all (fun x => !x.1) && (backToKw p3 (keywordEach [] X.env)).all (fun x => x.1.isSome) && decide (([e]).length + ([] : List Keyword).length + (if ([] : List Keyword).isEmpty then 0 else 1) < 30)) = true := by rfl)
    (hline : (p2.endLine == p3.line) = true := by rfl) (he1 : starEach [e] X.env = (false, eval e X.env) :: starEach [] X.env := by rfl) (hd : (x == ("__debug__" : Str)) = false := by decide) (hcd : (x == ("__classdict__" : Str)) = false := by decide) : WS X C ρ (.Expr (.Call (.Attribute (.Name x p1) "append" p2) [e] [] p3) pos) P := fun σ H D S L => by
  subst hρ
  obtain ⟨h1, xs, h2, h3⟩ := S.ow i a ds hr
  refine wpS_of (ps_expr (pe_bm PySem.F.plainAttrs_list PySem.F.slot_list_append PySem.F.type_list_append mt_append (pe_var hN hv hd hcd) (pa_cons pe_wp pa_nil he1) rfl hfew hline he1 rfl) hs) ⟨_, h1, .inl ⟨rfl, _, .inl (.inl h2)⟩, he σ H S _ fun v H1 s1 r1 => ?_⟩
  obtain ⟨S2, s2⟩ := (S.same s1).updOw i hr (((Reps.mono (vis_same s1) _ h3)).append (.cons r1 .nil))
  exact ⟨a, xs, v, rfl, rfl, s1 _ _ h2, by rw [h3.length]; exact hl, L.nx _ _ _ h S2 ((vis_same s1).trans s2)⟩
/-- xs[i] = e, xs of one's own -/
theorem ws_setIx (i : Nat) {x : Str} {p1 p2 : Pos} {a : Addr} {j : Int} {n : Nat} (hr : ρ[i]? = some (.ow a ds) := by rfl) (he : EE X C ρ e d) (hb : EE X C ρ b (.int j)) (hj : ixN ds.length j = some n) (hρ : ρ.set i (.ow a (ds.set n d)) = ρ') (h : P.nx ρ') (hN : X.N[i]? = some x := by rfl)
    (hv : Vis X.env.scope x := by first | exact Or.inl rfl | exact Or.inr (Or.inl rfl) | exact Or.inr (Or.inr rfl)) (ha : ∀ v, assign (.Subscript (.Name x p1) b p2) X.env v = (do
      let ov ← holding [v] (eval (.Name x p1) X.env)
      let iv ← holding [v, ov] (eval b X.env)
      standAt p2
      holding [v, ov, iv] (setItem ov iv v)
      release [v, ov, iv] []) := by intro _; rfl) (hs : swapsWithSole [.Subscript (.Name x p1) b p2] e pos.line X.env = pure false := by rfl) (hw : swappedStores [.Subscript (.Name x p1) b p2] e X.env = pure none := by rfl) (h1 : (assignEach [.Subscript (.Name x p1) b p2] X.env).map (·.2) = [assign (.Subscript (.Name x p1) b p2) X.env] := by rfl)
    (hd : (x == ("__debug__" : Str)) = false := by decide) (hcd : (x == ("__classdict__" : Str)) = false := by decide) : WS X C ρ (.Assign [.Subscript (.Name x p1) b p2] e pos) P := fun σ H D S L => by
  subst hρ
  refine wpS_of (ps_asg pe_wp (pg_sub (pe_var hN hv hd hcd) pe_wp set_list ha) hs hw h1) (he σ H S _ fun v H1 s1 r1 => ?_)
  have S1 := S.same s1
  obtain ⟨e1, xs, e2, e3⟩ := S1.ow i a ds hr
  refine ⟨_, e1, hb σ H1 S1 _ fun w H2 s2 r2 => ?_⟩
  cases r2
  have S2 := S1.same s2
  obtain ⟨S3, s3⟩ := S2.updOw i hr (Reps.set n (Rep.mono (vis_same s2) _ r1) (Reps.mono (vis_same s2) _ e3))
  exact ⟨a, xs, j, n, rfl, rfl, s2 _ _ e2, by rw [e3.length]; exact hj, L.nx _ _ _ h S3 (((vis_same s1).trans (vis_same s2)).trans s3)⟩
/-- one's own list will not be changed any more -/
theorem wp_freeze (i : Nat) {a : Addr} (hr : ρ[i]? = some (.ow a ds) := by rfl) (hρ : ρ.set i (.im (.lst ds)) = ρ') (h : WP X C ρ' sts P) : WP X C ρ sts P := fun σ H D S L => by
  subst hρ
  obtain ⟨S2, s2⟩ := S.freeze i hr
  exact h σ H D S2 (L.later s2)
/-- a slot is forgotten -/
theorem wp_forget (i : Nat) (hρ : ρ.set i .no = ρ') (h : WP X C ρ' sts P) : WP X C ρ sts P := fun σ H D S L => by
  subst hρ
  cases e : σ[i]? with
  | none =>
    have hi : ¬ i < ρ.length := by rw [← S.len]; exact fun z => by rw [List.getElem?_eq_getElem z] at e; cases e
    rw [set_oob hi] at h
    exact h σ H D S L
  | some x =>
    obtain ⟨S2, s2⟩ := S.setNo i x
    have eσ : σ.set i x = σ := by
      apply List.ext_getElem?
      intro j
      by_cases hj : j = i
      · subst hj
        rw [List.getElem?_set_self (List.getElem?_eq_some_iff.mp e).1, e]
      · rw [List.getElem?_set_ne (Ne.symm hj)]
    rw [eσ] at S2
    exact h σ H D S2 (L.later s2)

/-! ### loops -/
theorem ws_while (Iv : Rho → Prop) (μ : Rho → Nat) {body : List Stmt} (hp : PassesOwn (model X.prog X.w) X.A X.env X.xe) (h0 : Iv ρ) (hs : ∀ ρ, Iv ρ → ∃ k, ET X C ρ c k ∧ (k = true → WP X C ρ body { P with nx := fun ρ' => Iv ρ' ∧ μ ρ' < μ ρ, ct := fun ρ' => Iv ρ' ∧ μ ρ' < μ ρ, bk := P.nx }) ∧ (k = false → P.nx ρ)) :
    WS X C ρ (.While c body [] pos) P := fun σ H D S L => by
  refine wpS_of (ps_while hp pt_wp pss_wp) ⟨fun m σ' H' => ∃ ρ', Iv ρ' ∧ μ ρ' = m ∧ SRel X.K C H' σ' ρ' ∧ Same (vis C (ows ρ) H) (vis C (ows ρ') H'), ⟨μ ρ, ρ, h0, rfl, S, Same.refl _⟩, ?_⟩
  rintro m σ1 H1 ⟨ρ1, i1, rfl, S1, v1⟩
  obtain ⟨k, hc, hb, he⟩ := hs ρ1 i1
  refine hc σ1 H1 S1 _ fun H2 s2 => ?_
  cases k with
  | true =>
    refine iteT ⟨fun σ' H' => ∃ ρ', (Iv ρ' ∧ μ ρ' < μ ρ1) ∧ SRel X.K C H' σ' ρ' ∧ Same (vis C (ows ρ) H) (vis C (ows ρ') H'), fun σ' H' ⟨ρ', ⟨q1, q2⟩, S', v'⟩ => ⟨_, q2, ρ', q1, rfl, S', v'⟩, ?_⟩
    have L1 := L.later (v1.trans (vis_same s2))
    refine hb rfl σ1 H2 _ (S1.same s2) ⟨fun ρ' σ' H' q S' z => ⟨ρ', q, S', (v1.trans (vis_same s2)).trans z⟩, L1.nx, fun ρ' σ' H' q S' z => ⟨ρ', q, S', (v1.trans (vis_same s2)).trans z⟩, L1.rt, L1.tk⟩
  | false => exact iteF (L.nx _ _ _ (he rfl) (S1.same s2) (v1.trans (vis_same s2)))
/-- a later time: what was seen is seen -/
structure Later (C : Ctx) (V0 : Hp) (o : List Addr) (H : Hp) : Prop where
  hh : Same C.H0 H
  vi : Same V0 (vis C o H)
  all : Same V0 H
  fr : ∀ a, a ∈ o ∨ a ∈ C.hid → H a ≠ none
theorem SRel.lat {K : PySem.W.Frag} {C : Ctx} {H : Hp} {σ : L2.St} {ρ : Rho} {V0 : Hp} (S : SRel K C H σ ρ) (v : Same V0 (vis C (ows ρ) H)) : Later C V0 (ows ρ) H := ⟨S.hh, v, v.trans S.visIn, fun a h => (S.fr a h).2⟩
/-- J walks the items -/
structure Yl (K : PySem.W.Frag) (V0 : Hp) (J : It) (items : List D) : Prop where
  go : ∀ (C : Ctx) (o : List Addr) (H : Hp) (i : Nat), Later C V0 o H → i < items.length → J.go i H
  yl : ∀ (C : Ctx) (o : List Addr) (H : Hp) (i : Nat) (x : V) (H' : Hp), Later C V0 o H → i < items.length → J.yld i H x H' → ∃ d, items[i]? = some d ∧ Same H H' ∧ Rep K (vis C o H') x d
  stop : ∀ (C : Ctx) (o : List Addr) (H : Hp), Later C V0 o H → J.stop items.length H
theorem Yl.later {K : PySem.W.Frag} {V0 V1 : Hp} {J : It} {items : List D} (y : Yl K V0 J items) (s : Same V0 V1) : Yl K V1 J items :=
  have l : ∀ {C o H}, Later C V1 o H → Later C V0 o H := fun l => ⟨l.hh, s.trans l.vi, s.trans l.all, l.fr⟩
  ⟨fun C o H i h => y.go C o H i (l h), fun C o H i x H' h => y.yl C o H i x H' (l h), fun C o H h => y.stop C o H (l h)⟩
def wpI (X : Cx) (tg iter : Expr) : TI := fun σ H R => ∀ pins s, Inv X pins σ H s → wpAny (model X.prog X.w) X.A (eval iter X.env) (fun v s1 => wpAny (model X.prog X.w) X.A (pyIter v) (PIE X pins σ tg R) X.xe s1) X.xe s
theorem pi_wp {iter : Expr} : PI X tg iter (wpI X tg iter) := ⟨fun pins s _ _ _ I h => h pins s I⟩
theorem wpI_of {iter : Expr} {t : TI} (h : PI X tg iter t) {σ : L2.St} {H : Hp} {R : It → Hp → Prop} (q : t σ H R) : wpI X tg iter σ H R := fun pins s I => h.run pins s σ H R I q
/-- iter walks the items -/
def EI (X : Cx) (C : Ctx) (ρ : Rho) (tg iter : Expr) (items : List D) : Prop :=
  ∀ σ H, SRel X.K C H σ ρ → ∀ R : It → Hp → Prop, (∀ J H1, Same H H1 → Yl X.K (vis C (ows ρ) H1) J items → R J H1) → wpI X tg iter σ H R
theorem yl_list {K : PySem.W.Frag} {V0 : Hp} {a : Addr} {xs : List V} {ds : List D} (sq : SqL K V0 a xs) (r : Reps K V0 xs ds) : Yl K V0 (Itl K a) ds where
  go := fun C o H i l hi => by
    obtain ⟨v, h1, h2⟩ := r.get (List.getElem?_eq_getElem hi)
    exact ⟨xs, v, l.all.seq sq, h1⟩
  yl := fun C o H i x H' l hi y => by
    obtain ⟨rfl, y⟩ := y
    obtain ⟨v, h1, h2⟩ := r.get (List.getElem?_eq_getElem hi)
    have e := y xs (l.all.seq sq)
    rw [h1] at e
    cases e
    exact ⟨_, List.getElem?_eq_getElem hi, Same.refl _, Rep.mono l.vi _ h2⟩
  stop := fun C o H l => ⟨xs, l.all.seq sq, by rw [r.length]; exact Nat.le_refl _⟩
theorem yl_tup {K : PySem.W.Frag} {V0 : Hp} {a : Addr} {xs : List V} {ds : List D} (sq : SqT K V0 a xs) (r : Reps K V0 xs ds) : Yl K V0 (Itt K a) ds where
  go := fun C o H i l hi => by
    obtain ⟨v, h1, h2⟩ := r.get (List.getElem?_eq_getElem hi)
    exact ⟨xs, v, Same.seqT l.all sq, h1⟩
  yl := fun C o H i x H' l hi y => by
    obtain ⟨rfl, y⟩ := y
    obtain ⟨v, h1, h2⟩ := r.get (List.getElem?_eq_getElem hi)
    have e := y xs (Same.seqT l.all sq)
    rw [h1] at e
    cases e
    exact ⟨_, List.getElem?_eq_getElem hi, Same.refl _, Rep.mono l.vi _ h2⟩
  stop := fun C o H l => ⟨xs, Same.seqT l.all sq, by rw [r.length]; exact Nat.le_refl _⟩
/-- the items of range(lo, hi) -/
def rngD (lo : Int) (n : Nat) : List D := (List.range n).map fun (i : Nat) => D.int (lo + (i : Int))
theorem yl_range {K : PySem.W.Frag} {V0 : Hp} {lo : Int} {n : Nat} : Yl K V0 (Itr lo n) (rngD lo n) where
  go := fun C o H i l hi => by show i < n; simpa [rngD] using hi
  yl := fun C o H i x H' l hi y => by
    obtain ⟨rfl, rfl⟩ := y
    have hi' : i < n := by simpa [rngD] using hi
    exact ⟨.int (lo + i), by simp [rngD, hi'], Same.refl _, .at _⟩
  stop := fun C o H l => by show n ≤ (rngD lo n).length; simp [rngD]
theorem ei_list (h : EE X C ρ e (.lst ds)) : EI X C ρ tg e ds := fun σ H S R q => wpI_of (pi_list pe_wp) (h σ H S _ fun v H1 s1 r1 => by
  cases r1 with
  | lst sq rs => exact ⟨_, rfl, ⟨_, (S.same s1).visIn.seq sq⟩, q _ H1 s1 (yl_list sq rs)⟩)
theorem ei_tup (h : EE X C ρ e (.tup ds)) : EI X C ρ tg e ds := fun σ H S R q => wpI_of (pi_tup pe_wp) (h σ H S _ fun v H1 s1 r1 => by
  cases r1 with
  | tup sq rs => exact ⟨_, rfl, ⟨_, Same.seqT (S.same s1).visIn sq⟩, q _ H1 s1 (yl_tup sq rs)⟩)
theorem ei_range1 {n : Int} (hm : X.mg "range" = none) (h : EE X C ρ e (.int n)) (h0 : -(2 ^ 62) ≤ n) (h1 : n < 2 ^ 62) (hg : Gl X "range" := by rfl) (hs : starEach [e] X.env = [(false, eval e X.env)] := by rfl) : EI X C ρ tg (.Call (.Name "range" p) [e] [] pos) (rngD 0 n.toNat) := fun σ H S R q =>
  wpI_of (pi_range1 hg hm (pa_cons pe_wp pa_nil hs) hs) (h σ H S _ fun v H1 s1 r1 => by
    cases r1
    exact ⟨n, rfl, h0, h1, q _ H1 s1 yl_range⟩)
theorem ei_range2 {lo hi : Int} (hm : X.mg "range" = none) (ha : EE X C ρ a (.int lo)) (hb : EE X C ρ b (.int hi)) (h0 : -(2 ^ 62) ≤ lo ∧ lo < 2 ^ 62 ∧ -(2 ^ 62) ≤ hi ∧ hi < 2 ^ 62) (hg : Gl X "range" := by rfl) (hs : starEach [a, b] X.env = [(false, eval a X.env), (false, eval b X.env)] := by rfl) (hs2 : starEach [b] X.env = [(false, eval b X.env)] := by rfl) :
    EI X C ρ tg (.Call (.Name "range" p) [a, b] [] pos) (rngD lo (hi - lo).toNat) := fun σ H S R q =>
  wpI_of (pi_range2 hg hm (pa_cons pe_wp (pa_cons pe_wp pa_nil hs2) (by rw [hs, hs2])) hs hs2) (ha σ H S _ fun v H1 s1 r1 => hb σ H1 (S.same s1) _ fun u H2 s2 r2 => by
    cases r1
    cases r2
    exact ⟨lo, hi, rfl, h0, q _ H2 (s1.trans s2) yl_range⟩)
def rngDc (lo c : Int) (n : Nat) : List D := (List.range n).map fun (i : Nat) => D.int (lo + (i : Int) * c)
theorem yl_rangeC {K : PySem.W.Frag} {V0 : Hp} {lo c : Int} {n : Nat} : Yl K V0 (Itc lo c n) (rngDc lo c n) where
  go := fun C o H i l hi => by show i < n; simpa [rngDc] using hi
  yl := fun C o H i x H' l hi y => by
    obtain ⟨rfl, rfl⟩ := y
    have hi' : i < n := by simpa [rngDc] using hi
    exact ⟨.int (lo + (i : Nat) * c), by simp [rngDc, hi'], Same.refl _, .at _⟩
  stop := fun C o H l => by show n ≤ (rngDc lo c n).length; simp [rngDc]
theorem ei_range3 {lo hi st : Int} {n : Nat} (hm : X.mg "range" = none) (ha : EE X C ρ a (.int lo)) (hb : EE X C ρ b (.int hi)) (hc : EE X C ρ c (.int st)) (hr : RgC lo hi st n) (hg : Gl X "range" := by rfl) (hs : starEach [a, b, c] X.env = (false, eval a X.env) :: starEach [b, c] X.env := by rfl) (hs2 : starEach [b, c] X.env = (false, eval b X.env) :: starEach [c] X.env := by rfl)
    (hs3 : starEach [c] X.env = (false, eval c X.env) :: starEach [] X.env := by rfl) (hpl : (backTo pos (starEach [b, c] X.env)).any (·.1) = false := by rfl) : EI X C ρ tg (.Call (.Name "range" p) [a, b, c] [] pos) (rngDc lo st n) := fun σ H S R q =>
  wpI_of (pi_range3 hg hm (pa_cons pe_wp (pa_cons pe_wp (pa_cons pe_wp pa_nil hs3) hs2) hs) hs hpl) (ha σ H S _ fun v H1 s1 r1 => hb σ H1 (S.same s1) _ fun u H2 s2 r2 => hc σ H2 ((S.same s1).same s2) _ fun w H3 s3 r3 => by
    cases r1
    cases r2
    cases r3
    exact ⟨lo, hi, st, n, rfl, hr, q _ H3 ((s1.trans s2).trans s3) yl_rangeC⟩)
/-- pairs of zip -/
def zipD (xs ys : List D) : List D := List.zipWith (fun x y => D.tup [x, y]) xs ys
theorem zipD_get {xs ys : List D} {i : Nat} {x y : D} (h1 : xs[i]? = some x) (h2 : ys[i]? = some y) : (zipD xs ys)[i]? = some (.tup [x, y]) := by
  unfold zipD
  rw [List.getElem?_zipWith, h1, h2]
theorem zipD_len (xs ys : List D) : (zipD xs ys).length = min xs.length ys.length := by unfold zipD; rw [List.length_zipWith]
theorem yl_pair {K : PySem.W.Frag} {V0 H : Hp} {C : Ctx} {o : List Addr} {T : Addr} {x y : V} {d1 d2 : D} (l : Later C V0 o H) (hT : H T = none) (r1 : Rep K V0 x d1) (r2 : Rep K V0 y d2) : Rep K (vis C o (upd H T (.tup [x, y]))) (.ref T) (.tup [d1, d2]) := by
  have n0 : C.H0 T = none := l.hh.free hT
  have no : T ∉ o := fun z => l.fr T (.inl z) hT
  have nh : T ∉ C.hid := fun z => l.fr T (.inr z) hT
  have m : Same V0 (vis C o (upd H T (.tup [x, y]))) := l.vi.trans (vis_same (same_upd hT))
  exact .tup (.inl (.inl (by rw [vis_at n0 no nh, upd_same]))) (.cons (Rep.mono m _ r1) (.cons (Rep.mono m _ r2) .nil))
theorem yl_zipL {K : PySem.W.Frag} {V0 : Hp} {a b : Addr} {xs ys : List V} {ds es : List D} (sq : SqL K V0 a xs) (r : Reps K V0 xs ds) (sq2 : SqL K V0 b ys) (r2 : Reps K V0 ys es) : Yl K V0 (Itz K a b) (zipD ds es) where
  go := fun C o H i l hi => by
    rw [zipD_len] at hi
    obtain ⟨v, h1, _⟩ := r.get (List.getElem?_eq_getElem (show i < ds.length by omega))
    obtain ⟨u, h2, _⟩ := r2.get (List.getElem?_eq_getElem (show i < es.length by omega))
    exact ⟨xs, ys, v, u, l.all.seq sq, l.all.seq sq2, h1, h2⟩
  yl := fun C o H i x H' l hi y => by
    rw [zipD_len] at hi
    obtain ⟨T, v, u, rfl, hT, rfl, f1, f2⟩ := y
    obtain ⟨v', h1, q1⟩ := r.get (List.getElem?_eq_getElem (show i < ds.length by omega))
    obtain ⟨u', h2, q2⟩ := r2.get (List.getElem?_eq_getElem (show i < es.length by omega))
    have e1 := f1 xs (l.all.seq sq)
    have e2 := f2 ys (l.all.seq sq2)
    rw [h1] at e1
    rw [h2] at e2
    cases e1
    cases e2
    exact ⟨_, zipD_get (List.getElem?_eq_getElem _) (List.getElem?_eq_getElem _), same_upd hT, yl_pair l hT q1 q2⟩
  stop := fun C o H l => ⟨xs, ys, l.all.seq sq, l.all.seq sq2, by rw [zipD_len, r.length, r2.length]; omega⟩
theorem yl_zipT {K : PySem.W.Frag} {V0 : Hp} {a b : Addr} {xs ys : List V} {ds es : List D} (sq : SqT K V0 a xs) (r : Reps K V0 xs ds) (sq2 : SqT K V0 b ys) (r2 : Reps K V0 ys es) : Yl K V0 (RZ.ItzT K a b) (zipD ds es) where
  go := fun C o H i l hi => by
    rw [zipD_len] at hi
    obtain ⟨v, h1, _⟩ := r.get (List.getElem?_eq_getElem (show i < ds.length by omega))
    obtain ⟨u, h2, _⟩ := r2.get (List.getElem?_eq_getElem (show i < es.length by omega))
    exact ⟨xs, ys, v, u, Same.seqT l.all sq, Same.seqT l.all sq2, h1, h2⟩
  yl := fun C o H i x H' l hi y => by
    rw [zipD_len] at hi
    obtain ⟨T, v, u, rfl, hT, rfl, f1, f2⟩ := y
    obtain ⟨v', h1, q1⟩ := r.get (List.getElem?_eq_getElem (show i < ds.length by omega))
    obtain ⟨u', h2, q2⟩ := r2.get (List.getElem?_eq_getElem (show i < es.length by omega))
    have e1 := f1 xs (Same.seqT l.all sq)
    have e2 := f2 ys (Same.seqT l.all sq2)
    rw [h1] at e1
    rw [h2] at e2
    cases e1
    cases e2
    exact ⟨_, zipD_get (List.getElem?_eq_getElem _) (List.getElem?_eq_getElem _), same_upd hT, yl_pair l hT q1 q2⟩
  stop := fun C o H l => ⟨xs, ys, Same.seqT l.all sq, Same.seqT l.all sq2, by rw [zipD_len, r.length, r2.length]; omega⟩
theorem ei_zipL {elts : List Expr} {kk : Nat} {tpos : Pos} {es : List D} (hm : X.mg "zip" = none) (ha : EE X C ρ a (.lst ds)) (hb : EE X C ρ b (.lst es)) (hg : Gl X "zip" := by rfl) (hs : starEach [a, b] X.env = (false, eval a X.env) :: starEach [b] X.env := by rfl) (hs2 : starEach [b] X.env = (false, eval b X.env) :: starEach [] X.env := by rfl) (hpl : (backTo pos (starEach [b] X.env)).any (·.1) = false := by rfl) :
    EI X C ρ (.Tuple elts kk tpos) (.Call (.Name "zip" p) [a, b] [] pos) (zipD ds es) := fun σ H S R q =>
  wpI_of (RZ.pi_zipA hg hm (pa_cons pe_wp (pa_cons pe_wp pa_nil hs2) hs) hs hpl) (ha σ H S _ fun v H1 s1 r1 => hb σ H1 (S.same s1) _ fun u H2 s2 r2 => by
    cases r1 with
    | lst sq rs =>
      cases r2 with
      | lst sq2 rs2 =>
        have m := vis_same (C := C) (o := ows ρ) s2
        have i2 := ((S.same s1).same s2).visIn
        exact ⟨_, _, _, _, rfl, .inl ⟨i2.seq (m.seq sq), i2.seq sq2, q _ H2 (s1.trans s2) (yl_zipL (m.seq sq) (Reps.mono m _ rs) sq2 rs2)⟩⟩)
theorem ei_zipT {elts : List Expr} {kk : Nat} {tpos : Pos} {es : List D} (hm : X.mg "zip" = none) (ha : EE X C ρ a (.tup ds)) (hb : EE X C ρ b (.tup es)) (hg : Gl X "zip" := by rfl) (hs : starEach [a, b] X.env = (false, eval a X.env) :: starEach [b] X.env := by rfl) (hs2 : starEach [b] X.env = (false, eval b X.env) :: starEach [] X.env := by rfl) (hpl : (backTo pos (starEach [b] X.env)).any (·.1) = false := by rfl) :
    EI X C ρ (.Tuple elts kk tpos) (.Call (.Name "zip" p) [a, b] [] pos) (zipD ds es) := fun σ H S R q =>
  wpI_of (RZ.pi_zipA hg hm (pa_cons pe_wp (pa_cons pe_wp pa_nil hs2) hs) hs hpl) (ha σ H S _ fun v H1 s1 r1 => hb σ H1 (S.same s1) _ fun u H2 s2 r2 => by
    cases r1 with
    | tup sq rs =>
      cases r2 with
      | tup sq2 rs2 =>
        have m := vis_same (C := C) (o := ows ρ) s2
        have i2 := ((S.same s1).same s2).visIn
        exact ⟨_, _, _, _, rfl, .inr ⟨Same.seqT i2 (Same.seqT m sq), Same.seqT i2 sq2, q _ H2 (s1.trans s2) (yl_zipT (Same.seqT m sq) (Reps.mono m _ rs) sq2 rs2)⟩⟩)
/-- for -/
theorem ws_for {iter : Expr} {body : List Stmt} {items : List D} (Iv : Nat → Rho → Prop) (hp : PassesOwn (model X.prog X.w) X.A X.env X.xe) (hi : EI X C ρ tg iter items) (h0 : Iv 0 ρ)
    (hs : ∀ (i : Nat) (d : D) ρ, items[i]? = some d → Iv i ρ → ∃ ρg L0, GT X C ρ tg d ρg L0 ∧ WP X C ρg body { P with nx := Iv (i + 1), ct := Iv (i + 1), bk := P.nx }) (hd : ∀ ρ, Iv items.length ρ → P.nx ρ)
    (hc : X.calm = true := by rfl) (hf : ∀ x, foldedSetIterable iter X.env x = pure x := by intro _; rfl) : WS X C ρ (.For tg iter body [] pos) P := fun σ H D S L => by
  refine wpS_of (ps_for hp hc pi_wp pg_wp pss_wp hf) (hi σ H S _ fun J H1 s1 y1 => ?_)
  have S1 := S.same s1
  refine ⟨fun i m σ' H' => i + m = items.length ∧ ∃ ρ', Iv i ρ' ∧ SRel X.K C H' σ' ρ' ∧ Same (vis C (ows ρ) H1) (vis C (ows ρ') H'), ⟨items.length, by omega, ρ, h0, S1, Same.refl _⟩, ?_⟩
  rintro i m σ2 H2 ⟨em, ρ2, i2, S2, v2⟩
  have L2 := L.later ((vis_same s1).trans v2)
  by_cases hlt : i < items.length
  · refine .inr ⟨y1.go C _ _ i (S2.lat v2) hlt, fun σ' H' => ∃ ρ', Iv (i + 1) ρ' ∧ SRel X.K C H' σ' ρ' ∧ Same (vis C (ows ρ) H1) (vis C (ows ρ') H'), fun σ' H' ⟨ρ', q1, S', v'⟩ => ⟨m - 1, by omega, by omega, ρ', q1, S', v'⟩, fun x H3 y => ?_⟩
    obtain ⟨d, hd', s3, r3⟩ := y1.yl C _ _ i x H3 (S2.lat v2) hlt y
    obtain ⟨ρg, L0, hg, hb⟩ := hs i d ρ2 hd' i2
    refine hg σ2 H3 x (S2.same s3) r3 _ fun σ4 S4 s4 _ => ?_
    have v4 := (v2.trans (vis_same s3)).trans s4
    have L4 := L.later ((vis_same s1).trans v4)
    exact hb σ4 H3 _ S4 ⟨fun ρ' σ' H' q S' z => ⟨ρ', q, S', v4.trans z⟩, L4.nx, fun ρ' σ' H' q S' z => ⟨ρ', q, S', v4.trans z⟩, L4.rt, L4.tk⟩
  · have e : i = items.length := by omega
    subst e
    exact .inl ⟨y1.stop C _ _ (S2.lat v2), L2.nx _ _ _ (hd _ i2) S2 (Same.refl _)⟩
end
end DL

namespace DL
open PySem PySem.Spec PyProof.Rows L2
/-! ### list comprehensions -/
def wipeR (ρ : Rho) : List Nat → Rho
  | [] => ρ
  | v :: vs => (wipeR ρ vs).set v .no
theorem ows_wipe {ρ : Rho} {b : Addr} : ∀ {vs : List Nat}, b ∈ ows (wipeR ρ vs) → b ∈ ows ρ
  | [], h => h
  | v :: vs, h => (ows_set_sub h).elim (fun z => ows_wipe (vs := vs) z) fun z => nomatch z
theorem SRel.wiped {K : PySem.W.Frag} {C : Ctx} {H : Hp} {σ : L2.St} {ρ : Rho} (S : SRel K C H σ ρ) : ∀ vs : List Nat, SRel K C H (wipe σ vs) (wipeR ρ vs)
  | [] => S
  | v :: vs => ((S.wiped vs).setNo v none).1
theorem wipe_in {σ : L2.St} {i : Nat} : ∀ {vs : List Nat}, i ∈ vs → i < σ.length → (wipe σ vs)[i]? = some none
  | v :: vs, h, l => by
    unfold wipe
    by_cases e : v = i
    · subst e
      exact List.getElem?_set_self (by rw [wipe_length]; exact l)
    · rw [List.getElem?_set_ne e]
      refine wipe_in ?_ l
      rcases List.mem_cons.mp h with z | z
      · exact absurd z.symm e
      · exact z
theorem wipe_again {σ σ' : L2.St} {vs L : List Nat} (hl : σ'.length = (wipe σ vs).length) (hL : ∀ j ∈ L, j ∈ vs) (h : ∀ j, j ∉ L → σ'[j]? = (wipe σ vs)[j]?) : wipe σ' vs = wipe σ vs := by
  apply List.ext_getElem?
  intro j
  by_cases m : j ∈ vs
  · by_cases hj : j < σ.length
    · rw [wipe_in m hj, wipe_in m (by rw [hl, wipe_length]; exact hj)]
    · rw [List.getElem?_eq_none (by rw [wipe_length, hl, wipe_length]; omega), List.getElem?_eq_none (by rw [wipe_length]; omega)]
  · rw [wipe_out m, h j fun z => m (hL j z)]
/-- the contexts in which a comprehension's parts run -/
def Blk (X : Cx) (scope : Scope) (X' : Cx) : Prop := ∃ (s : Shared) (H : Hp) (c : Addr) (cl : List (Str × Addr)) (fp : List Addr), X' = X.blk s H scope (compEnvC scope cl c X.env) fp
/-- the tests of a comprehension -/
def wpTs (X : Cx) (ifs : List Expr) : TT := fun σ H Q => ∀ pins s, Inv X pins σ H s →
  wpAny (model X.prog X.w) X.A (forIn ifs true fun c r => if r = true then do let ok ← isTrue c X.env (eval c X.env); pure (ForInStep.yield ok) else pure (ForInStep.yield r)) (TP X pins σ Q) X.xe s
def ETs (X : Cx) (C : Ctx) (ρ : Rho) (ifs : List Expr) (c : Bool) : Prop :=
  ∀ σ H, SRel X.K C H σ ρ → ∀ Q : Bool → Hp → Prop, (∀ H', Same H H' → Q c H') → wpTs X ifs σ H Q
section
variable {X : Cx} {C : Ctx} {ρ ρw : Rho} {e elt tg iter : Expr} {ifs : List Expr} {scope : Scope} {own : List (Str × Nat)} {pos spos py : Pos} {P : Post} {k : Bool}
theorem ets_nil : ETs X C ρ [] true := fun σ H S Q q => fun pins s I => pts_nil.run pins s σ H Q I (q H (Same.refl _))
theorem ets_one (h : ET X C ρ e k) : ETs X C ρ [e] k := fun σ H S Q q => fun pins s I => (pts_one pt_wp).run pins s σ H Q I (h σ H S Q q)
theorem SRel.hide {K : PySem.W.Frag} {H : Hp} {σ : L2.St} (S : SRel K C H σ ρ) {D : Addr} {o : HO} (n : H D = none) : SRel K { C with hid := D :: C.hid } (upd H D o) σ ρ ∧ Same (vis C (ows ρ) H) (vis { C with hid := D :: C.hid } (ows ρ) (upd H D o)) := by
  obtain ⟨n0, no, nh⟩ := S.new n
  have sm : Same (vis C (ows ρ) H) (vis { C with hid := D :: C.hid } (ows ρ) (upd H D o)) := fun b u hb => by
    have nb : b ≠ D := ne_of_none (S.visIn _ _ hb) n
    unfold vis at hb ⊢
    simp only [List.mem_cons, nb, false_or, upd_ne nb]
    exact hb
  have sH : Same H (upd H D o) := same_upd n
  refine ⟨⟨S.len, S.gh, S.hh.trans sH, S.nd, fun a h => ?_, fun a h z => ?_, fun i d h => ?_, fun i a ds h => ?_, fun i a ds h => ?_⟩, sm⟩
  · rcases h with h | h
    · exact ⟨(S.fr a (.inl h)).1, fun z => (S.fr a (.inl h)).2 (sH.free z)⟩
    · rcases List.mem_cons.mp h with z | z
      · subst z
        exact ⟨n0, by rw [upd_same]; intro z; cases z⟩
      · exact ⟨(S.fr a (.inr z)).1, fun y => (S.fr a (.inr z)).2 (sH.free y)⟩
  · rcases List.mem_cons.mp z with z | z
    · exact no (z ▸ h)
    · exact S.dj a h z
  · obtain ⟨v, h1, h2⟩ := S.im i d h
    exact ⟨v, h1, Rep.mono sm _ h2⟩
  · obtain ⟨h1, xs, h2, h3⟩ := S.ow i a ds h
    exact ⟨h1, xs, sH _ _ h2, Reps.mono sm _ h3⟩
  · obtain ⟨h1, xs, h2, h3⟩ := S.od i a ds h
    exact ⟨h1, xs, sH _ _ h2, h3.mono sm⟩
/-- what is hidden may change -/
theorem vis_hid {C : Ctx} {o : List Addr} {H : Hp} {a : Addr} {x : HO} (ha : a ∈ C.hid) : vis C o (upd H a x) = vis C o H := by
  funext b
  by_cases e : b = a
  · subst e
    unfold vis
    rw [if_pos (Or.inr ha)]
    rw [if_pos (Or.inr ha)]
  · unfold vis
    rw [upd_ne e]
theorem SRel.updHid {K : PySem.W.Frag} {H : Hp} {σ : L2.St} (S : SRel K C H σ ρ) {D : Addr} {o : HO} (m : D ∈ C.hid) : SRel K C (upd H D o) σ ρ := by
  have ev : vis C (ows ρ) (upd H D o) = vis C (ows ρ) H := vis_hid m
  have n0 := (S.fr D (.inr m)).1
  refine ⟨S.len, S.gh, fun b u q => ?_, S.nd, fun a h => ⟨(S.fr a h).1, ?_⟩, S.dj, fun i d h => by rw [ev]; exact S.im i d h, fun i a ds h => ?_, fun i a ds h => ?_⟩
  · rw [upd_ne (fun z => by rw [z, n0] at q; cases q)]
    exact S.hh _ _ q
  · by_cases z : a = D
    · rw [z, upd_same]; intro y; cases y
    · rw [upd_ne z]; exact (S.fr a h).2
  · obtain ⟨h1, xs, h2, h3⟩ := S.ow i a ds h
    have na : a ≠ D := fun z => S.dj a (mem_ows h rfl) (z ▸ m)
    rw [ev]
    exact ⟨h1, xs, by rw [upd_ne na]; exact h2, h3⟩
  · obtain ⟨h1, xs, h2, h3⟩ := S.od i a ds h
    have na : a ≠ D := fun z => S.dj a (mem_ows h rfl) (z ▸ m)
    rw [ev]
    exact ⟨h1, xs, by rw [upd_ne na]; exact h2, h3⟩
/-- the target's, the tests', the element's reading: the same in each block -/
def cG (X : Cx) (scope : Scope) (tg : Expr) : TG := fun v σ H Q => ∃ (C : Ctx) (ρ : Rho) (d : D) (ρg : Rho) (L : List Nat), SRel X.K C H σ ρ ∧ Rep X.K (vis C (ows ρ) H) v d ∧ (∀ X', Blk X scope X' → GT X' C ρ tg d ρg L) ∧
  ∀ σ', SRel X.K C H σ' ρg → Same (vis C (ows ρ) H) (vis C (ows ρg) H) → Agr L σ σ' → Q σ' H
def cT (X : Cx) (scope : Scope) (ifs : List Expr) : TT := fun σ H Q => ∃ (C : Ctx) (ρ : Rho) (c : Bool), SRel X.K C H σ ρ ∧ (∀ X', Blk X scope X' → ETs X' C ρ ifs c) ∧ ∀ H', Same H H' → Q c H'
def cE (X : Cx) (scope : Scope) (elt : Expr) : TE := fun σ H Q => ∃ (C : Ctx) (ρ : Rho) (d : D), SRel X.K C H σ ρ ∧ (∀ X', Blk X scope X' → EE X' C ρ elt d) ∧ ∀ v H', Same H H' → Rep X.K (vis C (ows ρ) H') v d → Q v H'
theorem cG_ok (s : Shared) (H : Hp) (c : Addr) (cl : List (Str × Addr)) (fp : List Addr) : PG (X.blk s H scope (compEnvC scope cl c X.env) fp) tg (cG X scope tg) := ⟨fun pins s' σ H' v u Q I r ⟨C, ρ, d, ρg, L, S, rr, hg, q⟩ => hg _ ⟨s, H, c, cl, fp, rfl⟩ σ H' v S rr Q q pins s' u I r⟩
theorem cT_ok (s : Shared) (H : Hp) (c : Addr) (cl : List (Str × Addr)) (fp : List Addr) : PTs (X.blk s H scope (compEnvC scope cl c X.env) fp) ifs (cT X scope ifs) := ⟨fun pins s' σ H' Q I ⟨C, ρ, k, S, hg, q⟩ => hg _ ⟨s, H, c, cl, fp, rfl⟩ σ H' S Q q pins s' I⟩
theorem cE_ok (s : Shared) (H : Hp) (c : Addr) (cl : List (Str × Addr)) (fp : List Addr) : PE (X.blk s H scope (compEnvC scope cl c X.env) fp) elt (cE X scope elt) := ⟨fun pins s' σ H' Q I ⟨C, ρ, d, S, hg, q⟩ => hg _ ⟨s, H, c, cl, fp, rfl⟩ σ H' S Q q pins s' I⟩
/-- what a comprehension's parts must show -/
def LcOk {β : Type} (X : Cx) (scope : Scope) (own : List (Str × Nat)) (tg : Expr) (ifs : List Expr) (elt : Expr) (ρw : Rho) (xs : List β) (enc : β → D) (p : β → Bool) (f : β → D) : Prop :=
  ∀ (C : Ctx) (i : Nat) (x : β), xs[i]? = some x → ∃ ρg L, (∀ X', Blk X scope X' → GT X' C ρw tg (enc x) ρg L) ∧ ows ρg = ows ρw ∧ (∀ j ∈ L, j ∈ own.map (·.2)) ∧ (∀ X', Blk X scope X' → ETs X' C ρg ifs (p x)) ∧ (p x = true → ∀ X', Blk X scope X' → EE X' C ρg elt (f x))
theorem lc_reading {β : Type} {xs : List β} {enc : β → D} {p : β → Bool} {f : β → D} {σ : L2.St} {H : Hp} (S : SRel X.K C H σ ρ) (hi : EI X C ρ tg iter (xs.map enc)) (hw : wipeR ρ (own.map (·.2)) = ρw) (how : ows ρw = ows ρ) (hz : xs.length ≤ sizeLine)
    (hs : LcOk X scope own tg ifs elt ρw xs enc p f) {Q : VK} (q : ∀ a vs H', H a = none → Same H H' → H' a = some (.lst vs) → Reps X.K (vis C (a :: ows ρ) H') vs ((xs.filter p).map f) → Q (.ref a) H') :
    tLc (wpI X tg iter) (cG X scope tg) (cT X scope ifs) (cE X scope elt) (own.map (·.2)) σ H Q := by
  refine hi σ H S _ fun J H1 s1 y1 D nD => ?_
  have S1 := S.same s1
  obtain ⟨Sh, vh⟩ := S1.hide (o := .lst []) nD
  have mD : D ∈ (D :: C.hid) := List.mem_cons_self
  have Sw : SRel X.K { C with hid := D :: C.hid } (upd H1 D (.lst [])) (wipe σ (own.map (·.2))) ρw := hw ▸ Sh.wiped _
  refine ⟨fun i m H' => i + m = xs.length ∧ ∃ acc, H' D = some (.lst acc) ∧ SRel X.K { C with hid := D :: C.hid } H' (wipe σ (own.map (·.2))) ρw ∧ Reps X.K (vis { C with hid := D :: C.hid } (ows ρw) H') acc (((xs.take i).filter p).map f) ∧
    Same (vis C (ows ρ) H1) (vis { C with hid := D :: C.hid } (ows ρw) H') ∧ Same H1 H', ⟨xs.length, by omega, [], upd_same, Sw, by rw [List.take_zero]; exact .nil, by rw [how]; exact vh, same_upd nD⟩, ?_⟩
  rintro i m H2 ⟨em, acc, hD, S2, racc, v2, h12⟩
  by_cases hlt : i < xs.length
  · have hlt' : i < (xs.map enc).length := by rw [List.length_map]; exact hlt
    have hx : xs[i]? = some xs[i] := List.getElem?_eq_getElem hlt
    obtain ⟨ρg, L, hG, eg, hL, hT, hE⟩ := hs { C with hid := D :: C.hid } i xs[i] hx
    have tk : xs.take (i + 1) = xs.take i ++ [xs[i]] := by rw [List.take_add_one, hx]; rfl
    refine .inr ⟨y1.go _ _ _ i (S2.lat v2) hlt', fun H' => ∃ acc, H' D = some (.lst acc) ∧ SRel X.K { C with hid := D :: C.hid } H' (wipe σ (own.map (·.2))) ρw ∧ Reps X.K (vis { C with hid := D :: C.hid } (ows ρw) H') acc (((xs.take (i + 1)).filter p).map f) ∧
      Same (vis C (ows ρ) H1) (vis { C with hid := D :: C.hid } (ows ρw) H') ∧ Same H1 H', fun H' ⟨acc', w⟩ => ⟨m - 1, by omega, by omega, acc', w⟩, fun x H3 y => ?_⟩
    obtain ⟨d, hd', s3, r3⟩ := y1.yl _ _ _ i x H3 (S2.lat v2) hlt' y
    have ed : d = enc xs[i] := by
      rw [List.getElem?_map, hx] at hd'
      exact (Option.some.inj hd').symm
    subst ed
    refine ⟨_, ρw, enc xs[i], ρg, L, S2.same s3, r3, hG, fun σ4 S4 s4 k4 => ⟨wipe_again k4.1 hL k4.2, ?_⟩⟩
    refine ⟨_, ρg, p xs[i], S4, hT, fun H5 s5 => ?_⟩
    have w5 : SRel X.K { C with hid := D :: C.hid } H5 (wipe σ (own.map (·.2))) ρw := (S2.same s3).same s5
    have vv5 : Same (vis { C with hid := D :: C.hid } (ows ρw) H2) (vis { C with hid := D :: C.hid } (ows ρw) H5) := vis_same (s3.trans s5)
    cases hp : p xs[i] with
    | true =>
      refine iteT ⟨_, ρg, f xs[i], S4.same s5, hE hp, fun v H6 s6 r6 => ?_⟩
      have s26 := (s3.trans s5).trans s6
      have hlen : acc.length ≤ i := by
        have h1 := racc.length
        rw [List.length_map] at h1
        have h2 := List.length_filter_le p (xs.take i)
        rw [List.length_take] at h2
        omega
      refine ⟨acc, s26 _ _ hD, by omega, acc ++ [v], upd_same, (S2.same s26).updHid mD, ?_, ?_, ?_⟩
      · rw [vis_hid mD, tk, List.filter_append, List.map_append]
        refine (Reps.mono (vis_same s26) _ racc).append ?_
        have e1 : List.filter p [xs[i]] = [xs[i]] := by simp [hp]
        rw [e1]
        rw [eg] at r6
        exact .cons r6 .nil
      · rw [vis_hid mD]
        exact v2.trans (vis_same s26)
      · intro b u hb
        have nb : b ≠ D := ne_of_none hb nD
        rw [upd_ne nb]
        exact s26 _ _ (h12 _ _ hb)
    | false =>
      refine iteF ⟨acc, (s3.trans s5) _ _ hD, w5, ?_, v2.trans vv5, h12.trans (s3.trans s5)⟩
      rw [tk, List.filter_append, List.map_append]
      have e1 : List.filter p [xs[i]] = [] := by simp [hp]
      rw [e1, List.map_nil, List.append_nil]
      exact Reps.mono vv5 _ racc
  · have e : i = xs.length := by omega
    subst e
    refine .inl ⟨by have h := y1.stop _ _ _ (S2.lat v2); rw [List.length_map] at h; exact h, q D acc H2 (s1.free nD) (s1.trans h12) hD ?_⟩
    rw [List.take_length] at racc
    refine Reps.mono (fun b u hb => ?_) _ racc
    rw [how] at hb
    unfold vis at hb ⊢
    simp only [List.mem_cons] at hb ⊢
    split
    · rename_i z; rw [if_pos z] at hb; exact hb
    · rename_i z
      rw [if_neg z] at hb
      split at hb
      · cases hb
      · rename_i z2
        rw [if_neg (by intro z3; exact z2 (by rcases z3 with (z3 | z3) | z3; exact .inr (.inl z3); exact .inl z3; exact .inr (.inr z3)))]
        exact hb
/-- a comprehension as a value -/
theorem ef_lc {β : Type} {xs : List β} {enc : β → D} {p : β → Bool} {f : β → D} (hi : EI X C ρ tg iter (xs.map enc)) (hs : LcOk X scope own tg ifs elt ρw xs enc p f) (hw : wipeR ρ (own.map (·.2)) = ρw) (how : ows ρw = ows ρ) (hz : xs.length ≤ sizeLine)
    (ok : BlkOk X.N X.env.scope scope own) (hN : X.N.Nodup) (hc : X.calm = true := by rfl) (hf : ∀ x, foldedSetIterable iter X.env x = pure x := by intro _; rfl) : EF X C ρ (.ListComp elt [⟨tg, iter, ifs, 0⟩] scope pos) ((xs.filter p).map f) := fun σ H S Q q =>
  wpE_of (pe_lc hc hN pi_wp ok cG_ok cT_ok cE_ok hf) (lc_reading S hi hw how hz hs q)
/-- name = [..] -/
theorem ws_setLc {β : Type} (i : Nat) {y : Str} {xs : List β} {enc : β → D} {p : β → Bool} {f : β → D} (hi : EI X C ρ tg iter (xs.map enc)) (hs : LcOk X scope own tg ifs elt ρw xs enc p f) (h : ∀ a, P.nx (ρ.set i (.ow a ((xs.filter p).map f)))) (hw : wipeR ρ (own.map (·.2)) = ρw) (how : ows ρw = ows ρ) (hz : xs.length ≤ sizeLine)
    (ok : BlkOk X.N X.env.scope scope own) (hN : X.N.Nodup) (hl : i < ρ.length := by exact Nat.le_of_ble_eq_true rfl) (hy : X.N[i]? = some y := by rfl) (hyl : X.env.scope.names.lookup y = some .local := by rfl) (hsw : swapsWith (.ListComp elt [⟨tg, iter, ifs, 0⟩] scope pos) (some (.Name y py)) spos.line X.env = pure true := by exact sw_true rfl rfl rfl (by decide +kernel))
    (hc : X.calm = true := by rfl) (hf : ∀ x, foldedSetIterable iter X.env x = pure x := by intro _; rfl) : WS X C ρ (.Assign [.Name y py] (.ListComp elt [⟨tg, iter, ifs, 0⟩] scope pos) spos) P := fun σ H D S L =>
  wpS_of (ps_setLc hc hN hy hyl hsw pi_wp ok cG_ok cT_ok cE_ok hf) (lc_reading S hi hw how hz hs fun a vs H' n s l r => by
    obtain ⟨S2, s2⟩ := S.setOw i hl n s l r
    exact L.nx _ _ _ (h a) S2 s2)

/-! ### raise -/
/-- what the top says of an exception class of one's own -/
structure ExcT (K : PySem.W.Frag) (mg : Str → Option Value) (x : Str) (Cl : Addr) : Prop where
  gC : mg x = some (.ref Cl)
  xF : PySem.W.excIn K Cl [.type "ValueError", .type "Exception", .type "BaseException", .type "object"] "ValueError.__new__" = true
  kF : PySem.W.keepIn K (.ref Cl) = true
  bF : PySem.W.subIn K (.ref Cl) (.type "BaseException") = some true
  tF : PySem.W.typeIn K (.ref Cl) = some (.type "type")
  ec : ExcC K Cl
theorem ws_raise {x m : Str} {Cl : Addr} {j : Nat} {p p2 p3 : Pos} (T : ExcT X.K X.mg x Cl) (h : P.er Cl ρ) (hc : X.calm = true := by rfl) (hg : Gl X x := by rfl) (hdb : (x == ("__debug__" : Str)) = false := by decide) : WS X C ρ (.Raise (some (.Call (.Name x p) [.Constant (.str m) j p2] [] p3)) none pos) P := fun σ H D S L => by
  obtain ⟨W, tk, hW⟩ := L.tk
  exact wpS_of (ps_raise hc tk (pmk_own PySem.F.excBase_ValueError T.xF T.gC T.kF (raises_own T.bF T.tF) hg hdb)) (hW Cl ρ σ H h S (Same.refl _))
end

/-! ### a def keeps its promise -/
def startR (N : List Str) (ds : List D) : Rho := ds.map En.im ++ List.replicate (N.length - ds.length) .no
def fnPost (r : Res) : Post := { nx := fun _ => r = .ok (.im .non), rt := fun t => r = .ok t, er := fun c _ => r = .er c }
theorem srel_start {K : PySem.W.Frag} {H G : Hp} {N ps : List Str} {vs : List V} {ds : List D} (g : Same G H) (r : Reps K G vs ds) : SRel K ⟨H, G, []⟩ H (L2.start N vs) (startR N ds) := by
  have o0 : ows (startR N ds) = [] := by
    unfold ows startR
    rw [List.filterMap_eq_nil_iff]
    intro e he
    rcases List.mem_append.mp he with h | h
    · obtain ⟨d, _, rfl⟩ := List.mem_map.mp h
      rfl
    · rw [List.eq_of_mem_replicate h]
      rfl
  have gv : Same G (vis ⟨H, G, []⟩ [] H) := fun b x h => by
    unfold vis
    rw [if_pos (show (H b).isSome = true by rw [g _ _ h]; rfl)]
    exact h
  have only : ∀ (i : Nat) (e : En), (startR N ds)[i]? = some e → (∃ d, e = .im d ∧ ds[i]? = some d ∧ i < ds.length) ∨ e = .no := fun i e h => by
    unfold startR at h
    by_cases hi : i < ds.length
    · rw [List.getElem?_append_left (by simpa using hi), List.getElem?_map] at h
      cases q : ds[i]? with
      | none => rw [q] at h; cases h
      | some d => rw [q] at h; exact .inl ⟨d, (Option.some.inj h).symm, rfl, hi⟩
    · rw [List.getElem?_append_right (by simpa using hi), List.getElem?_replicate] at h
      split at h
      · exact .inr (Option.some.inj h).symm
      · cases h
  refine ⟨?_, g, Same.refl _, by rw [o0]; exact List.nodup_nil, fun a h => ?_, fun a h => ?_, fun i d h => ?_, fun i a ds' h => ?_, fun i a ds' h => ?_⟩
  · unfold L2.start startR
    simp [r.length]
  · rw [o0] at h
    rcases h with h | h <;> cases h
  · rw [o0] at h
    cases h
  · rcases only i _ h with ⟨d', e, hd, hi⟩ | e
    · cases e
      obtain ⟨v, h1, h2⟩ := r.get hd
      refine ⟨v, ?_, ?_⟩
      · unfold L2.start
        rw [List.getElem?_append_left (by rw [List.length_map, r.length]; exact hi), List.getElem?_map, h1]
        rfl
      · rw [o0]
        exact Rep.mono gv _ h2
    · cases e
  · rcases only i _ h with ⟨d', e, _⟩ | e <;> cases e
  · rcases only i _ h with ⟨d', e, _⟩ | e <;> cases e
section
variable {P : Program} {w : World} {K : PySem.W.Frag} {mg : Str → Option Value} {base : Heap}
theorem spF_len {α : Type} {arg : α → List D} {pre : α → Prop} {res : α → Res} {n : Nat} (hl : ∀ y, (arg y).length = n) : ∀ vs H Q E, spF K arg pre res vs H Q E → vs.length = n := fun vs H Q E h => by
  obtain ⟨G, y, _, r, _⟩ := h
  rw [r.length, hl]
theorem fn_of_body {α : Type} {arg : α → List D} {pre : α → Prop} {res : α → Ret} {x qual : Str} {st : Stmt} {f : Addr} {fd : FuncData} {N ps : List Str} {k : Nat} (F : Fun K x qual st f fd) (S : FnScope N ps (defScope st)) (hl : ∀ y, (arg y).length = ps.length)
    (body : ∀ (cdv : Value) (A : Around) (outer : List Env) (s : Shared) (H : Hp) (E : XK) (C : Ctx), Room k (A.deeper (envOfC qual (defScope st) s.heap.objs.size f cdv)) → ∀ y, pre y →
      WP (cxOf CX0 P w K mg base N qual (defScope st) f cdv A outer s H E).nox C (startR N (arg y)) (defBody st) (fnPost (.ok (res y)))) : FnOk P w K mg base CX0 (k + 1) f fd ps (spF K arg pre fun y => .ok (res y)) := by
  refine F.ok S (spF_len hl) fun cdv A outer s H vs Q E hr h => ?_
  obtain ⟨G, y, g, r, hp, q, _⟩ := h
  refine ⟨wpSs _ (defBody st), pss_wp, body cdv A outer s H E ⟨H, G, []⟩ hr y hp _ H _ (srel_start (ps := ps) g r) ⟨fun ρ σ H' h S' _ => ?_, fun ρ σ H' h => h.elim, fun ρ σ H' h => h.elim, fun t v H' h s rr => q t v H' h s rr, ⟨fun _ _ _ _ => False, takes0, fun c ρ σ H' h => by cases h⟩⟩⟩
  exact q _ _ H' h S'.hh (.at .non)
/-- a def that raises nothing -/
theorem Cal.of_body {α : Type} {arg : α → List D} {pre : α → Prop} {res : α → Ret} {x qual : Str} {st : Stmt} {f : Addr} {fd : FuncData} {N ps : List Str} {k : Nat} (F : Fun K x qual st f fd) (hm : mg x = some (.ref f)) (hb : Binds K fd ps []) (S : FnScope N ps (defScope st)) (hl : ∀ y, (arg y).length = ps.length)
    (body : ∀ (cdv : Value) (A : Around) (outer : List Env) (s : Shared) (H : Hp) (E : XK) (C : Ctx), Room k (A.deeper (envOfC qual (defScope st) s.heap.objs.size f cdv)) → ∀ y, pre y →
      WP (cxOf CX0 P w K mg base N qual (defScope st) f cdv A outer s H E).nox C (startR N (arg y)) (defBody st) (fnPost (.ok (res y)))) : Cal P w K mg base (k + 1) x ps (spF K arg pre fun y => .ok (res y)) :=
  ⟨f, fd, CX0, hm, F.kp, hb, fn_of_body F S hl body, fun X _ _ => pass0⟩
/-- a def that may raise -/
theorem CalX.of_body {α : Type} {arg : α → List D} {pre : α → Prop} {res : α → Res} {x qual : Str} {st : Stmt} {f : Addr} {fd : FuncData} {N ps : List Str} {k : Nat} (F : Fun K x qual st f fd) (hm : mg x = some (.ref f)) (hb : Binds K fd ps []) (S : FnScope N ps (defScope st)) (hl : ∀ y, (arg y).length = ps.length)
    (body : ∀ (cdv : Value) (A : Around) (outer : List Env) (s : Shared) (H : Hp) (E : XK) (C : Ctx), Room k (A.deeper (envOfC qual (defScope st) s.heap.objs.size f cdv)) → ∀ y, pre y →
      WP (cxOf (L2.CX P w) P w K mg base N qual (defScope st) f cdv A outer s H E) C (startR N (arg y)) (defBody st) (fnPost (res y))) : CalX P w K mg base (k + 1) x ps (spF K arg pre res) := by
  refine ⟨f, fd, hm, F.kp, hb, F.okX S (spF_len hl) fun cdv A outer s H vs Q E hr h => ?_⟩
  obtain ⟨G, y, g, r, hp, q, qe⟩ := h
  refine ⟨wpSs _ (defBody st), pss_wp, body cdv A outer s H E ⟨H, G, []⟩ hr y hp _ H _ (srel_start (ps := ps) g r) ⟨fun ρ σ H' h S' _ => ?_, fun ρ σ H' h => h.elim, fun ρ σ H' h => h.elim, fun t v H' h s rr => q t v H' h s rr, ⟨fun cls d _ H => E cls d H, takes_of rfl rfl rfl rfl, fun c ρ σ H' h S' _ => qe c H' h S'.hh⟩⟩⟩
  exact q _ _ H' h S'.hh (.at .non)
end
end DL

namespace DL
open PySem PySem.Spec PyProof.Rows L2
/-- where a def of the text stands -/
structure At (K : PySem.W.Frag) (mg : Str → Option Value) (x : Str) (st : Stmt) (ps : List Str) : Prop where
  ex : ∃ f fd, Fun K x x st f fd ∧ mg x = some (.ref f) ∧ Binds K fd ps []
theorem at_mk {K : PySem.W.Frag} {h : Heap} {mg : Str → Option Value} {x : Str} {st : Stmt} {ps : List Str} {f : Addr} {oc : Value} {od an : Option Addr} {osl : Array (Option Value)} {kV doc pm cdv ct : Value} (X : K.In h) (G : h.Ns mainGlobals mg)
    (a : PySem.W.nsIn K mainGlobals x = some (some (.ref f))) (l : K.lookup f = some ⟨oc, od, .func (PySem.W.fnOf x x (defArgs st) (defBody st) (defScope st) .none kV doc pm an cdv ct), osl⟩) (c : PySem.W.codeIn K cdv x = true) (k : PySem.W.keepIn K (.ref f) = true)
    (b : ∀ (kV doc pm : Value) (an : Option Addr) (cdv ct : Value) (us : List Value), us.length = ps.length → bindArgs (PySem.W.fnOf x x (defArgs st) (defBody st) (defScope st) .none kV doc pm an cdv ct) ⟨us, []⟩ = pure (ps.zip us)) : At K mg x st ps :=
  ⟨f, _, fun_mk l c k, PySem.W.mg_of X G a, (fun_mk l c k).binds b⟩
section
variable {X : Cx} {C : Ctx} {ρ : Rho} {st : List Stmt} {P : Post}
theorem wp_at {ρ0 : Rho} (e : ρ0 = ρ) (h : WP X C ρ st P) : WP X C ρ0 st P := e ▸ h
end
/-- the law's own def, from where it stands -/
theorem law_mk {K : PySem.W.Frag} {h : Heap} {mg : Str → Option Value} {x y : Str} {st : Stmt} {fa f : Addr} {oc : Value} {od an : Option Addr} {osl : Array (Option Value)} {kV doc pm cdv ct : Value} {P : Program} {w : World} {sp : Sp} {CX : CXT} {n : Nat} (X : K.In h) (G : h.Ns mainGlobals mg) (hfa : mg x = some (.ref fa))
    (a : PySem.W.nsIn K mainGlobals x = some (some (.ref f))) (l : K.lookup f = some ⟨oc, od, .func (PySem.W.fnOf x x (defArgs st) (defBody st) (defScope st) .none kV doc pm an cdv ct), osl⟩) (c : PySem.W.codeIn K cdv x = true) (k : PySem.W.keepIn K (.ref f) = true)
    (b : ∀ (kV doc pm : Value) (an : Option Addr) (cdv ct : Value) (u : Value), bindArgs (PySem.W.fnOf x x (defArgs st) (defBody st) (defScope st) .none kV doc pm an cdv ct) ⟨[u], []⟩ = pure [(y, u)])
    (H : ∀ (fd : FuncData), Fun K x x st f fd → ∀ base : Heap, FnOk P w K mg base CX n f fd [y] sp) :
    ∃ fd : FuncData, (∀ (s : Shared) (u : Value), BindsTo s fd ⟨[u], []⟩ [(y, u)]) ∧ ∀ base : Heap, K.In base → base.Ns mainGlobals mg → FnOk P w K mg base CX n fa fd [y] sp := by
  have e := hfa.symm.trans (PySem.W.mg_of X G a)
  cases e
  exact ⟨_, fun s u => .of_eq (b _ _ _ _ _ _ u), fun base _ _ => H _ (fun_mk l c k) base⟩
abbrev spLaw (K : PySem.W.Frag) : Sp := spF K (fun ns : List Int => [.lst (D.ints ns)]) (fun ns => ns.length ≤ 63 ∧ ∀ z ∈ ns, Sz 1048576 z) fun _ => .ok (.im (.bl true))
theorem law_asks {K : PySem.W.Frag} {H : Hp} {a : Addr} {ns : List Int} (hl : ns.length ≤ 63) (hb : ∀ z ∈ ns, Builtin.Int.intBits z ≤ 1048576) (hS : SqL K H a (ns.map V.int)) : spLaw K [.ref a] H (fun v _ => v = .bl true) fun _ _ _ => False :=
  ⟨H, ns, Same.refl _, .cons (.lst hS (Reps.of_ints ns)) .nil, ⟨hl, fun z hz => Sz.of_bits (hb z hz)⟩, fun r v H' e _ rr => by
    cases e
    cases rr
    rfl, fun c H' e => by cases e⟩
/-- an exception class of the text -/
theorem exc_mk {K : PySem.W.Frag} {h : Heap} {mg : Str → Option Value} {x : Str} {Cl : Addr} (X : K.In h) (G : h.Ns mainGlobals mg) (a : PySem.W.nsIn K mainGlobals x = some (some (.ref Cl))) (xF : PySem.W.excIn K Cl [.type "ValueError", .type "Exception", .type "BaseException", .type "object"] "ValueError.__new__" = true)
    (kF : PySem.W.keepIn K (.ref Cl) = true) (bF : PySem.W.subIn K (.ref Cl) (.type "BaseException") = some true) (tF : PySem.W.typeIn K (.ref Cl) = some (.type "type"))
    (hg : PySem.W.findIn K (.ref Cl) "__getattribute__" = some (some (.builtin "BaseException.__getattribute__"))) (hk : PySem.W.findIn K (.ref Cl) "__getattr__" = some none) (hd : PySem.W.hasDictIn K Cl = true) (ha : PySem.W.findIn K (.ref Cl) "__class__" = some (some (.builtin "object.__class__")))
    (hn : PySem.W.specialIn K (.builtin "object.__class__") "__get__" = some (some (.builtin "getset_descriptor.__get__"))) (ht : PySem.W.takesIn K (.builtin "object.__class__") = some true) (hm : PySem.W.mroIn K Cl (.type "object") = some true) : ExcT K mg x Cl :=
  ⟨PySem.W.mg_of X G a, xF, kF, bF, tF, ⟨hg, hk, bF, hd, ha, hn, ht, hm⟩⟩

/-! ### data of ints -/
theorem ints_get {ns : List Int} {i : Nat} {d : D} (h : (D.ints ns)[i]? = some d) : ∃ n, d = .int n ∧ ns[i]? = some n := by
  rw [List.getElem?_map] at h
  cases e : ns[i]? with
  | none => rw [e] at h; cases h
  | some n => rw [e] at h; exact ⟨n, (Option.some.inj h).symm, rfl⟩
theorem ints_atI {ns : List Int} {k : Int} (h0 : 0 ≤ k) (h : k < ns.length) : atI (D.ints ns) k = some (.int (ns.getD k.toNat 0)) := by
  have e : k = (k.toNat : Int) := by omega
  have hl : k.toNat < ns.length := by omega
  have q : (D.ints ns)[k.toNat]? = some (.int (ns.getD k.toNat 0)) := by
    rw [List.getElem?_map, List.getElem?_eq_getElem hl]
    simp [hl]
  have r := atI_nat q
  rw [← e] at r
  exact r
theorem len_small {n m : Nat} (h : n ≤ m) (hm : m < 16777216 := by decide) : n < sizeLine := by
  rw [sizeLine_eq]
  omega
/-- three ints -/
abbrev P3 := Int × Int × Int
def t3 (p : P3) : D := .tup [.int p.1, .int p.2.1, .int p.2.2]
def Sz3 (n : Nat) (p : P3) : Prop := Sz n p.1 ∧ Sz n p.2.1 ∧ Sz n p.2.2
theorem Sz3.mono {n m : Nat} {p : P3} (h : Sz3 n p) (l : n ≤ m) : Sz3 m p := ⟨h.1.mono l, h.2.1.mono l, h.2.2.mono l⟩
section
variable {X : Cx} {C : Ctx} {ρ : Rho} {a b c : Expr} {pos : Pos}
theorem ee_t3 {i j k : Int} {x1 : Nat} (ha : EE X C ρ a (.int i)) (hb : EE X C ρ b (.int j)) (hc : EE X C ρ c (.int k)) (h1 : starEach [a, b, c] X.env = (false, eval a X.env) :: starEach [b, c] X.env := by rfl) (h2 : starEach [b, c] X.env = (false, eval b X.env) :: starEach [c] X.env := by rfl) (h3 : starEach [c] X.env = (false, eval c X.env) :: starEach [] X.env := by rfl) :
    EE X C ρ (.Tuple [a, b, c] x1 pos) (t3 (i, j, k)) := ee_tup (ea_cons ha (ea_cons hb (ea_cons hc ea_nil h3) h2) h1)
theorem eqb_int (i j : Int) : PyData.eqv (.int i) (.int j) = decide (i = j) := by rw [PyData.eqv]; exact Bool.beq_eq_decide_eq _ _
theorem eqb_t3 (p q : P3) : D.eqb (t3 p) (t3 q) = decide (p = q) := by
  obtain ⟨a, b, c⟩ := p
  obtain ⟨x, y, z⟩ := q
  show PyData.eqv (.tuple [.int a, .int b, .int c]) (.tuple [.int x, .int y, .int z]) = _
  rw [PyData.eqv, PyData.eqvAll, PyData.eqvAll, PyData.eqvAll, PyData.eqvAll, eqb_int, eqb_int, eqb_int]
  by_cases h1 : a = x <;> by_cases h2 : b = y <;> by_cases h3 : c = z <;> simp [h1, h2, h3]
theorem good_t3 (p : P3) : (t3 p).Good := ⟨rfl, Nat.le_of_ble_eq_true rfl⟩
theorem ec_eq3 {p q : P3} (hu : X.A.units + 64 < cLine) (ha : EE X C ρ a (t3 p)) (hb : EE X C ρ b (t3 q)) : EC X C ρ .Eq a b (.bl (decide (p = q))) := (ec_eqD hu ha hb (good_t3 p) (good_t3 q)).eq (by rw [eqb_t3])
theorem ec_ne3 {p q : P3} (hu : X.A.units + 64 < cLine) (ha : EE X C ρ a (t3 p)) (hb : EE X C ρ b (t3 q)) : EC X C ρ .NotEq a b (.bl (!decide (p = q))) := (ec_neD hu ha hb (good_t3 p) (good_t3 q)).eq (by rw [eqb_t3])
end
end DL

namespace DL
open PySem PySem.Spec PyProof.Rows L2
/-! ### raised in an expression -/
/-- e comes to no value: it raises an own exception of the class at c -/
def EX (X : Cx) (C : Ctx) (ρ : Rho) (e : Expr) (c : Addr) : Prop :=
  ∀ σ H, SRel X.K C H σ ρ → ∀ W : WX, Takes X W → (∀ H', Same H H' → W (.ref c) none σ H') → ∀ Q : VK, wpE X e σ H Q
section
variable {X : Cx} {C : Ctx} {ρ : Rho} {P : Post} {e tg : Expr} {es : List Expr} {c : Addr} {pos p : Pos} {α : Type} {arg : α → List D} {pre : α → Prop} {res : α → Res} {k : Nat} {x : Str} {ps : List Str}
/-- a call of an own def that raises -/
theorem ex_call (y : α) (F : CalX X.prog X.w X.K X.mg X.base k x ps (spF X.K arg pre res)) (hr : Room k X.A) (ha : EA X C ρ (e :: es) (arg y)) (hp : pre y) (hd : res y = .er c) (hg : Gl X x := by rfl) (hdb : (x == ("__debug__" : Str)) = false := by decide)
    (he : starEach (e :: es) X.env = (false, eval e X.env) :: starEach es X.env := by rfl) (hpl : (backTo pos (starEach es X.env)).any (·.1) = false := by rfl) : EX X C ρ (.Call (.Name x p) (e :: es) [] pos) c := fun σ H S W tk hW Q pins s J => by
  obtain ⟨f, fd, hm, hk, hb, ok⟩ := F.ex
  refine wpAny_Call_Name_kw (ld_glob J hg hm ?_ hdb)
  have args := ha σ H S (fun vs H1 => spF X.K arg pre res vs H1 Q fun cls d H2 => W cls d σ H2) (fun vs H1 s1 r1 => ⟨vis C (ows ρ) H1, y, (S.same s1).visIn, r1, hp, (fun r v H2 q => nomatch hd.symm.trans q), fun c' H2 q s2 => by
    rw [hd] at q
    cases q
    exact hW H2 (s1.trans s2)⟩) pos pins s J
  refine PySem.W.callWith_K (h₀ := X.base) J.ok.mod.kin hk (thn args fun us s1 ⟨vs, H1, J1, rv, q⟩ => ⟨J1.kIn, ?_⟩) he hpl
  have hl : (us ++ []).length = ps.length := by rw [List.append_nil, ← rv.length]; exact ok.len _ _ _ _ q
  have rv' : Vals vs (us ++ []) := by rw [List.append_nil]; exact rv
  refine wpAny_call (codeAny_mono (ok.run X.A X.stack s1 H1 ⟨us, []⟩ (us ++ []) vs Q _ hr J1.env0 (hb s1 us J1.kIn hl) rv' q) fun t s' ht => ?_)
  cases t with
  | error z => exact tk _ _ (XE.of_call J1 (fun _ _ _ w => w) ht)
  | ok fl =>
    cases fl with
    | ret u => exact J1.after ht
    | next => exact ht.elim
    | brk => exact ht.elim
    | cont => exact ht.elim
theorem ex_drop (he : EX X C ρ e c) (h : P.er c ρ) (hs : swapsWith e none pos.line X.env = pure false := by rfl) : WS X C ρ (.Expr e pos) P := fun σ H D S L => by
  obtain ⟨W, tk, hW⟩ := L.tk
  exact wpS_of (ps_expr pe_wp hs) (he σ H S W tk (fun H1 s1 => hW c ρ σ H1 h (S.same s1) (vis_same s1)) _)
theorem ex_ret (he : EX X C ρ e c) (h : P.er c ρ) : WS X C ρ (.Return (some e) pos) P := fun σ H D S L => by
  obtain ⟨W, tk, hW⟩ := L.tk
  exact wpS_of (ps_ret pe_wp) (he σ H S W tk (fun H1 s1 => hW c ρ σ H1 h (S.same s1) (vis_same s1)) _)
theorem ex_set (i : Nat) {x : Str} {p' : Pos} (he : EX X C ρ e c) (h : P.er c ρ) (hN : X.N.Nodup) (hi : X.N[i]? = some x := by rfl) (hx : Loc X.env.scope x := by first | exact Or.inl rfl | exact Or.inr rfl) (hs : swapsWith e (some (.Name x p')) pos.line X.env = pure false := by rfl)
    (hf : X.fn x = true ∨ X.env.scope.names.lookup x = some .local := by first | exact .inl rfl | exact .inr rfl) : WS X C ρ (.Assign [.Name x p'] e pos) P := fun σ H D S L => by
  obtain ⟨W, tk, hW⟩ := L.tk
  exact wpS_of (ps_set hN hi hx pe_wp hs hf) (he σ H S W tk (fun H1 s1 => hW c ρ σ H1 h (S.same s1) (vis_same s1)) _)
theorem ex_asg {t : TG} (he : EX X C ρ e c) (hg : PG X tg t) (h : P.er c ρ) (hs : swapsWithSole [tg] e pos.line X.env = pure false := by rfl) (hw : swappedStores [tg] e X.env = pure none := by rfl) (h1 : (assignEach [tg] X.env).map (·.2) = [assign tg X.env] := by rfl) : WS X C ρ (.Assign [tg] e pos) P := fun σ H D S L => by
  obtain ⟨W, tk, hW⟩ := L.tk
  exact wpS_of (ps_asg pe_wp hg hs hw h1) (he σ H S W tk (fun H1 s1 => hW c ρ σ H1 h (S.same s1) (vis_same s1)) _)
end

/-! ### try .. except X as e -/
theorem exF_ok {P : Program} {w : World} {H : Hp} {h : Heap} {a Cl : Addr} {oe : Obj} {vs : Array Value} (e : h.get? a = some oe) (z : Zc (.ref Cl) none oe) (d : oe.data = .fields vs) : ObjOk P w H h a (ExF Cl a) :=
  ⟨⟨oe, vs, e, z, d⟩, ⟨oe, e⟩, fun _ _ ⟨o, v, q, r⟩ k => ⟨o, v, k o q, r⟩⟩
section
variable {X : Cx} {C : Ctx} {ρ : Rho} {P : Post} {σ : L2.St} {H : Hp} {s : Shared}
/-- the suite's state: the caught one stands in the heap -/
theorem inv_caught {a Cl : Addr} {oe : Obj} {vs : Array Value} {pn pn' : List (Addr × Obj)} (J : Inv (X.suite a ((a, oe) :: pn)) [] σ H s) (hz : Zc (.ref Cl) none oe) (hd : oe.data = .fields vs) (na : H a = none) (n0 : X.s_0.heap.get? a = none) (hp : ∀ q ∈ pn', q ∈ pn ∧ q.1 ≠ a)
    (nl : a ≠ X.env.locals) (nc : ∀ x c, X.env.cells.lookup x = some c → c ≠ a) : Inv (X.suite a pn') [] σ (upd H a (ExF Cl a)) s := by
  have pa : s.heap.get? a = some oe := (J.pin (a, oe) (by simp)).1
  refine ⟨J.ok.mod |> fun _ => ⟨J.ok.mod, J.ok.kind, J.ok.glob, J.ok.blt, J.ok.above, J.ok.inj, J.ok.has, J.ok.cab, J.ok.hd, J.ok.frames, J.ok.stk, J.ok.exf, J.ok.bs, J.ok.bsz, J.ok.noex, J.ok.exfs, J.ok.funs, J.ok.frf⟩, J.os, J.bare, ?_, J.loc, J.cell, ?_, ?_, fun q hq => ?_, ?_, J.len⟩
  · have u := J.base
    exact ⟨u.keep, u.slot, fun b o q n hx => by rw [upd_ne (fun z => by rw [z] at q; rw [show X.s_0.heap.get? a = some o from q] at n0; cases n0)]; exact u.free b o q n hx, u.there, fun b xs q => by rw [upd_ne (ne_of_none (u.tups b xs q) na)]; exact u.tups b xs q,
      fun b o v q => by rw [upd_ne (ne_of_none (u.frzs b o v q) na)]; exact u.frzs b o v q, fun b ts q => by
        obtain ⟨m, z⟩ := u.tbls b ts q
        exact ⟨m, by rw [upd_ne (ne_of_none z na)]; exact z⟩⟩
  · rw [upd_ne (Ne.symm nl)]; exact J.free
  · intro x c e
    rw [upd_ne (nc x c e)]
    exact J.freeC x c e
  · obtain ⟨m, ne⟩ := hp q (by rw [List.append_nil] at hq; exact hq)
    obtain ⟨p1, p2, p3⟩ := J.pin q (by rw [List.append_nil]; exact List.mem_cons_of_mem _ m)
    exact ⟨p1, by rw [upd_ne ne]; exact p2, p3⟩
  · exact J.hok.laidN (fun _ _ q => q) na (exF_ok pa hz hd)
theorem inv_left {a : Addr} {pn pn' : List (Addr × Obj)} (J : Inv (X.suite a (X.pn ++ pn)) pn' σ H s) (ok : X.Ok) : Inv X pn σ H s :=
  ⟨ok, J.os, J.bare, J.base, J.loc, J.cell, J.free, J.freeC, fun p hp => J.pin p (List.mem_append_left _ hp), J.hok, J.len⟩
/-- what a suite is to show -/
def sPost (P : Post) (i : Nat) : Post := { nx := fun ρ => P.nx (ρ.set i .no), rt := P.rt, bk := fun ρ => P.bk (ρ.set i .no), ct := fun ρ => P.ct (ρ.set i .no), er := fun _ _ => False }
/-- what a try's body is to show -/
def tPost (X : Cx) (C : Ctx) (P : Post) (i : Nat) (c : Addr) (su : List Stmt) : Post := { P with er := fun Cl ρ => PySem.W.exmOne X.K (.ref Cl) (.ref c) = some true ∧ ∀ (a : Addr) (pn : List (Addr × Obj)), WP (X.suite a pn) C (ρ.set i (.im (.exc Cl))) su (sPost P i) }
theorem ws_try (i : Nat) {x n : Str} {c : Addr} {body suite : List Stmt} {b₀ : Stmt} {np pos pos' : Pos} (hc : X.mg x = some (.ref c)) (hN : X.N.Nodup)
    (hb : ∀ (pn : List (Addr × Obj)) (xe : Value → Shared → Prop), PassesOwn (model X.prog X.w) X.A X.env xe → WP (X.tr pn xe) C ρ body (tPost X C P i c (b₀ :: suite)))
    (hs : X.stack = X.env :: X.outer := by rfl) (hex : X.ex = [] := by rfl) (hf : X.env.frame = some X.env.locals := by rfl) (hi : X.N[i]? = some n := by rfl) (hln : X.env.kindOf n = some .local := by rfl) (hg : Gl X x := by rfl) (hdb : (x == ("__debug__" : Str)) = false := by decide) :
    WS X C ρ (.Try body [.ExceptHandler (some (.Name x np)) (some n) (b₀ :: suite) pos'] [] [] pos) P := fun σ H D S L pins s J => by
  have ok := J.ok
  have fr : X.A.frames = some (X.env :: X.outer) := by rw [ok.frames, hs]
  refine wpAny_Try_except ?_
  let xe1 : Value → Shared → Prop := fun z t => wpAny (model X.prog X.w) X.A (noteFrame z X.env) (fun _ t2 => wpAny (model X.prog X.w) X.A (setFlight z none) (fun _ t3 => wpAny (model X.prog X.w) X.A (handleBy z X.env [.ExceptHandler (some (.Name x np)) (some n) (b₀ :: suite) pos']) (SP X pins D) X.xe t3) X.xe t2) X.xe t
  let W1 : WX := fun cls d σ' H' => ∃ Cl ρ', cls = .ref Cl ∧ d = none ∧ (tPost X C P i c (b₀ :: suite)).er Cl ρ' ∧ SRel X.K C H' σ' ρ' ∧ Same (vis C (ows ρ) H) (vis C (ows ρ') H')
  have catches : Takes (X.tr (X.pn ++ pins) xe1) W1 := by
    intro u s' xx
    obtain ⟨a, B, sI, pins', σ', H', cls, d, rfl, J', nb, up, sky, na, os, ag, Cl, ρ', rfl, rfl, ⟨hm, hsu⟩, S', v'⟩ := xx
    have J1 : Inv X pins σ' H' sI := J'.ofTry ok
    have sky1 : Sky B (X.env :: X.outer) a (Zc (.ref Cl) none) X.env.locals s'.heap := by rw [← hs]; exact sky
    show wpAny (model X.prog X.w) X.A (noteFrame (.ref a) X.env) _ _ _
    refine Sky.land Zc.steady fr hf sky1 fun h3 f3 up3 => ?_
    have J3 : Inv X pins σ' H' { s' with heap := h3 } := J1.landed nb f3.1 (up.trans up3) os ag
    obtain ⟨oe3, vs3, e3, z3, d3⟩ := f3.there
    have bare : a ∉ frs (X.env :: X.outer) := fun hm => by
      obtain ⟨_, o', e', hnf⟩ := f3.2.2.1.mem hm
      rw [e3] at e'
      cases e'
      exact hnf _ d3
    have nL : a ≠ X.env.locals := fun z => bare (List.mem_filterMap.mpr ⟨X.env, List.mem_cons_self, by rw [hf, z]⟩)
    have nF : a ∉ X.fs := fun hm => by
      obtain ⟨e, he, q⟩ := List.mem_filterMap.mp hm
      exact bare (List.mem_filterMap.mpr ⟨e, List.mem_cons_of_mem _ he, q⟩)
    have nI : sI.heap.get? a = none := by
      cases q : sI.heap.get? a with
      | none => rfl
      | some o =>
        have z := nb a o q (by show a ∉ frs X.stack; rw [hs]; exact bare)
        rw [f3.2.1] at z
        cases z
    have n0 : X.s_0.heap.get? a = none := by
      cases q : X.s_0.heap.get? a with
      | none => rfl
      | some o =>
        obtain ⟨o', z⟩ := J1.base.there a o q (by
          intro hx
          rw [hex] at hx
          cases hx)
        rw [nI] at z
        cases z
    have nC : ∀ y c', X.env.cells.lookup y = some c' → c' ≠ a := fun y c' hy z => by
      obtain ⟨v, o, ho, hd⟩ := J1.cell y c' hy
      rw [z, nI] at ho
      cases ho
    have nP : ∀ q ∈ X.pn ++ pins, q.1 ≠ a := fun q hq z => by
      have := (J1.pin q hq).1
      rw [z, nI] at this
      cases this
    have S3 := J3.suite e3 d3 na nL nF
    refine wpAny_handleBy_cons (codeAny_handlers_test ?_) (by intro q; cases q)
    have lt : PySem.W.Looks (model X.prog X.w) h3 (typeOf (.ref a)) (.ref Cl) := fun A Q E t k q => wpAny_typeOf_ref (k _ _ e3) (by rw [z3.1]; exact q)
    have lm := PySem.W.exm_one (M := model X.prog X.w) (J3.kIn) lt hm
    refine ld_glob (X := X.suite a ((a, oe3) :: (X.pn ++ pins))) S3 hg hc (lm.here ?_) hdb
    refine codeAny_handlers_suite_as ?_
    refine HandSPX.lands_againZ f3 fun h4 f4 up4 => ?_
    have J4 : Inv X pins σ' H' { s' with heap := h4 } := J1.landed nb f4.1 ((up.trans up3).trans up4) os ag
    obtain ⟨oe4, vs4, e4, z4, d4⟩ := f4.there
    refine store_ok (X := X.suite a ((a, oe4) :: (X.pn ++ pins))) (v := .ref a) (J4.suite e4 d4 na nL nF) hN hi (.inl hln) rfl (fun s5 S5 => ?_) (.inr hln)
    have J5 := inv_caught (X := X) (pn' := X.pn ++ pins) S5 z4 d4 na n0 (fun q hq => ⟨hq, nP q hq⟩) nL nC
    have r5 : Rep X.K (vis C (ows ρ') (upd H' a (ExF Cl a))) (.ref a) (.exc Cl) := .exc (by
      obtain ⟨m0, mo, mh⟩ := S'.new na
      rw [vis_at m0 mo mh, upd_same])
    obtain ⟨S6, v6⟩ := (S'.same (same_upd na)).setIm i r5
    have v7 : Same (vis C (ows ρ) H) (vis C (ows (ρ'.set i (.im (.exc Cl)))) (upd H' a (ExF Cl a))) := (v'.trans (vis_same (same_upd na))).trans v6
    have go := hsu a (X.pn ++ pins) (σ'.set i (some (.ref a))) (upd H' a (ExF Cl a)) { nx := fun σ2 H2 => D.nx (σ2.set i none) H2, rt := D.rt, bk := fun σ2 H2 => D.bk (σ2.set i none) H2, ct := fun σ2 H2 => D.ct (σ2.set i none) H2 } S6
      ⟨fun ρ2 σ2 H2 q T y => L.nx _ _ _ q (T.setNo i none).1 ((v7.trans y).trans (T.setNo i none).2), fun ρ2 σ2 H2 q T y => L.bk _ _ _ q (T.setNo i none).1 ((v7.trans y).trans (T.setNo i none).2), fun ρ2 σ2 H2 q T y => L.ct _ _ _ q (T.setNo i none).1 ((v7.trans y).trans (T.setNo i none).2),
        L.rt, ⟨fun _ _ _ _ => False, takes0, fun _ _ _ _ q => q.elim⟩⟩ [] s5 J5
    refine wpAny_mono go (fun f s6 h6 => ?_) fun _ _ z => z.elim
    have gone : ∀ {σ6 : L2.St} {H6 : Hp} {R : Shared → Prop}, Inv (X.suite a (X.pn ++ pins)) [] σ6 H6 s6 → (∀ s7, Inv X pins (σ6.set i none) H6 s7 → R s7) →
        wpAny (model X.prog X.w) X.A (do bindName X.env n .none; unbindBehindTheSuite X.env n pos') (fun _ s7 => R s7) X.xe s6 := fun {σ6 H6 R} T hq => gone_ok (inv_left T ok) hN hi hln hq
    cases f with
    | next => obtain ⟨σ6, H6, T, q6⟩ := h6; exact gone T fun s7 J7 => ⟨_, _, J7, q6⟩
    | brk => obtain ⟨σ6, H6, T, q6⟩ := h6; exact gone T fun s7 J7 => ⟨_, _, J7, q6⟩
    | cont => obtain ⟨σ6, H6, T, q6⟩ := h6; exact gone T fun s7 J7 => ⟨_, _, J7, q6⟩
    | ret u => obtain ⟨v6, σ6, H6, T, r6, q6⟩ := h6; exact gone T fun s7 J7 => ⟨_, _, _, J7, r6, q6⟩
  refine wpAny_mono (hb (X.pn ++ pins) xe1 PassesOwn.looking σ H D S ⟨L.nx, L.bk, L.ct, L.rt, ⟨W1, catches, fun Cl ρ' σ' H' q T y => ⟨Cl, ρ', rfl, rfl, q, T, y⟩⟩⟩ [] s (J.toTry _)) (fun f s1 hsp => ?_) (fun z s1 he => he)
  cases f with
  | next => obtain ⟨σ', H', J', q⟩ := hsp; exact wpAny_execs_nil ⟨σ', H', J'.ofTry ok, q⟩
  | brk => obtain ⟨σ', H', J', q⟩ := hsp; exact ⟨σ', H', J'.ofTry ok, q⟩
  | cont => obtain ⟨σ', H', J', q⟩ := hsp; exact ⟨σ', H', J'.ofTry ok, q⟩
  | ret u => obtain ⟨v, σ', H', J', r, q⟩ := hsp; exact ⟨v, σ', H', J'.ofTry ok, r, q⟩
end
end DL
namespace DL
open PySem PySem.Spec PyProof.Rows L2
/-! ### classes asked of an exception -/
theorem kit_own {K : PySem.W.Frag} {mg : Str → Option Value} {x : Str} {A B : Addr} {r : Bool} (E : ExcT K mg x B) (hs : PySem.W.subIn K (.ref B) (.ref B) = some true) (h : PySem.W.subIn K (.ref A) (.ref B) = some r) : PySem.W.kitOne K (.ref A) (.ref B) = some r := by
  unfold PySem.W.kitOne
  split
  · rename_i q
    have e := eq_of_beq q
    cases e
    rw [hs] at h
    exact h
  · have m := PySem.W.exm_ref (cls := .ref A) E.bF E.ec.hd E.tF h
    unfold PySem.W.exmOne at m
    split at m
    · exact m
    · cases m
theorem kit_ve {K : PySem.W.Frag} {A : Addr} {r : Bool} (h : PySem.W.subIn K (.ref A) (.type "ValueError") = some r) : PySem.W.kitOne K (.ref A) (.type "ValueError") = some r := by
  unfold PySem.W.kitOne
  rw [if_neg (by simp)]
  unfold PySem.W.kitCls
  dsimp only
  rw [if_pos (by decide +kernel)]
  exact h
theorem exm_own {K : PySem.W.Frag} {mg : Str → Option Value} {x : Str} {A B : Addr} {r : Bool} (E : ExcT K mg x B) (h : PySem.W.subIn K (.ref A) (.ref B) = some r) : PySem.W.exmOne K (.ref A) (.ref B) = some r := PySem.W.exm_ref E.bF E.ec.hd E.tF h
/-! ### tuples or lists -/
/-- a tuple (true) or a list -/
abbrev seqD (b : Bool) (ds : List D) : D := bif b then .tup ds else .lst ds
section
variable {X : Cx} {C : Ctx} {ρ : Rho} {e tg : Expr} {b : Bool} {ds : List D}
theorem ei_seq (h : EE X C ρ e (seqD b ds)) : EI X C ρ tg e ds := by
  cases b with
  | true => exact ei_tup h
  | false => exact ei_list h
end
section
variable {X : Cx} {C : Ctx} {ρ ρw : Rho} {e elt tg iter : Expr} {ifs : List Expr} {scope : Scope} {own : List (Str × Nat)} {pos spos py : Pos} {P : Post}
theorem filter_all {β : Type} (xs : List β) : xs.filter (fun _ => true) = xs := List.filter_eq_self.2 fun _ _ => rfl
/-- a comprehension without a test -/
theorem ef_lcA {β : Type} {xs : List β} {enc : β → D} (f : β → D) (hi : EI X C ρ tg iter (xs.map enc)) (hs : LcOk X scope own tg ifs elt ρw xs enc (fun _ => true) f) (hw : wipeR ρ (own.map (·.2)) = ρw) (how : ows ρw = ows ρ) (hz : xs.length ≤ sizeLine)
    (ok : BlkOk X.N X.env.scope scope own) (hN : X.N.Nodup) (hc : X.calm = true := by rfl) (hf : ∀ x, foldedSetIterable iter X.env x = pure x := by intro _; rfl) : EF X C ρ (.ListComp elt [⟨tg, iter, ifs, 0⟩] scope pos) (xs.map f) :=
  (ef_lc hi hs hw how hz ok hN hc hf).eq (by rw [filter_all])
theorem ws_setLcA {β : Type} (i : Nat) {y : Str} {xs : List β} {enc : β → D} (f : β → D) (hi : EI X C ρ tg iter (xs.map enc)) (hs : LcOk X scope own tg ifs elt ρw xs enc (fun _ => true) f) (h : ∀ a, P.nx (ρ.set i (.ow a (xs.map f)))) (hw : wipeR ρ (own.map (·.2)) = ρw) (how : ows ρw = ows ρ) (hz : xs.length ≤ sizeLine)
    (ok : BlkOk X.N X.env.scope scope own) (hN : X.N.Nodup) (hl : i < ρ.length := by exact Nat.le_of_ble_eq_true rfl) (hy : X.N[i]? = some y := by rfl) (hyl : X.env.scope.names.lookup y = some .local := by rfl) (hsw : swapsWith (.ListComp elt [⟨tg, iter, ifs, 0⟩] scope pos) (some (.Name y py)) spos.line X.env = pure true := by exact sw_true rfl rfl rfl (by decide +kernel))
    (hc : X.calm = true := by rfl) (hf : ∀ x, foldedSetIterable iter X.env x = pure x := by intro _; rfl) : WS X C ρ (.Assign [.Name y py] (.ListComp elt [⟨tg, iter, ifs, 0⟩] scope pos) spos) P :=
  ws_setLc i hi hs (fun a => by rw [filter_all]; exact h a) hw how hz ok hN hl hy hyl hsw hc hf
end
/-! ### a place or nothing -/
def oP : Option P3 → D
  | none => .non
  | some p => t3 p
section
variable {X : Cx} {C : Ctx} {ρ : Rho} {a b : Expr}
theorem good_oP (p : Option P3) : (oP p).Good := by
  cases p with
  | none => exact ⟨rfl, Nat.le_of_ble_eq_true rfl⟩
  | some p => exact good_t3 p
theorem eqb_oP (p q : Option P3) : D.eqb (oP p) (oP q) = decide (p = q) := by
  cases p with
  | none =>
    cases q with
    | none => unfold D.eqb oP; rw [decide_eq_true rfl]; simp [D.py, PyData.eqv]
    | some q => unfold D.eqb oP t3; rw [decide_eq_false (by simp)]; simp [D.py, PyData.eqv]
  | some p =>
    cases q with
    | none => unfold D.eqb oP t3; rw [decide_eq_false (by simp)]; simp [D.py, PyData.eqv]
    | some q => show D.eqb (t3 p) (t3 q) = _; rw [eqb_t3]; simp
theorem ec_eqO {p q : Option P3} (hu : X.A.units + 64 < cLine) (ha : EE X C ρ a (oP p)) (hb : EE X C ρ b (oP q)) : EC X C ρ .Eq a b (.bl (decide (p = q))) := (ec_eqD hu ha hb (good_oP p) (good_oP q)).eq (by rw [eqb_oP])
theorem ec_neO {p q : Option P3} (hu : X.A.units + 64 < cLine) (ha : EE X C ρ a (oP p)) (hb : EE X C ρ b (oP q)) : EC X C ρ .NotEq a b (.bl (!decide (p = q))) := (ec_neD hu ha hb (good_oP p) (good_oP q)).eq (by rw [eqb_oP])
theorem isNon_oP (p : Option P3) : (oP p).isNon = decide (p = none) := by cases p <;> rfl
end
section
variable {X : Cx} {C : Ctx} {ρ : Rho} {a b : Expr}
/-- (i, j) < (k, l) -/
theorem ec_lt2 {i j k l : Int} (hu : X.A.units + 64 < cLine) (ha : EE X C ρ a (.tup [.int i, .int j])) (hb : EE X C ρ b (.tup [.int k, .int l])) : EC X C ρ .Lt a b (.bl (decide (i < k ∨ (i = k ∧ j < l)))) :=
  (ec_ltT (ns := [i, j]) (ms := [k, l]) (by omega) ha hb).eq (by
    rw [HT.lexLt_cons, HT.lexLt_cons, HT.lexLt_nil_nil]
    by_cases h1 : i = k
    · rw [if_pos h1]
      by_cases h2 : j = l
      · rw [if_pos h2, decide_eq_false (by omega)]
      · rw [if_neg h2]; congr 1; simp [h1]
    · rw [if_neg h1]; congr 1; simp [h1])
end
theorem of_not_dec {p : Prop} [Decidable p] (h : (!decide p) = true) : ¬ p := by simpa using h
theorem EI.eq {X : Cx} {C : Ctx} {ρ : Rho} {tg iter : Expr} {ds es : List D} (h : EI X C ρ tg iter ds) (q : ds = es) : EI X C ρ tg iter es := q ▸ h
end DL

namespace DL
open PySem PySem.Spec PyProof.Rows L2
section
variable {X : Cx} {C : Ctx} {ρ ρ' : Rho} {P : Post} {e a b : Expr} {es : List Expr} {d da db : D} {ds es' : List D} {pos p : Pos}
/-! ### new lists from lists -/
theorem reps_fresh {H : Hp} {σ : L2.St} (S : SRel X.K C H σ ρ) {z : Addr} {o : HO} (nz : H z = none) {vs : List V} {ds : List D} (r : Reps X.K (vis C (ows ρ) H) vs ds) : Reps X.K (vis C (z :: ows ρ) (upd H z o)) vs ds := Reps.mono (vis_new_same S.visIn nz (same_upd nz)) _ r
theorem reverse_reps {K : PySem.W.Frag} {H : Hp} : ∀ {vs : List V} {ds : List D}, Reps K H vs ds → Reps K H vs.reverse ds.reverse
  | _, _, .nil => .nil
  | _, _, .cons r t => by
    rw [List.reverse_cons, List.reverse_cons]
    exact (reverse_reps t).append (.cons r .nil)
/-- xs[::-1] -/
theorem ef_rev {k : Nat} {p1 p2 p3 : Pos} (h : EL X C ρ e ds) : EF X C ρ (.Subscript e (.Slice none none (some (.UnaryOp .USub (.Constant (.int 1) k p1) p2)) p3) pos) ds.reverse := fun σ H S Q q =>
  wpE_of (pe_revL pe_wp) (h σ H S _ fun a xs H1 s1 sq r1 => ⟨a, xs, rfl, sq, fun z nz => q z _ _ (s1.free nz) (s1.trans (same_upd nz)) upd_same (reps_fresh (S.same s1) nz (reverse_reps r1))⟩)
def rCatL (K : PySem.W.Frag) : R2 := fun x y H Q => ∃ l b xs zs, x = .ref l ∧ y = .ref b ∧ SqL K H l xs ∧ SqL K H b zs ∧ xs.length + zs.length ≤ sizeLine ∧ ∀ p, H p = none → Q (.ref p) (upd H p (.lst (xs ++ zs)))
theorem op_catL : OpR X (binaryOp .Add) (rCatL X.K) := by
  intro pins s σ H x y v u Q J rx ry h
  obtain ⟨l, b, xs, zs, rfl, rfl, hl, hb, hz, q⟩ := h
  cases rx
  cases ry
  obtain ⟨as, r, ⟨⟨_, d1, _, s1⟩, n, e, c1, c2, c3⟩, _⟩ := J.list hl
  obtain ⟨bs, r2, ⟨⟨_, d2, _, s2⟩, n2, e2, c4, c5, c6⟩, _⟩ := J.list hb
  simp only at c1 c3 c4 c6
  subst c1 c3 c4 c6
  have l1 := r.length
  have l2 := r2.length
  refine concat_meets ⟨_, e, rfl⟩ ⟨_, e2, rfl⟩ noFill_list_add seq_list_add PySem.F.slot_list_add PySem.F.entry_list_add (PySem.F.args_list_add_2 _ _) (list_addW l b as.toArray bs.toArray n n2 d1 d2 s1 s2 (by rw [List.size_toArray, List.size_toArray]; omega)) ⟨e, e2, ?_⟩
  rw [show as.toArray ++ bs.toArray = (as ++ bs).toArray by simp]
  exact ⟨.ref _, _, J.lnew (t' := s.toks) (r.append r2) (by rw [List.length_append]; omega), rfl, q _ J.fresh⟩
/-- xs + ys -/
theorem ef_cat (ha : EL X C ρ a ds) (hb : EL X C ρ b es') (hz : ds.length + es'.length ≤ sizeLine) : EF X C ρ (.BinOp a .Add b pos) (ds ++ es') := fun σ H S Q q =>
  wpE_of (pe_op op_catL pe_wp pe_wp) (ha σ H S _ fun l xs H1 s1 sq r1 => hb σ H1 (S.same s1) _ fun m zs H2 s2 sq2 r2 => ⟨l, m, xs, zs, rfl, rfl, s2.seq sq, sq2, by rw [r1.length, r2.length]; exact hz, fun z nz =>
    q z _ _ ((s1.trans s2).free nz) ((s1.trans s2).trans (same_upd nz)) upd_same (reps_fresh ((S.same s1).same s2) nz ((Reps.mono (vis_same s2) _ r1).append r2))⟩)
/-! ### in -/
theorem any_py (f : PyData → Bool) : ∀ l : List D, (D.pys l).any f = l.any fun z => f z.py
  | [] => rfl
  | z :: l => by rw [D.pys, List.any_cons, List.any_cons, any_py f l]
theorem ec_inD (hu : X.A.units + 65 < cLine) (ha : EE X C ρ a da) (hb : EL X C ρ b ds) (ga : da.Good) (gb : (D.lst ds).Good) : EC X C ρ .In a b (.bl (ds.any fun z => D.eqb z da)) := fun σ H S Q q pins s J => by
  refine binT pe_wp pe_wp J (R := fun v u H2 => rInD X.K v u H2 Q) (ha σ H S _ fun v H1 s1 r1 => hb σ H1 (S.same s1) _ fun l xs H2 s2 sq r2 => ?_) fun v u s2 x y H2 J2 rx ry q2 => op_inD hu pins s2 σ H2 x y v u Q J2 rx ry q2
  have S2 := (S.same s1).same s2
  refine ⟨da.py, D.pys ds, D.dp _ ga.1 (Rep.mono S2.visIn _ (Rep.mono (vis_same s2) _ r1)), .lst sq (D.dps ds gb.1 (Reps.mono S2.visIn _ r2)), ga.shaped, gb.shaped, ?_⟩
  rw [any_py]
  exact q H2 (s1.trans s2)
theorem ec_ninD (hu : X.A.units + 65 < cLine) (ha : EE X C ρ a da) (hb : EL X C ρ b ds) (ga : da.Good) (gb : (D.lst ds).Good) : EC X C ρ .NotIn a b (.bl (!ds.any fun z => D.eqb z da)) := fun σ H S Q q pins s J => by
  refine binT pe_wp pe_wp J (R := fun v u H2 => rNotInD X.K v u H2 Q) (ha σ H S _ fun v H1 s1 r1 => hb σ H1 (S.same s1) _ fun l xs H2 s2 sq r2 => ?_) fun v u s2 x y H2 J2 rx ry q2 => op_notInD hu pins s2 σ H2 x y v u Q J2 rx ry q2
  have S2 := (S.same s1).same s2
  refine ⟨da.py, D.pys ds, D.dp _ ga.1 (Rep.mono S2.visIn _ (Rep.mono (vis_same s2) _ r1)), .lst sq (D.dps ds gb.1 (Reps.mono S2.visIn _ r2)), ga.shaped, gb.shaped, ?_⟩
  rw [any_py]
  exact q H2 (s1.trans s2)
theorem ints_ok : ∀ l : List Int, D.pysOk (D.ints l) = true ∧ D.deps (D.ints l) = 0
  | [] => ⟨rfl, rfl⟩
  | i :: l => by
    obtain ⟨h1, h2⟩ := ints_ok l
    refine ⟨?_, ?_⟩
    · show (D.pyOk (.int i) && D.pysOk (D.ints l)) = true
      rw [h1]; rfl
    · show max (D.dep (.int i)) (D.deps (D.ints l)) = 0
      rw [h2]; rfl
theorem good_ints (l : List Int) : (D.lst (D.ints l)).Good := ⟨(ints_ok l).1, by show D.deps (D.ints l) + 1 ≤ 64; rw [(ints_ok l).2]; decide⟩
theorem good_int (i : Int) : (D.int i).Good := ⟨rfl, Nat.zero_le _⟩
theorem any_ints (i : Int) (l : List Int) : ((D.ints l).any fun z => D.eqb z (.int i)) = decide (i ∈ l) := by
  induction l with
  | nil => rfl
  | cons j l ih =>
    show (D.eqb (.int j) (.int i) || (D.ints l).any fun z => D.eqb z (.int i)) = _
    rw [ih, show D.eqb (.int j) (.int i) = decide (j = i) from eqb_int j i]
    simp [List.mem_cons, eq_comm]
theorem ec_inI {i : Int} {l : List Int} (hu : X.A.units + 65 < cLine) (ha : EE X C ρ a (.int i)) (hb : EL X C ρ b (D.ints l)) : EC X C ρ .In a b (.bl (decide (i ∈ l))) := (ec_inD hu ha hb (good_int i) (good_ints l)).eq (by rw [any_ints])
theorem ec_ninI {i : Int} {l : List Int} (hu : X.A.units + 65 < cLine) (ha : EE X C ρ a (.int i)) (hb : EL X C ρ b (D.ints l)) : EC X C ρ .NotIn a b (.bl (!decide (i ∈ l))) := (ec_ninD hu ha hb (good_int i) (good_ints l)).eq (by rw [any_ints])
/-! ### xs.pop() -/
theorem getLast_split {ds : List D} (h : ds ≠ []) : ∃ i d, i = ds.length - 1 ∧ ds[i]? = some d := ⟨ds.length - 1, ds[ds.length - 1]'(by have := List.length_pos_iff.mpr h; omega), rfl, List.getElem?_eq_getElem _⟩
theorem dropLast_reps {K : PySem.W.Frag} {H : Hp} {vs : List V} {ds : List D} (r : Reps K H vs ds) : Reps K H vs.dropLast ds.dropLast := by
  rw [List.dropLast_eq_take, List.dropLast_eq_take, r.length]
  exact r.take _
theorem ws_pop (i : Nat) {x : Str} {p1 p2 p3 : Pos} {l : Addr} (hr : ρ[i]? = some (.ow l ds) := by rfl) (hne : ds ≠ []) (hρ : ρ.set i (.ow l ds.dropLast) = ρ') (h : P.nx ρ') (hN : X.N[i]? = some x := by rfl)
    (hv : Vis X.env.scope x := by first | exact Or.inl rfl | exact Or.inr (Or.inl rfl) | exact Or.inr (Or.inr rfl)) (hs : swapsWith (.Call (.Attribute (.Name x p1) "pop" p2) [] [] p3) none pos.line X.env = pure false := by rfl)
    (hline : (p2.endLine == p3.line) = true := by rfl) (hd : (x == ("__debug__" : Str)) = false := by decide) (hcd : (x == ("__classdict__" : Str)) = false := by decide) : WS X C ρ (.Expr (.Call (.Attribute (.Name x p1) "pop" p2) [] [] p3) pos) P := fun σ H D S L => by
  subst hρ
  obtain ⟨h1, xs, h2, h3⟩ := S.ow i l ds hr
  obtain ⟨_, d, rfl, hd'⟩ := getLast_split hne
  obtain ⟨v, hv', rv⟩ := h3.get hd'
  refine wpS_of (ps_expr (pe_bm0 PySem.F.plainAttrs_list PySem.F.slot_list_pop PySem.F.type_list_pop mt_pop (pe_var hN hv hd hcd) rfl hline) hs) ⟨_, h1, .inl ⟨rfl, _, .inl (.inl h2)⟩, ?_⟩
  obtain ⟨S2, s2⟩ := S.updOw i hr (dropLast_reps h3)
  exact ⟨l, xs, v, rfl, rfl, h2, by rw [h3.length]; exact hv', L.nx _ _ _ h S2 s2⟩
end
end DL

namespace DL
open PySem PySem.Spec PyProof.Rows L2
/-! ### defs whose last parameter is None by default -/
structure AtN (K : PySem.W.Frag) (mg : Str → Option Value) (x : Str) (st : Stmt) (ps : List Str) (z : Str) : Prop where
  ex : ∃ f fd, FunD K x x (defArgs st) (defBody st) (defScope st) [.non] [] f fd ∧ mg x = some (.ref f) ∧ Binds K fd ps [] ∧ Binds K fd ps [.none] ∧ KBn K fd ps (ps.length - 1) [z] (fun us ws => us ++ ws) fun vs zs => vs ++ zs
theorem vals_nil {ds : List Value} (h : Vals [] ds) : ds = [] := by cases h; rfl
theorem vals_non {ds : List Value} (h : Vals [.non] ds) : ds = [.none] := by
  cases h with
  | cons r t => cases r; cases t; rfl
theorem atN_mk {K : PySem.W.Frag} {h : Heap} {mg : Str → Option Value} {x z : Str} {st : Stmt} {ps : List Str} {f T : Addr} {o : Obj} {n : Nat} {oc : Value} {od an : Option Addr} {osl : Array (Option Value)} {kV doc pm cdv ct : Value} (X : K.In h) (G : h.Ns mainGlobals mg)
    (a : PySem.W.nsIn K mainGlobals x = some (some (.ref f))) (l : K.lookup f = some ⟨oc, od, .func (PySem.W.fnOf x x (defArgs st) (defBody st) (defScope st) (.ref T) kV doc pm an cdv ct), osl⟩) (c : PySem.W.codeIn K cdv x = true) (k : PySem.W.keepIn K (.ref f) = true)
    (t : K.lookup T = some o) (q : o.data = .seq (List.toArray [Value.none]) n)
    (b1 : ∀ (T : Addr) (kV doc pm : Value) (an : Option Addr) (cdv ct : Value) (us its : List Value), us.length = ps.length → its.length = 1 → ∃ k, bindArgs (PySem.W.fnOf x x (defArgs st) (defBody st) (defScope st) (.ref T) kV doc pm an cdv ct) ⟨us, []⟩ = seqItems? (.ref T) >>= k ∧ k (some its.toArray) = pure (ps.zip (us ++ its.drop 1)))
    (b0 : ∀ (T : Addr) (kV doc pm : Value) (an : Option Addr) (cdv ct : Value) (us its : List Value), us.length = ps.length - 1 → its.length = 1 → ∃ k, bindArgs (PySem.W.fnOf x x (defArgs st) (defBody st) (defScope st) (.ref T) kV doc pm an cdv ct) ⟨us, []⟩ = seqItems? (.ref T) >>= k ∧ k (some its.toArray) = pure (ps.zip (us ++ its.drop 0)))
    (bk : ∀ (T : Addr) (kV doc pm : Value) (an : Option Addr) (cdv ct : Value) (us ws its : List Value), us.length = ps.length - 1 → ws.length = 1 → its.length = 1 → ∃ k, bindArgs (PySem.W.fnOf x x (defArgs st) (defBody st) (defScope st) (.ref T) kV doc pm an cdv ct) ⟨us, [z].zip ws⟩ = seqItems? (.ref T) >>= k ∧ k (some its.toArray) = pure (ps.zip (us ++ ws)))
    (hp : ps.length - 1 + 1 = ps.length) : AtN K mg x st ps z := by
  have F : FunD K x x (defArgs st) (defBody st) (defScope st) [.non] [] f (PySem.W.fnOf x x (defArgs st) (defBody st) (defScope st) (.ref T) kV doc pm an cdv ct) :=
    ⟨⟨oc, od, .ref T, kV, doc, pm, an, cdv, ct, osl, rfl, l, c, .inr ⟨by simp, T, o, [.none], n, rfl, t, q, .cons rfl .nil⟩, .inl rfl⟩, k⟩
  obtain ⟨d1, v1, B1⟩ := F.binds1 ps.length 1 (by simp) (by simp) fun T kV doc pm an cdv ct us its h1 h2 => b1 T kV doc pm an cdv ct us its h1 h2
  obtain ⟨d0, v0, B0⟩ := F.binds1 (ps.length - 1) 0 (by simp) (by simpa using hp) fun T kV doc pm an cdv ct us its h1 h2 => b0 T kV doc pm an cdv ct us its h1 h2
  have e1 := vals_nil v1
  have e0 := vals_non v0
  subst e1 e0
  refine ⟨f, _, F, PySem.W.mg_of X G a, B1, B0, ⟨fun s us ws Y h1 h2 => ?_, fun r1 r2 => r1.append r2⟩⟩
  obtain ⟨g, e1, e2⟩ := bk T kV doc pm an cdv ct us ws [.none] h1 h2 rfl
  refine BindsTo.of_looks fun M => ?_
  rw [e1]
  exact looks_items Y t q (.of_pure e2)
structure CalN (P : Program) (w : World) (K : PySem.W.Frag) (mg : Str → Option Value) (base : Heap) (k : Nat) (x : Str) (ps : List Str) (z : Str) (sp : Sp) : Prop where
  ex : ∃ (f : Addr) (fd : FuncData), mg x = some (.ref f) ∧ PySem.W.keepIn K (.ref f) = true ∧ Binds K fd ps [] ∧ Binds K fd ps [.none] ∧ KBn K fd ps (ps.length - 1) [z] (fun us ws => us ++ ws) (fun vs zs => vs ++ zs) ∧ FnOk P w K mg base (L2.CX P w) k f fd ps sp
section
variable {P : Program} {w : World} {K : PySem.W.Frag} {mg : Str → Option Value} {base : Heap}
theorem CalN.x {k : Nat} {x z : Str} {ps : List Str} {sp : Sp} (h : CalN P w K mg base k x ps z sp) : CalX P w K mg base k x ps sp :=
  let ⟨f, fd, h1, h2, h3, _, _, h6⟩ := h.ex
  ⟨f, fd, h1, h2, h3, h6⟩
theorem CalN.cal {k : Nat} {x z : Str} {ps : List Str} {sp : Sp} (h : CalN P w K mg base k x ps z sp) : Cal P w K mg base k x ps sp := h.x.cal
theorem CalN.of_body {α : Type} {arg : α → List D} {pre : α → Prop} {res : α → Res} {x z : Str} {st : Stmt} {f : Addr} {fd : FuncData} {N ps : List Str} {k : Nat} (F : FunD K x x (defArgs st) (defBody st) (defScope st) [.non] [] f fd) (hm : mg x = some (.ref f)) (hb : Binds K fd ps []) (hb0 : Binds K fd ps [.none])
    (hbk : KBn K fd ps (ps.length - 1) [z] (fun us ws => us ++ ws) fun vs zs => vs ++ zs) (S : FnScope N ps (defScope st)) (hl : ∀ y, (arg y).length = ps.length)
    (body : ∀ (cdv : Value) (A : Around) (outer : List Env) (s : Shared) (H : Hp) (E : XK) (C : Ctx), Room k (A.deeper (envOfC x (defScope st) s.heap.objs.size f cdv)) → ∀ y, pre y →
      WP (cxOf (L2.CX P w) P w K mg base N x (defScope st) f cdv A outer s H E) C (startR N (arg y)) (defBody st) (fnPost (res y))) : CalN P w K mg base (k + 1) x ps z (spF K arg pre res) := by
  refine ⟨f, fd, hm, F.kp, hb, hb0, hbk, F.ok S (spF_len hl) fun cdv A outer s H vs Q E hr h => ?_⟩
  obtain ⟨G, y, g, r, hp, q, qe⟩ := h
  refine ⟨wpSs _ (defBody st), pss_wp, body cdv A outer s H E ⟨H, G, []⟩ hr y hp _ H _ (srel_start (ps := ps) g r) ⟨fun ρ σ H' h S' _ => ?_, fun ρ σ H' h => h.elim, fun ρ σ H' h => h.elim, fun t v H' h s rr => q t v H' h s rr, ⟨fun cls d _ H => E cls d H, takes_of rfl rfl rfl rfl, fun c ρ σ H' h S' _ => qe c H' h S'.hh⟩⟩⟩
  exact q _ _ H' h S'.hh (.at .non)
end
section
variable {X : Cx} {C : Ctx} {ρ : Rho} {e ke : Expr} {es : List Expr} {d dk : D} {ds : List D} {pos p kp : Pos} {α : Type} {arg : α → List D} {pre : α → Prop} {res : α → Res} {k : Nat} {x z : Str} {ps : List Str}
/-- the last one is left out -/
theorem ee_callN (y : α) (F : CalN X.prog X.w X.K X.mg X.base k x ps z (spF X.K arg pre res)) (hr : Room k X.A) (ha : EA X C ρ (e :: es) ds) (harg : ds ++ [.non] = arg y) (hp : pre y) (hd : res y = .ok (.im d)) (hg : Gl X x := by rfl) (hdb : (x == ("__debug__" : Str)) = false := by decide)
    (he : starEach (e :: es) X.env = (false, eval e X.env) :: starEach es X.env := by rfl) (hpl : (backTo pos (starEach es X.env)).any (·.1) = false := by rfl) : EE X C ρ (.Call (.Name x p) (e :: es) [] pos) d := fun σ H S Q q => by
  obtain ⟨f, fd, hm, hk, _, hb, _, G⟩ := F.ex
  refine wpE_of (pe_call (dvs := [.non]) G hr hg hm hk hb (.cons rfl .nil) passL pa_wp hdb he hpl) (ha σ H S _ fun vs H1 s1 r1 => ?_)
  have S1 := S.same s1
  refine ⟨vis C (ows ρ) H1, y, S1.visIn, harg ▸ r1.append (.cons (.at .non) .nil), hp, fun r v H2 hr2 s2 rr => ?_, fun c H2 hr2 _ => by rw [hd] at hr2; cases hr2⟩
  rw [hd] at hr2
  cases hr2
  exact q v H2 (s1.trans s2) (Rep.mono (vis_callee (l := []) S1.hh (fun a h => (S1.fr a h).2) (fun _ z => absurd z List.not_mem_nil) s2) _ rr)
/-- the last one is given by its name -/
theorem ee_callK (y : α) (F : CalN X.prog X.w X.K X.mg X.base k x ps z (spF X.K arg pre res)) (hr : Room k X.A) (ha : EA X C ρ (e :: es) ds) (hke : EE X C ρ ke dk) (hlen : ds.length = ps.length - 1) (harg : ds ++ [dk] = arg y) (hp : pre y) (hd : res y = .ok (.im d)) (hg : Gl X x := by rfl)
    (hdb : (x == ("__debug__" : Str)) = false := by decide) (hall : (backToKw pos (keywordEach [⟨some z, ke, kp⟩] X.env)).all (·.1.isSome) = true := by rfl) (hks : (backToKw pos (keywordEach [⟨some z, ke, kp⟩] X.env)).filterMap (·.1) = [z] := by rfl)
    (he : starEach (e :: es) X.env = (false, eval e X.env) :: starEach es X.env := by rfl) (hpl : ((backTo pos (starEach (e :: es) X.env)).any (·.1) || (backToKw pos (keywordEach [⟨some z, ke, kp⟩] X.env)).any (·.1.isNone)) = false := by rfl) :
    EE X C ρ (.Call (.Name x p) (e :: es) [⟨some z, ke, kp⟩] pos) d := fun σ H S Q q => by
  obtain ⟨f, fd, hm, hk, _, _, hb, G⟩ := F.ex
  refine wpE_of (pe_callN G hr hg hm hk hb passL pa_wp (pk_cons pe_wp pk_nil) hall hks hdb he hpl) (ha σ H S _ fun vs H1 s1 r1 => ?_)
  have S1 := S.same s1
  refine hke σ H1 S1 _ fun u H2 s2 r2 => ?_
  have S2 := S1.same s2
  refine ⟨by rw [r1.length]; exact hlen, rfl, vis C (ows ρ) H2, y, S2.visIn, harg ▸ (Reps.mono (vis_same s2) _ r1).append (.cons r2 .nil), hp, fun r v H3 hr2 s3 rr => ?_, fun c H3 hr2 _ => by rw [hd] at hr2; cases hr2⟩
  rw [hd] at hr2
  cases hr2
  exact q v H3 ((s1.trans s2).trans s3) (Rep.mono (vis_callee (l := []) S2.hh (fun a h => (S2.fr a h).2) (fun _ z => absurd z List.not_mem_nil) s3) _ rr)
end
end DL

namespace DL
open PySem PySem.Spec PyProof.Rows L2
/-! ### defs of which only something is told -/
def spQ {α : Type} (K : PySem.W.Frag) (arg : α → List D) (pre : α → Prop) (post : α → Ret → Prop) : Sp := fun vs H Q E => ∃ (G : Hp) (x : α), Same G H ∧ Reps K G vs (arg x) ∧ pre x ∧ ∀ r v H', post x r → Same H H' → RetR K ⟨H, G, []⟩ H' v r → Q v H'
def qPost (post : Ret → Prop) : Post := { nx := fun _ => post (.im .non), rt := post, er := fun _ _ => False }
section
variable {P : Program} {w : World} {K : PySem.W.Frag} {mg : Str → Option Value} {base : Heap}
theorem spQ_len {α : Type} {arg : α → List D} {pre : α → Prop} {post : α → Ret → Prop} {n : Nat} (hl : ∀ y, (arg y).length = n) : ∀ vs H Q E, spQ K arg pre post vs H Q E → vs.length = n := fun vs H Q E h => by
  obtain ⟨G, y, _, r, _⟩ := h
  rw [r.length, hl]
theorem Cal.of_bodyQ {α : Type} {arg : α → List D} {pre : α → Prop} {post : α → Ret → Prop} {x qual : Str} {st : Stmt} {f : Addr} {fd : FuncData} {N ps : List Str} {k : Nat} (F : Fun K x qual st f fd) (hm : mg x = some (.ref f)) (hb : Binds K fd ps []) (S : FnScope N ps (defScope st)) (hl : ∀ y, (arg y).length = ps.length)
    (body : ∀ (cdv : Value) (A : Around) (outer : List Env) (s : Shared) (H : Hp) (E : XK) (C : Ctx), Room k (A.deeper (envOfC qual (defScope st) s.heap.objs.size f cdv)) → ∀ y, pre y →
      WP (cxOf CX0 P w K mg base N qual (defScope st) f cdv A outer s H E).nox C (startR N (arg y)) (defBody st) (qPost (post y))) : Cal P w K mg base (k + 1) x ps (spQ K arg pre post) := by
  refine ⟨f, fd, CX0, hm, F.kp, hb, F.ok S (spQ_len hl) fun cdv A outer s H vs Q E hr h => ?_, fun X _ _ => pass0⟩
  obtain ⟨G, y, g, r, hp, q⟩ := h
  refine ⟨wpSs _ (defBody st), pss_wp, body cdv A outer s H E ⟨H, G, []⟩ hr y hp _ H _ (srel_start (ps := ps) g r) ⟨fun ρ σ H' h S' _ => ?_, fun ρ σ H' h => h.elim, fun ρ σ H' h => h.elim, fun t v H' h s rr => q t v H' h s rr, ⟨fun _ _ _ _ => False, takes0, fun c ρ σ H' h => h.elim⟩⟩⟩
  exact q _ _ H' h S'.hh (.at .non)
end
section
variable {X : Cx} {C : Ctx} {ρ ρ' : Rho} {P : Post} {e tg : Expr} {es : List Expr} {pos p py : Pos} {α : Type} {arg : α → List D} {pre : α → Prop} {post : α → Ret → Prop} {k : Nat} {x z : Str} {ps : List Str}
/-- what a call of such a def comes to -/
theorem callQ (y : α) (F : Cal X.prog X.w X.K X.mg X.base k x ps (spQ X.K arg pre post)) (hr : Room k X.A) (ha : EA X C ρ (e :: es) (arg y)) (hp : pre y) (hg : Gl X x) (hdb : (x == ("__debug__" : Str)) = false)
    (he : starEach (e :: es) X.env = (false, eval e X.env) :: starEach es X.env) (hpl : (backTo pos (starEach es X.env)).any (·.1) = false) {σ : L2.St} {H : Hp} (S : SRel X.K C H σ ρ) {Q : VK} (q : ∀ r, post y r → ∀ H1 v H2, Same H H1 → SRel X.K C H1 σ ρ → Same H1 H2 → RetR X.K ⟨H1, vis C (ows ρ) H1, []⟩ H2 v r → Q v H2) : wpE X (.Call (.Name x p) (e :: es) [] pos) σ H Q := by
  obtain ⟨f, fd, CX, hm, hk, hb, F, hx⟩ := F.ex
  refine wpE_of (pe_call (dvs := []) F hr hg hm hk hb .nil (hx X rfl rfl) pa_wp hdb he hpl) (ha σ H S _ fun vs H1 s1 r1 => ?_)
  have S1 := S.same s1
  rw [List.append_nil]
  exact ⟨vis C (ows ρ) H1, y, S1.visIn, r1, hp, fun r v H2 hr2 s2 rr => q r hr2 H1 v H2 s1 S1 s2 rr⟩
theorem ret_im {σ : L2.St} {H1 H2 : Hp} {v : V} {d : D} (S1 : SRel X.K C H1 σ ρ) (s2 : Same H1 H2) (rr : RetR X.K ⟨H1, vis C (ows ρ) H1, []⟩ H2 v (.im d)) : Rep X.K (vis C (ows ρ) H2) v d :=
  Rep.mono (vis_callee (l := []) S1.hh (fun a h => (S1.fr a h).2) (fun _ z => absurd z List.not_mem_nil) s2) _ rr
/-- x = f(..), data comes back -/
theorem ws_setQ (i : Nat) {n : Str} {spos : Pos} (y : α) (F : Cal X.prog X.w X.K X.mg X.base k x ps (spQ X.K arg pre post)) (hr : Room k X.A) (ha : EA X C ρ (e :: es) (arg y)) (hp : pre y) (h : ∀ r, post y r → ∃ d, r = .im d ∧ P.nx (ρ.set i (.im d))) (hN : X.N.Nodup) (hi : X.N[i]? = some n := by rfl) (hx : Loc X.env.scope n := by first | exact Or.inl rfl | exact Or.inr rfl)
    (hs : swapsWith (.Call (.Name x p) (e :: es) [] pos) (some (.Name n py)) spos.line X.env = pure false := by rfl) (hf : X.fn n = true ∨ X.env.scope.names.lookup n = some .local := by first | exact .inl rfl | exact .inr rfl) (hg : Gl X x := by rfl) (hdb : (x == ("__debug__" : Str)) = false := by decide)
    (he : starEach (e :: es) X.env = (false, eval e X.env) :: starEach es X.env := by rfl) (hpl : (backTo pos (starEach es X.env)).any (·.1) = false := by rfl) : WS X C ρ (.Assign [.Name n py] (.Call (.Name x p) (e :: es) [] pos) spos) P := fun σ H D S L => by
  refine wpS_of (ps_set hN hi hx pe_wp hs hf) (callQ y F hr ha hp hg hdb he hpl S fun r hr1 H1 v H2 s1 S1 s2 rr => ?_)
  obtain ⟨d, rfl, hn⟩ := h r hr1
  obtain ⟨S2, t2⟩ := (S1.same s2).setIm i (ret_im S1 s2 rr)
  exact L.nx _ _ H2 hn S2 ((vis_same (s1.trans s2)).trans t2)
/-- x = f(..), a new list comes back -/
theorem ws_setQF (i : Nat) {n : Str} {spos : Pos} (y : α) (F : Cal X.prog X.w X.K X.mg X.base k x ps (spQ X.K arg pre post)) (hr : Room k X.A) (ha : EA X C ρ (e :: es) (arg y)) (hp : pre y) (h : ∀ r, post y r → ∃ ds, r = .fr ds ∧ ∀ a, P.nx (ρ.set i (.ow a ds))) (hN : X.N.Nodup) (hi : X.N[i]? = some n := by rfl) (hl : i < ρ.length := by exact Nat.le_of_ble_eq_true rfl)
    (hx : Loc X.env.scope n := by first | exact Or.inl rfl | exact Or.inr rfl) (hs : swapsWith (.Call (.Name x p) (e :: es) [] pos) (some (.Name n py)) spos.line X.env = pure false := by rfl) (hf : X.fn n = true ∨ X.env.scope.names.lookup n = some .local := by first | exact .inl rfl | exact .inr rfl) (hg : Gl X x := by rfl)
    (hdb : (x == ("__debug__" : Str)) = false := by decide) (he : starEach (e :: es) X.env = (false, eval e X.env) :: starEach es X.env := by rfl) (hpl : (backTo pos (starEach es X.env)).any (·.1) = false := by rfl) : WS X C ρ (.Assign [.Name n py] (.Call (.Name x p) (e :: es) [] pos) spos) P := fun σ H D S L => by
  refine wpS_of (ps_set hN hi hx pe_wp hs hf) (callQ y F hr ha hp hg hdb he hpl S fun r hr1 H1 v H2 s1 S1 s2 rr => ?_)
  obtain ⟨ds, rfl, hn⟩ := h r hr1
  obtain ⟨a, xs, rfl, nw, l, rs⟩ := rr
  have n1 : H1 a = none := nw
  have rs' := Reps.mono (vis_callee (l := [a]) S1.hh (fun a h => (S1.fr a h).2) (fun b zz => by
    have eb : b = a := by simpa using zz
    rw [eb]
    exact n1) s2) _ rs
  obtain ⟨S2, t2⟩ := S1.setOw i hl n1 s2 l rs'
  exact L.nx _ _ H2 (hn a) S2 ((vis_same s1).trans t2)
/-- a, b = f(..) -/
theorem ws_asgQ {L0 : List Nat} {spos : Pos} (y : α) (F : Cal X.prog X.w X.K X.mg X.base k x ps (spQ X.K arg pre post)) (hr : Room k X.A) (ha : EA X C ρ (e :: es) (arg y)) (hp : pre y) (h : ∀ r, post y r → ∃ d ρ', r = .im d ∧ GT X C ρ tg d ρ' L0 ∧ P.nx ρ')
    (hs : swapsWithSole [tg] (.Call (.Name x p) (e :: es) [] pos) spos.line X.env = pure false := by rfl) (hw : swappedStores [tg] (.Call (.Name x p) (e :: es) [] pos) X.env = pure none := by rfl) (h1 : (assignEach [tg] X.env).map (·.2) = [assign tg X.env] := by rfl) (hg : Gl X x := by rfl)
    (hdb : (x == ("__debug__" : Str)) = false := by decide) (he : starEach (e :: es) X.env = (false, eval e X.env) :: starEach es X.env := by rfl) (hpl : (backTo pos (starEach es X.env)).any (·.1) = false := by rfl) : WS X C ρ (.Assign [tg] (.Call (.Name x p) (e :: es) [] pos) spos) P := fun σ H D S L => by
  refine wpS_of (ps_asg pe_wp pg_wp hs hw h1) (callQ y F hr ha hp hg hdb he hpl S fun r hr1 H1 v H2 s1 S1 s2 rr => ?_)
  obtain ⟨d, ρ', rfl, hgt, hn⟩ := h r hr1
  exact hgt σ H2 v (S1.same s2) (ret_im S1 s2 rr) _ fun σ4 S4 s4 _ => L.nx _ _ H2 hn S4 ((vis_same (s1.trans s2)).trans s4)
/-! ### lists compared -/
theorem ec_neL {a b : Expr} {ds es' : List D} (hu : X.A.units + 64 < cLine) (ha : EL X C ρ a ds) (hb : EL X C ρ b es') (ga : (D.lst ds).Good) (gb : (D.lst es').Good) : EC X C ρ .NotEq a b (.bl (!D.eqb (.lst ds) (.lst es'))) := fun σ H S Q q pins s J => by
  refine binT pe_wp pe_wp J (R := fun v u H2 => ∃ d e, Dp X.K H2 v d ∧ Dp X.K H2 u e ∧ SeqAt.shaped d = true ∧ SeqAt.shaped e = true ∧ Q (.bl (!PyData.eqv d e)) H2) (ha σ H S _ fun l xs H1 s1 sq r1 => hb σ H1 (S.same s1) _ fun m zs H2 s2 sq2 r2 => ?_) fun v u s2 x y H2 J2 rx ry q2 => op_neD hu pins s2 σ H2 x y v u Q J2 rx ry q2
  have S2 := (S.same s1).same s2
  exact ⟨_, _, .lst (s2.seq sq) (D.dps ds ga.1 (Reps.mono S2.visIn _ (Reps.mono (vis_same s2) _ r1))), .lst sq2 (D.dps es' gb.1 (Reps.mono S2.visIn _ r2)), ga.shaped, gb.shaped, q H2 (s1.trans s2)⟩
theorem ec_eqL {a b : Expr} {ds es' : List D} (hu : X.A.units + 64 < cLine) (ha : EL X C ρ a ds) (hb : EL X C ρ b es') (ga : (D.lst ds).Good) (gb : (D.lst es').Good) : EC X C ρ .Eq a b (.bl (D.eqb (.lst ds) (.lst es'))) := fun σ H S Q q pins s J => by
  refine binT pe_wp pe_wp J (R := fun v u H2 => ∃ d e, Dp X.K H2 v d ∧ Dp X.K H2 u e ∧ SeqAt.shaped d = true ∧ SeqAt.shaped e = true ∧ Q (.bl (PyData.eqv d e)) H2) (ha σ H S _ fun l xs H1 s1 sq r1 => hb σ H1 (S.same s1) _ fun m zs H2 s2 sq2 r2 => ?_) fun v u s2 x y H2 J2 rx ry q2 => op_eqD hu pins s2 σ H2 x y v u Q J2 rx ry q2
  have S2 := (S.same s1).same s2
  exact ⟨_, _, .lst (s2.seq sq) (D.dps ds ga.1 (Reps.mono S2.visIn _ (Reps.mono (vis_same s2) _ r1))), .lst sq2 (D.dps es' gb.1 (Reps.mono S2.visIn _ r2)), ga.shaped, gb.shaped, q H2 (s1.trans s2)⟩
end
end DL

namespace DL
open PySem PySem.Spec PyProof.Rows L2
section
variable {X : Cx} {C : Ctx} {ρ ρJ : Rho} {P : Post} {st : Stmt} {sts : List Stmt} {e : Expr}
theorem WS.imp {P' : Post} (h : WS X C ρ st P) (n : ∀ ρ, P.nx ρ → P'.nx ρ) (r : ∀ x, P.rt x → P'.rt x) (b : ∀ ρ, P.bk ρ → P'.bk ρ) (c : ∀ ρ, P.ct ρ → P'.ct ρ) (e : ∀ x ρ, P.er x ρ → P'.er x ρ) : WS X C ρ st P' := fun σ H D S L =>
  h σ H D S ⟨fun ρ σ H q => L.nx ρ σ H (n _ q), fun ρ σ H q => L.bk ρ σ H (b _ q), fun ρ σ H q => L.ct ρ σ H (c _ q), fun x v H q => L.rt x v H (r _ q), by
    obtain ⟨W, h1, h2⟩ := L.tk
    exact ⟨W, h1, fun x ρ σ H q => h2 x ρ σ H (e _ _ q)⟩⟩
/-- the roads of a statement meet -/
theorem wp_join (h : WS X C ρ st { P with nx := fun ρ' => ρ' = ρJ }) (k : WP X C ρJ sts P) : WP X C ρ (st :: sts) P :=
  wp_cons (WS.imp h (fun ρ' e => by subst e; exact k) (fun _ q => q) (fun _ q => q) (fun _ q => q) fun _ _ q => q)
end
/-! ### dots: four ints -/
abbrev P4 := Int × Int × Int × Int
def q4 (p : P4) : D := .tup [.int p.1, .int p.2.1, .int p.2.2.1, .int p.2.2.2]
abbrev D.quads (l : List P4) : List D := l.map q4
theorem map_get {α : Type} {f : α → D} {l : List α} {i : Nat} {d : D} (h : (l.map f)[i]? = some d) : ∃ q, d = f q ∧ l[i]? = some q := by
  rw [List.getElem?_map] at h
  cases e : l[i]? with
  | none => rw [e] at h; cases h
  | some q => rw [e] at h; exact ⟨q, (Option.some.inj h).symm, rfl⟩
theorem quads_ok : ∀ l : List P4, D.pysOk (D.quads l) = true ∧ D.deps (D.quads l) ≤ 1
  | [] => ⟨rfl, Nat.zero_le _⟩
  | q :: l => by
    obtain ⟨h1, h2⟩ := quads_ok l
    refine ⟨?_, ?_⟩
    · show (D.pyOk (q4 q) && D.pysOk (D.quads l)) = true
      rw [h1]; rfl
    · show max (D.dep (q4 q)) (D.deps (D.quads l)) ≤ 1
      exact Nat.max_le.mpr ⟨Nat.le_of_ble_eq_true rfl, h2⟩
theorem good_quads (l : List P4) : (D.lst (D.quads l)).Good := ⟨(quads_ok l).1, by show D.deps (D.quads l) + 1 ≤ 64; have := (quads_ok l).2; omega⟩
theorem eqv_refl_q (q : P4) : PyData.eqv (q4 q).py (q4 q).py = true := by
  obtain ⟨a, b, c, d⟩ := q
  show PyData.eqv (.tuple [.int a, .int b, .int c, .int d]) (.tuple [.int a, .int b, .int c, .int d]) = _
  rw [PyData.eqv, PyData.eqvAll, PyData.eqvAll, PyData.eqvAll, PyData.eqvAll, PyData.eqvAll, eqb_int, eqb_int, eqb_int, eqb_int]
  simp
theorem quads_same (l : List P4) : D.eqb (.lst (D.quads l)) (.lst (D.quads l)) = true := by
  have key : ∀ l : List P4, PyData.eqvAll (D.pys (D.quads l)) (D.pys (D.quads l)) = true := by
    intro l
    induction l with
    | nil => show PyData.eqvAll [] [] = true; rw [PyData.eqvAll]
    | cons q l ih =>
      show PyData.eqvAll ((q4 q).py :: D.pys (D.quads l)) ((q4 q).py :: D.pys (D.quads l)) = true
      rw [PyData.eqvAll, eqv_refl_q, ih]
      rfl
  show PyData.eqv (.list (D.pys (D.quads l))) (.list (D.pys (D.quads l))) = true
  rw [PyData.eqv]
  exact key l
/-! ### an int or nothing -/
def oI : Option Int → D
  | none => .non
  | some i => .int i
theorem isNon_oI (c : Option Int) : (oI c).isNon = decide (c = none) := by cases c <;> rfl
section
variable {X : Cx} {C : Ctx} {ρ : Rho} {e : Expr} {pos : Pos}
/-- min of a list of ints -/
def minI : List Int → Int
  | [] => 0
  | a :: l => l.foldl min a
def maxI : List Int → Int
  | [] => 0
  | a :: l => l.foldl max a
theorem foldl_min : ∀ (l : List Int) (a : Int), (l.foldl min a = a ∨ l.foldl min a ∈ l) ∧ l.foldl min a ≤ a ∧ ∀ y ∈ l, l.foldl min a ≤ y
  | [], a => ⟨.inl rfl, Int.le_refl _, fun _ h => by cases h⟩
  | b :: l, a => by
    obtain ⟨h1, h2, h3⟩ := foldl_min l (min a b)
    refine ⟨?_, ?_, fun y hy => ?_⟩
    · rcases h1 with h | h
      · show l.foldl min (min a b) = a ∨ l.foldl min (min a b) ∈ b :: l
        rw [h]
        rcases Int.le_total a b with z | z
        · rw [Int.min_eq_left z]; exact .inl rfl
        · rw [Int.min_eq_right z]; exact .inr List.mem_cons_self
      · exact .inr (List.mem_cons_of_mem _ h)
    · show l.foldl min (min a b) ≤ a
      omega
    · show l.foldl min (min a b) ≤ y
      rcases List.mem_cons.mp hy with rfl | hy
      · omega
      · exact h3 y hy
theorem foldl_max : ∀ (l : List Int) (a : Int), (l.foldl max a = a ∨ l.foldl max a ∈ l) ∧ a ≤ l.foldl max a ∧ ∀ y ∈ l, y ≤ l.foldl max a
  | [], a => ⟨.inl rfl, Int.le_refl _, fun _ h => by cases h⟩
  | b :: l, a => by
    obtain ⟨h1, h2, h3⟩ := foldl_max l (max a b)
    refine ⟨?_, ?_, fun y hy => ?_⟩
    · rcases h1 with h | h
      · show l.foldl max (max a b) = a ∨ l.foldl max (max a b) ∈ b :: l
        rw [h]
        rcases Int.le_total a b with z | z
        · rw [Int.max_eq_right z]; exact .inr List.mem_cons_self
        · rw [Int.max_eq_left z]; exact .inl rfl
      · exact .inr (List.mem_cons_of_mem _ h)
    · show a ≤ l.foldl max (max a b)
      omega
    · show y ≤ l.foldl max (max a b)
      rcases List.mem_cons.mp hy with rfl | hy
      · omega
      · exact h3 y hy
theorem minI_mem {l : List Int} (h : l ≠ []) : minI l ∈ l := by
  cases l with
  | nil => exact absurd rfl h
  | cons a l => exact (foldl_min l a).1.elim (fun e => by show l.foldl min a ∈ a :: l; rw [e]; exact List.mem_cons_self) fun m => List.mem_cons_of_mem _ m
theorem minI_le {l : List Int} {y : Int} (h : y ∈ l) : minI l ≤ y := by
  cases l with
  | nil => cases h
  | cons a l => exact (List.mem_cons.mp h).elim (fun e => by rw [e]; exact (foldl_min l a).2.1) fun m => (foldl_min l a).2.2 y m
theorem maxI_mem {l : List Int} (h : l ≠ []) : maxI l ∈ l := by
  cases l with
  | nil => exact absurd rfl h
  | cons a l => exact (foldl_max l a).1.elim (fun e => by show l.foldl max a ∈ a :: l; rw [e]; exact List.mem_cons_self) fun m => List.mem_cons_of_mem _ m
theorem le_maxI {l : List Int} {y : Int} (h : y ∈ l) : y ≤ maxI l := by
  cases l with
  | nil => cases h
  | cons a l => exact (List.mem_cons.mp h).elim (fun e => by rw [e]; exact (foldl_max l a).2.1) fun m => (foldl_max l a).2.2 y m
theorem ee_minL {ns : List Int} {p : Pos} (hm : X.mg "min" = none) (ha : EL X C ρ e (D.ints ns)) (hne : ns ≠ []) (hc : X.calm = true := by rfl) (hg : Gl X "min" := by rfl) (he : starEach [e] X.env = (false, eval e X.env) :: starEach [] X.env := by rfl) : EE X C ρ (.Call (.Name "min" p) [e] [] pos) (.int (minI ns)) :=
  ee_callB (cr_min hc) (eal_consL ha eal_nil he) (fun σ H vs S r Q q => by
    obtain ⟨v, rfl, r1⟩ := r.one
    cases r1 with
    | lst sq rs =>
      have e1 := rs.ints
      subst e1
      exact ⟨_, ns, rfl, sq, List.length_pos_iff.mpr hne, fun m h1 h2 => by
        have e2 : m = minI ns := Int.le_antisymm (h2 _ (minI_mem hne)) (minI_le h1)
        subst e2
        exact q _ H (Same.refl H) (.at _)⟩) hm (by decide +kernel) hg (by decide) (by decide) he rfl
theorem ee_maxL {ns : List Int} {p : Pos} (hm : X.mg "max" = none) (ha : EL X C ρ e (D.ints ns)) (hne : ns ≠ []) (hc : X.calm = true := by rfl) (hg : Gl X "max" := by rfl) (he : starEach [e] X.env = (false, eval e X.env) :: starEach [] X.env := by rfl) : EE X C ρ (.Call (.Name "max" p) [e] [] pos) (.int (maxI ns)) :=
  ee_callB (cr_max hc) (eal_consL ha eal_nil he) (fun σ H vs S r Q q => by
    obtain ⟨v, rfl, r1⟩ := r.one
    cases r1 with
    | lst sq rs =>
      have e1 := rs.ints
      subst e1
      exact ⟨_, ns, rfl, sq, List.length_pos_iff.mpr hne, fun m h1 h2 => by
        have e2 : m = maxI ns := Int.le_antisymm (le_maxI h1) (h2 _ (maxI_mem hne))
        subst e2
        exact q _ H (Same.refl H) (.at _)⟩) hm (by decide +kernel) hg (by decide) (by decide) he rfl
/-- a list literal of ints, read at a place within -/
theorem ee_pickI {ns : List Int} {k : Int} {b : Expr} (ha : EL X C ρ e (D.ints ns)) (hb : EE X C ρ b (.int k)) (h0 : 0 ≤ k ∧ k < ns.length) (hp : PlainIx b := by intro _ _; rfl) : EE X C ρ (.Subscript e b pos) (.int (ns.getD k.toNat 0)) := ee_ixL ha hb (ints_atI h0.1 h0.2) hp
end
end DL

namespace DL
open PySem PySem.Spec PyProof.Rows L2
/-! ### slices of typed lists -/
def cutL {α : Type} (xs : List α) (lo hi : Option Int) : List α := (xs.drop (HT.sIx xs.length 0 lo)).take (HT.sIx xs.length xs.length hi - HT.sIx xs.length 0 lo)
theorem cut_map {α : Type} (f : α → D) (l : List α) (lo hi : Option Int) : cutD (l.map f) lo hi = (cutL l lo hi).map f := by
  unfold cutD cutL
  rw [List.length_map, List.map_take, List.map_drop]
theorem cut_mem {α : Type} {l : List α} {lo hi : Option Int} {x : α} (h : x ∈ cutL l lo hi) : x ∈ l := List.mem_of_mem_drop (List.mem_of_mem_take h)
theorem cut_len {α : Type} (l : List α) (lo hi : Option Int) : (cutL l lo hi).length ≤ l.length := by
  unfold cutL
  rw [List.length_take, List.length_drop]
  omega
theorem t3s_ok : ∀ l : List P3, D.pysOk (l.map t3) = true ∧ D.deps (l.map t3) ≤ 1
  | [] => ⟨rfl, Nat.zero_le _⟩
  | q :: l => by
    obtain ⟨h1, h2⟩ := t3s_ok l
    refine ⟨?_, ?_⟩
    · show (D.pyOk (t3 q) && D.pysOk (l.map t3)) = true
      rw [h1]; rfl
    · show max (D.dep (t3 q)) (D.deps (l.map t3)) ≤ 1
      exact Nat.max_le.mpr ⟨Nat.le_of_ble_eq_true rfl, h2⟩
theorem good_t3s (l : List P3) : (D.lst (l.map t3)).Good := ⟨(t3s_ok l).1, by show D.deps (l.map t3) + 1 ≤ 64; have := (t3s_ok l).2; omega⟩
section
variable {X : Cx} {C : Ctx} {ρ : Rho} {a : Expr} {ds : List D} {p : Pos} {k : Nat}
theorem eqb_empty (ds : List D) : D.eqb (.lst ds) (.lst []) = ds.isEmpty := by
  cases ds with
  | nil => show PyData.eqv (.list []) (.list []) = true; rw [PyData.eqv, PyData.eqvAll]
  | cons d ds => show PyData.eqv (.list (d.py :: D.pys ds)) (.list []) = false; rw [PyData.eqv, PyData.eqvAll]
/-- xs == [] -/
theorem ec_eqE (hu : X.A.units + 64 < cLine) (ha : EL X C ρ a ds) (ga : (D.lst ds).Good) (h0 : EL X C ρ (.List [] p) []) : EC X C ρ .Eq a (.List [] p) (.bl ds.isEmpty) := (ec_eqL hu ha h0 ga ⟨rfl, by decide⟩).eq (by rw [eqb_empty])
theorem ec_neE (hu : X.A.units + 64 < cLine) (ha : EL X C ρ a ds) (ga : (D.lst ds).Good) (h0 : EL X C ρ (.List [] p) []) : EC X C ρ .NotEq a (.List [] p) (.bl (!ds.isEmpty)) := (ec_neL hu ha h0 ga ⟨rfl, by decide⟩).eq (by rw [eqb_empty])
end
end DL

namespace DL
open PySem PySem.Spec PyProof.Rows L2
/-! ### numbers -/
theorem sign_eq {n : Int} (h : n ≠ 0) : (n.natAbs : Int).fdiv n = n.sign := by
  rcases Int.lt_trichotomy n 0 with a | a | a
  · have e : (n.natAbs : Int) = (-1) * n := by omega
    rw [e, Int.sign_eq_neg_one_of_neg a, Int.mul_fdiv_cancel _ h]
  · exact absurd a h
  · have e : (n.natAbs : Int) = n := by omega
    rw [e, Int.sign_eq_one_of_pos a]
    exact Int.fdiv_self h
theorem sign_zero_iff {n : Int} : n.sign = 0 ↔ n = 0 := Int.sign_eq_zero_iff_zero
def WfP (p : P3) : Prop := 0 < p.1 ∧ Int.gcd (Int.gcd p.1 p.2.1) p.2.2 = 1
/-- three ints by their common divisor -/
def nrm (a b c : Int) : P3 := (a / (Int.gcd (Int.gcd a b) c : Nat), b / (Int.gcd (Int.gcd a b) c : Nat), c / (Int.gcd (Int.gcd a b) c : Nat))
theorem gcd3_dvd (a b c : Int) : ((Int.gcd (Int.gcd a b) c : Nat) : Int) ∣ a ∧ ((Int.gcd (Int.gcd a b) c : Nat) : Int) ∣ b ∧ ((Int.gcd (Int.gcd a b) c : Nat) : Int) ∣ c := by
  have h1 : ((Int.gcd (Int.gcd a b) c : Nat) : Int) ∣ ((Int.gcd a b : Nat) : Int) := Int.gcd_dvd_left ..
  exact ⟨Int.dvd_trans h1 (Int.gcd_dvd_left ..), Int.dvd_trans h1 (Int.gcd_dvd_right ..), Int.gcd_dvd_right ..⟩
theorem gcd3_pos {a : Int} (b c : Int) (h : a ≠ 0) : 0 < Int.gcd (Int.gcd a b) c := by
  apply Nat.pos_of_ne_zero
  intro z
  have h1 := (Int.gcd_eq_zero_iff.mp z).1
  have h2 : Int.gcd a b = 0 := by omega
  exact h (Int.gcd_eq_zero_iff.mp h2).1
theorem nrm_eq {a b c : Int} : (nrm a b c).1 * (Int.gcd (Int.gcd a b) c : Nat) = a ∧ (nrm a b c).2.1 * (Int.gcd (Int.gcd a b) c : Nat) = b ∧ (nrm a b c).2.2 * (Int.gcd (Int.gcd a b) c : Nat) = c :=
  let ⟨h1, h2, h3⟩ := gcd3_dvd a b c
  ⟨Int.ediv_mul_cancel h1, Int.ediv_mul_cancel h2, Int.ediv_mul_cancel h3⟩
theorem gcd3_mul (k a b c : Int) : Int.gcd (Int.gcd (a * k) (b * k)) (c * k) = Int.gcd (Int.gcd a b) c * k.natAbs := by
  rw [Int.gcd_mul_right, show ((Int.gcd a b * k.natAbs : Nat) : Int) = (Int.gcd a b : Int) * (k.natAbs : Int) by simp]
  have h : Int.gcd ((Int.gcd a b : Int) * (k.natAbs : Int)) (c * k) = Int.gcd ((Int.gcd a b : Int) * k) (c * k) := by
    show Nat.gcd _ _ = Nat.gcd _ _
    simp only [Int.natAbs_mul, Int.natAbs_natCast]
  rw [h, Int.gcd_mul_right]
theorem nrm_wf {a b c : Int} (h : 0 < a) : WfP (nrm a b c) := by
  have hg := gcd3_pos b c (Int.ne_of_gt h)
  obtain ⟨e1, e2, e3⟩ := nrm_eq (a := a) (b := b) (c := c)
  refine ⟨?_, ?_⟩
  · apply Int.pos_of_mul_pos_left (b := ((Int.gcd (Int.gcd a b) c : Nat) : Int))
    · rw [e1]; exact h
    · omega
  · have q := gcd3_mul ((Int.gcd (Int.gcd a b) c : Nat) : Int) (nrm a b c).1 (nrm a b c).2.1 (nrm a b c).2.2
    rw [e1, e2, e3, Int.natAbs_natCast] at q
    have q' : Int.gcd (Int.gcd (nrm a b c).1 (nrm a b c).2.1) (nrm a b c).2.2 * Int.gcd (Int.gcd a b) c = 1 * Int.gcd (Int.gcd a b) c := by rw [Nat.one_mul]; exact q.symm
    exact Nat.eq_of_mul_eq_mul_right hg q'
theorem natAbs_ediv_le' (a : Int) (g : Nat) (h : 0 < g) : (a / (g : Int)).natAbs ≤ a.natAbs := natAbs_ediv_le a g (by omega)
theorem nrm_sz {n m l : Nat} {a b c : Int} (h : a ≠ 0) (h1 : Sz n a) (h2 : Sz m b) (h3 : Sz l c) : Sz n (nrm a b c).1 ∧ Sz m (nrm a b c).2.1 ∧ Sz l (nrm a b c).2.2 := by
  have hg : (0 : Int) < ((Int.gcd (Int.gcd a b) c : Nat) : Int) := by have := gcd3_pos b c h; omega
  exact ⟨h1.ediv hg, h2.ediv hg, h3.ediv hg⟩
/-- two places that are one to another as their rows tell -/
theorem wf_ext {p q : P3} (hp : WfP p) (hq : WfP q) (h1 : p.2.1 * q.1 = q.2.1 * p.1) (h2 : p.2.2 * q.1 = q.2.2 * p.1) : p = q := by
  have g := gcd3_mul q.1 p.1 p.2.1 p.2.2
  rw [h1, h2, show p.1 * q.1 = q.1 * p.1 by grind, gcd3_mul, hp.2, hq.2] at g
  have e : p.1 = q.1 := by have := hp.1; have := hq.1; omega
  have ne : q.1 ≠ 0 := Int.ne_of_gt hq.1
  obtain ⟨a, b, c⟩ := p
  obtain ⟨x, y, z⟩ := q
  simp only at e h1 h2 ne
  subst e
  have e2 := Int.eq_of_mul_eq_mul_right ne h1
  have e3 := Int.eq_of_mul_eq_mul_right ne h2
  rw [e2, e3]
theorem Sz.gcd {n m : Nat} {a b : Int} (ha : Sz n a) (hb : Sz m b) : Sz (max n m) (Int.gcd a b : Nat) := by
  by_cases h : a = 0
  · subst h
    rw [Int.gcd_zero_left]
    exact hb.nabs.mono (Nat.le_max_right _ _)
  · have h1 : Int.gcd a b ≤ a.natAbs := Nat.le_of_dvd (by omega) (Int.gcd_dvd_natAbs_left ..)
    exact Sz.le (j := a) (by rw [Int.natAbs_natCast]; exact h1) (ha.mono (Nat.le_max_left _ _))
/-- isinstance(x, int) and not isinstance(x, bool) -/
def D.isInt : D → Bool
  | .at (.int _) => true
  | _ => false
theorem isInt_of {d : D} {n : String} (h : d.tyN = some n) : d.isInt = true ↔ n = "int" := by
  cases d with
  | «at» v => cases v <;> simp [D.tyN, D.isInt] at h ⊢ <;> first | (subst h; decide) | exact h.symm
  | tup l => simp [D.tyN, D.isInt] at h ⊢; subst h; decide
  | lst l => simp [D.tyN, D.isInt] at h ⊢; subst h; decide
  | exc c => simp [D.tyN] at h
theorem tyN_cases {d : D} {n : String} (h : d.tyN = some n) : n = "NoneType" ∨ n = "bool" ∨ n = "int" ∨ n = "str" ∨ n = "tuple" ∨ n = "list" := by
  cases d with
  | «at» v => cases v <;> simp [D.tyN] at h <;> subst h <;> simp
  | tup l => simp [D.tyN] at h; subst h; simp
  | lst l => simp [D.tyN] at h; subst h; simp
  | exc c => simp [D.tyN] at h
/-! ### the program's own numbers -/
@[irreducible] def rankM (a b : P3) : Int := if (a.2.1 * b.1 - b.2.1 * a.1).sign ≠ 0 then (a.2.1 * b.1 - b.2.1 * a.1).sign else (a.2.2 * b.1 - b.2.2 * a.1).sign
@[irreducible] def swingM (a b c : P3) : Int := a.1 * (b.2.1 * c.2.2 - c.2.1 * b.2.2) + b.1 * (c.2.1 * a.2.2 - a.2.1 * c.2.2) + c.1 * (a.2.1 * b.2.2 - b.2.1 * a.2.2)
/-- the int in a slot, as a measure -/
def intAt (ρ : Rho) (i : Nat) : Nat := match ρ[i]? with
  | some (En.im (D.at (V.int z))) => z.toNat
  | _ => 0
/-! ### ranges -/
theorem rgc_of {lo hi c : Int} (hc : 0 < c ∧ c < 1000) (h0 : 0 ≤ hi ∧ hi ≤ 63) (h : (List.range 64).all (fun m => Builtin.Range.small lo m c && decide (Builtin.Range.rangeSize lo m c = ((((m : Int) - lo + c - 1) / c).toNat : Nat))) = true) : RgC lo hi c (((hi - lo + c - 1) / c).toNat) := by
  have e : hi = (hi.toNat : Int) := by omega
  have m : hi.toNat ∈ List.range 64 := by rw [List.mem_range]; omega
  have q := List.all_eq_true.mp h _ m
  rw [Bool.and_eq_true, ← e] at q
  exact ⟨by omega, by omega, q.1, of_decide_eq_true q.2⟩
theorem rngDc_get {lo c : Int} {n i : Nat} {d : D} (h : (rngDc lo c n)[i]? = some d) : d = .int (lo + (i : Int) * c) ∧ i < n := by
  unfold rngDc at h
  rw [List.getElem?_map] at h
  by_cases hi : i < n
  · rw [List.getElem?_range hi] at h
    exact ⟨(Option.some.inj h).symm, hi⟩
  · rw [List.getElem?_eq_none (by simpa using hi)] at h
    cases h
theorem rngD_get {lo : Int} {n i : Nat} {d : D} (h : (rngD lo n)[i]? = some d) : d = .int (lo + (i : Int)) ∧ i < n := by
  unfold rngD at h
  rw [List.getElem?_map] at h
  by_cases hi : i < n
  · rw [List.getElem?_range hi] at h
    exact ⟨(Option.some.inj h).symm, hi⟩
  · rw [List.getElem?_eq_none (by simpa using hi)] at h
    cases h
/-! ### cells -/
@[irreducible] def cellZ (ns : List Int) (k : Int) : Int := ns.getD k.toNat 0
theorem cellZ_sz {ns : List Int} {n : Nat} (h : ∀ z ∈ ns, Sz n z) (k : Int) : Sz n (cellZ ns k) := by
  unfold cellZ
  rw [List.getD_eq_getElem?_getD]
  cases e : ns[k.toNat]? with
  | none => exact Sz.zero n
  | some z => exact h z (List.mem_of_getElem? e)
theorem ints_app (xs ys : List Int) : D.ints xs ++ D.ints ys = D.ints (xs ++ ys) := (List.map_append ..).symm
theorem take_map {α β : Type} (f : α → β) {ns : List α} {i : Nat} {n : α} (h : ns[i]? = some n) : (ns.take (i + 1)).map f = (ns.take i).map f ++ [f n] := by
  rw [List.take_add_one, h, List.map_append]
  rfl
theorem all3 {p : Int → Prop} {a b c : Int} (h1 : p a) (h2 : p b) (h3 : p c) : ∀ z ∈ [a, b, c], p z := by
  intro z hz
  simp only [List.mem_cons, List.not_mem_nil, or_false] at hz
  rcases hz with rfl | rfl | rfl <;> assumption
theorem ints_atC {ns : List Int} {k : Int} (h0 : 0 ≤ k) (h : k < ns.length) : atI (D.ints ns) k = some (.int (cellZ ns k)) := by
  rw [ints_atI h0 h]
  simp only [cellZ]
theorem dec_or3 (p q r : Prop) [Decidable p] [Decidable q] [Decidable r] : (decide p || (decide q && decide r)) = decide (p ∨ (q ∧ r)) := by simp
theorem dec_and (p q : Prop) [Decidable p] [Decidable q] : (decide p && decide q) = decide (p ∧ q) := by simp

/-! ### greatest common divisors of lists, places -/
@[irreducible] def gcdL (ns : List Int) : Nat := ns.foldl (fun g n => Nat.gcd g n.natAbs) 0
theorem gcdL_nil : gcdL [] = 0 := by unfold gcdL; rfl
theorem gcdL_step {ns : List Int} {i : Nat} {n : Int} (h : ns[i]? = some n) : gcdL (ns.take (i + 1)) = Nat.gcd (gcdL (ns.take i)) n.natAbs := by
  unfold gcdL
  rw [List.take_add_one, h, List.foldl_append]
  rfl
theorem gcdL_two (a b : Int) : gcdL [a, b] = Int.gcd a b := by
  unfold gcdL
  simp [Int.gcd]
theorem gcdL_three (a b c : Int) : gcdL [a, b, c] = Int.gcd (Int.gcd a b) c := by
  unfold gcdL
  simp [Int.gcd]
theorem gcdL_le {n : Nat} {ns : List Int} (h : ∀ z ∈ ns, Sz n z) : Sz n (gcdL ns : Nat) := by
  have key : ∀ (l : List Int) (g : Nat), (∀ z ∈ l, Sz n z) → g < 2 ^ n → l.foldl (fun g n => Nat.gcd g n.natAbs) g < 2 ^ n := by
    intro l
    induction l with
    | nil => intro g _ hg; exact hg
    | cons z l ih =>
      intro g hz hg
      refine ih _ (fun y hy => hz y (List.mem_cons_of_mem _ hy)) ?_
      by_cases e : g = 0
      · subst e
        show Nat.gcd 0 z.natAbs < _
        rw [Nat.gcd_zero_left]
        exact (hz z List.mem_cons_self).lt
      · exact Nat.lt_of_le_of_lt (Nat.gcd_le_left _ (by omega)) hg
  constructor
  rw [Int.natAbs_natCast]
  unfold gcdL
  exact key ns 0 h (Nat.two_pow_pos n)
@[irreducible] def lowL (ns : List Int) : List Int := ns.map fun z => z / max ((gcdL ns : Nat) : Int) 1
theorem ediv_low {a : Int} {g : Nat} (h : (g : Int) ∣ a) : a / max (g : Int) 1 = a / (g : Int) := by
  by_cases e : g = 0
  · subst e
    have z : a = 0 := by simpa using h
    subst z
    rfl
  · rw [Int.max_eq_left (by omega)]
theorem low_t3 (a b c : Int) : D.tup (D.ints (lowL [a, b, c])) = t3 (nrm a b c) := by
  obtain ⟨h1, h2, h3⟩ := gcd3_dvd a b c
  unfold lowL
  simp only [gcdL_three]
  show D.tup [.int (a / max ((Int.gcd (Int.gcd a b) c : Nat) : Int) 1), .int (b / max ((Int.gcd (Int.gcd a b) c : Nat) : Int) 1), .int (c / max ((Int.gcd (Int.gcd a b) c : Nat) : Int) 1)] = _
  rw [ediv_low h1, ediv_low h2, ediv_low h3]
  rfl
theorem gcd3_pos' {a b c : Int} (h : a ≠ 0 ∨ b ≠ 0 ∨ c ≠ 0) : 0 < Int.gcd (Int.gcd a b) c := by
  apply Nat.pos_of_ne_zero
  intro z
  have h1 := Int.gcd_eq_zero_iff.mp z
  have h2 := Int.gcd_eq_zero_iff.mp (show Int.gcd a b = 0 by omega)
  omega
theorem nrm_sz' {n m l : Nat} {a b c : Int} (h : a ≠ 0 ∨ b ≠ 0 ∨ c ≠ 0) (h1 : Sz n a) (h2 : Sz m b) (h3 : Sz l c) : Sz n (nrm a b c).1 ∧ Sz m (nrm a b c).2.1 ∧ Sz l (nrm a b c).2.2 := by
  have hg : (0 : Int) < ((Int.gcd (Int.gcd a b) c : Nat) : Int) := by have := gcd3_pos' h; omega
  exact ⟨h1.ediv hg, h2.ediv hg, h3.ediv hg⟩
@[irreducible] def placeP (y : P3) : P3 := if 0 < y.1 then nrm y.1 y.2.1 y.2.2 else nrm (0 - y.1) (0 - y.2.1) (0 - y.2.2)
theorem placeP_wf {y : P3} (h : y.1 ≠ 0) : WfP (placeP y) := by
  unfold placeP
  split
  · exact nrm_wf (by assumption)
  · exact nrm_wf (by omega)
theorem placeP_eq {y : P3} (h : y.1 ≠ 0) : ∃ k : Int, k ≠ 0 ∧ (placeP y).1 * k = y.1 ∧ (placeP y).2.1 * k = y.2.1 ∧ (placeP y).2.2 * k = y.2.2 := by
  unfold placeP
  split
  · obtain ⟨e1, e2, e3⟩ := nrm_eq (a := y.1) (b := y.2.1) (c := y.2.2)
    exact ⟨_, by have := gcd3_pos y.2.1 y.2.2 h; omega, e1, e2, e3⟩
  · obtain ⟨e1, e2, e3⟩ := nrm_eq (a := 0 - y.1) (b := 0 - y.2.1) (c := 0 - y.2.2)
    have := gcd3_pos (a := 0 - y.1) (0 - y.2.1) (0 - y.2.2) (by omega)
    refine ⟨-((Int.gcd (Int.gcd (0 - y.1) (0 - y.2.1)) (0 - y.2.2) : Nat) : Int), by omega, ?_, ?_, ?_⟩
    · rw [Int.mul_neg, e1]; omega
    · rw [Int.mul_neg, e2]; omega
    · rw [Int.mul_neg, e3]; omega
theorem mul_cross {a b c d k l : Int} (hk : k ≠ 0) (hl : l ≠ 0) (h : (a * k) * (b * l) = (c * l) * (d * k)) : a * b = c * d := by
  have e : (a * b) * (k * l) = (c * d) * (k * l) := by grind
  exact Int.eq_of_mul_eq_mul_right (Int.mul_ne_zero hk hl) e
/-- one place by two rows -/
theorem placeP_same {y z : P3} (hy : y.1 ≠ 0) (hz : z.1 ≠ 0) (h1 : y.2.1 * z.1 = z.2.1 * y.1) (h2 : y.2.2 * z.1 = z.2.2 * y.1) : placeP y = placeP z := by
  obtain ⟨k, nk, a1, a2, a3⟩ := placeP_eq hy
  obtain ⟨l, nl, b1, b2, b3⟩ := placeP_eq hz
  rw [← a1, ← a2, ← b1, ← b2] at h1
  rw [← a1, ← a3, ← b1, ← b3] at h2
  exact wf_ext (placeP_wf hy) (placeP_wf hz) (mul_cross nk nl h1) (mul_cross nk nl h2)
/-- a place is the one that its row tells -/
theorem placeP_self {p : P3} (h : WfP p) : placeP p = p := by
  obtain ⟨k, nk, a1, a2, a3⟩ := placeP_eq (y := p) (Int.ne_of_gt h.1)
  refine wf_ext (placeP_wf (Int.ne_of_gt h.1)) h ?_ ?_
  · rw [← a1, ← a2]; grind
  · rw [← a1, ← a3]; grind
theorem placeP_sz {n : Nat} {y : P3} (h : y.1 ≠ 0) (s : Sz3 n y) : Sz3 (n + 1) (placeP y) := by
  obtain ⟨s1, s2, s3⟩ := s
  unfold placeP
  split
  · obtain ⟨a, b, c⟩ := nrm_sz h s1 s2 s3
    exact ⟨a.mono (by omega), b.mono (by omega), c.mono (by omega)⟩
  · obtain ⟨a, b, c⟩ := nrm_sz (a := 0 - y.1) (b := 0 - y.2.1) (c := 0 - y.2.2) (by omega) ((Sz.zero n).sub s1) ((Sz.zero n).sub s2) ((Sz.zero n).sub s3)
    exact ⟨a.mono (by omega), b.mono (by omega), c.mono (by omega)⟩
/-- a form's value stays nought under the common factor -/
theorem placeP_zero {y : P3} (h : y.1 ≠ 0) {a b c : Int} (z : a * y.1 + b * y.2.1 + c * y.2.2 = 0) : a * (placeP y).1 + b * (placeP y).2.1 + c * (placeP y).2.2 = 0 := by
  obtain ⟨k, nk, a1, a2, a3⟩ := placeP_eq h
  rw [← a1, ← a2, ← a3] at z
  have e : (a * (placeP y).1 + b * (placeP y).2.1 + c * (placeP y).2.2) * k = 0 := by grind
  rcases Int.mul_eq_zero.mp e with e | e
  · exact e
  · exact absurd e nk
@[irreducible] def wedgeM (a b : P3) : P3 := (a.2.1 * b.2.2 - b.2.1 * a.2.2, a.2.2 * b.1 - b.2.2 * a.1, a.1 * b.2.1 - b.1 * a.2.1)
theorem wedge_sz {n m : Nat} {a b : P3} (ha : Sz3 n a) (hb : Sz3 m b) : Sz3 (n + m + 1) (wedgeM a b) := by
  obtain ⟨a1, a2, a3⟩ := ha
  obtain ⟨b1, b2, b3⟩ := hb
  unfold wedgeM
  exact ⟨((a2.mul b3).sub (b2.mul a3)).mono (by omega), ((a3.mul b1).sub (b3.mul a1)).mono (by omega), ((a1.mul b2).sub (b1.mul a2)).mono (by omega)⟩
theorem wedge_on (a b : P3) : a.1 * (wedgeM a b).1 + a.2.1 * (wedgeM a b).2.1 + a.2.2 * (wedgeM a b).2.2 = 0 ∧ b.1 * (wedgeM a b).1 + b.2.1 * (wedgeM a b).2.1 + b.2.2 * (wedgeM a b).2.2 = 0 := by
  unfold wedgeM
  refine ⟨by grind, by grind⟩
theorem wedge_turn (a b : P3) : (wedgeM b a).1 = -(wedgeM a b).1 ∧ (wedgeM b a).2.1 = -(wedgeM a b).2.1 ∧ (wedgeM b a).2.2 = -(wedgeM a b).2.2 := by
  unfold wedgeM
  refine ⟨by grind, by grind, by grind⟩
@[irreducible] def crossM (a b : P3) : Option P3 := if (wedgeM a b).1 = 0 then none else some (placeP (wedgeM a b))
theorem cross_turn (a b : P3) : crossM b a = crossM a b := by
  obtain ⟨t1, t2, t3⟩ := wedge_turn a b
  unfold crossM
  by_cases h : (wedgeM a b).1 = 0
  · rw [if_pos h, if_pos (by omega)]
  · rw [if_neg h, if_neg (by omega), placeP_same (by omega) h (by rw [t2, t1]; grind) (by rw [t3, t1]; grind)]

/-! ### dots seen from a place -/
theorem ints_map {α : Type} (f : α → Int) (l : List α) : (l.map fun x => D.int (f x)) = D.ints (l.map f) := by simp [D.ints, Function.comp_def]
theorem take_filter_step {α : Type} (p : α → Bool) {l : List α} {i : Nat} {x : α} (h : l[i]? = some x) : (l.take (i + 1)).filter p = (l.take i).filter p ++ (if p x = true then [x] else []) := by
  rw [List.take_add_one, h, List.filter_append]
  cases e : p x <;> simp [e]
theorem foldl_take {α β : Type} (f : β → α → β) (b : β) {l : List α} {i : Nat} {x : α} (h : l[i]? = some x) : (l.take (i + 1)).foldl f b = f ((l.take i).foldl f b) x := by
  rw [List.take_add_one, h, List.foldl_append]
  rfl
@[irreducible] def rightM (h : P3) (q : P4) : Int := q.1 * h.1 - h.2.1
@[irreducible] def aboveM (h : P3) (q : P4) : Int := q.2.1 * h.1 - h.2.2
@[irreducible] def offM (h : P3) (q : P4) : Bool := decide (rightM h q ≠ 0 ∨ aboveM h q ≠ 0)
@[irreducible] def wayM (h : P3) (q : P4) : P3 := (rightM h q, aboveM h q, q.2.2.2)
@[irreducible] def waysM (ds : List P4) (h : P3) : List P3 := (ds.filter (offM h)).map (wayM h)
theorem ways_step (h : P3) {ds : List P4} {i : Nat} {q : P4} (e : ds[i]? = some q) : waysM (ds.take (i + 1)) h = waysM (ds.take i) h ++ (if offM h q = true then [wayM h q] else []) := by
  unfold waysM
  rw [take_filter_step _ e, List.map_append]
  cases offM h q <;> rfl
theorem ways_len (ds : List P4) (h : P3) : (waysM ds h).length ≤ ds.length := by
  unfold waysM
  rw [List.length_map]
  exact List.length_filter_le _ _
@[irreducible] def weightAt (ds : List P4) (h : P3) : Int := ((ds.filter fun q => decide ((1, q.1, q.2.1) = h)).map fun q => q.2.2.2).sum
@[irreducible] def turnM (v w : P3) : Int := v.1 * w.2.1 - v.2.1 * w.1
@[irreducible] def alongM (v w : P3) : Int := v.1 * w.1 + v.2.1 * w.2.1
/-- left, right, ahead, back -/
def besStep (v : P3) (p : P4) (w : P3) : P4 :=
  if 0 < turnM v w then (p.1 + w.2.2, p.2.1, p.2.2.1, p.2.2.2) else if turnM v w < 0 then (p.1, p.2.1 + w.2.2, p.2.2.1, p.2.2.2) else if 0 < alongM v w then (p.1, p.2.1, p.2.2.1 + w.2.2, p.2.2.2) else (p.1, p.2.1, p.2.2.1, p.2.2.2 + w.2.2)
@[irreducible] def besM (ws : List P3) (v : P3) : P4 := ws.foldl (besStep v) (0, 0, 0, 0)
theorem bes_step (v : P3) {ws : List P3} {i : Nat} {w : P3} (e : ws[i]? = some w) : besM (ws.take (i + 1)) v = besStep v (besM (ws.take i) v) w := by
  unfold besM
  exact foldl_take _ _ e
theorem bes_nil (v : P3) : besM [] v = (0, 0, 0, 0) := by unfold besM; rfl
@[irreducible] def lighterM (p : P4) : Int := min p.1 p.2.1 + min p.2.2.1 p.2.2.2
@[irreducible] def leastM (ws : List P3) : Int := minI (ws.map fun v => lighterM (besM ws v))
@[irreducible] def depthM (ds : List P4) (h : P3) : Int := if (waysM ds h).isEmpty = true then weightAt ds h else weightAt ds h + leastM (waysM ds h)
structure DotOk (n : Nat) (q : P4) : Prop where
  x : Sz n q.1
  y : Sz n q.2.1
theorem right_sz {n m : Nat} {h : P3} {q : P4} (d : DotOk n q) (s : Sz3 m h) : Sz (n + m + 1) (rightM h q) := by
  unfold rightM
  obtain ⟨s1, s2, s3⟩ := s
  exact ((d.x.mul s1).sub s2).mono (by omega)
theorem above_sz' {n m : Nat} {h : P3} {q : P4} (d : DotOk n q) (s : Sz3 m h) : Sz (n + m + 1) (aboveM h q) := by
  unfold aboveM
  obtain ⟨s1, s2, s3⟩ := s
  exact ((d.y.mul s1).sub s3).mono (by omega)
/-- a way: sizes, and not nought -/
structure WayOk (n : Nat) (w : P3) : Prop where
  x : Sz n w.1
  y : Sz n w.2.1
  ne : w.1 ≠ 0 ∨ w.2.1 ≠ 0
theorem ways_ok {n m : Nat} {ds : List P4} {h : P3} (hd : ∀ q ∈ ds, DotOk n q) (s : Sz3 m h) : ∀ w ∈ waysM ds h, WayOk (n + m + 1) w := by
  intro w hw
  unfold waysM at hw
  obtain ⟨q, hq, rfl⟩ := List.mem_map.mp hw
  obtain ⟨h1, h2⟩ := List.mem_filter.mp hq
  unfold offM at h2
  have h3 := of_decide_eq_true h2
  have e1 : (wayM h q).1 = rightM h q := by unfold wayM; rfl
  have e2 : (wayM h q).2.1 = aboveM h q := by unfold wayM; rfl
  exact ⟨by rw [e1]; exact right_sz (hd q h1) s, by rw [e2]; exact above_sz' (hd q h1) s, by rw [e1, e2]; exact h3⟩
theorem not_off {h : P3} (wf : WfP h) (q : P4) : offM h q = !decide ((1, q.1, q.2.1) = h) := by
  unfold offM
  by_cases e : (1, q.1, q.2.1) = h
  · rw [decide_eq_true e]
    subst e
    unfold rightM aboveM
    simp
  · rw [decide_eq_false e]
    refine decide_eq_true (Decidable.byContradiction fun z => e ?_)
    have z1 : rightM h q = 0 := by omega
    have z2 : aboveM h q = 0 := by omega
    unfold rightM at z1
    unfold aboveM at z2
    refine wf_ext (p := (1, q.1, q.2.1)) ⟨by show (0 : Int) < 1; decide, by simp [Int.gcd]⟩ wf ?_ ?_
    · dsimp only; omega
    · dsimp only; omega
theorem weight_step (h : P3) {ds : List P4} {i : Nat} {q : P4} (e : ds[i]? = some q) : weightAt (ds.take (i + 1)) h = weightAt (ds.take i) h + (if (1, q.1, q.2.1) = h then q.2.2.2 else 0) := by
  unfold weightAt
  rw [take_filter_step _ e, List.map_append, List.sum_append]
  by_cases z : (1, q.1, q.2.1) = h
  · simp [z]
  · simp [z]
theorem lighter_turn (a b c d : Int) : min c d + min a b = lighterM (a, b, c, d) := by unfold lighterM; dsimp only; omega
theorem sq_zero {a b : Int} (h : a * a + b * b = 0) : a = 0 ∧ b = 0 := by
  have h1 : 0 ≤ a * a := by rcases Int.le_total 0 a with z | z
                            · exact Int.mul_nonneg z z
                            · exact Int.mul_nonneg_of_nonpos_of_nonpos z z
  have h2 : 0 ≤ b * b := by rcases Int.le_total 0 b with z | z
                            · exact Int.mul_nonneg z z
                            · exact Int.mul_nonneg_of_nonpos_of_nonpos z z
  have e1 : a * a = 0 := by omega
  have e2 : b * b = 0 := by omega
  exact ⟨by rcases Int.mul_eq_zero.mp e1 with z | z <;> exact z, by rcases Int.mul_eq_zero.mp e2 with z | z <;> exact z⟩
/-- ways that are no noughts: not turned, then ahead or back -/
theorem along_ne {v w : P3} (hv : v.1 ≠ 0 ∨ v.2.1 ≠ 0) (hw : w.1 ≠ 0 ∨ w.2.1 ≠ 0) (ht : turnM v w = 0) : alongM v w ≠ 0 := by
  intro ha
  unfold turnM at ht
  unfold alongM at ha
  have e : (v.1 * v.1 + v.2.1 * v.2.1) * (w.1 * w.1 + w.2.1 * w.2.1) = 0 := by
    have q : (v.1 * v.1 + v.2.1 * v.2.1) * (w.1 * w.1 + w.2.1 * w.2.1) = (v.1 * w.2.1 - v.2.1 * w.1) * (v.1 * w.2.1 - v.2.1 * w.1) + (v.1 * w.1 + v.2.1 * w.2.1) * (v.1 * w.1 + v.2.1 * w.2.1) := by grind
    rw [q, ht, ha]
    rfl
  rcases Int.mul_eq_zero.mp e with z | z
  · have := sq_zero z; omega
  · have := sq_zero z; omega
/-- the law's four sums: ahead, back, left, right -/
def fourL (p : P4) : List Int := [p.2.2.1, p.2.2.2, p.1, p.2.1]
/-- the least so far -/
def leastO (ws : List P3) (n : Nat) : Option Int := match (ws.take n).map fun v => lighterM (besM ws v) with
  | [] => none
  | a :: l => some (l.foldl min a)
theorem leastO_zero (ws : List P3) : leastO ws 0 = none := rfl
theorem leastO_step (ws : List P3) {i : Nat} {v : P3} (e : ws[i]? = some v) : leastO ws (i + 1) = some (match leastO ws i with | none => lighterM (besM ws v) | some m => min m (lighterM (besM ws v))) := by
  unfold leastO
  rw [List.take_add_one, e, List.map_append]
  cases (ws.take i).map fun v => lighterM (besM ws v) with
  | nil => rfl
  | cons a l =>
    show some ((l ++ [lighterM (besM ws v)]).foldl min a) = _
    rw [List.foldl_append]
    rfl
theorem leastO_end (ws : List P3) : leastO ws ws.length = if ws.isEmpty = true then none else some (leastM ws) := by
  unfold leastO leastM
  rw [List.take_length]
  cases ws with
  | nil => rfl
  | cons w ws => rfl

theorem nrm_sz3 {n : Nat} {a b c : Int} (h : a ≠ 0) (h1 : Sz n a) (h2 : Sz n b) (h3 : Sz n c) : Sz3 n (nrm a b c) := nrm_sz h h1 h2 h3
theorem one_wf (x y : Int) : WfP (1, x, y) := ⟨by show (0 : Int) < 1; decide, by simp [Int.gcd]⟩
@[irreducible] def nthQ (ds : List P4) (k : Int) : P4 := ds.getD k.toNat (0, 0, 0, 0)
theorem quads_at {ds : List P4} {k : Int} (h0 : 0 ≤ k) (h : k < ((D.quads ds).length : Int)) : atI (D.quads ds) k = some (q4 (nthQ ds k)) ∧ nthQ ds k ∈ ds := by
  rw [List.length_map] at h
  have hl : k.toNat < ds.length := by omega
  have e : nthQ ds k = ds[k.toNat] := by
    unfold nthQ
    rw [List.getD_eq_getElem?_getD, List.getElem?_eq_getElem hl]
    rfl
  have q : (D.quads ds)[k.toNat]? = some (q4 ds[k.toNat]) := by rw [List.getElem?_map, List.getElem?_eq_getElem hl]; rfl
  have r := atI_nat q
  rw [show ((k.toNat : Nat) : Int) = k by omega] at r
  exact ⟨by rw [e]; exact r, by rw [e]; exact List.getElem_mem hl⟩
@[irreducible] def numD (c : Int) : Int := (c * 48271 + 11) % 2147483647
theorem numD_bd (c : Int) : 0 ≤ numD c ∧ numD c < 2147483647 := by unfold numD; omega
@[irreducible] def x0 (c : Int) : Int := numD c % 3
@[irreducible] def y0 (c : Int) : Int := numD c / 3 % 3
@[irreducible] def x1 (c : Int) : Int := numD c % 9 - 4
@[irreducible] def y1 (c : Int) : Int := numD c / 9 % 9 - 4
@[irreducible] def x2 (c : Int) : Int := 2 * (numD c % 9) - 7
@[irreducible] def y2 (c : Int) : Int := 3 - numD c % 9
@[irreducible] def x3 (c : Int) : Int := c * 7919 % (2 * 10 ^ (12 : Int).toNat - 1) - 10 ^ (12 : Int).toNat + 1
@[irreducible] def y3 (c : Int) : Int := c * 104729 % (2 * 10 ^ (12 : Int).toNat - 3) - 10 ^ (12 : Int).toNat + 2
@[irreducible] def x4 (c : Int) : Int := 5 - (if decide (numD c % 4 = 1) = true then 1 else 0)
@[irreducible] def y4 (c : Int) : Int := 0 - 2 * (if decide (numD c % 8 = 5) = true then 1 else 0)
@[irreducible] def x5 (c : Int) : Int := numD c % 21 - 10
@[irreducible] def y5 (c : Int) : Int := (numD c % 21 - 10) * (numD c % 21 - 10) - 30 * (if decide (numD c / 21 % 4 = 1) = true then 1 else 0)
@[irreducible] def xK (c k : Int) : Int := if k = 5 then x5 c else if k = 4 then x4 c else if k = 3 then x3 c else if k = 2 then x2 c else if k = 1 then x1 c else x0 c
@[irreducible] def yK (c k : Int) : Int := if k = 5 then y5 c else if k = 4 then y4 c else if k = 3 then y3 c else if k = 2 then y2 c else if k = 1 then y1 c else y0 c
@[irreducible] def wK (c h : Int) : Int := [1, 1 + numD c / 192 % 7, 1 + c * 31 % 999999999].getD h.toNat 0
@[irreducible] def dotK (c k h : Int) : P4 := (xK c k, yK c k, numD c / 64 % 3, wK c h)
theorem dotK_ok (c k h : Int) : DotOk 60 (dotK c k h) := by
  have b := numD_bd c
  have e : (10 : Int) ^ (12 : Int).toNat = 1000000000000 := by decide +kernel
  unfold dotK
  constructor
  · show Sz 60 (xK c k)
    unfold xK
    refine .of_lt 1152921504606846976 ?_ (by decide +kernel)
    split
    · unfold x5; omega
    · split
      · unfold x4; split <;> omega
      · split
        · unfold x3; rw [e]; omega
        · split
          · unfold x2; omega
          · split
            · unfold x1; omega
            · unfold x0; omega
  · show Sz 60 (yK c k)
    unfold yK
    split
    · unfold y5
      have s : Sz 5 (numD c % 21 - 10) := .of_lt 32 (by omega) (by decide)
      have t : Sz 5 (30 * (if decide (numD c / 21 % 4 = 1) = true then 1 else 0)) := .of_lt 32 (by split <;> omega) (by decide)
      exact ((s.mul s).sub t).mono (by decide)
    · refine .of_lt 1152921504606846976 ?_ (by decide +kernel)
      split
      · unfold y4; split <;> omega
      · split
        · unfold y3; rw [e]; omega
        · split
          · unfold y2; omega
          · split
            · unfold y1; omega
            · unfold y0; omega
@[irreducible] def dotsK (ns : List Int) (a m : Int) : List P4 := (cellZ ns 1 :: cutL ns (some a) (some (a + m - 1))).map fun c => dotK c (cellZ ns 0 % 6) (cellZ ns 0 / 6 % 3)
theorem dotsK_ok (ns : List Int) (a m : Int) : ∀ q ∈ dotsK ns a m, DotOk 60 q := by
  intro q hq
  unfold dotsK at hq
  obtain ⟨c, _, rfl⟩ := List.mem_map.mp hq
  exact dotK_ok _ _ _
theorem dotsK_len (ns : List Int) (a m : Int) : 0 < (dotsK ns a m).length ∧ (dotsK ns a m).length ≤ ns.length + 1 := by
  unfold dotsK
  rw [List.length_map, List.length_cons]
  have := cut_len ns (some a) (some (a + m - 1))
  omega
@[irreducible] def atM (v w : P3) : Int := if turnM v w < 0 then 3 else if 0 < turnM v w then 2 else if alongM v w < 0 then 1 else 0
theorem atM_bd (v w : P3) : 0 ≤ atM v w ∧ atM v w < 4 := by unfold atM; split <;> (try split) <;> (try split) <;> omega
theorem four_step {v w : P3} (p : P4) (hv : v.1 ≠ 0 ∨ v.2.1 ≠ 0) (hw : w.1 ≠ 0 ∨ w.2.1 ≠ 0) : (D.ints (fourL p)).set (atM v w).toNat (.int ((fourL p).getD (atM v w).toNat 0 + w.2.2)) = D.ints (fourL (besStep v p w)) := by
  have ne := along_ne hv hw
  unfold atM besStep
  rcases Int.lt_trichotomy (turnM v w) 0 with t | t | t
  · rw [if_pos t, if_neg (by omega), if_pos t]; rfl
  · have ne := ne t
    have n1 : ¬ turnM v w < 0 := by omega
    have n2 : ¬ 0 < turnM v w := by omega
    by_cases al : alongM v w < 0
    · have n3 : ¬ 0 < alongM v w := by omega
      simp only [if_neg n1, if_neg n2, if_pos al, if_neg n3]; rfl
    · have n3 : 0 < alongM v w := by omega
      simp only [if_neg n1, if_neg n2, if_neg al, if_pos n3]; rfl
  · rw [if_neg (by omega), if_pos t, if_pos t]; rfl
theorem four_at (p : P4) (v w : P3) : atI (D.ints (fourL p)) (atM v w) = some (.int ((fourL p).getD (atM v w).toNat 0)) ∧ ixN (D.ints (fourL p)).length (atM v w) = some (atM v w).toNat := by
  obtain ⟨h0, h4⟩ := atM_bd v w
  refine ⟨ints_atI h0 (by show atM v w < 4; exact h4), ?_⟩
  unfold ixN
  rw [if_pos h0, if_pos (show atM v w < ((D.ints (fourL p)).length : Int) from h4)]
theorem atM_pick {v w : P3} (h : ¬ turnM v w < 0) : [if decide (alongM v w < 0) = true then (1 : Int) else 0, 2].getD (if decide (0 < turnM v w) = true then (1 : Int) else 0).toNat 0 = atM v w := by
  unfold atM
  by_cases t : 0 < turnM v w
  · simp only [if_neg h, if_pos t, decide_eq_true t, if_true]; rfl
  · simp only [if_neg h, if_neg t, decide_eq_false t]
    by_cases al : alongM v w < 0
    · simp only [if_pos al, decide_eq_true al]; rfl
    · simp only [if_neg al, decide_eq_false al]; rfl
theorem lighter_eq (p : P4) : lighterM p = min p.2.2.1 p.2.2.2 + min p.1 p.2.1 := by unfold lighterM; omega

/-! ### half planes -/
@[irreducible] def dotM (g p : P3) : Int := g.1 * p.1 + g.2.1 * p.2.1 + g.2.2 * p.2.2
@[irreducible] def readM (g : P3) (q : P4) : Int := g.1 + g.2.1 * q.1 + g.2.2 * q.2.1
@[irreducible] def overM (ds : List P4) (g : P3) : Int := ((ds.filter fun q => decide (0 ≤ readM g q)).map fun q => q.2.2.2).sum
theorem over_step (g : P3) {ds : List P4} {i : Nat} {q : P4} (e : ds[i]? = some q) : overM (ds.take (i + 1)) g = overM (ds.take i) g + (if 0 ≤ readM g q then q.2.2.2 else 0) := by
  unfold overM
  rw [take_filter_step _ e, List.map_append, List.sum_append]
  by_cases z : 0 ≤ readM g q
  · simp [z]
  · simp [z]
/-- a sum over dots of what each gives -/
def sumQ (f : P4 → Int) (ds : List P4) : Int := (ds.map f).sum
theorem over_sum (g : P3) (ds : List P4) : overM ds g = sumQ (fun q => if 0 ≤ readM g q then q.2.2.2 else 0) ds := by
  unfold overM sumQ
  induction ds with
  | nil => rfl
  | cons q ds ih =>
    rw [List.filter_cons, List.map_cons, List.sum_cons]
    by_cases z : 0 ≤ readM g q
    · simp only [z, decide_true, if_true, List.map_cons, List.sum_cons, ih]
    · simp only [z, decide_false, if_false]; simp; exact ih
theorem weight_sum (h : P3) (ds : List P4) : weightAt ds h = sumQ (fun q => if (1, q.1, q.2.1) = h then q.2.2.2 else 0) ds := by
  unfold weightAt sumQ
  induction ds with
  | nil => rfl
  | cons q ds ih =>
    rw [List.filter_cons, List.map_cons, List.sum_cons]
    by_cases z : (1, q.1, q.2.1) = h
    · simp only [z, decide_true, if_true, List.map_cons, List.sum_cons, ih]
    · simp only [z, decide_false, if_false]; simp; exact ih
/-- what a dot gives to the four sums -/
def partM (v : P3) (w : P3) : P4 := besStep v (0, 0, 0, 0) w
theorem bes_cons (v w : P3) (ws : List P3) (p : P4) : (w :: ws).foldl (besStep v) p = ws.foldl (besStep v) (besStep v p w) := rfl
theorem besStep_add (v : P3) (p : P4) (w : P3) : besStep v p w = (p.1 + (partM v w).1, p.2.1 + (partM v w).2.1, p.2.2.1 + (partM v w).2.2.1, p.2.2.2 + (partM v w).2.2.2) := by
  unfold partM besStep
  split
  · simp
  · split
    · simp
    · split <;> simp
theorem bes_sums (v : P3) : ∀ (ws : List P3) (p : P4), ws.foldl (besStep v) p = (p.1 + (ws.map fun w => (partM v w).1).sum, p.2.1 + (ws.map fun w => (partM v w).2.1).sum, p.2.2.1 + (ws.map fun w => (partM v w).2.2.1).sum, p.2.2.2 + (ws.map fun w => (partM v w).2.2.2).sum)
  | [], p => by simp
  | w :: ws, p => by
    rw [bes_cons, bes_sums v ws, besStep_add]
    simp only [List.map_cons, List.sum_cons]
    refine Prod.ext ?_ (Prod.ext ?_ (Prod.ext ?_ ?_)) <;> (dsimp only; omega)
theorem sumQ_cons (f : P4 → Int) (q : P4) (ds : List P4) : sumQ f (q :: ds) = f q + sumQ f ds := by unfold sumQ; rw [List.map_cons, List.sum_cons]
/-- the sums of the ways as sums of the dots -/
theorem ways_sum (h : P3) (f : P3 → Int) : ∀ ds : List P4, ((waysM ds h).map f).sum = sumQ (fun q => if offM h q = true then f (wayM h q) else 0) ds
  | [] => by unfold waysM sumQ; rfl
  | q :: ds => by
    rw [sumQ_cons, ← ways_sum h f ds]
    unfold waysM
    rw [List.filter_cons]
    cases e : offM h q
    · simp
    · simp
theorem sumQ_add (f g : P4 → Int) : ∀ ds : List P4, sumQ f ds + sumQ g ds = sumQ (fun q => f q + g q) ds
  | [] => rfl
  | q :: ds => by
    rw [sumQ_cons, sumQ_cons, sumQ_cons, ← sumQ_add f g ds]
    omega
theorem sumQ_congr {f g : P4 → Int} : ∀ {ds : List P4}, (∀ q ∈ ds, f q = g q) → sumQ f ds = sumQ g ds
  | [], _ => rfl
  | q :: ds, e => by
    rw [sumQ_cons, sumQ_cons, e q List.mem_cons_self, sumQ_congr fun z hz => e z (List.mem_cons_of_mem _ hz)]
/-- beside, as four sums -/
theorem bes_sum (ds : List P4) (h v : P3) : (besM (waysM ds h) v).1 = sumQ (fun q => if offM h q = true then (partM v (wayM h q)).1 else 0) ds ∧ (besM (waysM ds h) v).2.1 = sumQ (fun q => if offM h q = true then (partM v (wayM h q)).2.1 else 0) ds ∧
    (besM (waysM ds h) v).2.2.1 = sumQ (fun q => if offM h q = true then (partM v (wayM h q)).2.2.1 else 0) ds ∧ (besM (waysM ds h) v).2.2.2 = sumQ (fun q => if offM h q = true then (partM v (wayM h q)).2.2.2 else 0) ds := by
  rw [← ways_sum h (fun w => (partM v w).1), ← ways_sum h (fun w => (partM v w).2.1), ← ways_sum h (fun w => (partM v w).2.2.1), ← ways_sum h (fun w => (partM v w).2.2.2)]
  unfold besM
  rw [bes_sums]
  refine ⟨?_, ?_, ?_, ?_⟩ <;> (dsimp only; omega)
/-- the gauge through h whose over side is at the left of the direction d (d.1 right, d.2.1 up) -/
@[irreducible] def gaugeM (h : P3) (a b : Int) : P3 := (0 - a * h.2.1 - b * h.2.2, a * h.1, b * h.1)
theorem gauge_read (h : P3) (a b : Int) (q : P4) : readM (gaugeM h a b) q = a * rightM h q + b * aboveM h q := by
  unfold readM gaugeM rightM aboveM
  dsimp only
  grind
theorem tilt_sign {far t a b : Int} (hb : b = a ∨ b = -a) (h : a.natAbs < far.natAbs) (ht : t ≠ 0) : (0 ≤ b + far * t) ↔ (0 < far ∧ 0 < t) ∨ (far < 0 ∧ t < 0) := by
  rcases Int.lt_trichotomy far 0 with f | f | f
  · rcases Int.lt_trichotomy t 0 with z | z | z
    · have n := Int.mul_nonneg (show 0 ≤ -far by omega) (show 0 ≤ -(t + 1) by omega)
      have e : far * t = (-far) * (-(t + 1)) - far := by grind
      rw [e]
      generalize (-far) * (-(t + 1)) = x at n
      omega
    · exact absurd z ht
    · have n := Int.mul_nonneg (show 0 ≤ -far by omega) (show 0 ≤ t - 1 by omega)
      have e : far * t = -((-far) * (t - 1)) + far := by grind
      rw [e]
      generalize (-far) * (t - 1) = x at n
      omega
  · omega
  · rcases Int.lt_trichotomy t 0 with z | z | z
    · have n := Int.mul_nonneg (show 0 ≤ far by omega) (show 0 ≤ -(t + 1) by omega)
      have e : far * t = -(far * (-(t + 1))) - far := by grind
      rw [e]
      generalize far * (-(t + 1)) = x at n
      omega
    · exact absurd z ht
    · have n := Int.mul_nonneg (show 0 ≤ far by omega) (show 0 ≤ t - 1 by omega)
      have e : far * t = far * (t - 1) + far := by grind
      rw [e]
      generalize far * (t - 1) = x at n
      omega
/-- how much lies over the gauge by the turned way -/
theorem over_tilt {ds : List P4} {h v : P3} (wf : WfP h) (l far : Int) (hl : l = 1 ∨ l = -1) (hv : v.1 ≠ 0 ∨ v.2.1 ≠ 0) (hf : ∀ q ∈ ds, offM h q = true → (alongM v (wayM h q)).natAbs < far.natAbs) :
    overM ds (gaugeM h (l * v.1 - far * v.2.1) (l * v.2.1 + far * v.1)) = weightAt ds h + (if 0 < far then (besM (waysM ds h) v).1 else (besM (waysM ds h) v).2.1) + (if l = 1 then (besM (waysM ds h) v).2.2.1 else (besM (waysM ds h) v).2.2.2) := by
  obtain ⟨b1, b2, b3, b4⟩ := bes_sum ds h v
  rw [b1, b2, b3, b4, over_sum, weight_sum]
  have pick : ∀ (c : Prop) [Decidable c] (f g : P4 → Int), (if c then sumQ f ds else sumQ g ds) = sumQ (fun q => if c then f q else g q) ds := fun c _ f g => by split <;> rfl
  rw [pick, pick, sumQ_add, sumQ_add]
  refine sumQ_congr fun q hq => ?_
  rw [gauge_read]
  have no := not_off wf q
  by_cases o : offM h q = true
  · have ne : ¬ (1, q.1, q.2.1) = h := by rw [o] at no; simpa using no.symm
    have hfq := hf q hq o
    have e1 : (wayM h q).1 = rightM h q := by unfold wayM; rfl
    have e2 : (wayM h q).2.1 = aboveM h q := by unfold wayM; rfl
    have e3 : (wayM h q).2.2 = q.2.2.2 := by unfold wayM; rfl
    have hw : (wayM h q).1 ≠ 0 ∨ (wayM h q).2.1 ≠ 0 := by
      rw [e1, e2]
      unfold offM at o
      exact of_decide_eq_true o
    have key : (l * v.1 - far * v.2.1) * rightM h q + (l * v.2.1 + far * v.1) * aboveM h q = l * alongM v (wayM h q) + far * turnM v (wayM h q) := by
      unfold alongM turnM
      rw [e1, e2]
      grind
    have al := along_ne hv hw
    rw [key, if_neg ne]
    simp only [o, if_true]
    unfold partM besStep
    rw [e3]
    generalize turnM v (wayM h q) = t at *
    generalize alongM v (wayM h q) = a at *
    have f0 : far ≠ 0 := by omega
    have hla : l * a = a ∨ l * a = -a := by rcases hl with e | e <;> subst e <;> omega
    by_cases z : t = 0
    · subst z
      rw [Int.mul_zero, Int.add_zero]
      have al := al rfl
      simp only [show ¬ (0 : Int) < 0 by omega, if_false]
      by_cases pa : 0 < a
      · simp only [pa, if_true]
        rcases hl with e | e <;> subst e
        · rw [if_pos (by omega)]; split <;> simp
        · rw [if_neg (by omega)]; split <;> simp
      · simp only [pa, if_false]
        rcases hl with e | e <;> subst e
        · rw [if_neg (by omega)]; split <;> simp
        · rw [if_pos (by omega)]; split <;> simp
    · have ts := tilt_sign hla hfq z
      by_cases pt : 0 < t
      · simp only [pt, if_true]
        by_cases pf : 0 < far
        · rw [if_pos (ts.mpr (.inl ⟨pf, pt⟩))]; simp only [pf, if_true]; split <;> simp
        · rw [if_neg (fun y => by have := ts.mp y; omega)]; simp only [pf, if_false]; split <;> simp
      · have nt : t < 0 := by omega
        simp only [pt, if_false, nt, if_true]
        by_cases pf : 0 < far
        · rw [if_neg (fun y => by have := ts.mp y; omega)]; simp only [pf, if_true]; split <;> simp
        · rw [if_pos (ts.mpr (.inr ⟨by omega, nt⟩))]; simp only [pf, if_false]; split <;> simp
  · have eq : (1, q.1, q.2.1) = h := by
      rw [Bool.eq_false_iff.mpr o] at no
      simpa using no.symm
    have r0 : rightM h q = 0 ∧ aboveM h q = 0 := by
      subst eq
      unfold rightM aboveM
      dsimp only
      omega
    rw [r0.1, r0.2, Int.mul_zero, Int.mul_zero, Int.add_zero, if_pos (Int.le_refl 0), if_pos eq]
    simp [o]
/-- the gauge of the line through h and a dot -/
@[irreducible] def throughM (h : P3) (q : P4) : P3 := (h.2.1 * q.2.1 - h.2.2 * q.1, h.2.2 - q.2.1 * h.1, q.1 * h.1 - h.2.1)
@[irreducible] def backM (g : P3) : P3 := (0 - g.1, 0 - g.2.1, 0 - g.2.2)
theorem through_read (h : P3) (q0 q : P4) : readM (throughM h q0) q * h.1 = turnM (wayM h q0) (wayM h q) := by
  unfold readM throughM turnM wayM rightM aboveM
  dsimp only
  grind
theorem back_read (g : P3) (q : P4) : readM (backM g) q = -readM g q := by
  unfold readM backM
  dsimp only
  grind
theorem pos_mul {a b : Int} (hb : 0 < b) : (0 ≤ a ↔ 0 ≤ a * b) ∧ (0 ≤ -a ↔ a * b ≤ 0) := by
  have e : ∀ x : Int, 0 ≤ x ↔ 0 ≤ x * b := fun x => ⟨fun z => Int.mul_nonneg z (Int.le_of_lt hb), fun z => Decidable.byContradiction fun n => by
    have m := Int.mul_nonneg (show 0 ≤ -x - 1 by omega) (Int.le_of_lt hb)
    have q : x * b = -((-x - 1) * b) - b := by grind
    rw [q] at z
    generalize (-x - 1) * b = y at m z
    omega⟩
  refine ⟨e a, ?_⟩
  rw [e (-a), Int.neg_mul]
  omega
theorem over_through {ds : List P4} {h : P3} (wf : WfP h) (q0 : P4) : overM ds (throughM h q0) = weightAt ds h + (besM (waysM ds h) (wayM h q0)).1 + ((besM (waysM ds h) (wayM h q0)).2.2.1 + (besM (waysM ds h) (wayM h q0)).2.2.2) ∧
    overM ds (backM (throughM h q0)) = weightAt ds h + (besM (waysM ds h) (wayM h q0)).2.1 + ((besM (waysM ds h) (wayM h q0)).2.2.1 + (besM (waysM ds h) (wayM h q0)).2.2.2) := by
  obtain ⟨b1, b2, b3, b4⟩ := bes_sum ds h (wayM h q0)
  rw [b1, b2, b3, b4, over_sum, over_sum, weight_sum, sumQ_add, sumQ_add, sumQ_add, sumQ_add, sumQ_add]
  have key : ∀ q ∈ ds, (if 0 ≤ readM (throughM h q0) q then q.2.2.2 else 0) = (if (1, q.1, q.2.1) = h then q.2.2.2 else 0) + (if offM h q = true then (partM (wayM h q0) (wayM h q)).1 else 0) + ((if offM h q = true then (partM (wayM h q0) (wayM h q)).2.2.1 else 0) + (if offM h q = true then (partM (wayM h q0) (wayM h q)).2.2.2 else 0)) ∧
      (if 0 ≤ readM (backM (throughM h q0)) q then q.2.2.2 else 0) = (if (1, q.1, q.2.1) = h then q.2.2.2 else 0) + (if offM h q = true then (partM (wayM h q0) (wayM h q)).2.1 else 0) + ((if offM h q = true then (partM (wayM h q0) (wayM h q)).2.2.1 else 0) + (if offM h q = true then (partM (wayM h q0) (wayM h q)).2.2.2 else 0)) := by
    intro q hq
    have tr := through_read h q0 q
    obtain ⟨p1, p2⟩ := pos_mul (a := readM (throughM h q0) q) wf.1
    rw [tr] at p1 p2
    have no := not_off wf q
    have e3 : (wayM h q).2.2 = q.2.2.2 := by unfold wayM; rfl
    rw [back_read]
    simp only [p1, p2]
    by_cases o : offM h q = true
    · have ne : ¬ (1, q.1, q.2.1) = h := by rw [o] at no; simpa using no.symm
      rw [if_neg ne]
      simp only [o, if_true]
      unfold partM besStep
      rw [e3]
      generalize turnM (wayM h q0) (wayM h q) = t at *
      rcases Int.lt_trichotomy t 0 with z | z | z
      · rw [if_neg (show ¬ 0 ≤ t by omega), if_pos (show t ≤ 0 by omega), if_neg (show ¬ 0 < t by omega), if_pos z]
        constructor <;> (dsimp only; omega)
      · rw [if_pos (show 0 ≤ t by omega), if_pos (show t ≤ 0 by omega), if_neg (show ¬ 0 < t by omega), if_neg (show ¬ t < 0 by omega)]
        split <;> constructor <;> (dsimp only; omega)
      · rw [if_pos (show 0 ≤ t by omega), if_neg (show ¬ t ≤ 0 by omega), if_pos z]
        constructor <;> (dsimp only; omega)
    · have eq : (1, q.1, q.2.1) = h := by
        rw [Bool.eq_false_iff.mpr o] at no
        simpa using no.symm
      have t0 : turnM (wayM h q0) (wayM h q) = 0 := by
        subst eq
        unfold turnM
        have e1 : (wayM (1, q.1, q.2.1) q).1 = 0 := by unfold wayM rightM; dsimp only; omega
        have e2 : (wayM (1, q.1, q.2.1) q).2.1 = 0 := by unfold wayM aboveM; dsimp only; omega
        rw [e1, e2]
        omega
      rw [t0]
      simp [eq, o]
  exact ⟨sumQ_congr fun q hq => (key q hq).1, sumQ_congr fun q hq => (key q hq).2⟩
/-- the first lightest way -/
def betterM (ws : List P3) (b w : P3) : P3 := if lighterM (besM ws w) < lighterM (besM ws b) then w else b
@[irreducible] def bestM (ws : List P3) : P3 := ws.foldl (betterM ws) (ws.headD (0, 0, 0))
theorem best_fold (ws : List P3) : ∀ (l : List P3) (b : P3), (l.foldl (betterM ws) b = b ∨ l.foldl (betterM ws) b ∈ l) ∧ lighterM (besM ws (l.foldl (betterM ws) b)) ≤ lighterM (besM ws b) ∧ ∀ w ∈ l, lighterM (besM ws (l.foldl (betterM ws) b)) ≤ lighterM (besM ws w)
  | [], b => ⟨.inl rfl, Int.le_refl _, fun _ h => by cases h⟩
  | w :: l, b => by
    obtain ⟨h1, h2, h3⟩ := best_fold ws l (betterM ws b w)
    have e : (w :: l).foldl (betterM ws) b = l.foldl (betterM ws) (betterM ws b w) := rfl
    rw [e]
    have k : lighterM (besM ws (betterM ws b w)) ≤ lighterM (besM ws b) ∧ lighterM (besM ws (betterM ws b w)) ≤ lighterM (besM ws w) ∧ (betterM ws b w = b ∨ betterM ws b w = w) := by
      unfold betterM
      split
      · exact ⟨by omega, Int.le_refl _, .inr rfl⟩
      · exact ⟨Int.le_refl _, by omega, .inl rfl⟩
    refine ⟨?_, by omega, fun y hy => ?_⟩
    · rcases h1 with h | h
      · rw [h]
        rcases k.2.2 with q | q
        · exact .inl q
        · rw [q]; exact .inr List.mem_cons_self
      · exact .inr (List.mem_cons_of_mem _ h)
    · rcases List.mem_cons.mp hy with rfl | hy
      · omega
      · exact h3 y hy
theorem best_ok {ws : List P3} (h : ws ≠ []) : bestM ws ∈ ws ∧ lighterM (besM ws (bestM ws)) = leastM ws := by
  cases ws with
  | nil => exact absurd rfl h
  | cons a l =>
    obtain ⟨h1, h2, h3⟩ := best_fold (a :: l) (a :: l) a
    have m : bestM (a :: l) = (a :: l).foldl (betterM (a :: l)) a := by unfold bestM; rfl
    rw [m]
    have mem : (a :: l).foldl (betterM (a :: l)) a ∈ a :: l := by
      rcases h1 with q | q
      · rw [q]; exact List.mem_cons_self
      · exact q
    refine ⟨mem, ?_⟩
    unfold leastM
    refine Int.le_antisymm ?_ (minI_le (List.mem_map.mpr ⟨_, mem, rfl⟩))
    obtain ⟨y, hy, e⟩ := List.mem_map.mp (minI_mem (l := (a :: l).map fun v => lighterM (besM (a :: l) v)) (by simp))
    rw [← e]
    exact h3 y hy
@[irreducible] def farA (ws : List P3) (v : P3) : Int := 1 + maxI (ws.map fun w => ((alongM v w).natAbs : Int))
@[irreducible] def farM (ws : List P3) (v : P3) : Int := if (besM ws v).2.1 < (besM ws v).1 then 0 - farA ws v else farA ws v
@[irreducible] def littleM (ws : List P3) (v : P3) : Int := if (besM ws v).2.2.2 < (besM ws v).2.2.1 then -1 else 1
@[irreducible] def tiltA (ws : List P3) (v : P3) : Int := littleM ws v * v.1 - farM ws v * v.2.1
@[irreducible] def tiltB (ws : List P3) (v : P3) : Int := littleM ws v * v.2.1 + farM ws v * v.1
@[irreducible] def lightM (ds : List P4) (h : P3) : P3 := if (waysM ds h).isEmpty = true then (0 - h.2.1, h.1, 0) else
  nrm (gaugeM h (tiltA (waysM ds h) (bestM (waysM ds h))) (tiltB (waysM ds h) (bestM (waysM ds h)))).1 (gaugeM h (tiltA (waysM ds h) (bestM (waysM ds h))) (tiltB (waysM ds h) (bestM (waysM ds h)))).2.1 (gaugeM h (tiltA (waysM ds h) (bestM (waysM ds h))) (tiltB (waysM ds h) (bestM (waysM ds h)))).2.2
theorem farA_pos {ws : List P3} (v : P3) (h : ws ≠ []) : 0 < farA ws v ∧ ∀ w ∈ ws, (alongM v w).natAbs < (farA ws v).natAbs := by
  unfold farA
  have k : ∀ w ∈ ws, ((alongM v w).natAbs : Int) ≤ maxI (ws.map fun w => ((alongM v w).natAbs : Int)) := fun w hw => le_maxI (List.mem_map.mpr ⟨w, hw, rfl⟩)
  have p : 0 ≤ maxI (ws.map fun w => ((alongM v w).natAbs : Int)) := by
    obtain ⟨w, hw⟩ := List.exists_mem_of_ne_nil ws h
    have := k w hw
    omega
  exact ⟨by omega, fun w hw => by have := k w hw; omega⟩
theorem far_ok {ws : List P3} (v : P3) (h : ws ≠ []) : (∀ w ∈ ws, (alongM v w).natAbs < (farM ws v).natAbs) ∧ ((if 0 < farM ws v then (besM ws v).1 else (besM ws v).2.1) = min (besM ws v).1 (besM ws v).2.1) := by
  obtain ⟨p, k⟩ := farA_pos v h
  unfold farM
  by_cases c : (besM ws v).2.1 < (besM ws v).1
  · rw [if_pos c, if_neg (by omega)]
    exact ⟨fun w hw => by have := k w hw; omega, by omega⟩
  · rw [if_neg c, if_pos p]
    exact ⟨k, by omega⟩
theorem little_ok (ws : List P3) (v : P3) : (littleM ws v = 1 ∨ littleM ws v = -1) ∧ ((if littleM ws v = 1 then (besM ws v).2.2.1 else (besM ws v).2.2.2) = min (besM ws v).2.2.1 (besM ws v).2.2.2) := by
  unfold littleM
  by_cases c : (besM ws v).2.2.2 < (besM ws v).2.2.1
  · rw [if_pos c, if_neg (by decide)]
    exact ⟨.inr rfl, by omega⟩
  · rw [if_neg c, if_pos rfl]
    exact ⟨.inl rfl, by omega⟩
theorem best_over {ds : List P4} {h : P3} (wf : WfP h) (ne : waysM ds h ≠ []) (vn : (bestM (waysM ds h)).1 ≠ 0 ∨ (bestM (waysM ds h)).2.1 ≠ 0) : overM ds (gaugeM h (tiltA (waysM ds h) (bestM (waysM ds h))) (tiltB (waysM ds h) (bestM (waysM ds h)))) = depthM ds h := by
  obtain ⟨f1, f2⟩ := far_ok (bestM (waysM ds h)) ne
  obtain ⟨l1, l2⟩ := little_ok (waysM ds h) (bestM (waysM ds h))
  obtain ⟨_, b2⟩ := best_ok ne
  have t := over_tilt (ds := ds) (v := bestM (waysM ds h)) wf (littleM (waysM ds h) (bestM (waysM ds h))) (farM (waysM ds h) (bestM (waysM ds h))) l1 vn fun q hq o => f1 _ (by
    unfold waysM
    exact List.mem_map.mpr ⟨q, List.mem_filter.mpr ⟨hq, o⟩, rfl⟩)
  rw [f2, l2] at t
  unfold tiltA tiltB depthM
  rw [t, if_neg (by intro z; exact ne (List.isEmpty_iff.mp z)), ← b2]
  unfold lighterM
  omega
theorem over_scale {ds : List P4} {g g' : P3} {k : Int} (hk : 0 < k) (h1 : g.1 * k = g'.1) (h2 : g.2.1 * k = g'.2.1) (h3 : g.2.2 * k = g'.2.2) : overM ds g = overM ds g' := by
  rw [over_sum, over_sum]
  refine sumQ_congr fun q _ => ?_
  have e : readM g' q = readM g q * k := by
    unfold readM
    rw [← h1, ← h2, ← h3]
    grind
  rw [e]
  simp only [(pos_mul (a := readM g q) hk).1]
/-- what is asked of a lightest half plane's gauge -/
structure LightOk (ds : List P4) (h g : P3) : Prop where
  ne : g.2.1 ≠ 0 ∨ g.2.2 ≠ 0
  on : g.1 * h.1 + g.2.1 * h.2.1 + g.2.2 * h.2.2 = 0
  over : overM ds g = depthM ds h
theorem light_empty {ds : List P4} {h : P3} (wf : WfP h) (e : waysM ds h = []) : LightOk ds h (0 - h.2.1, h.1, 0) := by
  refine ⟨.inl (Int.ne_of_gt wf.1), by dsimp only; grind, ?_⟩
  unfold depthM
  rw [e, if_pos (show ([] : List P3).isEmpty = true from rfl), over_sum, weight_sum]
  refine sumQ_congr fun q hq => ?_
  have o : offM h q = false := by
    cases z : offM h q with
    | false => rfl
    | true =>
      have m : wayM h q ∈ waysM ds h := by unfold waysM; exact List.mem_map.mpr ⟨q, List.mem_filter.mpr ⟨hq, z⟩, rfl⟩
      rw [e] at m
      cases m
  have no := not_off wf q
  have eq : (1, q.1, q.2.1) = h := by rw [o] at no; simpa using no.symm
  rw [if_pos eq]
  subst eq
  have r : readM (0 - (1, q.1, q.2.1).2.1, (1, q.1, q.2.1).1, 0) q = 0 := by unfold readM; dsimp only; omega
  rw [r, if_pos (Int.le_refl 0)]
theorem tilt_ne {a b l far : Int} (hl : l = 1 ∨ l = -1) (h : a ≠ 0 ∨ b ≠ 0) : l * a - far * b ≠ 0 ∨ l * b + far * a ≠ 0 := by
  refine Decidable.byContradiction fun z => ?_
  have z1 : l * a - far * b = 0 := by omega
  have z2 : l * b + far * a = 0 := by omega
  have e : (l * l + far * far) * (a * a + b * b) = 0 := by
    have q : (l * l + far * far) * (a * a + b * b) = (l * a - far * b) * (l * a - far * b) + (l * b + far * a) * (l * b + far * a) := by grind
    rw [q, z1, z2]; rfl
  rcases Int.mul_eq_zero.mp e with y | y
  · have := sq_zero y; omega
  · have := sq_zero y; omega
theorem light_ok {n m : Nat} {ds : List P4} {h : P3} (wf : WfP h) (hd : ∀ q ∈ ds, DotOk n q) (s : Sz3 m h) : LightOk ds h (lightM ds h) := by
  unfold lightM
  by_cases e : (waysM ds h).isEmpty = true
  · rw [if_pos e]
    exact light_empty wf (List.isEmpty_iff.mp e)
  · rw [if_neg e]
    have ne : waysM ds h ≠ [] := fun z => e (List.isEmpty_iff.mpr z)
    have vn := (ways_ok hd s _ (best_ok ne).1).ne
    have bo := best_over wf ne vn
    have tn : tiltA (waysM ds h) (bestM (waysM ds h)) ≠ 0 ∨ tiltB (waysM ds h) (bestM (waysM ds h)) ≠ 0 := by
      unfold tiltA tiltB
      exact tilt_ne (little_ok _ _).1 vn
    generalize tiltA (waysM ds h) (bestM (waysM ds h)) = a at *
    generalize tiltB (waysM ds h) (bestM (waysM ds h)) = b at *
    have gn : (gaugeM h a b).2.1 ≠ 0 ∨ (gaugeM h a b).2.2 ≠ 0 := by
      unfold gaugeM
      exact tn.elim (fun z => .inl (Int.mul_ne_zero z (Int.ne_of_gt wf.1))) fun z => .inr (Int.mul_ne_zero z (Int.ne_of_gt wf.1))
    have go : (gaugeM h a b).1 * h.1 + (gaugeM h a b).2.1 * h.2.1 + (gaugeM h a b).2.2 * h.2.2 = 0 := by unfold gaugeM; dsimp only; grind
    generalize gaugeM h a b = g at *
    have hg : 0 < Int.gcd (Int.gcd g.1 g.2.1) g.2.2 := by
      apply Nat.pos_of_ne_zero
      intro z
      have h1 := Int.gcd_eq_zero_iff.mp z
      have h2 := Int.gcd_eq_zero_iff.mp (show Int.gcd g.1 g.2.1 = 0 by omega)
      omega
    obtain ⟨e1, e2, e3⟩ := nrm_eq (a := g.1) (b := g.2.1) (c := g.2.2)
    have kp : (0 : Int) < ((Int.gcd (Int.gcd g.1 g.2.1) g.2.2 : Nat) : Int) := by omega
    generalize ((Int.gcd (Int.gcd g.1 g.2.1) g.2.2 : Nat) : Int) = k at e1 e2 e3 kp
    refine ⟨?_, ?_, ?_⟩
    · rcases gn with z | z
      · exact .inl fun y => z (by rw [← e2, y, Int.zero_mul])
      · exact .inr fun y => z (by rw [← e3, y, Int.zero_mul])
    · rw [← e1, ← e2, ← e3] at go
      have q : ((nrm g.1 g.2.1 g.2.2).1 * h.1 + (nrm g.1 g.2.1 g.2.2).2.1 * h.2.1 + (nrm g.1 g.2.1 g.2.2).2.2 * h.2.2) * k = 0 := by grind
      rcases Int.mul_eq_zero.mp q with z | z
      · exact z
      · omega
    · rw [over_scale kp e1 e2 e3]
      exact bo
theorem sumQ_nonneg {f : P4 → Int} : ∀ {ds : List P4}, (∀ q ∈ ds, 0 ≤ f q) → 0 ≤ sumQ f ds
  | [], _ => Int.le_refl 0
  | q :: ds, e => by
    rw [sumQ_cons]
    have h1 := e q List.mem_cons_self
    have h2 := sumQ_nonneg fun z hz => e z (List.mem_cons_of_mem q hz)
    omega
theorem part_nonneg {v w : P3} (h : 0 ≤ w.2.2) : 0 ≤ (partM v w).1 ∧ 0 ≤ (partM v w).2.1 ∧ 0 ≤ (partM v w).2.2.1 ∧ 0 ≤ (partM v w).2.2.2 := by
  unfold partM besStep
  split
  · dsimp only; omega
  · split
    · dsimp only; omega
    · split <;> (dsimp only; omega)
/-- no half plane by a dot is lighter -/
theorem none_lighter {ds : List P4} {h : P3} (wf : WfP h) (hw : ∀ q ∈ ds, 0 ≤ q.2.2.2) {q0 : P4} (hq : q0 ∈ ds) (ho : offM h q0 = true) : depthM ds h ≤ overM ds (throughM h q0) ∧ depthM ds h ≤ overM ds (backM (throughM h q0)) := by
  obtain ⟨o1, o2⟩ := over_through (ds := ds) wf q0
  obtain ⟨b1, b2, b3, b4⟩ := bes_sum ds h (wayM h q0)
  have e3 : ∀ q : P4, (wayM h q).2.2 = q.2.2.2 := fun q => by unfold wayM; rfl
  have pn : ∀ q ∈ ds, 0 ≤ (partM (wayM h q0) (wayM h q)).1 ∧ 0 ≤ (partM (wayM h q0) (wayM h q)).2.1 ∧ 0 ≤ (partM (wayM h q0) (wayM h q)).2.2.1 ∧ 0 ≤ (partM (wayM h q0) (wayM h q)).2.2.2 := fun q hq => part_nonneg (by rw [e3]; exact hw q hq)
  have n3 : 0 ≤ (besM (waysM ds h) (wayM h q0)).2.2.1 := by rw [b3]; exact sumQ_nonneg fun q hq => by split; exact (pn q hq).2.2.1; exact Int.le_refl 0
  have n4 : 0 ≤ (besM (waysM ds h) (wayM h q0)).2.2.2 := by rw [b4]; exact sumQ_nonneg fun q hq => by split; exact (pn q hq).2.2.2; exact Int.le_refl 0
  have mem : wayM h q0 ∈ waysM ds h := by unfold waysM; exact List.mem_map.mpr ⟨q0, List.mem_filter.mpr ⟨hq, ho⟩, rfl⟩
  have le : leastM (waysM ds h) ≤ lighterM (besM (waysM ds h) (wayM h q0)) := by unfold leastM; exact minI_le (List.mem_map.mpr ⟨_, mem, rfl⟩)
  have ne : ¬ (waysM ds h).isEmpty = true := fun z => by rw [List.isEmpty_iff.mp z] at mem; cases mem
  unfold lighterM at le
  unfold depthM
  rw [if_neg ne, o1, o2]
  constructor <;> omega
theorem along_sz {n m : Nat} {v w : P3} (v1 : Sz n v.1) (v2 : Sz n v.2.1) (w1 : Sz m w.1) (w2 : Sz m w.2.1) : Sz (n + m + 1) (alongM v w) := by
  unfold alongM
  exact ((v1.mul w1).add (v2.mul w2)).mono (by omega)
theorem farA_sz {n : Nat} {ws : List P3} {v : P3} (h : ws ≠ []) (s : ∀ w ∈ ws, Sz n (alongM v w)) : Sz (n + 2) (farA ws v) := by
  have hne : (ws.map fun w => ((alongM v w).natAbs : Int)) ≠ [] := fun z => h (List.map_eq_nil_iff.mp z)
  obtain ⟨w, hw, e⟩ := List.mem_map.mp (maxI_mem hne)
  unfold farA
  rw [← e]
  exact (((Sz.self 1)).add (s w hw).nabs).mono (by have : Nat.log2 (Int.natAbs 1) = 0 := by decide
                                                   omega)
theorem farM_sz {n : Nat} {ws : List P3} {v : P3} (s : Sz n (farA ws v)) : Sz (n + 1) (farM ws v) := by
  unfold farM
  split
  · exact ((Sz.zero n).sub s).mono (by omega)
  · exact s.mono (by omega)
theorem littleM_sz (ws : List P3) (v : P3) : Sz 2 (littleM ws v) := by
  unfold littleM
  split
  · exact .of_lt 4 (by decide) (by decide)
  · exact .of_lt 4 (by decide) (by decide)
theorem best_mem {ws : List P3} (h : ws ≠ []) (i : Nat) : (ws.take i).foldl (betterM ws) (ws.headD (0, 0, 0)) ∈ ws := by
  have hd : ws.headD (0, 0, 0) ∈ ws := by
    cases ws with
    | nil => exact absurd rfl h
    | cons a l => exact List.mem_cons_self
  rcases (best_fold ws (ws.take i) (ws.headD (0, 0, 0))).1 with q | q
  · rw [q]; exact hd
  · exact List.mem_of_mem_take q
theorem head_at {ws : List P3} (h : ws ≠ []) : atI (ws.map t3) 0 = some (t3 (ws.headD (0, 0, 0))) := by
  cases ws with
  | nil => exact absurd rfl h
  | cons a l =>
    have q : ((a :: l).map t3)[0]? = some (t3 a) := rfl
    exact atI_nat q
theorem wK_nonneg (c h : Int) (h0 : 0 ≤ h) (h3 : h < 3) : 0 ≤ wK c h := by
  unfold wK
  have e : h = 0 ∨ h = 1 ∨ h = 2 := by omega
  rcases e with e | e | e
  · subst e; show (0 : Int) ≤ 1; decide
  · subst e; show (0 : Int) ≤ 1 + numD c / 192 % 7; omega
  · subst e; show (0 : Int) ≤ 1 + c * 31 % 999999999; omega
theorem dotsK_weight (ns : List Int) (a m : Int) : ∀ q ∈ dotsK ns a m, 0 ≤ q.2.2.2 := by
  intro q hq
  unfold dotsK at hq
  obtain ⟨c, _, rfl⟩ := List.mem_map.mp hq
  unfold dotK
  exact wK_nonneg c _ (by omega) (by omega)
theorem Sz.divN {n : Nat} {a : Int} (g : Nat) (h : Sz n a) : Sz n (a / (g : Int)) := by
  rcases Nat.eq_zero_or_pos g with z | z
  · subst z
    rw [Int.natCast_zero, Int.ediv_zero]
    exact Sz.zero n
  · exact h.ediv (by omega)
theorem light_sz {ds : List P4} {h : P3} (hd : ∀ q ∈ ds, DotOk 100 q) (s : Sz3 200 h) : Sz3 4000 (lightM ds h) := by
  obtain ⟨h1, h2, h3⟩ := s
  unfold lightM
  by_cases e : (waysM ds h).isEmpty = true
  · rw [if_pos e]
    exact ⟨((Sz.zero 1).sub h2).mono (by decide), h1.mono (by decide), Sz.zero _⟩
  · rw [if_neg e]
    have ne : waysM ds h ≠ [] := fun z => e (List.isEmpty_iff.mpr z)
    have wk := ways_ok hd ⟨h1, h2, h3⟩
    have bm := (best_ok ne).1
    obtain ⟨c1, c2, _⟩ := wk _ bm
    have sa := farA_sz ne fun w q => along_sz c1 c2 (wk w q).x (wk w q).y
    have sf := farM_sz sa
    have sl := littleM_sz (waysM ds h) (bestM (waysM ds h))
    have ta : Sz 1300 (tiltA (waysM ds h) (bestM (waysM ds h))) := by unfold tiltA; exact ((sl.mul c1).sub (sf.mul c2)).mono (by decide)
    have tb : Sz 1300 (tiltB (waysM ds h) (bestM (waysM ds h))) := by unfold tiltB; exact ((sl.mul c2).add (sf.mul c1)).mono (by decide)
    have g : Sz3 4000 (gaugeM h (tiltA (waysM ds h) (bestM (waysM ds h))) (tiltB (waysM ds h) (bestM (waysM ds h)))) := by
      unfold gaugeM
      exact ⟨((((Sz.zero 1).sub (ta.mul h2)).sub (tb.mul h3))).mono (by decide), (ta.mul h1).mono (by decide), (tb.mul h1).mono (by decide)⟩
    unfold nrm
    exact ⟨Sz.divN _ g.1, Sz.divN _ g.2.1, Sz.divN _ g.2.2⟩
theorem light_pre {ds : List P4} {h : P3} (wf : WfP h) (o1 : ∀ q ∈ ds, DotOk 100 q) (s : Sz3 150 h) (l : ds.length ≤ 1000) : LightOk ds h (lightM ds h) ∧ Sz3 4000 (lightM ds h) ∧ (∀ q ∈ ds, DotOk 100 q) ∧ Sz3 200 h ∧ ds.length ≤ 1000 :=
  ⟨light_ok wf o1 s, light_sz o1 (s.mono (by decide)), o1, s.mono (by decide), l⟩
theorem light_pre0 : (∀ q ∈ ([] : List P4), DotOk 100 q) ∧ Sz3 200 ((2, 1, 3) : P3) ∧ ([] : List P4).length ≤ 1000 := ⟨(fun q z => by cases z), ⟨(Sz.self 2).mono (by decide), (Sz.self 1).mono (by decide), (Sz.self 3).mono (by decide)⟩, by decide⟩
theorem light_pre1 : LightOk [] ((2, 1, 3) : P3) (lightM [] (2, 1, 3)) ∧ Sz3 4000 (lightM [] ((2, 1, 3) : P3)) ∧ (∀ q ∈ ([] : List P4), DotOk 100 q) ∧ Sz3 200 ((2, 1, 3) : P3) ∧ ([] : List P4).length ≤ 1000 :=
  light_pre ⟨by decide, by decide⟩ light_pre0.1 ⟨(Sz.self 2).mono (by decide), (Sz.self 1).mono (by decide), (Sz.self 3).mono (by decide)⟩ (by decide)

local macro_rules | `(tactic| walk_at "sz") => `(tactic| first
  | with_reducible assumption
  | with_reducible exact Sz.ofNat _
  | ((with_reducible refine' Sz.add ?a ?b); (case a => walk_at "sz"); (case b => walk_at "sz"))
  | ((with_reducible refine' Sz.sub ?a ?b); (case a => walk_at "sz"); (case b => walk_at "sz"))
  | ((with_reducible refine' Sz.mul ?a ?b); (case a => walk_at "sz"); (case b => walk_at "sz"))
  | ((with_reducible refine' Sz.neg ?a); (case a => walk_at "sz"))
  | ((with_reducible refine' Sz.emod ?a ?b); (case a => walk_at "sz"); (case b => first | decide | omega | decide +kernel))
  | ((with_reducible refine' Sz.ediv ?a ?b); (case a => walk_at "sz"); (case b => first | decide | omega | decide +kernel))
  | ((with_reducible refine' Sz.nabs ?a); (case a => walk_at "sz"))
  | ((with_reducible refine' Sz.gcd ?a ?b); (case a => walk_at "sz"); (case b => walk_at "sz"))
  | ((with_reducible refine' Sz.ite ?a ?b); (case a => walk_at "sz"); (case b => walk_at "sz"))
  | exact Sz.self _)
local macro_rules | `(tactic| walk_at "mul") => `(tactic| exact Sz.ok (by walk_at "sz") (by walk_at "sz") (by decide +kernel))
local macro_rules | `(tactic| walk_at "szl") => `(tactic| exact Sz.mono (by walk_at "sz") (by decide +kernel))
local macro_rules | `(tactic| walk_at "set") => `(tactic| (dsimp only [List.set]; first | done | rfl))
local macro_rules | `(tactic| walk_at "pos") => `(tactic| first | decide | omega | assumption | decide +kernel | exact Int.natCast_pos.2 (by assumption))
local macro_rules | `(tactic| walk_at "pre1") => `(tactic| first | exact True.intro | with_reducible assumption | ((refine all3 ?_ ?_ ?_) <;> walk_at "szl") | exact Nat.le_of_ble_eq_true rfl | ((with_reducible show Sz3 _ (_, _, _)); (refine ⟨?_, ?_, ?_⟩ <;> walk_at "pre1")) | exact Sz3.mono (by with_reducible assumption) (by decide) | ((with_reducible refine And.intro ?_ ?_) <;> walk_at "pre1") | ((with_reducible show Sz _ _); walk_at "szl") | ((with_reducible show Sz3 _ _); (refine ⟨?_, ?_, ?_⟩ <;> walk_at "pre1")) | omega | assumption | (dsimp only; omega) | rfl)
local macro_rules | `(tactic| walk_at "pre") => `(tactic| first | exact True.intro | (dsimp only; walk_at "pre1") | walk_at "pre1" | fail "pre")
local macro_rules | `(tactic| walk_at "pow") => `(tactic| exact ⟨by decide, by decide, by decide +kernel⟩)
local macro_rules | `(tactic| walk_at "rgc") => `(tactic| exact rgc_of (by decide) ⟨by omega, by omega⟩ (by decide +kernel))
local macro_rules | `(tactic| walk_at "ix") => `(tactic| first | rfl | assumption | fail "ix")
local macro_rules | `(tactic| walk_at "len") => `(tactic| first | exact len_small (m := 100000) (by simp <;> omega) | fail "len")
local macro_rules | `(tactic| walk_at "rng") => `(tactic| first | decide | omega | ((refine ⟨?_, ?_, ?_, ?_⟩) <;> first | decide | omega))
local macro_rules | `(tactic| walk_at "res") => `(tactic| first | rfl | exact if_neg (of_decide_eq_false (by assumption)) | exact if_neg (by assumption) | exact if_neg (of_not_dec (by assumption)) | exact if_neg (by omega) | exact if_pos (of_decide_eq_true (by assumption)) | exact if_pos (by assumption) | exact if_pos (by omega) | exact if_pos rfl)
local macro_rules | `(tactic| walk_at "good") => `(tactic| first | exact good_quads _ | exact good_t3s _ | exact good_ints _ | exact good_t3 _ | exact good_oP _ | exact good_int _)
local macro_rules | `(tactic| walk_at "bnd") => `(tactic| first | assumption | (exact ⟨by omega, by simp only [List.length_cons, List.length_nil]; omega⟩) | (exact ⟨by split <;> omega, by simp only [List.length_cons, List.length_nil]; split <;> omega⟩))
local macro_rules | `(tactic| walk_at "ne") => `(tactic| first | assumption | fail "ne")

/-- the statements of the top -/
def topS (i : Nat) : Stmt := PySem.Challenge.pw_halvecut_k52_lightest_half_planes.main.body.getD i (.Pass ⟨0, 0, 0, 0⟩)
abbrev s_common : Stmt := topS 1
theorem sc_common : FnScope ["numbers", "found", "number", "rest"] ["numbers"] (defScope s_common) := ⟨rfl, rfl, rfl, by decide +kernel, rfl, by decide +kernel, by decide +kernel⟩
abbrev s_lowest : Stmt := topS 2
theorem sc_lowest : FnScope ["numbers", "by", "number"] ["numbers"] (defScope s_lowest) := ⟨rfl, rfl, rfl, by decide +kernel, rfl, by decide +kernel, by decide +kernel⟩
abbrev s_ways_from : Stmt := topS 4
theorem sc_ways_from : FnScope ["dots", "here", "ways", "x", "y", "colour", "weight", "right", "above"] ["dots", "here"] (defScope s_ways_from) := ⟨rfl, rfl, rfl, by decide +kernel, rfl, by decide +kernel, by decide +kernel⟩
abbrev s_weight_at : Stmt := topS 5
theorem sc_weight_at : FnScope ["dots", "here", "x", "y", "colour", "weight"] ["dots", "here"] (defScope s_weight_at) := ⟨rfl, rfl, rfl, by decide +kernel, rfl, by decide +kernel, by decide +kernel⟩
abbrev s_beside : Stmt := topS 6
theorem sc_beside : FnScope ["ways", "way", "left", "right", "ahead", "back", "other", "turn"] ["ways", "way"] (defScope s_beside) := ⟨rfl, rfl, rfl, by decide +kernel, rfl, by decide +kernel, by decide +kernel⟩
abbrev s_lighter : Stmt := topS 7
theorem sc_lighter : FnScope ["four"] ["four"] (defScope s_lighter) := ⟨rfl, rfl, rfl, by decide +kernel, rfl, by decide +kernel, by decide +kernel⟩
abbrev s_depth : Stmt := topS 8
theorem sc_depth : FnScope ["dots", "here", "ways", "found", "way"] ["dots", "here"] (defScope s_depth) := ⟨rfl, rfl, rfl, by decide +kernel, rfl, by decide +kernel, by decide +kernel⟩
abbrev s_tilted : Stmt := topS 9
theorem sc_tilted : FnScope ["ways", "way", "left", "right", "ahead", "back", "other", "far", "little"] ["ways", "way"] (defScope s_tilted) := ⟨rfl, rfl, rfl, by decide +kernel, rfl, by decide +kernel, by decide +kernel⟩
abbrev s_lightest : Stmt := topS 10
theorem sc_lightest : FnScope ["dots", "here", "ways", "best", "way", "a", "b"] ["dots", "here"] (defScope s_lightest) := ⟨rfl, rfl, rfl, by decide +kernel, rfl, by decide +kernel, by decide +kernel⟩
abbrev s_law_whole : Stmt := topS 12
theorem sc_law_whole : FnScope ["_law_found"] ["_law_found"] (defScope s_law_whole) := ⟨rfl, rfl, rfl, by decide +kernel, rfl, by decide +kernel, by decide +kernel⟩
abbrev s_law_cell_at : Stmt := topS 13
theorem sc_law_cell_at : FnScope ["_law_script", "_law_k"] ["_law_script", "_law_k"] (defScope s_law_cell_at) := ⟨rfl, rfl, rfl, by decide +kernel, rfl, by decide +kernel, by decide +kernel⟩
abbrev s_law_divisor : Stmt := topS 14
theorem sc_law_divisor : FnScope ["_law_one", "_law_other", "_law_here", "_law_there"] ["_law_one", "_law_other"] (defScope s_law_divisor) := ⟨rfl, rfl, rfl, by decide +kernel, rfl, by decide +kernel, by decide +kernel⟩
abbrev s_law_dot : Stmt := topS 15
theorem sc_law_dot : FnScope ["_law_cell", "_law_kind", "_law_heavy", "_law_number", "_law_x", "_law_y", "_law_weight_here"] ["_law_cell", "_law_kind", "_law_heavy"] (defScope s_law_dot) := ⟨rfl, rfl, rfl, by decide +kernel, rfl, by decide +kernel, by decide +kernel⟩
abbrev s_law_dots : Stmt := topS 16
theorem sc_law_dots : FnScope ["_law_script", "_law_start", "_law_most", "_law_first", "_law_kind", "_law_heavy", "_law_dots_here", "_law_cell"] ["_law_script", "_law_start", "_law_most"] (defScope s_law_dots) := ⟨rfl, rfl, rfl, by decide +kernel, rfl, by decide +kernel, by decide +kernel⟩
abbrev s_law_lowest : Stmt := topS 17
theorem sc_law_lowest : FnScope ["_law_by", "_law_x", "_law_y", "_law_share"] ["_law_by", "_law_x", "_law_y"] (defScope s_law_lowest) := ⟨rfl, rfl, rfl, by decide +kernel, rfl, by decide +kernel, by decide +kernel⟩
abbrev s_law_drawn_place : Stmt := topS 18
theorem sc_law_drawn_place : FnScope ["_law_dots_here", "_law_cell", "_law_number", "_law_one", "_law_two", "_law_three", "_law_by"] ["_law_dots_here", "_law_cell"] (defScope s_law_drawn_place) := ⟨rfl, rfl, rfl, by decide +kernel, rfl, by decide +kernel, by decide +kernel⟩
abbrev s_law_weight : Stmt := topS 19
theorem sc_law_weight : FnScope ["_law_dots_here", "_law_gauge", "_law_found", "_law_x", "_law_y", "_law_colour", "_law_weight_here"] ["_law_dots_here", "_law_gauge"] (defScope s_law_weight) := ⟨rfl, rfl, rfl, by decide +kernel, rfl, by decide +kernel, by decide +kernel⟩
abbrev s_law_good : Stmt := topS 20
theorem sc_law_good : FnScope ["_law_found", "_law_dots_here", "_law_here"] ["_law_found", "_law_dots_here", "_law_here"] (defScope s_law_good) := ⟨rfl, rfl, rfl, by decide +kernel, rfl, by decide +kernel, by decide +kernel⟩
abbrev s_law_none_lighter : Stmt := topS 21
theorem sc_law_none_lighter : FnScope ["_law_dots_here", "_law_here", "_law_least", "_law_x", "_law_y", "_law_colour", "_law_weight_here", "_law_gauge", "_law_back"] ["_law_dots_here", "_law_here", "_law_least"] (defScope s_law_none_lighter) := ⟨rfl, rfl, rfl, by decide +kernel, rfl, by decide +kernel, by decide +kernel⟩
abbrev s_law : Stmt := topS 22
theorem sc_law : FnScope ["_law_script", "_law_dots_here", "_law_handed", "_law_k", "_law_here", "_law_found"] ["_law_script"] (defScope s_law) := ⟨rfl, rfl, rfl, by decide +kernel, rfl, by decide +kernel, by decide +kernel⟩
/-- what the top has written -/
structure Tx (K : PySem.W.Frag) (mg : Str → Option Value) : Prop where
  f_common : At K mg "common" s_common ["numbers"]
  f_lowest : At K mg "lowest" s_lowest ["numbers"]
  f_ways_from : At K mg "ways_from" s_ways_from ["dots", "here"]
  f_weight_at : At K mg "weight_at" s_weight_at ["dots", "here"]
  f_beside : At K mg "beside" s_beside ["ways", "way"]
  f_lighter : At K mg "lighter" s_lighter ["four"]
  f_depth : At K mg "depth" s_depth ["dots", "here"]
  f_tilted : At K mg "tilted" s_tilted ["ways", "way"]
  f_lightest : At K mg "lightest" s_lightest ["dots", "here"]
  f_law_whole : At K mg "_law_whole" s_law_whole ["_law_found"]
  f_law_cell_at : At K mg "_law_cell_at" s_law_cell_at ["_law_script", "_law_k"]
  f_law_divisor : At K mg "_law_divisor" s_law_divisor ["_law_one", "_law_other"]
  f_law_dot : At K mg "_law_dot" s_law_dot ["_law_cell", "_law_kind", "_law_heavy"]
  f_law_dots : At K mg "_law_dots" s_law_dots ["_law_script", "_law_start", "_law_most"]
  f_law_lowest : At K mg "_law_lowest" s_law_lowest ["_law_by", "_law_x", "_law_y"]
  f_law_drawn_place : At K mg "_law_drawn_place" s_law_drawn_place ["_law_dots_here", "_law_cell"]
  f_law_weight : At K mg "_law_weight" s_law_weight ["_law_dots_here", "_law_gauge"]
  f_law_good : At K mg "_law_good" s_law_good ["_law_found", "_law_dots_here", "_law_here"]
  f_law_none_lighter : At K mg "_law_none_lighter" s_law_none_lighter ["_law_dots_here", "_law_here", "_law_least"]
  b_abs : mg "abs" = none
  b_bool : mg "bool" = none
  b_int : mg "int" = none
  b_isinstance : mg "isinstance" = none
  b_len : mg "len" = none
  b_list : mg "list" = none
  b_max : mg "max" = none
  b_min : mg "min" = none
  b_range : mg "range" = none
  b_sum : mg "sum" = none
  b_tuple : mg "tuple" = none
section
variable {P : Program} {w : World} {K : PySem.W.Frag} {mg : Str → Option Value} {base : Heap}
abbrev sp_common (K : PySem.W.Frag) : Sp := spF K (fun y : Bool × List Int => [seqD y.1 (D.ints y.2)]) (fun y => True) fun y => .ok (.im (.int (gcdL y.2 : Nat)))
theorem ok_common (T : Tx K mg) : Cal P w K mg base 1 "common" ["numbers"] (sp_common K) := by
  obtain ⟨f, fd, F, hm, hb⟩ := T.f_common.ex
  refine Cal.of_body F hm hb sc_common (fun _ => rfl) fun cdv A outer s H E C hr y hy => ?_
  obtain ⟨b, ns⟩ := y
  refine wp_at (ρ := [.im (seqD b (D.ints ns)), .no, .no, .no]) rfl ?_
  refine wp_cons (ws_set 1 ee_int (by walk_at "set") ?_ sc_common.nd)
  refine wp_cons (ws_for (fun i ρ => ∃ x r, ρ = [.im (seqD b (D.ints ns)), .im (.int (gcdL (ns.take i) : Nat)), x, r]) PassesOwn.never (ei_seq (ee_var 0)) ?_ ?_ ?_) -- LOOP 1
  · refine ⟨.no, .no, ?_⟩
    rw [List.take_zero, gcdL_nil]
    rfl
  · rintro i d ρ hd ⟨x, r, rfl⟩
    obtain ⟨n, rfl, hn⟩ := ints_get hd
    refine ⟨_, _, (gt_name 2 sc_common.nd (by walk_at "set")), ?_⟩
    refine wp_cons (ws_set 3 (ee_abs T.b_abs (ee_var 2)) (by walk_at "set") ?_ sc_common.nd)
    refine wp_cons (ws_while (fun ρ => ∃ g r : Nat, ρ = [.im (seqD b (D.ints ns)), .im (.int (g : Int)), .im (.int n), .im (.int (r : Int))] ∧ Nat.gcd g r = gcdL (ns.take (i + 1))) (fun ρ => intAt ρ 3) PassesOwn.never ?_ ?_) -- WHILE 2
    · exact ⟨_, _, rfl, (gcdL_step hn).symm⟩
    · rintro ρ ⟨g, r, rfl, e⟩
      refine ⟨_, (et_cmp (ec_gt (ee_var 3) ee_int)), fun h => ?_, fun h => ?_⟩
      · skip
        have h : 0 < (r : Int) := of_decide_eq_true h
        have hr0 : 0 < r := by omega
        refine wp_cons (ws_par 1 3 (ea_cons (ee_var 3) (ea_cons (ee_mod (ee_var 1) (ee_var 3) (by walk_at "pos")) ea_nil)) (by walk_at "set") ?_ sc_common.nd)
        refine wp_nil ?_ -- NIL 1
        refine ⟨⟨r, g % r, by rw [Int.natCast_emod], ?_⟩, ?_⟩
        · rw [← e, Nat.gcd_comm g r, Nat.gcd_rec r g, Nat.gcd_comm]
        · show ((g : Int) % (r : Int)).toNat < (r : Int).toNat
          rw [← Int.natCast_emod, Int.toNat_natCast, Int.toNat_natCast]
          exact Nat.mod_lt _ hr0
      · skip
        have h : ¬ 0 < (r : Int) := of_decide_eq_false h
        have h : r = 0 := by omega
        subst h
        rw [Nat.gcd_zero_right] at e
        subst e
        refine wp_nil ?_ -- NIL 2
        exact ⟨_, _, rfl⟩
  · rintro ρ ⟨x, r, rfl⟩
    refine wp_cons (ws_ret (ee_var 1) ?_) -- RET 1
    show _ = _
    rw [List.length_map, List.take_length]
abbrev sp_lowest (K : PySem.W.Frag) : Sp := spF K (fun y : Bool × List Int => [seqD y.1 (D.ints y.2)]) (fun y => (∀ z ∈ y.2, Sz 8990 z) ∧ y.2.length ≤ 100000) fun y => .ok (.im (.tup (D.ints (lowL y.2))))
theorem ok_lowest (T : Tx K mg) : Cal P w K mg base 2 "lowest" ["numbers"] (sp_lowest K) := by
  obtain ⟨f, fd, F, hm, hb⟩ := T.f_lowest.ex
  refine Cal.of_body F hm hb sc_lowest (fun _ => rfl) fun cdv A outer s H E C hr y hy => ?_
  obtain ⟨b, ns⟩ := y
  obtain ⟨hy, hl⟩ := hy
  dsimp only at hy hl
  have sg := gcdL_le hy
  have pg : 0 < max ((gcdL ns : Nat) : Int) 1 := by omega
  have sm : Sz 8999 (max ((gcdL ns : Nat) : Int) 1) := by
    rcases Int.le_total 1 ((gcdL ns : Nat) : Int) with l | l
    · rw [Int.max_eq_left l]; exact sg.mono (by decide)
    · rw [Int.max_eq_right l]; exact (Sz.self 1).mono (by decide)
  refine wp_at (ρ := [.im (seqD b (D.ints ns)), .no, .no]) rfl ?_
  refine wp_cons (ws_set 1 (ee_max2 T.b_max (ee_call (_, _) (ok_common T) (hr.mono (by decide)) (ea_cons (ee_var 0) ea_nil) (by walk_at "pre") rfl) ee_int) (by walk_at "set") ?_ sc_lowest.nd)
  refine wp_cons (ws_ret (ee_tupleL T.b_tuple (EF.el (ef_lcA (own := [("number", 2)]) (f := fun n => D.int (n / max ((gcdL ns : Nat) : Int) 1)) (ei_seq (ee_var 0)) ?_ rfl rfl (by rw [sizeLine_eq]; omega) (blkOk_by (N := ["numbers", "by", "number"]) (sc := defScope s_lowest) (by decide +kernel)) sc_lowest.nd))) ?_) -- RET 1
  · intro C i n hn -- LC 1
    exact ⟨_, _, (by rintro _ ⟨s1, H1, c, cl, fp, rfl⟩; exact (gt_name 2 sc_lowest.nd (by walk_at "set"))), (by rfl), (by decide),
      (by rintro _ ⟨s1, H1, c, cl, fp, rfl⟩; exact ets_nil),
      (by rintro hp; rintro _ ⟨s1, H1, c, cl, fp, rfl⟩; exact (ee_fdiv (ee_var 2) (ee_var 1) (by walk_at "pos") (by walk_at "szl")))⟩
  show _ = _
  unfold lowL
  simp only [List.map_map]
  rfl
abbrev sp_ways_from (K : PySem.W.Frag) : Sp := spF K (fun y : List P4 × P3 => [.lst (D.quads y.1), t3 y.2]) (fun y => (∀ q ∈ y.1, DotOk 100 q) ∧ Sz3 200 y.2 ∧ y.1.length ≤ 1000) fun y => .ok (.fr ((waysM y.1 y.2).map t3))
theorem ok_ways_from (T : Tx K mg) : Cal P w K mg base 1 "ways_from" ["dots", "here"] (sp_ways_from K) := by
  obtain ⟨f, fd, F, hm, hb⟩ := T.f_ways_from.ex
  refine Cal.of_body F hm hb sc_ways_from (fun _ => rfl) fun cdv A outer s H E C hr y hy => ?_
  obtain ⟨ds, h⟩ := y
  obtain ⟨hdo, sh, hl⟩ := hy
  dsimp only at hdo sh hl
  have shh := sh
  obtain ⟨sh1, sh2, sh3⟩ := sh
  refine wp_at (ρ := [.im (.lst (D.quads ds)), .im (t3 h), .no, .no, .no, .no, .no, .no, .no]) rfl ?_
  refine wp_cons (ws_setF 2 (ef_lst ea_nil) (fun a => ?_) sc_ways_from.nd)
  dsimp only [List.set]
  refine wp_cons (ws_for (fun i ρ => ∃ x y c w r u, ρ = [.im (.lst (D.quads ds)), .im (t3 h), .ow a ((waysM (ds.take i) h).map t3), x, y, c, w, r, u]) PassesOwn.never (ei_list (ee_var 0)) ?_ ?_ ?_) -- LOOP 1
  · refine ⟨.no, .no, .no, .no, .no, .no, ?_⟩
    rw [List.take_zero, show waysM [] h = [] by unfold waysM; rfl]
    rfl
  · rintro i d ρ hd ⟨x, y, c, w, r, u, rfl⟩
    obtain ⟨q, rfl, hq⟩ := map_get hd
    obtain ⟨dx, dy⟩ := hdo q (List.mem_of_getElem? hq)
    have wl : (waysM (ds.take i) h).length ≤ 1000 := Nat.le_trans (ways_len _ _) (Nat.le_trans (List.length_take_le' _ _) (by omega))
    refine ⟨_, _, (gt_tup (gts_cons (gt_name 3 sc_ways_from.nd (by walk_at "set")) (gts_cons (gt_name 4 sc_ways_from.nd (by walk_at "set")) (gts_cons (gt_name 5 sc_ways_from.nd (by walk_at "set")) (gts_cons (gt_name 6 sc_ways_from.nd (by walk_at "set")) gts_nil))))), ?_⟩
    refine wp_cons (ws_set 7 (ee_sub (ee_mul (ee_var 3) (ee_ixT (ee_var 1) ee_int (by walk_at "ix")) (by walk_at "mul")) (ee_ixT (ee_var 1) ee_int (by walk_at "ix"))) (by walk_at "set") ?_ sc_ways_from.nd)
    refine wp_cons (ws_set 8 (ee_sub (ee_mul (ee_var 4) (ee_ixT (ee_var 1) ee_int (by walk_at "ix")) (by walk_at "mul")) (ee_ixT (ee_var 1) ee_int (by walk_at "ix"))) (by walk_at "set") ?_ sc_ways_from.nd)
    refine wp_cons (ws_if (EW.et (ew_or (et_cmp (ec_neI (ee_var 7) ee_int)) (fun h => (ew_or1 (et_cmp (ec_neI (ee_var 8) ee_int)))))) (fun h1 => ?_) (fun h1 => ?_))
    · skip
      refine wp_cons (ws_app 2 rfl (ee_t3 (ee_var 7) (ee_var 8) (ee_var 6)) (by walk_at "len") (by walk_at "set") ?_)
      refine wp_nil ?_
      refine wp_nil ?_ -- NIL 1
      (try dsimp only)
      rw [ways_step h hq, if_pos (by unfold offM rightM aboveM; simpa using h1), List.map_append]
      unfold wayM rightM aboveM
      exact ⟨_, _, _, _, _, _, rfl⟩
    · skip
      refine wp_nil ?_
      refine wp_nil ?_ -- NIL 2
      (try dsimp only)
      rw [ways_step h hq, if_neg (by unfold offM rightM aboveM; simpa using h1), List.append_nil]
      exact ⟨_, _, _, _, _, _, rfl⟩
  · rintro ρ ⟨x, y, c, w, r, u, rfl⟩
    refine wp_cons (ws_retO 2 rfl ?_) -- RET 1
    show _ = _
    rw [List.length_map, List.take_length]
abbrev sp_weight_at (K : PySem.W.Frag) : Sp := spF K (fun y : List P4 × P3 => [.lst (D.quads y.1), t3 y.2]) (fun y => y.1.length ≤ 1000) fun y => .ok (.im (.int (weightAt y.1 y.2)))
theorem ok_weight_at (T : Tx K mg) : Cal P w K mg base 1 "weight_at" ["dots", "here"] (sp_weight_at K) := by
  obtain ⟨f, fd, F, hm, hb⟩ := T.f_weight_at.ex
  refine Cal.of_body F hm hb sc_weight_at (fun _ => rfl) fun cdv A outer s H E C hr y hy => ?_
  obtain ⟨ds, h⟩ := y
  dsimp only at hy
  refine wp_at (ρ := [.im (.lst (D.quads ds)), .im (t3 h), .no, .no, .no, .no]) rfl ?_
  refine wp_cons (ws_ret (ee_sum T.b_sum (EF.el (EF.eq (ds' := D.ints ((ds.filter fun q => decide ((1, q.1, q.2.1) = h)).map fun q => q.2.2.2)) (ef_lc (own := [("x", 2), ("y", 3), ("colour", 4), ("weight", 5)]) (p := fun q : P4 => decide ((1, q.1, q.2.1) = h)) (f := fun q : P4 => D.int q.2.2.2) (ei_list (ee_var 0)) ?_ rfl rfl (by rw [sizeLine_eq]; omega) (blkOk_by (N := ["dots", "here", "x", "y", "colour", "weight"]) (sc := defScope s_weight_at) (by decide +kernel)) sc_weight_at.nd) (ints_map _ _)))) ?_) -- RET 1
  · intro C i q hq -- LC 1
    exact ⟨_, _, (by rintro _ ⟨s1, H1, c, cl, fp, rfl⟩; exact (gt_tup (gts_cons (gt_name 2 sc_weight_at.nd (by walk_at "set")) (gts_cons (gt_name 3 sc_weight_at.nd (by walk_at "set")) (gts_cons (gt_name 4 sc_weight_at.nd (by walk_at "set")) (gts_cons (gt_name 5 sc_weight_at.nd (by walk_at "set")) gts_nil)))))), (by rfl), (by decide),
      (by rintro _ ⟨s1, H1, c, cl, fp, rfl⟩; exact ets_one (et_cmp (ec_eq3 hr.units (ee_t3 ee_int (ee_var 2) (ee_var 3)) (ee_var 1)))),
      (by rintro hp; rintro _ ⟨s1, H1, c, cl, fp, rfl⟩; exact (ee_var 5))⟩
  show _ = _
  unfold weightAt
  rfl
abbrev sp_beside (K : PySem.W.Frag) : Sp := spF K (fun y : List P3 × P3 => [.lst (y.1.map t3), t3 y.2]) (fun y => (∀ w ∈ y.1, Sz 2000 w.1 ∧ Sz 2000 w.2.1) ∧ Sz 2000 y.2.1 ∧ Sz 2000 y.2.2.1) fun y => .ok (.im (q4 (besM y.1 y.2)))
theorem ok_beside (T : Tx K mg) : Cal P w K mg base 1 "beside" ["ways", "way"] (sp_beside K) := by
  obtain ⟨f, fd, F, hm, hb⟩ := T.f_beside.ex
  refine Cal.of_body F hm hb sc_beside (fun _ => rfl) fun cdv A outer s H E C hr y hy => ?_
  obtain ⟨ws, v⟩ := y
  obtain ⟨hw, v1, v2⟩ := hy
  dsimp only at hw v1 v2
  refine wp_at (ρ := [.im (.lst (ws.map t3)), .im (t3 v), .no, .no, .no, .no, .no, .no]) rfl ?_
  refine wp_cons (ws_set 2 ee_int (by walk_at "set") ?_ sc_beside.nd)
  refine wp_cons (ws_set 3 ee_int (by walk_at "set") ?_ sc_beside.nd)
  refine wp_cons (ws_set 4 ee_int (by walk_at "set") ?_ sc_beside.nd)
  refine wp_cons (ws_set 5 ee_int (by walk_at "set") ?_ sc_beside.nd)
  refine wp_cons (ws_for (fun i ρ => ∃ o t, ρ = [.im (.lst (ws.map t3)), .im (t3 v), .im (.int (besM (ws.take i) v).1), .im (.int (besM (ws.take i) v).2.1), .im (.int (besM (ws.take i) v).2.2.1), .im (.int (besM (ws.take i) v).2.2.2), o, t]) PassesOwn.never (ei_list (ee_var 0)) ?_ ?_ ?_) -- LOOP 1
  · refine ⟨.no, .no, ?_⟩
    rw [List.take_zero, bes_nil]
  · rintro i d ρ hd ⟨o, t, rfl⟩
    obtain ⟨w, rfl, hq⟩ := map_get hd
    obtain ⟨w1, w2⟩ := hw w (List.mem_of_getElem? hq)
    have e1 : turnM v w = v.1 * w.2.1 - v.2.1 * w.1 := by unfold turnM; rfl
    have e2 : alongM v w = v.1 * w.1 + v.2.1 * w.2.1 := by unfold alongM; rfl
    refine ⟨_, _, (gt_name 6 sc_beside.nd (by walk_at "set")), ?_⟩
    refine wp_cons (ws_set 7 (ee_sub (ee_mul (ee_ixT (ee_var 1) ee_int (by walk_at "ix")) (ee_ixT (ee_var 6) ee_int (by walk_at "ix")) (by walk_at "mul")) (ee_mul (ee_ixT (ee_var 1) ee_int (by walk_at "ix")) (ee_ixT (ee_var 6) ee_int (by walk_at "ix")) (by walk_at "mul"))) (by walk_at "set") ?_ sc_beside.nd)
    refine wp_cons (ws_if (et_cmp (ec_gt (ee_var 7) ee_int)) (fun h1 => ?_) (fun h1 => ?_))
    · skip
      refine wp_cons (ws_augI 2 rfl (ee_ixT (ee_var 6) ee_int (by walk_at "ix")) (by walk_at "set") ?_ sc_beside.nd)
      refine wp_nil ?_
      refine wp_nil ?_ -- NIL 1
      (try dsimp only)
      rw [bes_step v hq]
      unfold besStep
      rw [e1, e2]
      simp only [decide_eq_true_eq, decide_eq_false_iff_not] at h1
      simp only [if_pos h1]
      exact ⟨_, _, rfl⟩
    · skip
      refine wp_cons (ws_if (et_cmp (ec_lt (ee_var 7) ee_int)) (fun h2 => ?_) (fun h2 => ?_))
      · skip
        refine wp_cons (ws_augI 3 rfl (ee_ixT (ee_var 6) ee_int (by walk_at "ix")) (by walk_at "set") ?_ sc_beside.nd)
        refine wp_nil ?_
        refine wp_nil ?_
        refine wp_nil ?_ -- NIL 2
        (try dsimp only)
        rw [bes_step v hq]
        unfold besStep
        rw [e1, e2]
        simp only [decide_eq_true_eq, decide_eq_false_iff_not] at h1 h2
        simp only [if_neg h1, if_pos h2]
        exact ⟨_, _, rfl⟩
      · skip
        refine wp_cons (ws_if (et_cmp (ec_gt (ee_add (ee_mul (ee_ixT (ee_var 1) ee_int (by walk_at "ix")) (ee_ixT (ee_var 6) ee_int (by walk_at "ix")) (by walk_at "mul")) (ee_mul (ee_ixT (ee_var 1) ee_int (by walk_at "ix")) (ee_ixT (ee_var 6) ee_int (by walk_at "ix")) (by walk_at "mul"))) ee_int)) (fun h3 => ?_) (fun h3 => ?_))
        · skip
          refine wp_cons (ws_augI 4 rfl (ee_ixT (ee_var 6) ee_int (by walk_at "ix")) (by walk_at "set") ?_ sc_beside.nd)
          refine wp_nil ?_
          refine wp_nil ?_
          refine wp_nil ?_
          refine wp_nil ?_ -- NIL 3
          (try dsimp only)
          rw [bes_step v hq]
          unfold besStep
          rw [e1, e2]
          simp only [decide_eq_true_eq, decide_eq_false_iff_not] at h1 h2 h3
          simp only [if_neg h1, if_neg h2, if_pos h3]
          exact ⟨_, _, rfl⟩
        · skip
          refine wp_cons (ws_augI 5 rfl (ee_ixT (ee_var 6) ee_int (by walk_at "ix")) (by walk_at "set") ?_ sc_beside.nd)
          refine wp_nil ?_
          refine wp_nil ?_
          refine wp_nil ?_
          refine wp_nil ?_ -- NIL 4
          (try dsimp only)
          rw [bes_step v hq]
          unfold besStep
          rw [e1, e2]
          simp only [decide_eq_true_eq, decide_eq_false_iff_not] at h1 h2 h3
          simp only [if_neg h1, if_neg h2, if_neg h3]
          exact ⟨_, _, rfl⟩
  · rintro ρ ⟨o, t, rfl⟩
    refine wp_cons (ws_ret (ee_tup (ea_cons (ee_var 2) (ea_cons (ee_var 3) (ea_cons (ee_var 4) (ea_cons (ee_var 5) ea_nil))))) ?_) -- RET 1
    show _ = _
    rw [List.length_map, List.take_length]
    rfl
abbrev sp_lighter (K : PySem.W.Frag) : Sp := spF K (fun y : P4 => [q4 y]) (fun y => True) fun y => .ok (.im (.int (lighterM y)))
theorem ok_lighter (T : Tx K mg) : Cal P w K mg base 1 "lighter" ["four"] (sp_lighter K) := by
  obtain ⟨f, fd, F, hm, hb⟩ := T.f_lighter.ex
  refine Cal.of_body F hm hb sc_lighter (fun _ => rfl) fun cdv A outer s H E C hr y hy => ?_
  refine wp_at (ρ := [.im (q4 y)]) rfl ?_
  refine wp_cons (ws_ret (ee_add (ee_min2 T.b_min (ee_ixT (ee_var 0) ee_int (by walk_at "ix")) (ee_ixT (ee_var 0) ee_int (by walk_at "ix"))) (ee_min2 T.b_min (ee_ixT (ee_var 0) ee_int (by walk_at "ix")) (ee_ixT (ee_var 0) ee_int (by walk_at "ix")))) ?_) -- RET 1
  show _ = _
  unfold lighterM
  rfl
abbrev sp_depth (K : PySem.W.Frag) : Sp := spF K (fun y : List P4 × P3 => [.lst (D.quads y.1), t3 y.2]) (fun y => (∀ q ∈ y.1, DotOk 100 q) ∧ Sz3 200 y.2 ∧ y.1.length ≤ 1000) fun y => .ok (.im (.int (depthM y.1 y.2)))
theorem ok_depth (T : Tx K mg) : Cal P w K mg base 2 "depth" ["dots", "here"] (sp_depth K) := by
  obtain ⟨f, fd, F, hm, hb⟩ := T.f_depth.ex
  refine Cal.of_body F hm hb sc_depth (fun _ => rfl) fun cdv A outer s H E C hr y hy => ?_
  obtain ⟨ds, h⟩ := y
  obtain ⟨hdo, sh, hl⟩ := hy
  dsimp only at hdo sh hl
  have wk := ways_ok hdo sh
  have ws2 : ∀ w ∈ waysM ds h, Sz 2000 w.1 ∧ Sz 2000 w.2.1 := fun w hw => ⟨(wk w hw).x.mono (by decide), (wk w hw).y.mono (by decide)⟩
  have wl := ways_len ds h
  refine wp_at (ρ := [.im (.lst (D.quads ds)), .im (t3 h), .no, .no, .no]) rfl ?_
  refine wp_cons (ws_set 2 (EF.ee (ef_call (_, _) (ok_ways_from T) (hr.mono (by decide)) (ea_cons (ee_var 0) (ea_cons (ee_var 1) ea_nil)) (by walk_at "pre") rfl)) (by walk_at "set") ?_ sc_depth.nd)
  refine wp_cons (ws_set 3 (ee_call (_, _) (ok_weight_at T) (hr.mono (by decide)) (ea_cons (ee_var 0) (ea_cons (ee_var 1) ea_nil)) (by walk_at "pre") rfl) (by walk_at "set") ?_ sc_depth.nd)
  refine wp_cons (ws_if (et_cmp (ec_eqE hr.units (EE.el (ee_var 2)) (by walk_at "good") (EF.el (ef_lst ea_nil)))) (fun h1 => ?_) (fun h1 => ?_))
  · skip
    refine wp_cons (ws_ret (ee_var 3) ?_) -- RET 1
    show _ = _
    have e : (waysM ds h).isEmpty = true := by simpa using h1
    unfold depthM
    rw [if_pos e]
  · skip
    have hne : ((waysM ds h).map fun v => lighterM (besM (waysM ds h) v)) ≠ [] := fun z => by
      rw [List.map_eq_nil_iff] at z
      rw [z] at h1
      exact absurd h1 (by decide)
    refine wp_nil ?_
    refine wp_cons (ws_ret (ee_add (ee_var 3) (ee_minL T.b_min (EF.el (EF.eq (ds' := D.ints ((waysM ds h).map fun v => lighterM (besM (waysM ds h) v))) (ef_lcA (own := [("way", 4)]) (f := fun v => D.int (lighterM (besM (waysM ds h) v))) (ei_list (ee_var 2)) ?_ rfl rfl (by rw [sizeLine_eq]; omega) (blkOk_by (N := ["dots", "here", "ways", "found", "way"]) (sc := defScope s_depth) (by decide +kernel)) sc_depth.nd) (ints_map _ _))) (by walk_at "ne"))) ?_) -- RET 2
    · intro C i v hv
      obtain ⟨v1, v2⟩ := ws2 v (List.mem_of_getElem? hv) -- LC 1
      exact ⟨_, _, (by rintro _ ⟨s1, H1, c, cl, fp, rfl⟩; exact (gt_name 4 sc_depth.nd (by walk_at "set"))), (by rfl), (by decide),
        (by rintro _ ⟨s1, H1, c, cl, fp, rfl⟩; exact ets_nil),
        (by rintro hp; rintro _ ⟨s1, H1, c, cl, fp, rfl⟩; exact (ee_call _ (ok_lighter T) (hr.mono (by decide)) (ea_cons (ee_call (_, _) (ok_beside T) (hr.mono (by decide)) (ea_cons (ee_var 2) (ea_cons (ee_var 4) ea_nil)) (by walk_at "pre") rfl) ea_nil) (by walk_at "pre") rfl))⟩
    show _ = _
    have e : ¬ (waysM ds h).isEmpty = true := by simpa using h1
    unfold depthM leastM
    rw [if_neg e]
abbrev sp_tilted (K : PySem.W.Frag) : Sp := spF K (fun y : List P3 × P3 => [.lst (y.1.map t3), t3 y.2]) (fun y => (∀ w ∈ y.1, Sz 2000 w.1 ∧ Sz 2000 w.2.1) ∧ Sz 2000 y.2.1 ∧ Sz 2000 y.2.2.1 ∧ y.1 ≠ [] ∧ y.1.length ≤ 1000) fun y => .ok (.im (.tup [.int (tiltA y.1 y.2), .int (tiltB y.1 y.2)]))
theorem ok_tilted (T : Tx K mg) : Cal P w K mg base 2 "tilted" ["ways", "way"] (sp_tilted K) := by
  obtain ⟨f, fd, F, hm, hb⟩ := T.f_tilted.ex
  refine Cal.of_body F hm hb sc_tilted (fun _ => rfl) fun cdv A outer s H E C hr y hy => ?_
  obtain ⟨ws, v⟩ := y
  obtain ⟨hw, v1, v2, hne, hl⟩ := hy
  dsimp only at hw v1 v2 hne hl
  have sa := farA_sz hne fun w q => along_sz v1 v2 (hw w q).1 (hw w q).2
  have sf := farM_sz sa
  have sl := littleM_sz ws v
  have mne : (ws.map fun w => ((alongM v w).natAbs : Int)) ≠ [] := fun z => hne (List.map_eq_nil_iff.mp z)
  refine wp_at (ρ := [.im (.lst (ws.map t3)), .im (t3 v), .no, .no, .no, .no, .no, .no, .no]) rfl ?_
  refine wp_cons (ws_asg (ee_call (_, _) (ok_beside T) (hr.mono (by decide)) (ea_cons (ee_var 0) (ea_cons (ee_var 1) ea_nil)) (by walk_at "pre") rfl) (gt_tup (gts_cons (gt_name 2 sc_tilted.nd (by walk_at "set")) (gts_cons (gt_name 3 sc_tilted.nd (by walk_at "set")) (gts_cons (gt_name 4 sc_tilted.nd (by walk_at "set")) (gts_cons (gt_name 5 sc_tilted.nd (by walk_at "set")) gts_nil))))) ?_)
  refine wp_cons (ws_set 7 (ee_add ee_int (ee_maxL T.b_max (EF.el (EF.eq (ds' := D.ints (ws.map fun w => ((alongM v w).natAbs : Int))) (ef_lcA (own := [("other", 6)]) (f := fun w : P3 => D.int ((v.1 * w.1 + v.2.1 * w.2.1).natAbs : Int)) (ei_list (ee_var 0)) ?_ rfl rfl (by rw [sizeLine_eq]; omega) (blkOk_by (N := ["ways", "way", "left", "right", "ahead", "back", "other", "far", "little"]) (sc := defScope s_tilted) (by decide +kernel)) sc_tilted.nd) (by unfold alongM; exact ints_map _ _))) (by walk_at "ne"))) (by walk_at "set") ?_ sc_tilted.nd)
  · intro C i w hq
    obtain ⟨w1, w2⟩ := hw w (List.mem_of_getElem? hq) -- LC 1
    exact ⟨_, _, (by rintro _ ⟨s1, H1, c, cl, fp, rfl⟩; exact (gt_name 6 sc_tilted.nd (by walk_at "set"))), (by rfl), (by decide),
      (by rintro _ ⟨s1, H1, c, cl, fp, rfl⟩; exact ets_nil),
      (by rintro hp; rintro _ ⟨s1, H1, c, cl, fp, rfl⟩; exact (ee_abs T.b_abs (ee_add (ee_mul (ee_ixT (ee_var 1) ee_int (by walk_at "ix")) (ee_ixT (ee_var 6) ee_int (by walk_at "ix")) (by walk_at "mul")) (ee_mul (ee_ixT (ee_var 1) ee_int (by walk_at "ix")) (ee_ixT (ee_var 6) ee_int (by walk_at "ix")) (by walk_at "mul")))))⟩
  refine wp_join (ρJ := [.im (.lst (ws.map t3)), .im (t3 v), .im (.int (besM ws v).1), .im (.int (besM ws v).2.1), .im (.int (besM ws v).2.2.1), .im (.int (besM ws v).2.2.2), .no, .im (.int (farM ws v)), .no]) ?_ ?_
  · refine ws_if (et_cmp (ec_gt (ee_var 2) (ee_var 3))) (fun hj => ?_) (fun hj => ?_)
    · skip
      refine wp_cons (ws_set 7 (ee_sub ee_int (ee_var 7)) (by walk_at "set") ?_ sc_tilted.nd)
      refine wp_nil ?_ -- NIL 1000001
      have hj := of_decide_eq_true hj
      rw [show farM ws v = 0 - (1 + maxI (ws.map fun w => ((alongM v w).natAbs : Int))) by unfold farM farA; rw [if_pos hj]]
    · skip
      refine wp_nil ?_ -- NIL 1000002
      have hj := of_decide_eq_false hj
      rw [show farM ws v = 1 + maxI (ws.map fun w => ((alongM v w).natAbs : Int)) by unfold farM farA; rw [if_neg hj]]
  · skip
    refine wp_cons (ws_set 8 ee_int (by walk_at "set") ?_ sc_tilted.nd)
    refine wp_join (ρJ := [.im (.lst (ws.map t3)), .im (t3 v), .im (.int (besM ws v).1), .im (.int (besM ws v).2.1), .im (.int (besM ws v).2.2.1), .im (.int (besM ws v).2.2.2), .no, .im (.int (farM ws v)), .im (.int (littleM ws v))]) ?_ ?_
    · refine ws_if (et_cmp (ec_gt (ee_var 4) (ee_var 5))) (fun hj => ?_) (fun hj => ?_)
      · skip
        refine wp_cons (ws_set 8 (ee_neg ee_int) (by walk_at "set") ?_ sc_tilted.nd)
        refine wp_nil ?_ -- NIL 1000001
        have hj := of_decide_eq_true hj
        rw [show littleM ws v = -1 by unfold littleM; rw [if_pos hj]]
      · skip
        refine wp_nil ?_ -- NIL 1000002
        have hj := of_decide_eq_false hj
        rw [show littleM ws v = 1 by unfold littleM; rw [if_neg hj]]
    · skip
      refine wp_cons (ws_ret (ee_tup (ea_cons (ee_sub (ee_mul (ee_var 8) (ee_ixT (ee_var 1) ee_int (by walk_at "ix")) (by walk_at "mul")) (ee_mul (ee_var 7) (ee_ixT (ee_var 1) ee_int (by walk_at "ix")) (by walk_at "mul"))) (ea_cons (ee_add (ee_mul (ee_var 8) (ee_ixT (ee_var 1) ee_int (by walk_at "ix")) (by walk_at "mul")) (ee_mul (ee_var 7) (ee_ixT (ee_var 1) ee_int (by walk_at "ix")) (by walk_at "mul"))) ea_nil))) ?_) -- RET 1
      show _ = _
      unfold tiltA tiltB
      rfl
abbrev sp_lightest (K : PySem.W.Frag) : Sp := spF K (fun y : List P4 × P3 => [.lst (D.quads y.1), t3 y.2]) (fun y => (∀ q ∈ y.1, DotOk 100 q) ∧ Sz3 200 y.2 ∧ y.1.length ≤ 1000) fun y => .ok (.im (t3 (lightM y.1 y.2)))
theorem ok_lightest (T : Tx K mg) : Cal P w K mg base 3 "lightest" ["dots", "here"] (sp_lightest K) := by
  obtain ⟨f, fd, F, hm, hb⟩ := T.f_lightest.ex
  refine Cal.of_body F hm hb sc_lightest (fun _ => rfl) fun cdv A outer s H E C hr y hy => ?_
  obtain ⟨ds, h⟩ := y
  obtain ⟨hdo, sh, hl⟩ := hy
  dsimp only at hdo sh hl
  have wk := ways_ok hdo sh
  have ws2 : ∀ w ∈ waysM ds h, Sz 2000 w.1 ∧ Sz 2000 w.2.1 := fun w hw => ⟨(wk w hw).x.mono (by decide), (wk w hw).y.mono (by decide)⟩
  have wl := ways_len ds h
  have wl2 : (waysM ds h).length ≤ 1000 := by omega
  obtain ⟨sh1, sh2, sh3⟩ := sh
  refine wp_at (ρ := [.im (.lst (D.quads ds)), .im (t3 h), .no, .no, .no, .no, .no]) rfl ?_
  refine wp_cons (ws_set 2 (EF.ee (ef_call (_, _) (ok_ways_from T) (hr.mono (by decide)) (ea_cons (ee_var 0) (ea_cons (ee_var 1) ea_nil)) (by walk_at "pre") rfl)) (by walk_at "set") ?_ sc_lightest.nd)
  refine wp_cons (ws_if (et_cmp (ec_eqE hr.units (EE.el (ee_var 2)) (by walk_at "good") (EF.el (ef_lst ea_nil)))) (fun h1 => ?_) (fun h1 => ?_))
  · skip
    refine wp_cons (ws_ret (ee_t3 (ee_sub ee_int (ee_ixT (ee_var 1) ee_int (by walk_at "ix"))) (ee_ixT (ee_var 1) ee_int (by walk_at "ix")) ee_int) ?_) -- RET 1
    show _ = _
    have e : (waysM ds h).isEmpty = true := by simpa using h1
    unfold lightM
    rw [if_pos e]
  · skip
    have hne : waysM ds h ≠ [] := fun z => by
      rw [z] at h1
      exact absurd h1 (by decide)
    have hix := head_at hne
    refine wp_nil ?_
    refine wp_cons (ws_set 3 (ee_ixL (EE.el (ee_var 2)) ee_int (by walk_at "ix")) (by walk_at "set") ?_ sc_lightest.nd)
    refine wp_cons (ws_for (fun i ρ => ∃ w, ρ = [.im (.lst (D.quads ds)), .im (t3 h), .im (.lst ((waysM ds h).map t3)), .im (t3 (((waysM ds h).take i).foldl (betterM (waysM ds h)) ((waysM ds h).headD (0, 0, 0)))), w, .no, .no]) PassesOwn.never (ei_list (ee_var 2)) ?_ ?_ ?_) -- LOOP 1
    · exact ⟨_, rfl⟩
    · rintro i d ρ hd ⟨w0, rfl⟩
      obtain ⟨w, rfl, hw⟩ := map_get hd
      obtain ⟨w1, w2⟩ := ws2 w (List.mem_of_getElem? hw)
      obtain ⟨b1, b2⟩ := ws2 _ (best_mem hne i)
      refine ⟨_, _, (gt_name 4 sc_lightest.nd (by walk_at "set")), ?_⟩
      refine wp_cons (ws_if (et_cmp (ec_lt (ee_call _ (ok_lighter T) (hr.mono (by decide)) (ea_cons (ee_call (_, _) (ok_beside T) (hr.mono (by decide)) (ea_cons (ee_var 2) (ea_cons (ee_var 4) ea_nil)) (by walk_at "pre") rfl) ea_nil) (by walk_at "pre") rfl) (ee_call _ (ok_lighter T) (hr.mono (by decide)) (ea_cons (ee_call (_, _) (ok_beside T) (hr.mono (by decide)) (ea_cons (ee_var 2) (ea_cons (ee_var 3) ea_nil)) (by walk_at "pre") rfl) ea_nil) (by walk_at "pre") rfl))) (fun h2 => ?_) (fun h2 => ?_))
      · skip
        refine wp_cons (ws_set 3 (ee_var 4) (by walk_at "set") ?_ sc_lightest.nd)
        refine wp_nil ?_
        refine wp_nil ?_ -- NIL 1
        (try dsimp only)
        have h2 := of_decide_eq_true h2
        dsimp only at h2
        have eb : betterM (waysM ds h) (((waysM ds h).take i).foldl (betterM (waysM ds h)) ((waysM ds h).headD (0, 0, 0))) w = w := by unfold betterM; exact if_pos h2
        rw [foldl_take _ _ hw, eb]
        exact ⟨_, rfl⟩
      · skip
        refine wp_nil ?_
        refine wp_nil ?_ -- NIL 2
        (try dsimp only)
        have h2 := of_decide_eq_false h2
        dsimp only at h2
        have eb : betterM (waysM ds h) (((waysM ds h).take i).foldl (betterM (waysM ds h)) ((waysM ds h).headD (0, 0, 0))) w = ((waysM ds h).take i).foldl (betterM (waysM ds h)) ((waysM ds h).headD (0, 0, 0)) := by unfold betterM; exact if_neg h2
        rw [foldl_take _ _ hw, eb]
        exact ⟨_, rfl⟩
    · rintro ρ ⟨w0, rfl⟩
      rw [List.length_map, List.take_length]
      have eb : (waysM ds h).foldl (betterM (waysM ds h)) ((waysM ds h).headD (0, 0, 0)) = bestM (waysM ds h) := by unfold bestM; rfl
      rw [eb]
      have bm := (best_ok hne).1
      obtain ⟨b1, b2⟩ := ws2 _ bm
      obtain ⟨c1, c2⟩ := wk _ bm
      have sa := farA_sz hne fun w q => along_sz c1 c2 (wk w q).x (wk w q).y
      have sf := farM_sz sa
      have sl := littleM_sz (waysM ds h) (bestM (waysM ds h))
      have ta : Sz 1300 (tiltA (waysM ds h) (bestM (waysM ds h))) := by unfold tiltA; exact ((sl.mul c1).sub (sf.mul c2)).mono (by decide)
      have tb : Sz 1300 (tiltB (waysM ds h) (bestM (waysM ds h))) := by unfold tiltB; exact ((sl.mul c2).add (sf.mul c1)).mono (by decide)
      refine wp_cons (ws_asg (ee_call (_, _) (ok_tilted T) (hr.mono (by decide)) (ea_cons (ee_var 2) (ea_cons (ee_var 3) ea_nil)) (by walk_at "pre") rfl) (gt_tup (gts_cons (gt_name 5 sc_lightest.nd (by walk_at "set")) (gts_cons (gt_name 6 sc_lightest.nd (by walk_at "set")) gts_nil))) ?_)
      refine wp_cons (ws_ret (EE.eq (ee_call (true, [_, _, _]) (ok_lowest T) (hr.mono (by decide)) (ea_cons (ee_t3 (ee_sub (ee_sub ee_int (ee_mul (ee_var 5) (ee_ixT (ee_var 1) ee_int (by walk_at "ix")) (by walk_at "mul"))) (ee_mul (ee_var 6) (ee_ixT (ee_var 1) ee_int (by walk_at "ix")) (by walk_at "mul"))) (ee_mul (ee_var 5) (ee_ixT (ee_var 1) ee_int (by walk_at "ix")) (by walk_at "mul")) (ee_mul (ee_var 6) (ee_ixT (ee_var 1) ee_int (by walk_at "ix")) (by walk_at "mul"))) ea_nil) (by walk_at "pre") rfl) (low_t3 _ _ _)) ?_) -- RET 2
      show _ = _
      have e : ¬ (waysM ds h).isEmpty = true := by simpa using h1
      unfold lightM gaugeM
      rw [if_neg e]
abbrev sp_law_whole (K : PySem.W.Frag) : Sp := spF K (fun d : D => [d]) (fun d => d.tyN.isSome = true) fun d => .ok (.im (.bl d.isInt))
theorem ok_law_whole (T : Tx K mg) : Cal P w K mg base 1 "_law_whole" ["_law_found"] (sp_law_whole K) := by
  obtain ⟨f, fd, F, hm, hb⟩ := T.f_law_whole.ex
  refine Cal.of_body F hm hb sc_law_whole (fun _ => rfl) fun cdv A outer s H E C hr d hd => wp_at (ρ := [.im d]) rfl ?_
  obtain ⟨n, hn⟩ := Option.isSome_iff_exists.mp hd
  have go : ∀ (r1 r2 : Bool), kitB n "int" = some r1 → kitB n "bool" = some r2 → (r1 && !r2) = d.isInt → WP (cxOf CX0 P w K mg base ["_law_found"] "_law_whole" (defScope s_law_whole) f cdv A outer s H E).nox C [.im d] (defBody s_law_whole) (fnPost (.ok (.im (.bl d.isInt)))) := fun r1 r2 h1 h2 h3 => by
    refine wp_cons (ws_ret (ee_and (ee_isi r1 T.b_isinstance (eal_cons (ee_var 0) (eal_cons (ee_ty T.b_int) eal_nil)) hn h1) (fun h => ee_b1 (ee_not (ee_isi r2 T.b_isinstance (eal_cons (ee_var 0) (eal_cons (ee_ty T.b_bool) eal_nil)) hn h2)))) ?_)
    show _ = _
    rw [h3]
  rcases tyN_cases hn with rfl | rfl | rfl | rfl | rfl | rfl
  · exact go false false (by decide +kernel) (by decide +kernel) (by have := isInt_of hn; revert this; cases d.isInt <;> simp)
  · exact go true true (by decide +kernel) (by decide +kernel) (by have := isInt_of hn; revert this; cases d.isInt <;> simp)
  · exact go true false (by decide +kernel) (by decide +kernel) (by have := isInt_of hn; revert this; cases d.isInt <;> simp)
  · exact go false false (by decide +kernel) (by decide +kernel) (by have := isInt_of hn; revert this; cases d.isInt <;> simp)
  · exact go false false (by decide +kernel) (by decide +kernel) (by have := isInt_of hn; revert this; cases d.isInt <;> simp)
  · exact go false false (by decide +kernel) (by decide +kernel) (by have := isInt_of hn; revert this; cases d.isInt <;> simp)
abbrev sp_law_cell_at (K : PySem.W.Frag) : Sp := spF K (fun y : List Int × Int => [.lst (D.ints y.1), .int y.2]) (fun y => 0 ≤ y.2) fun y => .ok (.im (.int (cellZ y.1 y.2)))
theorem ok_law_cell_at (T : Tx K mg) : Cal P w K mg base 1 "_law_cell_at" ["_law_script", "_law_k"] (sp_law_cell_at K) := by
  obtain ⟨f, fd, F, hm, hb⟩ := T.f_law_cell_at.ex
  refine Cal.of_body F hm hb sc_law_cell_at (fun _ => rfl) fun cdv A outer s H E C hr y hy => ?_
  obtain ⟨ns, k⟩ := y
  have hy : 0 ≤ k := hy
  refine wp_at (ρ := [.im (.lst (D.ints ns)), .im (.int k)]) rfl ?_
  refine wp_cons (ws_if (et_cmp (ec_lt (ee_var 1) (ee_lenL T.b_len (EE.el (ee_var 0))))) (fun h => ?_) (fun h => ?_))
  · have h := of_decide_eq_true h
    rw [List.length_map] at h
    exact wp_cons (ws_ret (ee_ixL (EE.el (ee_var 0)) (ee_var 1) (ints_atI hy h)) (by show _ = _; simp only [cellZ]))
  · have h := of_decide_eq_false h
    rw [List.length_map] at h
    refine wp_nil (wp_cons (ws_ret ee_int ?_))
    show _ = _
    simp only [cellZ]
    rw [List.getD_eq_getElem?_getD, List.getElem?_eq_none (by omega)]
    rfl
abbrev sp_law_divisor (K : PySem.W.Frag) : Sp := spF K (fun y : Int × Int => [.int y.1, .int y.2]) (fun y => True) fun y => .ok (.im (.int (Int.gcd y.1 y.2 : Nat)))
theorem ok_law_divisor (T : Tx K mg) : Cal P w K mg base 1 "_law_divisor" ["_law_one", "_law_other"] (sp_law_divisor K) := by
  obtain ⟨f, fd, F, hm, hb⟩ := T.f_law_divisor.ex
  refine Cal.of_body F hm hb sc_law_divisor (fun _ => rfl) fun cdv A outer s H E C hr y hy => ?_
  obtain ⟨a, b⟩ := y
  refine wp_at (ρ := [.im (.int a), .im (.int b), .no, .no]) rfl ?_
  refine wp_cons (ws_set 2 (ee_abs T.b_abs (ee_var 0)) (by walk_at "set") ?_ sc_law_divisor.nd)
  refine wp_cons (ws_set 3 (ee_abs T.b_abs (ee_var 1)) (by walk_at "set") ?_ sc_law_divisor.nd)
  refine wp_cons (ws_while (fun ρ => ∃ x y : Nat, ρ = [.im (.int a), .im (.int b), .im (.int x), .im (.int y)] ∧ Nat.gcd x y = Int.gcd a b) (fun ρ => intAt ρ 3) PassesOwn.never ?_ ?_) -- WHILE 1
  · exact ⟨a.natAbs, b.natAbs, rfl, rfl⟩
  · rintro ρ ⟨x, y, rfl, e⟩
    refine ⟨_, (et_cmp (ec_neI (ee_var 3) ee_int)), fun h => ?_, fun h => ?_⟩
    · skip
      have h : ¬ (y : Int) = 0 := by simpa using h
      refine wp_cons (ws_par 2 3 (ea_cons (ee_var 3) (ea_cons (ee_mod (ee_var 2) (ee_var 3) (by walk_at "pos")) ea_nil)) (by walk_at "set") ?_ sc_law_divisor.nd)
      refine wp_nil ?_ -- NIL 1
      have hy : 0 < y := by omega
      refine ⟨⟨y, x % y, by rw [Int.natCast_emod], ?_⟩, ?_⟩
      · rw [← e, Nat.gcd_comm x y, Nat.gcd_rec y x, Nat.gcd_comm]
      · show ((x : Int) % (y : Int)).toNat < (y : Int).toNat
        rw [← Int.natCast_emod, Int.toNat_natCast, Int.toNat_natCast]
        exact Nat.mod_lt _ hy
    · skip
      have h : (y : Int) = 0 := by simpa using h
      have h : y = 0 := by omega
      subst h
      rw [Nat.gcd_zero_right] at e
      refine wp_cons (ws_ret (ee_var 2) ?_) -- RET 1
      show _ = _
      simp only [e]
abbrev sp_law_dot (K : PySem.W.Frag) : Sp := spF K (fun y : P3 => [.int y.1, .int y.2.1, .int y.2.2]) (fun y => Sz 1048576 y.1 ∧ 0 ≤ y.2.2 ∧ y.2.2 < 3) fun y => .ok (.im (q4 (dotK y.1 y.2.1 y.2.2)))
theorem ok_law_dot (T : Tx K mg) : Cal P w K mg base 1 "_law_dot" ["_law_cell", "_law_kind", "_law_heavy"] (sp_law_dot K) := by
  obtain ⟨f, fd, F, hm, hb⟩ := T.f_law_dot.ex
  refine Cal.of_body F hm hb sc_law_dot (fun _ => rfl) fun cdv A outer s H E C hr y hy => ?_
  obtain ⟨c, k, hv⟩ := y
  obtain ⟨sc, h0, h3⟩ := hy
  dsimp only at sc h0 h3
  refine wp_at (ρ := [.im (.int c), .im (.int k), .im (.int hv), .no, .no, .no, .no]) rfl ?_
  refine wp_cons (ws_set 3 (ee_mod (ee_add (ee_mul (ee_var 0) ee_int (by walk_at "mul")) ee_int) ee_int (by walk_at "pos")) (by walk_at "set") ?_ sc_law_dot.nd)
  refine wp_cons (ws_set 4 (ee_mod (ee_var 3) ee_int (by walk_at "pos")) (by walk_at "set") ?_ sc_law_dot.nd)
  refine wp_cons (ws_set 5 (ee_mod (ee_fdiv (ee_var 3) ee_int (by walk_at "pos") (by walk_at "szl")) ee_int (by walk_at "pos")) (by walk_at "set") ?_ sc_law_dot.nd)
  refine wp_join (ρJ := [.im (.int c), .im (.int k), .im (.int hv), .im (.int (numD c)), .im (.int (if k = 1 then x1 c else x0 c)), .im (.int (if k = 1 then y1 c else y0 c)), .no]) ?_ ?_
  · refine ws_if (et_cmp (ec_eqI (ee_var 1) ee_int)) (fun hj => ?_) (fun hj => ?_)
    · skip
      refine wp_cons (ws_set 4 (ee_sub (ee_mod (ee_var 3) ee_int (by walk_at "pos")) ee_int) (by walk_at "set") ?_ sc_law_dot.nd)
      refine wp_cons (ws_set 5 (ee_sub (ee_mod (ee_fdiv (ee_var 3) ee_int (by walk_at "pos") (by walk_at "szl")) ee_int (by walk_at "pos")) ee_int) (by walk_at "set") ?_ sc_law_dot.nd)
      refine wp_nil ?_ -- NIL 1000001
      have hj := of_decide_eq_true hj
      simp only [if_pos hj]
      unfold x1 y1 numD
      rfl
    · skip
      refine wp_nil ?_ -- NIL 1000002
      have hj := of_decide_eq_false hj
      simp only [if_neg hj]
      unfold x0 y0 numD
      rfl
  · skip
    refine wp_join (ρJ := [.im (.int c), .im (.int k), .im (.int hv), .im (.int (numD c)), .im (.int (if k = 2 then x2 c else if k = 1 then x1 c else x0 c)), .im (.int (if k = 2 then y2 c else if k = 1 then y1 c else y0 c)), .no]) ?_ ?_
    · refine ws_if (et_cmp (ec_eqI (ee_var 1) ee_int)) (fun hj => ?_) (fun hj => ?_)
      · skip
        refine wp_cons (ws_set 4 (ee_sub (ee_mul ee_int (ee_mod (ee_var 3) ee_int (by walk_at "pos")) (by walk_at "mul")) ee_int) (by walk_at "set") ?_ sc_law_dot.nd)
        refine wp_cons (ws_set 5 (ee_sub ee_int (ee_mod (ee_var 3) ee_int (by walk_at "pos"))) (by walk_at "set") ?_ sc_law_dot.nd)
        refine wp_nil ?_ -- NIL 1000001
        have hj := of_decide_eq_true hj
        simp only [if_pos hj]
        unfold x2 y2 numD
        rfl
      · skip
        refine wp_nil ?_ -- NIL 1000002
        have hj := of_decide_eq_false hj
        simp only [if_neg hj]
    · skip
      refine wp_join (ρJ := [.im (.int c), .im (.int k), .im (.int hv), .im (.int (numD c)), .im (.int (if k = 3 then x3 c else if k = 2 then x2 c else if k = 1 then x1 c else x0 c)), .im (.int (if k = 3 then y3 c else if k = 2 then y2 c else if k = 1 then y1 c else y0 c)), .no]) ?_ ?_
      · refine ws_if (et_cmp (ec_eqI (ee_var 1) ee_int)) (fun hj => ?_) (fun hj => ?_)
        · skip
          refine wp_cons (ws_set 4 (ee_add (ee_sub (ee_mod (ee_mul (ee_var 0) ee_int (by walk_at "mul")) (ee_sub (ee_mul ee_int (ee_pow ee_int ee_int (by walk_at "pow")) (by walk_at "mul")) ee_int) (by walk_at "pos")) (ee_pow ee_int ee_int (by walk_at "pow"))) ee_int) (by walk_at "set") ?_ sc_law_dot.nd)
          refine wp_cons (ws_set 5 (ee_add (ee_sub (ee_mod (ee_mul (ee_var 0) ee_int (by walk_at "mul")) (ee_sub (ee_mul ee_int (ee_pow ee_int ee_int (by walk_at "pow")) (by walk_at "mul")) ee_int) (by walk_at "pos")) (ee_pow ee_int ee_int (by walk_at "pow"))) ee_int) (by walk_at "set") ?_ sc_law_dot.nd)
          refine wp_nil ?_ -- NIL 1000001
          have hj := of_decide_eq_true hj
          simp only [if_pos hj]
          unfold x3 y3 numD
          rfl
        · skip
          refine wp_nil ?_ -- NIL 1000002
          have hj := of_decide_eq_false hj
          simp only [if_neg hj]
      · skip
        refine wp_join (ρJ := [.im (.int c), .im (.int k), .im (.int hv), .im (.int (numD c)), .im (.int (if k = 4 then x4 c else if k = 3 then x3 c else if k = 2 then x2 c else if k = 1 then x1 c else x0 c)), .im (.int (if k = 4 then y4 c else if k = 3 then y3 c else if k = 2 then y2 c else if k = 1 then y1 c else y0 c)), .no]) ?_ ?_
        · refine ws_if (et_cmp (ec_eqI (ee_var 1) ee_int)) (fun hj => ?_) (fun hj => ?_)
          · skip
            refine wp_cons (ws_set 4 (ee_sub ee_int (ee_intB T.b_int (ee_cmp (ec_eqI (ee_mod (ee_var 3) ee_int (by walk_at "pos")) ee_int)))) (by walk_at "set") ?_ sc_law_dot.nd)
            refine wp_cons (ws_set 5 (ee_sub ee_int (ee_mul ee_int (ee_intB T.b_int (ee_cmp (ec_eqI (ee_mod (ee_var 3) ee_int (by walk_at "pos")) ee_int))) (by walk_at "mul"))) (by walk_at "set") ?_ sc_law_dot.nd)
            refine wp_nil ?_ -- NIL 1000001
            have hj := of_decide_eq_true hj
            simp only [if_pos hj]
            unfold x4 y4 numD
            rfl
          · skip
            refine wp_nil ?_ -- NIL 1000002
            have hj := of_decide_eq_false hj
            simp only [if_neg hj]
        · skip
          refine wp_join (ρJ := [.im (.int c), .im (.int k), .im (.int hv), .im (.int (numD c)), .im (.int (if k = 5 then x5 c else if k = 4 then x4 c else if k = 3 then x3 c else if k = 2 then x2 c else if k = 1 then x1 c else x0 c)), .im (.int (if k = 5 then y5 c else if k = 4 then y4 c else if k = 3 then y3 c else if k = 2 then y2 c else if k = 1 then y1 c else y0 c)), .no]) ?_ ?_
          · refine ws_if (et_cmp (ec_eqI (ee_var 1) ee_int)) (fun hj => ?_) (fun hj => ?_)
            · skip
              refine wp_cons (ws_set 4 (ee_sub (ee_mod (ee_var 3) ee_int (by walk_at "pos")) ee_int) (by walk_at "set") ?_ sc_law_dot.nd)
              refine wp_cons (ws_set 5 (ee_sub (ee_mul (ee_var 4) (ee_var 4) (by walk_at "mul")) (ee_mul ee_int (ee_intB T.b_int (ee_cmp (ec_eqI (ee_mod (ee_fdiv (ee_var 3) ee_int (by walk_at "pos") (by walk_at "szl")) ee_int (by walk_at "pos")) ee_int))) (by walk_at "mul"))) (by walk_at "set") ?_ sc_law_dot.nd)
              refine wp_nil ?_ -- NIL 1000001
              have hj := of_decide_eq_true hj
              simp only [if_pos hj]
              unfold x5 y5 numD
              rfl
            · skip
              refine wp_nil ?_ -- NIL 1000002
              have hj := of_decide_eq_false hj
              simp only [if_neg hj]
          · skip
            refine wp_cons (ws_set 6 (ee_pickI (ns := [_, _, _]) (EF.el (ef_lst (ea_cons ee_int (ea_cons (ee_add ee_int (ee_mod (ee_fdiv (ee_var 3) ee_int (by walk_at "pos") (by walk_at "szl")) ee_int (by walk_at "pos"))) (ea_cons (ee_add ee_int (ee_mod (ee_mul (ee_var 0) ee_int (by walk_at "mul")) ee_int (by walk_at "pos"))) ea_nil))))) (ee_var 2) (by walk_at "bnd")) (by walk_at "set") ?_ sc_law_dot.nd)
            refine wp_cons (ws_ret (ee_tup (ea_cons (ee_var 4) (ea_cons (ee_var 5) (ea_cons (ee_mod (ee_fdiv (ee_var 3) ee_int (by walk_at "pos") (by walk_at "szl")) ee_int (by walk_at "pos")) (ea_cons (ee_var 6) ea_nil))))) ?_) -- RET 1
            show _ = _
            unfold dotK xK yK wK numD
            rfl
abbrev sp_law_dots (K : PySem.W.Frag) : Sp := spF K (fun y : List Int × Int × Int => [.lst (D.ints y.1), .int y.2.1, .int y.2.2]) (fun y => (∀ z ∈ y.1, Sz 1048576 z) ∧ y.1.length ≤ 63) fun y => .ok (.fr (D.quads (dotsK y.1 y.2.1 y.2.2)))
theorem ok_law_dots (T : Tx K mg) : Cal P w K mg base 2 "_law_dots" ["_law_script", "_law_start", "_law_most"] (sp_law_dots K) := by
  obtain ⟨f, fd, F, hm, hb⟩ := T.f_law_dots.ex
  refine Cal.of_body F hm hb sc_law_dots (fun _ => rfl) fun cdv A outer s H E C hr y hy => ?_
  obtain ⟨ns, st, mo⟩ := y
  obtain ⟨hsz, hl⟩ := hy
  dsimp only at hsz hl
  have z0 := cellZ_sz hsz 0
  have z1 := cellZ_sz hsz 1
  have hk : 0 ≤ cellZ ns 0 / 6 % 3 ∧ cellZ ns 0 / 6 % 3 < 3 := by omega
  obtain ⟨hk0, hk3⟩ := hk
  refine wp_at (ρ := [.im (.lst (D.ints ns)), .im (.int st), .im (.int mo), .no, .no, .no, .no, .no]) rfl ?_
  refine wp_cons (ws_set 3 (ee_call (_, _) (ok_law_cell_at T) (hr.mono (by decide)) (ea_cons (ee_var 0) (ea_cons ee_int ea_nil)) (by walk_at "pre") rfl) (by walk_at "set") ?_ sc_law_dots.nd)
  refine wp_cons (ws_set 4 (ee_mod (ee_var 3) ee_int (by walk_at "pos")) (by walk_at "set") ?_ sc_law_dots.nd)
  refine wp_cons (ws_set 5 (ee_mod (ee_fdiv (ee_var 3) ee_int (by walk_at "pos") (by walk_at "szl")) ee_int (by walk_at "pos")) (by walk_at "set") ?_ sc_law_dots.nd)
  refine wp_cons (ws_setF 6 (ef_lst (ea_cons (ee_call (_, _, _) (ok_law_dot T) (hr.mono (by decide)) (ea_cons (ee_call (_, _) (ok_law_cell_at T) (hr.mono (by decide)) (ea_cons (ee_var 0) (ea_cons ee_int ea_nil)) (by walk_at "pre") rfl) (ea_cons (ee_var 4) (ea_cons (ee_var 5) ea_nil))) (by walk_at "pre") rfl) ea_nil)) (fun a => ?_) sc_law_dots.nd)
  dsimp only [List.set]
  refine wp_cons (ws_for (fun i ρ => ∃ c, ρ = [.im (.lst (D.ints ns)), .im (.int st), .im (.int mo), .im (.int (cellZ ns 0)), .im (.int (cellZ ns 0 % 6)), .im (.int (cellZ ns 0 / 6 % 3)), .ow a (D.quads ((cellZ ns 1 :: (cutL ns (some st) (some (st + mo - 1))).take i).map fun c => dotK c (cellZ ns 0 % 6) (cellZ ns 0 / 6 % 3))), c]) PassesOwn.never (ei_list (EF.ee (EF.eq (ef_slice (EE.el (ee_var 0)) (eo_some (ee_var 1)) (eo_some (ee_sub (ee_add (ee_var 1) (ee_var 2)) ee_int))) (cut_map _ _ _ _)))) ?_ ?_ ?_) -- LOOP 1
  · exact ⟨.no, rfl⟩
  · rintro i d ρ hd ⟨c, rfl⟩
    obtain ⟨n, rfl, hn⟩ := ints_get hd
    have zn := hsz n (cut_mem (List.mem_of_getElem? hn))
    have tl : ((cutL ns (some st) (some (st + mo - 1))).take i).length ≤ 63 := Nat.le_trans (List.length_take_le' _ _) (Nat.le_trans (cut_len _ _ _) hl)
    have cl := Nat.le_trans (cut_len ns (some st) (some (st + mo - 1))) hl
    refine ⟨_, _, (gt_name 7 sc_law_dots.nd (by walk_at "set")), ?_⟩
    refine wp_cons (ws_app 6 rfl (ee_call (_, _, _) (ok_law_dot T) (hr.mono (by decide)) (ea_cons (ee_var 7) (ea_cons (ee_var 4) (ea_cons (ee_var 5) ea_nil))) (by walk_at "pre") rfl) (by walk_at "len") (by walk_at "set") ?_)
    refine wp_nil ?_ -- NIL 1
    (try dsimp only)
    rw [List.take_add_one, hn, ← List.cons_append, List.map_append, D.quads, D.quads, List.map_append]
    exact ⟨_, rfl⟩
  · rintro ρ ⟨c, rfl⟩
    refine wp_cons (ws_retO 6 rfl ?_) -- RET 1
    show _ = _
    rw [List.length_map, List.take_length]
    unfold dotsK
    rfl
abbrev sp_law_lowest (K : PySem.W.Frag) : Sp := spF K (fun y : P3 => [.int y.1, .int y.2.1, .int y.2.2]) (fun y => 0 < y.1 ∧ Sz3 1000 y) fun y => .ok (.im (t3 (nrm y.1 y.2.1 y.2.2)))
theorem ok_law_lowest (T : Tx K mg) : Cal P w K mg base 2 "_law_lowest" ["_law_by", "_law_x", "_law_y"] (sp_law_lowest K) := by
  obtain ⟨f, fd, F, hm, hb⟩ := T.f_law_lowest.ex
  refine Cal.of_body F hm hb sc_law_lowest (fun _ => rfl) fun cdv A outer s H E C hr y hy => ?_
  obtain ⟨a, b, c⟩ := y
  obtain ⟨h0, s1, s2, s3⟩ := hy
  dsimp only at h0 s1 s2 s3
  have hg := gcd3_pos (a := a) b c (by omega)
  refine wp_at (ρ := [.im (.int a), .im (.int b), .im (.int c), .no]) rfl ?_
  refine wp_cons (ws_set 3 (ee_call (_, _) (ok_law_divisor T) (hr.mono (by decide)) (ea_cons (ee_call (_, _) (ok_law_divisor T) (hr.mono (by decide)) (ea_cons (ee_var 0) (ea_cons (ee_var 1) ea_nil)) (by walk_at "pre") rfl) (ea_cons (ee_var 2) ea_nil)) (by walk_at "pre") rfl) (by walk_at "set") ?_ sc_law_lowest.nd)
  refine wp_cons (ws_ret (ee_t3 (ee_fdiv (ee_var 0) (ee_var 3) (by walk_at "pos") (by walk_at "szl")) (ee_fdiv (ee_var 1) (ee_var 3) (by walk_at "pos") (by walk_at "szl")) (ee_fdiv (ee_var 2) (ee_var 3) (by walk_at "pos") (by walk_at "szl"))) ?_) -- RET 1
  rfl
abbrev sp_law_drawn_place (K : PySem.W.Frag) : Sp := spQ K (fun y : List P4 × Int => [.lst (D.quads y.1), .int y.2]) (fun y => (∀ q ∈ y.1, DotOk 60 q) ∧ 0 < y.1.length ∧ Sz 1048576 y.2) fun y r => ∃ p : P3, r = .im (t3 p) ∧ WfP p ∧ Sz3 150 p
theorem ok_law_drawn_place (T : Tx K mg) : Cal P w K mg base 3 "_law_drawn_place" ["_law_dots_here", "_law_cell"] (sp_law_drawn_place K) := by
  obtain ⟨f, fd, F, hm, hb⟩ := T.f_law_drawn_place.ex
  refine Cal.of_bodyQ F hm hb sc_law_drawn_place (fun _ => rfl) fun cdv A outer s H E C hr y hy => ?_
  obtain ⟨ds, c⟩ := y
  obtain ⟨hdo, hl, sc⟩ := hy
  dsimp only at hdo hl sc
  have hpos : 0 < ((D.quads ds).length : Int) := by rw [List.length_map]; omega
  have at_ : ∀ k : Int, atI (D.quads ds) (k % ((D.quads ds).length : Int)) = some (q4 (nthQ ds (k % ((D.quads ds).length : Int)))) ∧ nthQ ds (k % ((D.quads ds).length : Int)) ∈ ds := fun k => quads_at (Int.emod_nonneg _ (Int.ne_of_gt hpos)) (Int.emod_lt_of_pos _ hpos)
  obtain ⟨a1, m1⟩ := at_ ((c * 69621 + 7) % 2147483629 / 8)
  obtain ⟨a2, m2⟩ := at_ ((c * 69621 + 7) % 2147483629 / 256)
  obtain ⟨a3, m3⟩ := at_ ((c * 69621 + 7) % 2147483629 / 8192)
  obtain ⟨o1, o2⟩ := hdo _ m1
  obtain ⟨p1, p2⟩ := hdo _ m2
  obtain ⟨q1, q2⟩ := hdo _ m3
  have by1 : Sz 70 (1 + c % 10 ^ (18 : Int).toNat) ∧ 0 < 1 + c % 10 ^ (18 : Int).toNat := by
    have e : (10 : Int) ^ (18 : Int).toNat = 1000000000000000000 := by decide +kernel
    rw [e]
    exact ⟨.of_lt 1180591620717411303424 (by omega) (by decide +kernel), by omega⟩
  have f1 : Sz 120 (c * 7919 % (2 * 10 ^ (30 : Int).toNat + 1) - 10 ^ (30 : Int).toNat) ∧ Sz 120 (c * 104729 % (2 * 10 ^ (30 : Int).toNat + 3) - 10 ^ (30 : Int).toNat) := by
    have e : (10 : Int) ^ (30 : Int).toNat = 1000000000000000000000000000000 := by decide +kernel
    rw [e]
    exact ⟨.of_lt 1329227995784915872903807060280344576 (by omega) (by decide +kernel), .of_lt 1329227995784915872903807060280344576 (by omega) (by decide +kernel)⟩
  obtain ⟨by1, by2⟩ := by1
  obtain ⟨f1, f2⟩ := f1
  have g1 : 0 < 1 + (c * 69621 + 7) % 2147483629 / 64 % 9 := by omega
  refine wp_at (ρ := [.im (.lst (D.quads ds)), .im (.int c), .no, .no, .no, .no, .no]) rfl ?_
  refine wp_cons (ws_set 2 (ee_mod (ee_add (ee_mul (ee_var 1) ee_int (by walk_at "mul")) ee_int) ee_int (by walk_at "pos")) (by walk_at "set") ?_ sc_law_drawn_place.nd)
  refine wp_cons (ws_set 3 (ee_ixL (EE.el (ee_var 0)) (ee_mod (ee_fdiv (ee_var 2) ee_int (by walk_at "pos") (by walk_at "szl")) (ee_lenL T.b_len (EE.el (ee_var 0))) (by walk_at "pos")) (by walk_at "ix")) (by walk_at "set") ?_ sc_law_drawn_place.nd)
  refine wp_cons (ws_set 4 (ee_ixL (EE.el (ee_var 0)) (ee_mod (ee_fdiv (ee_var 2) ee_int (by walk_at "pos") (by walk_at "szl")) (ee_lenL T.b_len (EE.el (ee_var 0))) (by walk_at "pos")) (by walk_at "ix")) (by walk_at "set") ?_ sc_law_drawn_place.nd)
  refine wp_cons (ws_set 5 (ee_ixL (EE.el (ee_var 0)) (ee_mod (ee_fdiv (ee_var 2) ee_int (by walk_at "pos") (by walk_at "szl")) (ee_lenL T.b_len (EE.el (ee_var 0))) (by walk_at "pos")) (by walk_at "ix")) (by walk_at "set") ?_ sc_law_drawn_place.nd)
  refine wp_cons (ws_if (et_cmp (ec_eqI (ee_mod (ee_var 2) ee_int (by walk_at "pos")) ee_int)) (fun h1 => ?_) (fun h1 => ?_))
  · skip
    refine wp_cons (ws_ret (ee_t3 ee_int (ee_ixT (ee_var 3) ee_int (by walk_at "ix")) (ee_ixT (ee_var 3) ee_int (by walk_at "ix"))) ?_) -- RET 1
    exact ⟨_, rfl, one_wf _ _, ⟨by walk_at "szl", by walk_at "szl", by walk_at "szl"⟩⟩
  · skip
    refine wp_nil ?_
    refine wp_cons (ws_if (et_cmp (ec_eqI (ee_mod (ee_var 2) ee_int (by walk_at "pos")) ee_int)) (fun h2 => ?_) (fun h2 => ?_))
    · skip
      refine wp_cons (ws_ret (ee_call (_, _, _) (ok_law_lowest T) (hr.mono (by decide)) (ea_cons ee_int (ea_cons (ee_add (ee_ixT (ee_var 3) ee_int (by walk_at "ix")) (ee_ixT (ee_var 4) ee_int (by walk_at "ix"))) (ea_cons (ee_add (ee_ixT (ee_var 3) ee_int (by walk_at "ix")) (ee_ixT (ee_var 4) ee_int (by walk_at "ix"))) ea_nil))) (by walk_at "pre") rfl) ?_) -- RET 2
      exact ⟨_, rfl, nrm_wf (by first | decide | assumption | omega), nrm_sz3 (by first | decide | omega) (by walk_at "szl") (by walk_at "szl") (by walk_at "szl")⟩
    · skip
      refine wp_nil ?_
      refine wp_cons (ws_if (et_cmp (ec_lt (ee_mod (ee_var 2) ee_int (by walk_at "pos")) ee_int)) (fun h3 => ?_) (fun h3 => ?_))
      · skip
        refine wp_cons (ws_ret (ee_call (_, _, _) (ok_law_lowest T) (hr.mono (by decide)) (ea_cons ee_int (ea_cons (ee_add (ee_add (ee_ixT (ee_var 3) ee_int (by walk_at "ix")) (ee_ixT (ee_var 4) ee_int (by walk_at "ix"))) (ee_ixT (ee_var 5) ee_int (by walk_at "ix"))) (ea_cons (ee_add (ee_add (ee_ixT (ee_var 3) ee_int (by walk_at "ix")) (ee_ixT (ee_var 4) ee_int (by walk_at "ix"))) (ee_ixT (ee_var 5) ee_int (by walk_at "ix"))) ea_nil))) (by walk_at "pre") rfl) ?_) -- RET 3
        exact ⟨_, rfl, nrm_wf (by first | decide | assumption | omega), nrm_sz3 (by first | decide | omega) (by walk_at "szl") (by walk_at "szl") (by walk_at "szl")⟩
      · skip
        refine wp_nil ?_
        refine wp_cons (ws_if (et_cmp (ec_eqI (ee_mod (ee_var 2) ee_int (by walk_at "pos")) ee_int)) (fun h4 => ?_) (fun h4 => ?_))
        · skip
          refine wp_cons (ws_ret (ee_call (_, _, _) (ok_law_lowest T) (hr.mono (by decide)) (ea_cons ee_int (ea_cons (ee_add (ee_mul ee_int (ee_ixT (ee_var 3) ee_int (by walk_at "ix")) (by walk_at "mul")) (ee_mul ee_int (ee_ixT (ee_var 4) ee_int (by walk_at "ix")) (by walk_at "mul"))) (ea_cons (ee_add (ee_mul ee_int (ee_ixT (ee_var 3) ee_int (by walk_at "ix")) (by walk_at "mul")) (ee_mul ee_int (ee_ixT (ee_var 4) ee_int (by walk_at "ix")) (by walk_at "mul"))) ea_nil))) (by walk_at "pre") rfl) ?_) -- RET 4
          exact ⟨_, rfl, nrm_wf (by first | decide | assumption | omega), nrm_sz3 (by first | decide | omega) (by walk_at "szl") (by walk_at "szl") (by walk_at "szl")⟩
        · skip
          refine wp_nil ?_
          refine wp_cons (ws_if (et_cmp (ec_eqI (ee_mod (ee_var 2) ee_int (by walk_at "pos")) ee_int)) (fun h5 => ?_) (fun h5 => ?_))
          · skip
            refine wp_cons (ws_ret (ee_call (_, _, _) (ok_law_lowest T) (hr.mono (by decide)) (ea_cons (ee_add ee_int (ee_mod (ee_fdiv (ee_var 2) ee_int (by walk_at "pos") (by walk_at "szl")) ee_int (by walk_at "pos"))) (ea_cons (ee_sub (ee_mod (ee_var 2) ee_int (by walk_at "pos")) ee_int) (ea_cons (ee_sub (ee_mod (ee_fdiv (ee_var 2) ee_int (by walk_at "pos") (by walk_at "szl")) ee_int (by walk_at "pos")) ee_int) ea_nil))) (by walk_at "pre") rfl) ?_) -- RET 5
            exact ⟨_, rfl, nrm_wf (by first | decide | assumption | omega), nrm_sz3 (by first | decide | omega) (by walk_at "szl") (by walk_at "szl") (by walk_at "szl")⟩
          · skip
            refine wp_nil ?_
            refine wp_cons (ws_set 6 (ee_add ee_int (ee_mod (ee_var 1) (ee_pow ee_int ee_int (by walk_at "pow")) (by walk_at "pos"))) (by walk_at "set") ?_ sc_law_drawn_place.nd)
            refine wp_cons (ws_ret (ee_call (_, _, _) (ok_law_lowest T) (hr.mono (by decide)) (ea_cons (ee_var 6) (ea_cons (ee_sub (ee_mod (ee_mul (ee_var 1) ee_int (by walk_at "mul")) (ee_add (ee_mul ee_int (ee_pow ee_int ee_int (by walk_at "pow")) (by walk_at "mul")) ee_int) (by walk_at "pos")) (ee_pow ee_int ee_int (by walk_at "pow"))) (ea_cons (ee_sub (ee_mod (ee_mul (ee_var 1) ee_int (by walk_at "mul")) (ee_add (ee_mul ee_int (ee_pow ee_int ee_int (by walk_at "pow")) (by walk_at "mul")) ee_int) (by walk_at "pos")) (ee_pow ee_int ee_int (by walk_at "pow"))) ea_nil))) (by walk_at "pre") rfl) ?_) -- RET 6
            exact ⟨_, rfl, nrm_wf (by first | decide | assumption | omega), nrm_sz3 (by first | decide | omega) (by walk_at "szl") (by walk_at "szl") (by walk_at "szl")⟩
abbrev sp_law_weight (K : PySem.W.Frag) : Sp := spF K (fun y : List P4 × P3 => [.lst (D.quads y.1), t3 y.2]) (fun y => (∀ q ∈ y.1, DotOk 100 q) ∧ Sz3 5000 y.2) fun y => .ok (.im (.int (overM y.1 y.2)))
theorem ok_law_weight (T : Tx K mg) : Cal P w K mg base 1 "_law_weight" ["_law_dots_here", "_law_gauge"] (sp_law_weight K) := by
  obtain ⟨f, fd, F, hm, hb⟩ := T.f_law_weight.ex
  refine Cal.of_body F hm hb sc_law_weight (fun _ => rfl) fun cdv A outer s H E C hr y hy => ?_
  obtain ⟨ds, g⟩ := y
  obtain ⟨hdo, g1, g2, g3⟩ := hy
  dsimp only at hdo g1 g2 g3
  refine wp_at (ρ := [.im (.lst (D.quads ds)), .im (t3 g), .no, .no, .no, .no, .no]) rfl ?_
  refine wp_cons (ws_set 2 ee_int (by walk_at "set") ?_ sc_law_weight.nd)
  refine wp_cons (ws_for (fun i ρ => ∃ x y c w, ρ = [.im (.lst (D.quads ds)), .im (t3 g), .im (.int (overM (ds.take i) g)), x, y, c, w]) PassesOwn.never (ei_list (ee_var 0)) ?_ ?_ ?_) -- LOOP 1
  · (try dsimp only)
    rw [List.take_zero, show overM [] g = 0 by unfold overM; rfl]
    exact ⟨_, _, _, _, rfl⟩
  · rintro i d ρ hd ⟨x, y, c, w, rfl⟩
    obtain ⟨q, rfl, hq⟩ := map_get hd
    obtain ⟨dx, dy⟩ := hdo q (List.mem_of_getElem? hq)
    have er : readM g q = g.1 + g.2.1 * q.1 + g.2.2 * q.2.1 := by unfold readM; rfl
    refine ⟨_, _, (gt_tup (gts_cons (gt_name 3 sc_law_weight.nd (by walk_at "set")) (gts_cons (gt_name 4 sc_law_weight.nd (by walk_at "set")) (gts_cons (gt_name 5 sc_law_weight.nd (by walk_at "set")) (gts_cons (gt_name 6 sc_law_weight.nd (by walk_at "set")) gts_nil))))), ?_⟩
    refine wp_cons (ws_if (et_cmp (ec_ge (ee_add (ee_add (ee_ixT (ee_var 1) ee_int (by walk_at "ix")) (ee_mul (ee_ixT (ee_var 1) ee_int (by walk_at "ix")) (ee_var 3) (by walk_at "mul"))) (ee_mul (ee_ixT (ee_var 1) ee_int (by walk_at "ix")) (ee_var 4) (by walk_at "mul"))) ee_int)) (fun h1 => ?_) (fun h1 => ?_))
    · skip
      refine wp_cons (ws_set 2 (ee_add (ee_var 2) (ee_var 6)) (by walk_at "set") ?_ sc_law_weight.nd)
      refine wp_nil ?_
      refine wp_nil ?_ -- NIL 1
      (try dsimp only)
      have h1 := of_decide_eq_true h1
      rw [over_step g hq, er, if_pos h1]
      exact ⟨_, _, _, _, rfl⟩
    · skip
      refine wp_nil ?_
      refine wp_nil ?_ -- NIL 2
      (try dsimp only)
      have h1 := of_decide_eq_false h1
      rw [over_step g hq, er, if_neg h1, Int.add_zero]
      exact ⟨_, _, _, _, rfl⟩
  · rintro ρ ⟨x, y, c, w, rfl⟩
    refine wp_cons (ws_ret (ee_var 2) ?_) -- RET 1
    show _ = _
    rw [List.length_map, List.take_length]
abbrev sp_law_good (K : PySem.W.Frag) : Sp := spF K (fun y : P3 × List P4 × P3 => [t3 y.1, .lst (D.quads y.2.1), t3 y.2.2]) (fun y => LightOk y.2.1 y.2.2 y.1 ∧ Sz3 4000 y.1 ∧ (∀ q ∈ y.2.1, DotOk 100 q) ∧ Sz3 200 y.2.2 ∧ y.2.1.length ≤ 1000) fun y => .ok (.im (.bl true))
theorem ok_law_good (T : Tx K mg) : Cal P w K mg base 3 "_law_good" ["_law_found", "_law_dots_here", "_law_here"] (sp_law_good K) := by
  obtain ⟨f, fd, F, hm, hb⟩ := T.f_law_good.ex
  refine Cal.of_body F hm hb sc_law_good (fun _ => rfl) fun cdv A outer s H E C hr y hy => ?_
  obtain ⟨g, ds, h⟩ := y
  obtain ⟨⟨o1, o2, o3⟩, sg, hdo, sh, hl⟩ := hy
  dsimp only at o1 o2 o3 sg hdo sh hl
  have sgg := sg
  have shh := sh
  obtain ⟨g1, g2, g3⟩ := sg
  obtain ⟨sh1, sh2, sh3⟩ := sh
  refine wp_at (ρ := [.im (t3 g), .im (.lst (D.quads ds)), .im (t3 h)]) rfl ?_
  refine wp_cons (ws_if (EW.et (ew_or (et_not (et_val (by first | exact ee_isi (m := "tuple") true T.b_isinstance (eal_cons (ee_var 0) (eal_cons (ee_ty T.b_tuple) eal_nil)) rfl (by decide +kernel) | exact ee_isi (m := "tuple") false T.b_isinstance (eal_cons (ee_var 0) (eal_cons (ee_ty T.b_tuple) eal_nil)) rfl (by decide +kernel)))) (fun h => (ew_or1 (et_cmp (ec_neI (ee_lenT T.b_len (ee_var 0)) ee_int)))))) (fun h1 => ?_) (fun h1 => ?_))
  · skip
    simp [t3] at h1
  · skip
    refine wp_nil ?_
    refine wp_cons (ws_if (EW.et (ew_or (et_not (et_val (ee_call _ (ok_law_whole T) (hr.mono (by decide)) (ea_cons (ee_ixT (ee_var 0) ee_int (by walk_at "ix")) ea_nil) (by walk_at "pre") rfl))) (fun h => (ew_or (et_not (et_val (ee_call _ (ok_law_whole T) (hr.mono (by decide)) (ea_cons (ee_ixT (ee_var 0) ee_int (by walk_at "ix")) ea_nil) (by walk_at "pre") rfl))) (fun h => (ew_or1 (et_not (et_val (ee_call _ (ok_law_whole T) (hr.mono (by decide)) (ea_cons (ee_ixT (ee_var 0) ee_int (by walk_at "ix")) ea_nil) (by walk_at "pre") rfl))))))))) (fun h2 => ?_) (fun h2 => ?_))
    · skip
      simp [D.isInt] at h2
    · skip
      refine wp_nil ?_
      refine wp_cons (ws_if (EW.et (ew_or (EW.et (ew_and (et_cmp (ec_eqI (ee_ixT (ee_var 0) ee_int (by walk_at "ix")) ee_int)) (fun h => (ew_and1 (et_cmp (ec_eqI (ee_ixT (ee_var 0) ee_int (by walk_at "ix")) ee_int)))))) (fun h => (ew_or1 (et_cmp (ec_neI (ee_add (ee_add (ee_mul (ee_ixT (ee_var 0) ee_int (by walk_at "ix")) (ee_ixT (ee_var 2) ee_int (by walk_at "ix")) (by walk_at "mul")) (ee_mul (ee_ixT (ee_var 0) ee_int (by walk_at "ix")) (ee_ixT (ee_var 2) ee_int (by walk_at "ix")) (by walk_at "mul"))) (ee_mul (ee_ixT (ee_var 0) ee_int (by walk_at "ix")) (ee_ixT (ee_var 2) ee_int (by walk_at "ix")) (by walk_at "mul"))) ee_int)))))) (fun h3 => ?_) (fun h3 => ?_))
      · skip
        rw [o2] at h3
        simp at h3
        omega
      · skip
        refine wp_nil ?_
        refine wp_cons (ws_ret (ee_cmp (ec_eqI (ee_call (_, _) (ok_law_weight T) (hr.mono (by decide)) (ea_cons (ee_var 1) (ea_cons (ee_var 0) ea_nil)) (by walk_at "pre") rfl) (ee_call (_, _) (ok_depth T) (hr.mono (by decide)) (ea_cons (ee_var 1) (ea_cons (ee_var 2) ea_nil)) (by walk_at "pre") rfl))) ?_) -- RET 1
        show _ = _
        rw [o3]
        simp
abbrev sp_law_none_lighter (K : PySem.W.Frag) : Sp := spF K (fun y : List P4 × P3 × Int => [.lst (D.quads y.1), t3 y.2.1, .int y.2.2]) (fun y => y.2.2 = depthM y.1 y.2.1 ∧ (∀ q ∈ y.1, DotOk 100 q) ∧ (∀ q ∈ y.1, 0 ≤ q.2.2.2) ∧ WfP y.2.1 ∧ Sz3 200 y.2.1) fun y => .ok (.im (.bl true))
theorem ok_law_none_lighter (T : Tx K mg) : Cal P w K mg base 2 "_law_none_lighter" ["_law_dots_here", "_law_here", "_law_least"] (sp_law_none_lighter K) := by
  obtain ⟨f, fd, F, hm, hb⟩ := T.f_law_none_lighter.ex
  refine Cal.of_body F hm hb sc_law_none_lighter (fun _ => rfl) fun cdv A outer s H E C hr y hy => ?_
  obtain ⟨ds, h, m⟩ := y
  obtain ⟨hm, hdo, hwt, wf, sh⟩ := hy
  dsimp only at hm hdo hwt wf sh
  obtain ⟨sh1, sh2, sh3⟩ := sh
  refine wp_at (ρ := [.im (.lst (D.quads ds)), .im (t3 h), .im (.int m), .no, .no, .no, .no, .no, .no]) rfl ?_
  refine wp_cons (ws_for (fun i ρ => ∃ x y c w g b, ρ = [.im (.lst (D.quads ds)), .im (t3 h), .im (.int m), x, y, c, w, g, b]) PassesOwn.never (ei_list (ee_var 0)) ?_ ?_ ?_) -- LOOP 1
  · exact ⟨_, _, _, _, _, _, rfl⟩
  · rintro i d ρ hd ⟨x, y, c, w, g, b, rfl⟩
    obtain ⟨q, rfl, hq⟩ := map_get hd
    have mq := List.mem_of_getElem? hq
    obtain ⟨dx, dy⟩ := hdo q mq
    refine ⟨_, _, (gt_tup (gts_cons (gt_name 3 sc_law_none_lighter.nd (by walk_at "set")) (gts_cons (gt_name 4 sc_law_none_lighter.nd (by walk_at "set")) (gts_cons (gt_name 5 sc_law_none_lighter.nd (by walk_at "set")) (gts_cons (gt_name 6 sc_law_none_lighter.nd (by walk_at "set")) gts_nil))))), ?_⟩
    refine wp_cons (ws_set 7 (ee_t3 (ee_sub (ee_mul (ee_ixT (ee_var 1) ee_int (by walk_at "ix")) (ee_var 4) (by walk_at "mul")) (ee_mul (ee_ixT (ee_var 1) ee_int (by walk_at "ix")) (ee_var 3) (by walk_at "mul"))) (ee_sub (ee_ixT (ee_var 1) ee_int (by walk_at "ix")) (ee_mul (ee_var 4) (ee_ixT (ee_var 1) ee_int (by walk_at "ix")) (by walk_at "mul"))) (ee_sub (ee_mul (ee_var 3) (ee_ixT (ee_var 1) ee_int (by walk_at "ix")) (by walk_at "mul")) (ee_ixT (ee_var 1) ee_int (by walk_at "ix")))) (by walk_at "set") ?_ sc_law_none_lighter.nd)
    refine wp_cons (ws_set 8 (ee_t3 (ee_sub ee_int (ee_ixT (ee_var 7) ee_int (by walk_at "ix"))) (ee_sub ee_int (ee_ixT (ee_var 7) ee_int (by walk_at "ix"))) (ee_sub ee_int (ee_ixT (ee_var 7) ee_int (by walk_at "ix")))) (by walk_at "set") ?_ sc_law_none_lighter.nd)
    refine wp_cons (ws_if (EW.et (ew_or (et_cmp (ec_neI (ee_ixT (ee_var 7) ee_int (by walk_at "ix")) ee_int)) (fun h => (ew_or1 (et_cmp (ec_neI (ee_ixT (ee_var 7) ee_int (by walk_at "ix")) ee_int)))))) (fun h1 => ?_) (fun h1 => ?_))
    · skip
      have ho : offM h q = true := by unfold offM rightM aboveM; refine decide_eq_true ?_; simp at h1; omega
      have nl := none_lighter wf hwt mq ho
      rw [show throughM h q = (h.2.1 * q.2.1 - h.2.2 * q.1, h.2.2 - q.2.1 * h.1, q.1 * h.1 - h.2.1) by unfold throughM; rfl] at nl
      unfold backM at nl
      dsimp only at nl
      rw [← hm] at nl
      refine wp_cons (ws_if (EW.et (ew_or (et_cmp (ec_lt (ee_call (_, _) (ok_law_weight T) (hr.mono (by decide)) (ea_cons (ee_var 0) (ea_cons (ee_var 7) ea_nil)) (by walk_at "pre") rfl) (ee_var 2))) (fun h => (ew_or1 (et_cmp (ec_lt (ee_call (_, _) (ok_law_weight T) (hr.mono (by decide)) (ea_cons (ee_var 0) (ea_cons (ee_var 8) ea_nil)) (by walk_at "pre") rfl) (ee_var 2))))))) (fun h2 => ?_) (fun h2 => ?_))
      · skip
        simp only [Bool.or_eq_true, decide_eq_true_eq] at h2
        omega
      · skip
        refine wp_nil ?_
        refine wp_nil ?_
        refine wp_nil ?_ -- NIL 1
        exact ⟨_, _, _, _, _, _, rfl⟩
    · skip
      refine wp_nil ?_
      refine wp_nil ?_ -- NIL 2
      exact ⟨_, _, _, _, _, _, rfl⟩
  · rintro ρ ⟨x, y, c, w, g, b, rfl⟩
    refine wp_cons (ws_ret ee_bl ?_) -- RET 1
    rfl
theorem fn_law (T : Tx K mg) {f : Addr} {fd : FuncData} (F : Fun K "law" "law" s_law f fd) : FnOk P w K mg base CX0 4 f fd ["_law_script"] (spLaw K) := by
  refine fn_of_body F sc_law (fun _ => rfl) fun cdv A outer s H E C hr ns hy => ?_
  obtain ⟨hlen, hsz⟩ := hy
  refine wp_at (ρ := [.im (.lst (D.ints ns)), .no, .no, .no, .no, .no]) rfl ?_
  refine wp_cons (ws_set 1 (EF.ee (ef_call (_, _, _) (ok_law_dots T) (hr.mono (by decide)) (ea_cons (ee_var 0) (ea_cons ee_int (ea_cons ee_int ea_nil))) (by walk_at "pre") rfl)) (by walk_at "set") ?_ sc_law.nd)
  refine wp_cons (ws_set 2 (EF.ee (ef_listL T.b_list (EE.el (ee_var 1)))) (by walk_at "set") ?_ sc_law.nd)
  refine wp_cons (ws_for (fun i ρ => ∃ k h f, ρ = [.im (.lst (D.ints ns)), .im (.lst (D.quads (dotsK ns 8 30))), .im (.lst (D.quads (dotsK ns 8 30))), k, h, f]) PassesOwn.never (ei_range2 T.b_range ee_int ee_int (by walk_at "rng")) ?_ ?_ ?_) -- LOOP 1
  · exact ⟨_, _, _, rfl⟩
  · rintro i d ρ hd ⟨k, h, f, rfl⟩
    obtain ⟨rfl, hi⟩ := rngD_get hd
    have zc := cellZ_sz hsz (2 + (i : Int))
    have hk : 0 ≤ 2 + (i : Int) := by omega
    have od := dotsK_ok ns 8 30
    have ow := dotsK_weight ns 8 30
    obtain ⟨l1, l2⟩ := dotsK_len ns 8 30
    have o1 : ∀ q ∈ dotsK ns 8 30, DotOk 100 q := fun q hq => ⟨(od q hq).x.mono (by decide), (od q hq).y.mono (by decide)⟩
    have l3 : (dotsK ns 8 30).length ≤ 1000 := by omega
    refine ⟨_, _, (gt_name 3 sc_law.nd (by walk_at "set")), ?_⟩
    refine wp_cons (ws_setQ 4 (_, _) (ok_law_drawn_place T) (hr.mono (by decide)) (ea_cons (ee_var 1) (ea_cons (ee_call (_, _) (ok_law_cell_at T) (hr.mono (by decide)) (ea_cons (ee_var 0) (ea_cons (ee_var 3) ea_nil)) (by walk_at "pre") rfl) ea_nil)) (by walk_at "pre") (fun rq hq => ?_) sc_law.nd)
    obtain ⟨p, rfl, wp, sp⟩ := hq
    have lo := light_ok wp o1 sp
    have lp := light_pre wp o1 sp l3
    have lv := lo.over
    obtain ⟨_, lz, _, sp2, _⟩ := light_pre wp o1 sp l3
    refine ⟨_, rfl, ?_⟩
    dsimp only [List.set]
    refine wp_cons (ws_set 5 (ee_call (_, _) (ok_lightest T) (hr.mono (by decide)) (ea_cons (ee_var 2) (ea_cons (ee_var 4) ea_nil)) (by walk_at "pre") rfl) (by walk_at "set") ?_ sc_law.nd)
    refine wp_cons (ws_if (EW.et (ew_or (et_not (et_val (ee_call (_, _, _) (ok_law_good T) (hr.mono (by decide)) (ea_cons (ee_var 5) (ea_cons (ee_var 1) (ea_cons (ee_var 4) ea_nil))) (by walk_at "pre") rfl))) (fun h => (ew_or1 (et_not (et_val (ee_call (_, _, _) (ok_law_none_lighter T) (hr.mono (by decide)) (ea_cons (ee_var 1) (ea_cons (ee_var 4) (ea_cons (ee_call (_, _) (ok_law_weight T) (hr.mono (by decide)) (ea_cons (ee_var 1) (ea_cons (ee_var 5) ea_nil)) (by walk_at "pre") rfl) ea_nil))) (by walk_at "pre") rfl))))))) (fun h1 => ?_) (fun h1 => ?_))
    · skip
      simp at h1
    · skip
      refine wp_nil ?_
      refine wp_cons (ws_if (EW.et (ew_or (et_cmp (ec_ne3 hr.units (ee_call (_, _) (ok_lightest T) (hr.mono (by decide)) (ea_cons (ee_var 2) (ea_cons (ee_var 4) ea_nil)) (by walk_at "pre") rfl) (ee_var 5))) (fun h => (ew_or1 (et_cmp (ec_neL hr.units (EE.el (ee_var 2)) (EE.el (ee_var 1)) (by walk_at "good") (by walk_at "good"))))))) (fun h2 => ?_) (fun h2 => ?_))
      · skip
        simp [quads_same] at h2
      · skip
        refine wp_nil ?_
        refine wp_nil ?_ -- NIL 1
        exact ⟨_, _, _, rfl⟩
  · rintro ρ ⟨k, h, f, rfl⟩
    have lp0 := light_pre0
    have lp1 := light_pre1
    refine wp_cons (ws_ret (ee_call (_, [], _) (ok_law_good T) (hr.mono (by decide)) (ea_cons (ee_call ([], _) (ok_lightest T) (hr.mono (by decide)) (ea_cons (ee_lst ea_nil) (ea_cons (ee_t3 ee_int ee_int ee_int) ea_nil)) (by walk_at "pre") rfl) (ea_cons (ee_lst ea_nil) (ea_cons (ee_t3 ee_int ee_int ee_int) ea_nil))) (by walk_at "pre") rfl) ?_) -- RET 1
    rfl
end
end DL
open PySem PySem.W PyProof.Rows
set_option maxHeartbeats 0 in
theorem PySem.Challenge.cw_halvecut_k52_lightest_half_planes_holds : PySem.Challenge.rw_halvecut_k52_lightest_half_planes.Holds := by
  w_on; o_law; k_head; (case hw => w_witness2)
  k_fill
  refine L2.walk_ofB (l := PySem.Challenge.rw_halvecut_k52_lightest_half_planes) (n := 63) (k := 4) (x := "_law_script") (CX := fun _ => L2.CX0) (sp := fun w => DL.spLaw _) rfl (by decide) rfl ⟨rfl, by decide, by decide⟩ (fun w h Y => PySem.W.kIn_of Y) ?F (fun _ _ a ns hl hb _ hS => DL.law_asks hl hb hS) (fun _ _ _ _ _ h => h)
  case F =>
    intro w mg fa h KX G hmg
    replace hmg : mg "law" = some (.ref fa) := hmg
    have at_common : DL.At (L2.KOf KX) mg "common" DL.s_common ["numbers"] := by
      refine' DL.at_mk KX G ?a ?l ?c ?k ?b; (case a => ((try dsimp only [L2.KOf]); k_is)); (case l => ((try dsimp only [L2.KOf]); k_is)); (case c => ((try dsimp only [L2.KOf]); k_is)); (case k => ((try dsimp only [L2.KOf]); k_is)); (case b => exact fun _ _ _ _ _ _ us hl => match us, hl with | [_], _ => rfl)
    have at_lowest : DL.At (L2.KOf KX) mg "lowest" DL.s_lowest ["numbers"] := by
      refine' DL.at_mk KX G ?a ?l ?c ?k ?b; (case a => ((try dsimp only [L2.KOf]); k_is)); (case l => ((try dsimp only [L2.KOf]); k_is)); (case c => ((try dsimp only [L2.KOf]); k_is)); (case k => ((try dsimp only [L2.KOf]); k_is)); (case b => exact fun _ _ _ _ _ _ us hl => match us, hl with | [_], _ => rfl)
    have at_ways_from : DL.At (L2.KOf KX) mg "ways_from" DL.s_ways_from ["dots", "here"] := by
      refine' DL.at_mk KX G ?a ?l ?c ?k ?b; (case a => ((try dsimp only [L2.KOf]); k_is)); (case l => ((try dsimp only [L2.KOf]); k_is)); (case c => ((try dsimp only [L2.KOf]); k_is)); (case k => ((try dsimp only [L2.KOf]); k_is)); (case b => exact fun _ _ _ _ _ _ us hl => match us, hl with | [_, _], _ => rfl)
    have at_weight_at : DL.At (L2.KOf KX) mg "weight_at" DL.s_weight_at ["dots", "here"] := by
      refine' DL.at_mk KX G ?a ?l ?c ?k ?b; (case a => ((try dsimp only [L2.KOf]); k_is)); (case l => ((try dsimp only [L2.KOf]); k_is)); (case c => ((try dsimp only [L2.KOf]); k_is)); (case k => ((try dsimp only [L2.KOf]); k_is)); (case b => exact fun _ _ _ _ _ _ us hl => match us, hl with | [_, _], _ => rfl)
    have at_beside : DL.At (L2.KOf KX) mg "beside" DL.s_beside ["ways", "way"] := by
      refine' DL.at_mk KX G ?a ?l ?c ?k ?b; (case a => ((try dsimp only [L2.KOf]); k_is)); (case l => ((try dsimp only [L2.KOf]); k_is)); (case c => ((try dsimp only [L2.KOf]); k_is)); (case k => ((try dsimp only [L2.KOf]); k_is)); (case b => exact fun _ _ _ _ _ _ us hl => match us, hl with | [_, _], _ => rfl)
    have at_lighter : DL.At (L2.KOf KX) mg "lighter" DL.s_lighter ["four"] := by
      refine' DL.at_mk KX G ?a ?l ?c ?k ?b; (case a => ((try dsimp only [L2.KOf]); k_is)); (case l => ((try dsimp only [L2.KOf]); k_is)); (case c => ((try dsimp only [L2.KOf]); k_is)); (case k => ((try dsimp only [L2.KOf]); k_is)); (case b => exact fun _ _ _ _ _ _ us hl => match us, hl with | [_], _ => rfl)
    have at_depth : DL.At (L2.KOf KX) mg "depth" DL.s_depth ["dots", "here"] := by
      refine' DL.at_mk KX G ?a ?l ?c ?k ?b; (case a => ((try dsimp only [L2.KOf]); k_is)); (case l => ((try dsimp only [L2.KOf]); k_is)); (case c => ((try dsimp only [L2.KOf]); k_is)); (case k => ((try dsimp only [L2.KOf]); k_is)); (case b => exact fun _ _ _ _ _ _ us hl => match us, hl with | [_, _], _ => rfl)
    have at_tilted : DL.At (L2.KOf KX) mg "tilted" DL.s_tilted ["ways", "way"] := by
      refine' DL.at_mk KX G ?a ?l ?c ?k ?b; (case a => ((try dsimp only [L2.KOf]); k_is)); (case l => ((try dsimp only [L2.KOf]); k_is)); (case c => ((try dsimp only [L2.KOf]); k_is)); (case k => ((try dsimp only [L2.KOf]); k_is)); (case b => exact fun _ _ _ _ _ _ us hl => match us, hl with | [_, _], _ => rfl)
    have at_lightest : DL.At (L2.KOf KX) mg "lightest" DL.s_lightest ["dots", "here"] := by
      refine' DL.at_mk KX G ?a ?l ?c ?k ?b; (case a => ((try dsimp only [L2.KOf]); k_is)); (case l => ((try dsimp only [L2.KOf]); k_is)); (case c => ((try dsimp only [L2.KOf]); k_is)); (case k => ((try dsimp only [L2.KOf]); k_is)); (case b => exact fun _ _ _ _ _ _ us hl => match us, hl with | [_, _], _ => rfl)
    have at_law_whole : DL.At (L2.KOf KX) mg "_law_whole" DL.s_law_whole ["_law_found"] := by
      refine' DL.at_mk KX G ?a ?l ?c ?k ?b; (case a => ((try dsimp only [L2.KOf]); k_is)); (case l => ((try dsimp only [L2.KOf]); k_is)); (case c => ((try dsimp only [L2.KOf]); k_is)); (case k => ((try dsimp only [L2.KOf]); k_is)); (case b => exact fun _ _ _ _ _ _ us hl => match us, hl with | [_], _ => rfl)
    have at_law_cell_at : DL.At (L2.KOf KX) mg "_law_cell_at" DL.s_law_cell_at ["_law_script", "_law_k"] := by
      refine' DL.at_mk KX G ?a ?l ?c ?k ?b; (case a => ((try dsimp only [L2.KOf]); k_is)); (case l => ((try dsimp only [L2.KOf]); k_is)); (case c => ((try dsimp only [L2.KOf]); k_is)); (case k => ((try dsimp only [L2.KOf]); k_is)); (case b => exact fun _ _ _ _ _ _ us hl => match us, hl with | [_, _], _ => rfl)
    have at_law_divisor : DL.At (L2.KOf KX) mg "_law_divisor" DL.s_law_divisor ["_law_one", "_law_other"] := by
      refine' DL.at_mk KX G ?a ?l ?c ?k ?b; (case a => ((try dsimp only [L2.KOf]); k_is)); (case l => ((try dsimp only [L2.KOf]); k_is)); (case c => ((try dsimp only [L2.KOf]); k_is)); (case k => ((try dsimp only [L2.KOf]); k_is)); (case b => exact fun _ _ _ _ _ _ us hl => match us, hl with | [_, _], _ => rfl)
    have at_law_dot : DL.At (L2.KOf KX) mg "_law_dot" DL.s_law_dot ["_law_cell", "_law_kind", "_law_heavy"] := by
      refine' DL.at_mk KX G ?a ?l ?c ?k ?b; (case a => ((try dsimp only [L2.KOf]); k_is)); (case l => ((try dsimp only [L2.KOf]); k_is)); (case c => ((try dsimp only [L2.KOf]); k_is)); (case k => ((try dsimp only [L2.KOf]); k_is)); (case b => exact fun _ _ _ _ _ _ us hl => match us, hl with | [_, _, _], _ => rfl)
    have at_law_dots : DL.At (L2.KOf KX) mg "_law_dots" DL.s_law_dots ["_law_script", "_law_start", "_law_most"] := by
      refine' DL.at_mk KX G ?a ?l ?c ?k ?b; (case a => ((try dsimp only [L2.KOf]); k_is)); (case l => ((try dsimp only [L2.KOf]); k_is)); (case c => ((try dsimp only [L2.KOf]); k_is)); (case k => ((try dsimp only [L2.KOf]); k_is)); (case b => exact fun _ _ _ _ _ _ us hl => match us, hl with | [_, _, _], _ => rfl)
    have at_law_lowest : DL.At (L2.KOf KX) mg "_law_lowest" DL.s_law_lowest ["_law_by", "_law_x", "_law_y"] := by
      refine' DL.at_mk KX G ?a ?l ?c ?k ?b; (case a => ((try dsimp only [L2.KOf]); k_is)); (case l => ((try dsimp only [L2.KOf]); k_is)); (case c => ((try dsimp only [L2.KOf]); k_is)); (case k => ((try dsimp only [L2.KOf]); k_is)); (case b => exact fun _ _ _ _ _ _ us hl => match us, hl with | [_, _, _], _ => rfl)
    have at_law_drawn_place : DL.At (L2.KOf KX) mg "_law_drawn_place" DL.s_law_drawn_place ["_law_dots_here", "_law_cell"] := by
      refine' DL.at_mk KX G ?a ?l ?c ?k ?b; (case a => ((try dsimp only [L2.KOf]); k_is)); (case l => ((try dsimp only [L2.KOf]); k_is)); (case c => ((try dsimp only [L2.KOf]); k_is)); (case k => ((try dsimp only [L2.KOf]); k_is)); (case b => exact fun _ _ _ _ _ _ us hl => match us, hl with | [_, _], _ => rfl)
    have at_law_weight : DL.At (L2.KOf KX) mg "_law_weight" DL.s_law_weight ["_law_dots_here", "_law_gauge"] := by
      refine' DL.at_mk KX G ?a ?l ?c ?k ?b; (case a => ((try dsimp only [L2.KOf]); k_is)); (case l => ((try dsimp only [L2.KOf]); k_is)); (case c => ((try dsimp only [L2.KOf]); k_is)); (case k => ((try dsimp only [L2.KOf]); k_is)); (case b => exact fun _ _ _ _ _ _ us hl => match us, hl with | [_, _], _ => rfl)
    have at_law_good : DL.At (L2.KOf KX) mg "_law_good" DL.s_law_good ["_law_found", "_law_dots_here", "_law_here"] := by
      refine' DL.at_mk KX G ?a ?l ?c ?k ?b; (case a => ((try dsimp only [L2.KOf]); k_is)); (case l => ((try dsimp only [L2.KOf]); k_is)); (case c => ((try dsimp only [L2.KOf]); k_is)); (case k => ((try dsimp only [L2.KOf]); k_is)); (case b => exact fun _ _ _ _ _ _ us hl => match us, hl with | [_, _, _], _ => rfl)
    have at_law_none_lighter : DL.At (L2.KOf KX) mg "_law_none_lighter" DL.s_law_none_lighter ["_law_dots_here", "_law_here", "_law_least"] := by
      refine' DL.at_mk KX G ?a ?l ?c ?k ?b; (case a => ((try dsimp only [L2.KOf]); k_is)); (case l => ((try dsimp only [L2.KOf]); k_is)); (case c => ((try dsimp only [L2.KOf]); k_is)); (case k => ((try dsimp only [L2.KOf]); k_is)); (case b => exact fun _ _ _ _ _ _ us hl => match us, hl with | [_, _, _], _ => rfl)
    have b_abs : mg "abs" = none := by
      refine' PySem.W.mg_none_of KX G ?z; (case z => ((try dsimp only [L2.KOf]); k_is))
    have b_bool : mg "bool" = none := by
      refine' PySem.W.mg_none_of KX G ?z; (case z => ((try dsimp only [L2.KOf]); k_is))
    have b_int : mg "int" = none := by
      refine' PySem.W.mg_none_of KX G ?z; (case z => ((try dsimp only [L2.KOf]); k_is))
    have b_isinstance : mg "isinstance" = none := by
      refine' PySem.W.mg_none_of KX G ?z; (case z => ((try dsimp only [L2.KOf]); k_is))
    have b_len : mg "len" = none := by
      refine' PySem.W.mg_none_of KX G ?z; (case z => ((try dsimp only [L2.KOf]); k_is))
    have b_list : mg "list" = none := by
      refine' PySem.W.mg_none_of KX G ?z; (case z => ((try dsimp only [L2.KOf]); k_is))
    have b_max : mg "max" = none := by
      refine' PySem.W.mg_none_of KX G ?z; (case z => ((try dsimp only [L2.KOf]); k_is))
    have b_min : mg "min" = none := by
      refine' PySem.W.mg_none_of KX G ?z; (case z => ((try dsimp only [L2.KOf]); k_is))
    have b_range : mg "range" = none := by
      refine' PySem.W.mg_none_of KX G ?z; (case z => ((try dsimp only [L2.KOf]); k_is))
    have b_sum : mg "sum" = none := by
      refine' PySem.W.mg_none_of KX G ?z; (case z => ((try dsimp only [L2.KOf]); k_is))
    have b_tuple : mg "tuple" = none := by
      refine' PySem.W.mg_none_of KX G ?z; (case z => ((try dsimp only [L2.KOf]); k_is))
    refine' DL.law_mk KX G hmg ?a ?l ?c ?k (fun _ _ _ _ _ _ u => rfl) (fun fd F base => DL.fn_law ⟨at_common, at_lowest, at_ways_from, at_weight_at, at_beside, at_lighter, at_depth, at_tilted, at_lightest, at_law_whole, at_law_cell_at, at_law_divisor, at_law_dot, at_law_dots, at_law_lowest, at_law_drawn_place, at_law_weight, at_law_good, at_law_none_lighter, b_abs, b_bool, b_int, b_isinstance, b_len, b_list, b_max, b_min, b_range, b_sum, b_tuple⟩ F)
    (case a => ((try dsimp only [L2.KOf]); k_is))
    (case l => ((try dsimp only [L2.KOf]); k_is))
    (case c => ((try dsimp only [L2.KOf]); k_is))
    (case k => ((try dsimp only [L2.KOf]); k_is))
