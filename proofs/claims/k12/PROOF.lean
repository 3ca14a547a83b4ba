import PyProof.Rows.All
import Wide.All
import OpenK.AllK
import Wide.FinOn
import HandS.ForMost
import HandS.ForExc
import HandS.Flow
import HandS.IsInst
import HandS.TupAny
import HandS.TupMul
import HandS.Style
import HandS.Deep
import HandS.Conv
import HandS.Zip
import HandS.Wide
import HandS.HeadHook1
import HandS.Lambda
import HandS.Defaults
import HandS.Dict
import HandS.Head0
import HandS.Head1
import HandS.Head2
import HandS.HeadEnd
import HandS.HeadHook2
import KE.KNestM
import HandS.EndTab
import HandS.TryMany
import HandS.ExcOwn
import HandS.Nested
import KE.Datum
import HandS.EndBits
import PySem.Challenge.RW_longcorridor_k12_claims_about_corridors
set_option Elab.async false
set_option linter.all false
set_option maxRecDepth 100000
set_option maxHeartbeats 1000000
/-! DL: a layer over HandS: values as PyData, syntax as plain Lean functions. -/
namespace DL
open PySem PySem.Spec PyProof.Rows L2

/-! ### results -/
/-- pick: any of some data, one does not know which -/
inductive R (α : Type) where
  | ok (a : α)
  | exc (c : Nat) (x : Option PyData)
  | bad
  | pick (P : PyData → Prop) (k : PyData → R α)
namespace R
variable {α β γ : Type}
def bind (r : R α) (k : α → R β) : R β := match r with
  | .ok a => k a
  | .exc c x => .exc c x
  | .bad => .bad
  | .pick P f => .pick P fun d => (f d).bind k
@[simp] theorem ok_bind (a : α) (k : α → R β) : (R.ok a).bind k = k a := id rfl
@[simp] theorem exc_bind (c : Nat) (x : Option PyData) (k : α → R β) : (R.exc c x).bind k = .exc c x := id rfl
@[simp] theorem bad_bind (k : α → R β) : (R.bad).bind k = .bad := id rfl
@[simp] theorem pick_bind (P : PyData → Prop) (f : PyData → R α) (k : α → R β) : (R.pick P f).bind k = .pick P fun d => (f d).bind k := id rfl
theorem bind_assoc (r : R α) (k : α → R β) (m : β → R γ) : (r.bind k).bind m = r.bind fun a => (k a).bind m := by
  induction r with
  | pick P f ih => simp only [pick_bind]; congr 1; funext d; exact ih d
  | _ => rfl
theorem bind_ok (r : R α) : r.bind R.ok = r := by
  induction r with
  | pick P f ih => simp only [pick_bind]; congr 1; funext d; exact ih d
  | _ => rfl
def ofO : Option α → R α
  | some a => .ok a
  | none => .bad
@[simp] theorem ofO_some (a : α) : ofO (some a) = .ok a := id rfl
@[simp] theorem ofO_none : ofO (none : Option α) = .bad := id rfl
def wp : R α → (α → Prop) → (Nat → Option PyData → Prop) → Prop
  | .ok a, Q, _ => Q a
  | .exc c x, _, E => E c x
  | .bad, _, _ => False
  | .pick P f, Q, E => ∀ d, P d → (f d).wp Q E
@[simp] theorem wp_ok (a : α) (Q : α → Prop) (E : Nat → Option PyData → Prop) : (R.ok a).wp Q E = Q a := id rfl
@[simp] theorem wp_exc (c : Nat) (x : Option PyData) (Q : α → Prop) (E : Nat → Option PyData → Prop) : (R.exc c x).wp Q E = E c x := id rfl
@[simp] theorem wp_bad (Q : α → Prop) (E : Nat → Option PyData → Prop) : (R.bad).wp Q E = False := id rfl
@[simp] theorem wp_pick (P : PyData → Prop) (f : PyData → R α) (Q : α → Prop) (E : Nat → Option PyData → Prop) : (R.pick P f).wp Q E = ∀ d, P d → (f d).wp Q E := id rfl
@[simp] theorem wp_bind (r : R α) (k : α → R β) (Q : β → Prop) (E : Nat → Option PyData → Prop) : (r.bind k).wp Q E = r.wp (fun a => (k a).wp Q E) E := by
  induction r with
  | pick P f ih => simp only [pick_bind, wp_pick]; exact forall_congr fun d => by rw [ih d]
  | _ => rfl
theorem wp_imp {r : R α} {Q Q' : α → Prop} {E E' : Nat → Option PyData → Prop} (h : r.wp Q E) (hq : ∀ a, Q a → Q' a) (he : ∀ c x, E c x → E' c x) : r.wp Q' E' := by
  induction r with
  | ok a => exact hq _ h
  | exc c x => exact he _ _ h
  | bad => exact h
  | pick P f ih => exact fun d hd => ih d (h d hd)
/-- the left one says less -/
def le (a b : R α) : Prop := ∀ Q E, a.wp Q E → b.wp Q E
theorem le_refl (a : R α) : le a a := fun _ _ h => h
theorem le_eq {a b : R α} (h : a = b) : le a b := fun _ _ q => h ▸ q
end R
/-- what a slot holds: data; a dict that it owns; a source; a def of the text -/
inductive SV where
  | d (x : PyData)
  | dict (ds : List (PyData × PyData))
  | src
  | fn (x : Str)
  | lam
  | tf (ds : List PyData)
/-- data in a slot: any; a tuple whose object is known to bear no dict -/
def SV.isD : SV → Bool
  | .d _ => true
  | .tf _ => true
  | _ => false
abbrev Rho := List (Option SV)

/-! ### heaps with hidden addresses -/
def hid (M : List Addr) (H : Hp) : Hp := fun b => if b ∈ M then none else H b
theorem hid_in {M : List Addr} {H : Hp} {b : Addr} (h : b ∈ M) : hid M H b = none := if_pos h
theorem hid_out {M : List Addr} {H : Hp} {b : Addr} (h : b ∉ M) : hid M H b = H b := if_neg h
theorem hid_some {M : List Addr} {H : Hp} {b : Addr} {o : HO} (h : hid M H b = some o) : b ∉ M ∧ H b = some o := by
  by_cases hb : b ∈ M
  · rw [hid_in hb] at h; cases h
  · rw [hid_out hb] at h; exact ⟨hb, h⟩
theorem hid_same {M : List Addr} {H H' : Hp} (s : Same H H') : Same (hid M H) (hid M H') := fun b o h => by
  obtain ⟨h1, h2⟩ := hid_some h
  rw [hid_out h1]; exact s b o h2
theorem hid_sub {M M' : List Addr} {H : Hp} (h : ∀ a, a ∈ M → a ∈ M') : Same (hid M' H) (hid M H) := fun b o e => by
  obtain ⟨h1, h2⟩ := hid_some e
  rw [hid_out fun z => h1 (h b z)]; exact h2
theorem hid_le {M : List Addr} {H : Hp} : Same (hid M H) H := fun b o h => (hid_some h).2
theorem same_upd {H : Hp} {p : Addr} {o : HO} (h : H p = none) : Same H (upd H p o) := fun b u e => by rw [upd_ne (ne_of_none e h)]; exact e

/-! the sources: lists of two numbers that draws are taken from -/
/-- tt: the tables of code objects, with the names that they bear; both are changed behind one's back -/
abbrev TTab : Type := List (Addr × Str)
structure Srcs (tt : TTab) where
  l : List Addr
def Srcs.all {tt : TTab} (S : Srcs tt) : List Addr := S.l ++ tt.map (·.1)
instance {tt : TTab} : CoeOut (Srcs tt) (List Addr) := ⟨Srcs.all⟩
instance {tt : TTab} : Membership Addr (Srcs tt) := ⟨fun S a => a ∈ S.all⟩
def Srcs.cons {tt : TTab} (p : Addr) (S : Srcs tt) : Srcs tt := ⟨p :: S.l⟩
theorem Srcs.mem_cons {tt : TTab} {p a : Addr} {S : Srcs tt} : a ∈ S.cons p ↔ a = p ∨ a ∈ S := List.mem_cons (l := S.all)
theorem Srcs.l_mem {tt : TTab} {a : Addr} {S : Srcs tt} (h : a ∈ S.l) : a ∈ S := List.mem_append_left _ h
structure SrcOk {tt : TTab} (S : Srcs tt) (H : Hp) : Prop where
  src : ∀ a, a ∈ S.l → ∃ x y : Int, 0 ≤ x ∧ (0 ≤ y ∧ y < 2 ^ 32) ∧ H a = some (.lst [.int x, .int y])
  tab : LamX.Tabs tt H
theorem SrcOk.there {tt : TTab} {S : Srcs tt} {H : Hp} (h : SrcOk S H) {a : Addr} (ha : a ∈ S) : H a ≠ none := by
  rcases List.mem_append.mp ha with z | z
  · obtain ⟨x, y, _, _, e⟩ := h.src a z
    rw [e]; intro q; cases q
  · obtain ⟨p, hp, rfl⟩ := List.mem_map.mp z
    obtain ⟨ps, e, _⟩ := h.tab p hp
    rw [e]; intro q; cases q
/-- a lambda that was handed in: the function, the objects that it needs, what it captured -/
structure LamD where
  fl : Addr
  obs : List (Addr × HO)
  cvs : List V
  caps : List PyData
/-- a list or a dict is changed -/
def Chg : HO → Prop
  | .lst _ => True
  | .dK _ => True
  | _ => False
theorem tabs_upd {tt : TTab} {H : Hp} {p : Addr} {o o' : HO} (hp : H p = some o') (hc : Chg o') (t : LamX.Tabs tt H) : LamX.Tabs tt (upd H p o) := fun q hq => by
  obtain ⟨ps, e1, e2, e3⟩ := t q hq
  have n1 : q.1 ≠ p := fun z => by rw [z, hp] at e1; cases e1; exact hc
  refine ⟨ps, by rw [upd_ne n1]; exact e1, e2, fun pos cv h => ?_⟩
  obtain ⟨c, e4, e5⟩ := e3 pos cv h
  have n2 : c ≠ p := fun z => by rw [z, hp] at e5; cases e5; exact hc
  exact ⟨c, e4, by rw [upd_ne n2]; exact e5⟩
/-- the heap grows, the sources go on, what is hidden may hide them -/
structure Gr (S : Srcs tt) (M : List Addr) (H H' : Hp) : Prop where
  fr : ∀ b o, b ∉ S → H b = some o → H' b = some o
  vis : Same (hid M H) (hid M H')
  so : SrcOk S H → SrcOk S H'
theorem Gr.of {S : Srcs tt} {M : List Addr} {H H' : Hp} (s : Same H H') : Gr S M H H' := ⟨fun b o _ h => s b o h, hid_same s, fun h => ⟨fun a ha => by
  obtain ⟨x, y, h1, h2, h3⟩ := h.src a ha
  exact ⟨x, y, h1, h2, s _ _ h3⟩, h.tab.ext fun b o e => s b o e⟩⟩
theorem Gr.refl {S : Srcs tt} {M : List Addr} (H : Hp) : Gr S M H H := .of (Same.refl H)
theorem Gr.trans {S : Srcs tt} {M : List Addr} {H H1 H' : Hp} (a : Gr S M H H1) (b : Gr S M H1 H') : Gr S M H H' := ⟨fun c o n h => b.fr c o n (a.fr c o n h), a.vis.trans b.vis, fun h => b.so (a.so h)⟩
theorem Gr.free {S : Srcs tt} {M : List Addr} {H H' : Hp} (so : SrcOk S H) (s : Gr S M H H') : ∀ p, H' p = none → H p = none := fun p e => by
  by_cases hS : p ∈ S
  · exact absurd e ((s.so so).there hS)
  · cases q : H p with
    | none => rfl
    | some o => rw [s.fr p o hS q] at e; cases e
theorem Gr.mk' {S : Srcs tt} {M : List Addr} {H H' : Hp} (hs : ∀ a, a ∈ S → a ∈ M) (h : Same (hid S H) H') (so : SrcOk S H') : Gr S M H H' := ⟨fun b o n e => h b o (by rw [hid_out n]; exact e), fun b o e => by
  obtain ⟨h1, h2⟩ := hid_some e
  rw [hid_out h1]
  exact h b o (by rw [hid_out fun z => h1 (hs b z)]; exact h2), fun _ => so⟩

/-! ### data -/
section
variable {K : PySem.W.Frag} {H H' : Hp}
theorem same_seqT {a : Addr} {xs : List V} (e : Same H H') (h : SqT K H a xs) : SqT K H' a xs := by
  rcases h with (h | ⟨o, h⟩) | h
  · exact .inl (.inl (e _ _ h))
  · exact .inl (.inr ⟨o, e _ _ h⟩)
  · exact .inr h
mutual
theorem dp_mono (s : Same H H') : ∀ (d : PyData) (v : V), Dp K H v d → Dp K H' v d
  | .none, _, h => by cases h; exact .non
  | .bool b, _, h => by cases h; exact .bl b
  | .int i, _, h => by cases h; exact .int i
  | .str x, _, h => by cases h; exact .str x
  | .list ds, _, h => by
    cases h with
    | lst hs ha => exact .lst (s.seq hs) (dpa_mono s ds _ ha)
  | .tuple ds, _, h => by
    cases h with
    | tup hs ha => exact .tup (same_seqT s hs) (dpa_mono s ds _ ha)
  | .dict _, _, h => by cases h
theorem dpa_mono (s : Same H H') : ∀ (ds : List PyData) (vs : List V), DpAll K H vs ds → DpAll K H' vs ds
  | [], _, h => by cases h; exact .nil
  | d :: ds, _, h => by
    cases h with
    | cons h1 h2 => exact .cons (dp_mono s d _ h1) (dpa_mono s ds _ h2)
end
theorem dpa_len : ∀ {vs : List V} {ds : List PyData}, DpAll K H vs ds → vs.length = ds.length
  | _, _, .nil => rfl
  | _, _, .cons _ t => by rw [List.length_cons, List.length_cons, dpa_len t]
theorem dpa_get : ∀ {vs : List V} {ds : List PyData} {i : Nat} {v : V}, DpAll K H vs ds → vs[i]? = some v → ∃ d, ds[i]? = some d ∧ Dp K H v d
  | _, _, _, _, .nil, e => by simp at e
  | _, _, 0, _, .cons r _, e => by simp at e; subst e; exact ⟨_, rfl, r⟩
  | _, _, i + 1, v, .cons _ t, e => by
    obtain ⟨d, h1, h2⟩ := dpa_get (i := i) (v := v) t (by simpa using e)
    exact ⟨d, by simpa using h1, h2⟩
theorem dpa_get' : ∀ {vs : List V} {ds : List PyData} {i : Nat} {d : PyData}, DpAll K H vs ds → ds[i]? = some d → ∃ v, vs[i]? = some v ∧ Dp K H v d
  | _, _, _, _, .nil, e => by simp at e
  | _, _, 0, _, .cons r _, e => by simp at e; subst e; exact ⟨_, rfl, r⟩
  | _, _, i + 1, d, .cons _ t, e => by
    obtain ⟨v, h1, h2⟩ := dpa_get' (i := i) (d := d) t (by simpa using e)
    exact ⟨v, by simpa using h1, h2⟩
theorem dpa_append : ∀ {vs us : List V} {ds es : List PyData}, DpAll K H vs ds → DpAll K H us es → DpAll K H (vs ++ us) (ds ++ es)
  | _, _, _, _, .nil, h => h
  | _, _, _, _, .cons r t, h => .cons r (dpa_append t h)
theorem dpa_take : ∀ {vs : List V} {ds : List PyData} (n : Nat), DpAll K H vs ds → DpAll K H (vs.take n) (ds.take n)
  | _, _, 0, _ => .nil
  | _, _, _ + 1, .nil => .nil
  | _, _, n + 1, .cons r t => .cons r (dpa_take n t)
theorem dpa_drop : ∀ {vs : List V} {ds : List PyData} (n : Nat), DpAll K H vs ds → DpAll K H (vs.drop n) (ds.drop n)
  | _, _, 0, h => h
  | _, _, _ + 1, .nil => .nil
  | _, _, n + 1, .cons _ t => dpa_drop n t
theorem dpa_rev {vs : List V} {ds : List PyData} (h : DpAll K H vs ds) : DpAll K H vs.reverse ds.reverse := by
  induction ds generalizing vs with
  | nil => cases h; exact .nil
  | cons d ds ih =>
    cases h with
    | cons r t =>
      rw [List.reverse_cons, List.reverse_cons]
      exact dpa_append (ih t) (.cons r .nil)
theorem dpa_rep {vs : List V} {ds : List PyData} (h : DpAll K H vs ds) : ∀ n : Nat, DpAll K H (List.replicate n vs).flatten (List.replicate n ds).flatten
  | 0 => .nil
  | n + 1 => by
    rw [List.replicate_succ, List.replicate_succ, List.flatten_cons, List.flatten_cons]
    exact dpa_append h (dpa_rep h n)
theorem dpa_set {v : V} {d : PyData} (r : Dp K H v d) : ∀ {vs : List V} {ds : List PyData} (n : Nat), DpAll K H vs ds → DpAll K H (vs.set n v) (ds.set n d)
  | _, _, _, .nil => .nil
  | _, _, 0, .cons _ t => .cons r t
  | _, _, n + 1, .cons q t => .cons q (dpa_set r n t)
end

/-! ### what is wanted of a result -/
/-- the classes of exceptions and their attribute -/
structure EC where
  cls : Nat → Value
  att : Nat → Str
  tabs : TTab
  lam : LamD
def ExOk (K : PySem.W.Frag) (M : List Addr) (ec : EC) (H' : Hp) (c : Nat) (dx : Option Addr) : Option PyData → Prop
  | none => dx = none
  | some d => ∃ a v, dx = some a ∧ H' a = some (.xd [(ec.att c, v)]) ∧ Dp K (hid M H') v d
/-- how a value denotes data: strictly; borrowed (an owned list may stand at the top) -/
def dV (K : PySem.W.Frag) (M : List Addr) (H : Hp) (v : V) (d : PyData) : Prop := Dp K (hid M H) v d
def dB (K : PySem.W.Frag) (S M : List Addr) (H : Hp) (v : V) (d : PyData) : Prop :=
  Dp K (hid M H) v d ∨ ∃ p vs ds, v = .ref p ∧ d = .list ds ∧ p ∉ S ∧ H p = some (.lst vs) ∧ DpAll K (hid M H) vs ds
/-- a list that was just made -/
def dF (K : PySem.W.Frag) (B : Hp) (M : List Addr) (H : Hp) (v : V) (d : PyData) : Prop :=
  ∃ p vs ds, v = .ref p ∧ d = .list ds ∧ B p = none ∧ p ∉ M ∧ H p = some (.lst vs) ∧ DpAll K (hid (p :: M) H) vs ds
def dA (K : PySem.W.Frag) (M : List Addr) (H : Hp) (vs : List V) (ds : List PyData) : Prop := DpAll K (hid M H) vs ds
def dT (_ : Hp) (b c : Bool) : Prop := b = c
def Post {ν α : Type} (S : Srcs tt) (K : PySem.W.Frag) (ec : EC) (den : Hp → ν → α → Prop) (M : List Addr) (E : XK) (H : Hp) (Q : ν → Hp → Prop) (r : R α) : Prop :=
  r.wp (fun a => ∀ v H', Gr S M H H' → den H' v a → Q v H') (fun c x => ∀ H' dx, Gr S M H H' → ExOk K M ec H' c dx x → E (ec.cls c) dx H')
section
variable {S : Srcs tt} {K : PySem.W.Frag} {ec : EC} {M : List Addr} {E : XK} {H H' H1 : Hp} {ν μ α β : Type} {den : Hp → ν → α → Prop} {den2 : Hp → μ → β → Prop}
theorem Post.move {Q : ν → Hp → Prop} {r : R α} (s : Gr S M H H1) (h : Post S K ec den M E H Q r) : Post S K ec den M E H1 Q r :=
  R.wp_imp h (fun _ h v H' s' d => h v H' (s.trans s') d) (fun _ _ h H' dx s' d => h H' dx (s.trans s') d)
theorem Post.imp {Q Q' : ν → Hp → Prop} {r : R α} (h : Post S K ec den M E H Q r) (hq : ∀ v H', Q v H' → Q' v H') : Post S K ec den M E H Q' r :=
  R.wp_imp h (fun _ h v H' s' d => hq _ _ (h v H' s' d)) (fun _ _ h => h)
theorem Post.bind {Q : μ → Hp → Prop} {r : R α} {k : α → R β} (h : Post S K ec den2 M E H Q (r.bind k)) :
    Post S K ec den M E H (fun v H1 => ∃ a, True ∧ Gr S M H H1 ∧ den H1 v a ∧ Post S K ec den2 M E H1 Q (k a)) r := by
  unfold Post at h ⊢
  rw [R.wp_bind] at h
  exact R.wp_imp h (fun a h v H' s' d => ⟨a, trivial, s', d, Post.move s' h⟩) (fun _ _ h => h)
theorem Post.ok {Q : ν → Hp → Prop} {a : α} (h : Post S K ec den M E H Q (.ok a)) {v : ν} (d : den H v a) : Q v H := h v H (Gr.refl H) d
end
section
variable {S : Srcs tt} {K : PySem.W.Frag} {M : List Addr} {H H' : Hp} {v : V} {d : PyData}
theorem dV.mono (s : Gr S M H H') (h : dV K M H v d) : dV K M H' v d := dp_mono s.vis d v h
theorem dV.b {S : List Addr} (h : dV K M H v d) : dB K S M H v d := .inl h
theorem dB.mono (s : Gr S M H H') (h : dB K S M H v d) : dB K S M H' v d := by
  rcases h with h | ⟨p, vs, ds, e1, e2, e0, e3, e4⟩
  · exact .inl (dp_mono s.vis d v h)
  · exact .inr ⟨p, vs, ds, e1, e2, e0, s.fr _ _ e0 e3, dpa_mono s.vis ds vs e4⟩
theorem dF.toV {B : Hp} (h : dF K B M H v d) : dV K M H v d := by
  obtain ⟨p, vs, ds, rfl, rfl, _, hp, e, ha⟩ := h
  refine .lst (.inl (.inl (by rw [hid_out hp]; exact e))) (dpa_mono (hid_sub fun a z => List.mem_cons_of_mem _ z) ds vs ha)
theorem dA.mono {vs : List V} {ds : List PyData} (s : Gr S M H H') (h : dA K M H vs ds) : dA K M H' vs ds := dpa_mono s.vis ds vs h
end
section
variable {S : List Addr} {K : PySem.W.Frag} {M : List Addr} {H H' : Hp} {v : V} {d : PyData}
/-- a borrowed list: its items -/
theorem dB.lst {ds : List PyData} (h : dB K S M H v (.list ds)) : ∃ p vs, v = .ref p ∧ SqL K H p vs ∧ DpAll K (hid M H) vs ds := by
  rcases h with h | ⟨p, vs, ds', e1, e2, e0, e3, e4⟩
  · cases h with
    | lst hs ha => exact ⟨_, _, rfl, hid_le.seq hs, ha⟩
  · cases e2; exact ⟨p, vs, e1, .inl (.inl e3), e4⟩
theorem dB.tup {ds : List PyData} (h : dB K S M H v (.tuple ds)) : ∃ p vs, v = .ref p ∧ SqT K H p vs ∧ DpAll K (hid M H) vs ds := by
  rcases h with h | ⟨p, vs, ds', e1, e2, e0, e3, e4⟩
  · cases h with
    | tup hs ha => exact ⟨_, _, rfl, same_seqT hid_le hs, ha⟩
  · cases e2
theorem dB.int {i : Int} (h : dB K S M H v (.int i)) : v = .int i := by
  rcases h with h | ⟨p, vs, ds', e1, e2, e0, e3, e4⟩
  · cases h; rfl
  · cases e2
theorem dB.bl {b : Bool} (h : dB K S M H v (.bool b)) : v = .bl b := by
  rcases h with h | ⟨p, vs, ds', e1, e2, e0, e3, e4⟩
  · cases h; rfl
  · cases e2
theorem dB.str {b : Str} (h : dB K S M H v (.str b)) : v = .str b := by
  rcases h with h | ⟨p, vs, ds', e1, e2, e0, e3, e4⟩
  · cases h; rfl
  · cases e2
theorem dB.non (h : dB K S M H v .none) : v = .non := by
  rcases h with h | ⟨p, vs, ds', e1, e2, e0, e3, e4⟩
  · cases h; rfl
  · cases e2
theorem dB.dict {x : List (PyData × PyData)} (h : dB K S M H v (.dict x)) : False := by
  rcases h with h | ⟨p, vs, ds', e1, e2, e0, e3, e4⟩
  · cases h
  · cases e2
/-- at the whole heap -/
theorem dB.dp (h : dB K S M H v d) : Dp K H v d := by
  rcases h with h | ⟨p, vs, ds, rfl, rfl, e0, e3, e4⟩
  · exact dp_mono hid_le d v h
  · exact .lst (.inl (.inl e3)) (dpa_mono hid_le ds vs e4)
/-- a new object is laid -/
theorem new_tup {vs : List V} {ds : List PyData} {p : Addr} (hM : ∀ m, m ∈ M → H m ≠ none) (hp : H p = none) (h : DpAll K (hid M H) vs ds) : dV K M (upd H p (.tup vs)) (.ref p) (.tuple ds) := by
  have np : p ∉ M := fun z => hM p z hp
  exact .tup (.inl (.inl (by rw [hid_out np]; exact upd_same))) (dpa_mono (hid_same (same_upd hp)) ds vs h)
theorem new_lst {B : Hp} {vs : List V} {ds : List PyData} {p : Addr} (hB : ∀ p, H p = none → B p = none) (hM : ∀ m, m ∈ M → H m ≠ none) (hp : H p = none) (h : DpAll K (hid M H) vs ds) : dF K B M (upd H p (.lst vs)) (.ref p) (.list ds) := by
  have np : p ∉ M := fun z => hM p z hp
  refine ⟨p, vs, ds, rfl, rfl, hB p hp, np, upd_same, dpa_mono (fun b o e => ?_) ds vs h⟩
  obtain ⟨h1, h2⟩ := hid_some e
  have nb : b ≠ p := ne_of_none h2 hp
  rw [hid_out (by simp only [List.mem_cons, not_or]; exact ⟨nb, h1⟩), upd_ne nb]
  exact h2
end

/-! ### the slots -/
def keyD : Key → PyData
  | .inl i => .int i
  | .inr x => .str x
/-- what an owned object is: a list, a dict with ints and texts as keys -/
inductive OwnV (K : PySem.W.Frag) (M : List Addr) (H : Hp) : HO → SV → Prop
  | lst {vs : List V} {ds : List PyData} (h : DpAll K (hid M H) vs ds) : OwnV K M H (.lst vs) (.d (.list ds))
  | dk {kvs : List (Key × V)} {ds : List (PyData × PyData)} (h : Paired (fun (q : Key × V) (e : PyData × PyData) => keyD q.1 = e.1 ∧ Dp K (hid M H) q.2 e.2) kvs ds) : OwnV K M H (.dK kvs) (.dict ds)
theorem OwnV.mono {K : PySem.W.Frag} {M M' : List Addr} {H H' : Hp} {o : HO} {d : SV} (s : Same (hid M H) (hid M' H')) (h : OwnV K M H o d) : OwnV K M' H' o d := by
  cases h with
  | lst h => exact .lst (dpa_mono s _ _ h)
  | dk h => exact .dk (Paired.mapP h fun q e z => ⟨z.1, dp_mono s _ _ z.2⟩)
theorem OwnV.chg {K : PySem.W.Frag} {M : List Addr} {H : Hp} {o : HO} {d : SV} (h : OwnV K M H o d) : Chg o := by cases h <;> trivial
structure Own1 (K : PySem.W.Frag) (M : List Addr) (H : Hp) (σ : L2.St) (ρ : Rho) (i : Nat) (p : Addr) : Prop where
  sl : σ[i]? = some (some (.ref p))
  val : ∃ o d, ρ[i]? = some (some d) ∧ H p = some o ∧ OwnV K M H o d
/-- the lambda's objects and what it captured can be seen -/
structure LamAt {tt : TTab} (K : PySem.W.Frag) (lm : LamD) (S : Srcs tt) (M : List Addr) (H : Hp) : Prop where
  obs : ∀ p, p ∈ lm.obs → H p.1 = some p.2
  ns : ∀ p, p ∈ lm.obs → p.1 ∉ S
  nc : ∀ p, p ∈ lm.obs → ¬ Chg p.2
  caps : DpAll K (hid M H) lm.cvs lm.caps
theorem LamAt.mono {tt : TTab} {K : PySem.W.Frag} {lm : LamD} {S : Srcs tt} {M M' : List Addr} {H H' : Hp} (h : LamAt K lm S M H) (fr : ∀ p, p ∈ lm.obs → H' p.1 = H p.1) (s : Same (hid M H) (hid M' H')) : LamAt K lm S M' H' := ⟨fun p hp => (fr p hp).trans (h.obs p hp), h.ns, h.nc, dpa_mono s _ _ h.caps⟩
theorem LamAt.gr {tt : TTab} {K : PySem.W.Frag} {lm : LamD} {S : Srcs tt} {M M' : List Addr} {H H' : Hp} (h : LamAt K lm S M H) (g : Gr S M H H') (s : Same (hid M H) (hid M' H')) : LamAt K lm S M' H' := h.mono (fun p hp => (g.fr _ _ (h.ns p hp) (h.obs p hp)).trans (h.obs p hp).symm) s
/-- a tuple whose object is known to bear no dict -/
def FzT (K : PySem.W.Frag) (G : Hp) (v : V) (ds : List PyData) : Prop := ∃ a o vs, v = .ref a ∧ G a = some (.frz o (.tup vs)) ∧ o.dict = none ∧ DpAll K G vs ds
theorem FzT.dp {K : PySem.W.Frag} {G : Hp} {v : V} {ds : List PyData} (h : FzT K G v ds) : Dp K G v (.tuple ds) := by
  obtain ⟨a, o, vs, rfl, h1, _, h3⟩ := h
  exact .tup (.inl (.inr ⟨o, h1⟩)) h3
theorem FzT.mono {K : PySem.W.Frag} {G G' : Hp} {v : V} {ds : List PyData} (s : Same G G') (h : FzT K G v ds) : FzT K G' v ds := by
  obtain ⟨a, o, vs, e, h1, h2, h3⟩ := h
  exact ⟨a, o, vs, e, s _ _ h1, h2, dpa_mono s _ _ h3⟩
def SvD (K : PySem.W.Frag) (G : Hp) (v : V) : SV → Prop
  | .d x => Dp K G v x
  | .tf ds => FzT K G v ds
  | _ => False
theorem svd_mono {K : PySem.W.Frag} {G G' : Hp} (s : Same G G') (x : SV) (v : V) (h : SvD K G v x) : SvD K G' v x := by
  cases x with
  | d x => exact dp_mono s x v h
  | tf ds => exact FzT.mono s h
  | _ => exact h.elim
/-- what stood at the entry and stays; what could be seen at some point and can still be; the sources -/
structure BB (tt : TTab) (lm : LamD) where
  fst : Hp
  snd : Hp
  S : Srcs tt
abbrev BB.re {tt : TTab} {lm : LamD} (B : BB tt lm) (G : Hp) : BB tt lm := ⟨B.fst, G, B.S⟩
abbrev BB.nil {tt : TTab} {lm : LamD} (B : BB tt lm) : BB tt lm := ⟨fun _ => none, fun _ => none, B.S⟩
abbrev BB.cons {tt : TTab} {lm : LamD} (B : BB tt lm) (p : Addr) : BB tt lm := ⟨B.fst, B.snd, B.S.cons p⟩
/-- O: the slots that own a list, P: these lists; Z: what others own -/
structure EnvOk (K : PySem.W.Frag) (B : BB tt lm) (O : List Nat) (P Z : List Addr) (σ : L2.St) (H : Hp) (ρ : Rho) : Prop where
  len : ρ.length = σ.length
  bs : Same B.1 H
  gs : Same B.2 (hid (P ++ Z) H)
  own : Paired (Own1 K (P ++ Z) H σ ρ) O P
  nd : P.Nodup
  pb : ∀ p, p ∈ P → B.1 p = none
  zt : ∀ z, z ∈ Z → H z ≠ none
  pz : ∀ p, p ∈ P → p ∉ Z
  sz : ∀ a, a ∈ B.S → a ∈ Z
  sb : ∀ a, a ∈ B.S → B.1 a = none
  so : SrcOk B.S H
  src : ∀ i, i ∉ O → ρ[i]? = some (some .src) → ∃ a, a ∈ B.S.l ∧ σ[i]? = some (some (.ref a))
  fns : ∀ i x, i ∉ O → ρ[i]? = some (some (.fn x)) → σ[i]? = some (some (.ref (He.ga K x)))
  lam : ∀ i, i ∉ O → ρ[i]? = some (some .lam) → σ[i]? = some (some (.ref lm.fl)) ∧ LamAt K lm B.S (P ++ Z) H
  oth : ∀ i d, i ∉ O → SV.isD d = true → ρ[i]? = some (some d) → ∃ v, σ[i]? = some (some v) ∧ SvD K (hid (P ++ Z) H) v d
section
variable {K : PySem.W.Frag} {B : BB tt lm} {H H' : Hp} {O : List Nat} {P Z : List Addr} {σ : L2.St} {ρ : Rho}
theorem Own1.same {S : Srcs tt} {M : List Addr} {i : Nat} {p : Addr} (s : Gr S M H H') (hp : p ∉ S) (h : Own1 K M H σ ρ i p) : Own1 K M H' σ ρ i p := by
  obtain ⟨h1, o, d, h2, h3, h4⟩ := h
  exact ⟨h1, o, d, h2, s.fr _ _ hp h3, h4.mono s.vis⟩
theorem Paired.mapPR {α β : Type} {F G : α → β → Prop} : ∀ {l : List α} {m : List β}, Paired F l m → (∀ a b, b ∈ m → F a b → G a b) → Paired G l m
  | _, _, .nil, _ => .nil
  | _, _, .cons r t, h => .cons (h _ _ List.mem_cons_self r) (Paired.mapPR t fun a b hb => h a b (List.mem_cons_of_mem _ hb))
theorem EnvOk.ps (h : EnvOk K B O P Z σ H ρ) {p : Addr} (hp : p ∈ P) : p ∉ B.S := fun z => h.pz p hp (h.sz p z)
theorem EnvOk.bs' (s : Gr B.S (P ++ Z) H H') (h : EnvOk K B O P Z σ H ρ) : Same B.1 H' := fun b o e => s.fr b o (fun z => by rw [h.sb b z] at e; cases e) (h.bs b o e)
theorem EnvOk.zt' (s : Gr B.S (P ++ Z) H H') (h : EnvOk K B O P Z σ H ρ) : ∀ z, z ∈ Z → H' z ≠ none := fun z hz q => by
  by_cases hS : z ∈ B.S
  · exact (s.so h.so).there hS q
  · cases e : H z with
    | none => exact h.zt z hz e
    | some o => rw [s.fr z o hS e] at q; cases q
theorem EnvOk.same (s : Gr B.S (P ++ Z) H H') (h : EnvOk K B O P Z σ H ρ) : EnvOk K B O P Z σ H' ρ :=
  ⟨h.len, h.bs' s, h.gs.trans s.vis, Paired.mapPR h.own fun _ _ hb x => x.same s (h.ps hb), h.nd, h.pb, h.zt' s, h.pz, h.sz, h.sb, s.so h.so, h.src, h.fns, fun i hi e => ⟨(h.lam i hi e).1, (h.lam i hi e).2.gr s s.vis⟩, fun i d hi hd e => by
    obtain ⟨v, h1, h2⟩ := h.oth i d hi hd e
    exact ⟨v, h1, svd_mono s.vis d v h2⟩⟩
theorem paired_right {α β : Type} {F : α → β → Prop} : ∀ {l : List α} {m : List β}, Paired F l m → ∀ b, b ∈ m → ∃ a, a ∈ l ∧ F a b
  | _, _, .nil, _, h => by cases h
  | _, _, .cons r t, b, h => by
    rcases List.mem_cons.mp h with h | h
    · subst h; exact ⟨_, List.mem_cons_self, r⟩
    · obtain ⟨a, h1, h2⟩ := paired_right t b h
      exact ⟨a, List.mem_cons_of_mem _ h1, h2⟩
theorem paired_left {α β : Type} {F : α → β → Prop} : ∀ {l : List α} {m : List β}, Paired F l m → ∀ a, a ∈ l → ∃ b, b ∈ m ∧ F a b
  | _, _, .nil, _, h => by cases h
  | _, _, .cons r t, a, h => by
    rcases List.mem_cons.mp h with h | h
    · subst h; exact ⟨_, List.mem_cons_self, r⟩
    · obtain ⟨b, h1, h2⟩ := paired_left t a h
      exact ⟨b, List.mem_cons_of_mem _ h1, h2⟩
/-- what is hidden is tracked -/
theorem EnvOk.trk (h : EnvOk K B O P Z σ H ρ) : ∀ m, m ∈ P ++ Z → H m ≠ none := fun m hm => by
  rcases List.mem_append.mp hm with hm | hm
  · obtain ⟨i, _, h1, vs, ds, h2, h3, h4⟩ := paired_right h.own m hm
    rw [h3]; intro q; cases q
  · exact h.zt m hm
end

/-! ### judgements -/
theorem _root_.L2.PE.imp {X : Cx} {e : Expr} {t t' : TE} (h : PE X e t) (hi : ∀ σ H Q, t' σ H Q → t σ H Q) : PE X e t' := ⟨fun pins s σ H Q I hw => h.run pins s σ H Q I (hi σ H Q hw)⟩
theorem _root_.L2.PT.imp {X : Cx} {e : Expr} {t t' : TT} (h : PT X e t) (hi : ∀ σ H Q, t' σ H Q → t σ H Q) : PT X e t' := ⟨fun pins s σ H Q I hw => h.run pins s σ H Q I (hi σ H Q hw)⟩
theorem _root_.L2.PA.imp {X : Cx} {e : List Expr} {t t' : TA} (h : PA X e t) (hi : ∀ σ H Q, t' σ H Q → t σ H Q) : PA X e t' := ⟨fun pos pins s σ H Q I hw => h.run pos pins s σ H Q I (hi σ H Q hw)⟩
theorem _root_.L2.PS.imp {X : Cx} {e : Stmt} {t t' : TS} (h : PS X e t) (hi : ∀ D σ H, t' D σ H → t D σ H) : PS X e t' := ⟨fun pins s σ H D I hw => h.run pins s σ H D I (hi D σ H hw)⟩
theorem _root_.L2.PSs.imp {X : Cx} {e : List Stmt} {t t' : TS} (h : PSs X e t) (hi : ∀ D σ H, t' D σ H → t D σ H) : PSs X e t' := ⟨fun pins s σ H D I hw => h.run pins s σ H D I (hi D σ H hw)⟩
def tG {ν α : Type} (K : PySem.W.Frag) (ec : EC) (Ef : L2.St → XK) (O : List Nat) (den : Hp → Srcs ec.tabs → List Addr → Hp → ν → α → Prop) (f : Rho → R α) : L2.St → Hp → (ν → Hp → Prop) → Prop :=
  fun σ H Q => ∃ (B : BB ec.tabs ec.lam) (P Z : List Addr) (ρ : Rho), EnvOk K B O P Z σ H ρ ∧ Post B.S K ec (den H B.S (P ++ Z)) (P ++ Z) (Ef σ) H Q (f ρ)
structure DE (X : Cx) (ec : EC) (Ef : L2.St → XK) (O : List Nat) (e : Expr) (f : Rho → R PyData) : Prop where
  pe : PE X e (tG X.K ec Ef O (fun _ _ => dV X.K) f)
structure DB (X : Cx) (ec : EC) (Ef : L2.St → XK) (O : List Nat) (e : Expr) (f : Rho → R PyData) : Prop where
  pe : PE X e (tG X.K ec Ef O (fun _ S => dB X.K S) f)
structure DF (X : Cx) (ec : EC) (Ef : L2.St → XK) (O : List Nat) (e : Expr) (f : Rho → R PyData) : Prop where
  pe : PE X e (tG X.K ec Ef O (fun H _ => dF X.K H) f)
structure DA (X : Cx) (ec : EC) (Ef : L2.St → XK) (O : List Nat) (es : List Expr) (f : Rho → R (List PyData)) : Prop where
  pa : PA X es (tG X.K ec Ef O (fun _ _ => dA X.K) f)
structure DT (X : Cx) (ec : EC) (Ef : L2.St → XK) (O : List Nat) (e : Expr) (f : Rho → R Bool) : Prop where
  pt : PT X e (tG X.K ec Ef O (fun _ _ _ => dT) f)
theorem Post.den {S : Srcs tt} {K : PySem.W.Frag} {ec : EC} {M : List Addr} {E : XK} {H : Hp} {ν α : Type} {den den' : Hp → ν → α → Prop} {Q : ν → Hp → Prop} {r : R α} (hd : ∀ H' v a, den' H' v a → den H' v a) (h : Post S K ec den M E H Q r) : Post S K ec den' M E H Q r :=
  R.wp_imp h (fun _ h v H' s d => h v H' s (hd _ _ _ d)) (fun _ _ h => h)
section
variable {X : Cx} {ec : EC} {Ef : L2.St → XK} {O : List Nat} {e : Expr} {f : Rho → R PyData}
theorem DE.b (h : DE X ec Ef O e f) : DB X ec Ef O e f := ⟨h.pe.imp fun _ _ _ ⟨B, P, Z, ρ, hE, p⟩ => ⟨B, P, Z, ρ, hE, p.den fun _ _ _ d => d.b⟩⟩
theorem DF.toE (h : DF X ec Ef O e f) : DE X ec Ef O e f := ⟨h.pe.imp fun _ _ _ ⟨B, P, Z, ρ, hE, p⟩ => ⟨B, P, Z, ρ, hE, p.den fun _ _ _ d => d.toV⟩⟩
theorem DF.b (h : DF X ec Ef O e f) : DB X ec Ef O e f := h.toE.b
end
end DL
set_option Elab.async false
set_option linter.all false
set_option maxRecDepth 100000
set_option maxHeartbeats 1000000
namespace DL
open PySem PySem.Spec PyProof.Rows L2
/-! ### names, constants, displays -/
/-- the data in a slot -/
def getV (ρ : Rho) (i : Nat) : R PyData := match ρ[i]? with
  | some (some (.d x)) => .ok x
  | some (some (.tf ds)) => .ok (.tuple ds)
  | _ => .bad
theorem getV_ok {ρ : Rho} {i : Nat} {d : PyData} (h : ρ[i]? = some (some (.d d))) : getV ρ i = .ok d := by
  unfold getV
  rw [h]
theorem getV_case {ρ : Rho} {i : Nat} : (∃ d, ρ[i]? = some (some (.d d)) ∧ getV ρ i = .ok d) ∨ (∃ ds, ρ[i]? = some (some (.tf ds)) ∧ getV ρ i = .ok (.tuple ds)) ∨ getV ρ i = .bad := by
  unfold getV
  split
  · rename_i d h; exact .inl ⟨d, h, rfl⟩
  · rename_i d h; exact .inr (.inl ⟨d, h, rfl⟩)
  · exact .inr (.inr rfl)
section
variable {X : Cx} {ec : EC} {Ef : L2.St → XK} {O : List Nat} {e : Expr} {i : Nat}
theorem de_name (h : PE X e (tVar i)) (hi : i ∉ O := by decide) : DE X ec Ef O e (fun ρ => getV ρ i) := ⟨h.imp fun σ H Q ⟨B, P, Z, ρ, hE, p⟩ => by
  have p : Post B.S X.K ec (dV X.K (P ++ Z)) (P ++ Z) (Ef σ) H Q (getV ρ i) := p
  rcases getV_case (ρ := ρ) (i := i) with ⟨d, h1, h2⟩ | ⟨ds, h1, h2⟩ | h2
  · rw [h2] at p
    obtain ⟨v, h3, h4⟩ := hE.oth i (.d d) hi rfl h1
    exact ⟨v, h3, p.ok h4⟩
  · rw [h2] at p
    obtain ⟨v, h3, h4⟩ := hE.oth i (.tf ds) hi rfl h1
    exact ⟨v, h3, p.ok (FzT.dp h4)⟩
  · rw [h2] at p
    exact p.elim⟩
theorem db_name (h : PE X e (tVar i)) : DB X ec Ef O e (fun ρ => getV ρ i) := ⟨h.imp fun σ H Q ⟨B, P, Z, ρ, hE, p⟩ => by
  have p : Post B.S X.K ec (dB X.K B.S (P ++ Z)) (P ++ Z) (Ef σ) H Q (getV ρ i) := p
  rcases getV_case (ρ := ρ) (i := i) with ⟨d, h1, h2⟩ | ⟨ds, h1, h2⟩ | h2
  rotate_left
  · rw [h2] at p
    by_cases hi : i ∈ O
    · obtain ⟨q, hq, h3, o, d', h4, h5, h6⟩ := paired_left hE.own i hi
      rw [h1] at h4
      cases h4
      cases h6
    · obtain ⟨v, h3, h4⟩ := hE.oth i (.tf ds) hi rfl h1
      exact ⟨v, h3, p.ok (.inl (FzT.dp h4))⟩
  rotate_left
  · rw [h2] at p
    by_cases hi : i ∈ O
    · obtain ⟨q, hq, h3, o, d', h4, h5, h6⟩ := paired_left hE.own i hi
      rw [h1] at h4
      cases h4
      cases h6 with
      | lst h6 => exact ⟨.ref q, h3, p.ok (.inr ⟨q, _, _, rfl, rfl, hE.ps hq, h5, h6⟩)⟩
    · obtain ⟨v, h3, h4⟩ := hE.oth i (.d d) hi rfl h1
      exact ⟨v, h3, p.ok (.inl h4)⟩
  · rw [h2] at p
    exact p.elim⟩
def fC (d : PyData) : Rho → R PyData := fun _ => .ok d
theorem de_const {v : V} {d : PyData} (h : PE X e (tC v)) (hd : ∀ K H, Dp K H v d) : DE X ec Ef O e (fC d) := ⟨h.imp fun σ H Q ⟨B, P, Z, ρ, hE, p⟩ =>
  (show Post B.S X.K ec (dV X.K (P ++ Z)) (P ++ Z) (Ef σ) H Q (.ok d) from p).ok (hd _ _)⟩
theorem de_int {n : Int} {j pos} : DE X ec Ef O (.Constant (.int n) j pos) (fC (.int n)) := de_const pe_int fun _ _ => .int n
theorem de_bl {n : Bool} {j pos} : DE X ec Ef O (.Constant (.bool n) j pos) (fC (.bool n)) := de_const pe_bl fun _ _ => .bl n
theorem de_str {n : Str} {j pos} : DE X ec Ef O (.Constant (.str n) j pos) (fC (.str n)) := de_const pe_str fun _ _ => .str n
theorem de_non {j pos} : DE X ec Ef O (.Constant .none j pos) (fC .none) := de_const pe_non fun _ _ => .non
/-- a module's constant: an int, a text -/
theorem de_glob {x : Str} {v : V} {d : PyData} {pos : Pos} (hg : Gl X x) (hm : ∃ u, X.mg x = some u ∧ RelV v u) (hd : ∀ H, Dp X.K H v d) (hdb : (x == ("__debug__" : Str)) = false := by decide) : DE X ec Ef O (.Name x pos) (fC d) := by
  obtain ⟨u, h1, h2⟩ := hm
  exact ⟨(pe_glob hg h1 h2 hdb).imp fun σ H Q ⟨B, P, Z, ρ, hE, p⟩ => (show Post B.S X.K ec (dV X.K (P ++ Z)) (P ++ Z) (Ef σ) H Q (.ok d) from p).ok (hd _)⟩
/-! ### argument lists, tuples, lists -/
theorem da_nil : DA X ec Ef O [] (fun _ => .ok []) := ⟨pa_nil.imp fun σ H Q ⟨B, P, Z, ρ, hE, p⟩ => (show Post B.S X.K ec (dA X.K (P ++ Z)) (P ++ Z) (Ef σ) H Q (.ok []) from p).ok .nil⟩
theorem da_cons {es : List Expr} {f : Rho → R PyData} {g : Rho → R (List PyData)} (h : DE X ec Ef O e f) (t : DA X ec Ef O es g) (hs : starEach (e :: es) X.env = (false, eval e X.env) :: starEach es X.env := by rfl) :
    DA X ec Ef O (e :: es) (fun ρ => (f ρ).bind fun d => (g ρ).bind fun ds => .ok (d :: ds)) :=
  ⟨(pa_cons h.pe t.pa hs).imp fun σ H Q ⟨B, P, Z, ρ, hE, p⟩ => ⟨B, P, Z, ρ, hE, (Post.bind p).imp fun v H1 ⟨d, _, s1, d1, p1⟩ => ⟨B, P, Z, ρ, hE.same s1, (Post.bind p1).imp fun vs H2 ⟨ds, _, s2, d2, p2⟩ => p2.ok (.cons (d1.mono s2) d2)⟩⟩⟩
def mkTup (ds : List PyData) : R PyData := if ds.length ≤ sizeLine then .ok (.tuple ds) else .bad
def mkLst (ds : List PyData) : R PyData := if ds.length ≤ sizeLine then .ok (.list ds) else .bad
theorem de_tup {es : List Expr} {x1 : Nat} {pos : Pos} {g : Rho → R (List PyData)} (t : DA X ec Ef O es g) : DE X ec Ef O (.Tuple es x1 pos) (fun ρ => (g ρ).bind mkTup) :=
  ⟨(pe_tup t.pa).imp fun σ H Q ⟨B, P, Z, ρ, hE, p⟩ => ⟨B, P, Z, ρ, hE, (Post.bind p).imp fun vs H1 ⟨ds, _, s1, d1, p1⟩ => by
    unfold mkTup at p1
    by_cases hl : ds.length ≤ sizeLine
    · rw [if_pos hl] at p1
      refine ⟨by rw [dpa_len d1]; exact hl, fun q hq => ?_⟩
      exact p1 _ _ (.of (same_upd hq)) (new_tup (hE.same s1).trk hq d1)
    · rw [if_neg hl] at p1
      exact p1.elim⟩⟩
theorem df_lst {es : List Expr} {pos : Pos} {g : Rho → R (List PyData)} (t : DA X ec Ef O es g) : DF X ec Ef O (.List es pos) (fun ρ => (g ρ).bind mkLst) :=
  ⟨(pe_lst t.pa).imp fun σ H Q ⟨B, P, Z, ρ, hE, p⟩ => ⟨B, P, Z, ρ, hE, (Post.bind p).imp fun vs H1 ⟨ds, _, s1, d1, p1⟩ => by
    unfold mkLst at p1
    by_cases hl : ds.length ≤ sizeLine
    · rw [if_pos hl] at p1
      refine ⟨by rw [dpa_len d1]; exact hl, fun q hq => ?_⟩
      exact p1 _ _ (.of (same_upd hq)) (new_lst (s1.free hE.so) (hE.same s1).trk hq d1)
    · rw [if_neg hl] at p1
      exact p1.elim⟩⟩
end

/-! ### operators by values -/
/-- two values denote, the answer denotes -/
def rD (K : PySem.W.Frag) (den : Hp → List Addr → Hp → V → PyData → Prop) (g : PyData → PyData → Option PyData) : R2 := fun x y H Q => ∃ (B : Hp) (S M : List Addr) (dx dy d : PyData), (∀ p, H p = none → B p = none) ∧ (∀ m, m ∈ M → H m ≠ none) ∧ dB K S M H x dx ∧ dB K S M H y dy ∧ g dx dy = some d ∧ ∀ z H', Same H H' → den B M H' z d → Q z H'
abbrev OpD (X : Cx) (f : Value → Value → Sem Value) (g : PyData → PyData → Option PyData) : Prop := OpR X f (rD X.K (fun _ => dV X.K) g)
abbrev OpF (X : Cx) (f : Value → Value → Sem Value) (g : PyData → PyData → Option PyData) : Prop := OpR X f (rD X.K (fun H => dF X.K H) g)
def fBin (g : PyData → PyData → Option PyData) (fa fb : Rho → R PyData) : Rho → R PyData := fun ρ => (fa ρ).bind fun x => (fb ρ).bind fun y => R.ofO (g x y)
section
variable {X : Cx} {ec : EC} {Ef : L2.St → XK} {O : List Nat} {a b : Expr} {fa fb : Rho → R PyData} {g : PyData → PyData → Option PyData} {pos : Pos}
theorem bin_imp {den : Hp → List Addr → Hp → V → PyData → Prop} (σ : L2.St) (H : Hp) (Q : VK) (h : tG X.K ec Ef O (fun H _ M => den H M) (fBin g fa fb) σ H Q) :
    tOp (rD X.K den g) (tG X.K ec Ef O (fun _ S => dB X.K S) fa) (tG X.K ec Ef O (fun _ S => dB X.K S) fb) σ H Q := by
  obtain ⟨B, P, Z, ρ, hE, p⟩ := h
  refine ⟨B, P, Z, ρ, hE, (Post.bind p).imp fun v H1 ⟨dx, _, s1, d1, p1⟩ => ⟨B, P, Z, ρ, hE.same s1, (Post.bind p1).imp fun u H2 ⟨dy, _, s2, d2, p2⟩ => ?_⟩⟩
  cases hg : g dx dy with
  | none => rw [hg] at p2; exact p2.elim
  | some d =>
    rw [hg] at p2
    exact ⟨H, B.S, P ++ Z, dx, dy, d, (s1.trans s2).free hE.so, ((hE.same s1).same s2).trk, d1.mono s2, d2, hg, fun z H' s3 d3 => p2 z H' (.of s3) d3⟩
theorem de_bin {op : Operator} (ho : OpD X (binaryOp op) g) (ha : DB X ec Ef O a fa) (hb : DB X ec Ef O b fb) : DE X ec Ef O (.BinOp a op b pos) (fBin g fa fb) := ⟨(pe_op ho ha.pe hb.pe).imp bin_imp⟩
theorem df_bin {op : Operator} (ho : OpF X (binaryOp op) g) (ha : DB X ec Ef O a fa) (hb : DB X ec Ef O b fb) : DF X ec Ef O (.BinOp a op b pos) (fBin g fa fb) := ⟨(pe_op ho ha.pe hb.pe).imp bin_imp⟩
theorem de_cmp {op : CmpOp} (ho : OpD X (compareOp op) g) (ha : DB X ec Ef O a fa) (hb : DB X ec Ef O b fb) (hm : behindInMarks op b = false) : DE X ec Ef O (.Compare a [op] [b] pos) (fBin g fa fb) := ⟨(pe_cmpR ho ha.pe hb.pe hm).imp bin_imp⟩
def tr (d : PyData) : R Bool := match d with
  | .bool b => .ok b
  | _ => .bad
theorem tr_case {d : PyData} : (∃ b, d = .bool b ∧ tr d = .ok b) ∨ tr d = .bad := by
  cases d <;> first | exact .inl ⟨_, rfl, rfl⟩ | exact .inr rfl
theorem dt_cmp {op : CmpOp} (ho : OpD X (compareOp op) g) (ha : DB X ec Ef O a fa) (hb : DB X ec Ef O b fb) (hm : behindInMarks op b = false) : DT X ec Ef O (.Compare a [op] [b] pos) (fun ρ => (fBin g fa fb ρ).bind tr) :=
  ⟨(pt_cmpR ho ha.pe hb.pe hm).imp fun σ H Q ⟨B, P, Z, ρ, hE, p⟩ => bin_imp (ec := ec) (Ef := Ef) (O := O) (den := fun _ => dV X.K) σ H _ ⟨B, P, Z, ρ, hE, (Post.bind p).imp fun v H1 ⟨d, _, s1, d1, p1⟩ => by
    rcases tr_case (d := d) with ⟨c, rfl, e⟩ | e
    · rw [e] at p1
      have e2 : v = .bl c := by cases d1; rfl
      exact ⟨c, e2, p1.ok rfl⟩
    · rw [e] at p1; exact p1.elim⟩⟩
end
/-! ### ints -/
section
variable {X : Cx}
theorem opD_int {f : Value → Value → Sem Value} {C : Int → Int → Prop} [∀ i j, Decidable (C i j)] {h : Int → Int → V} {h' : Int → Int → PyData} (ho : OpR X f (rI C h)) (hh : ∀ K H i j, Dp K H (h i j) (h' i j)) :
    OpD X f (fun x y => match x, y with
      | .int i, .int j => if C i j then some (h' i j) else none
      | _, _ => none) := by
  intro pins s σ H x y v u Q I rx ry ⟨B0, S, M, dx, dy, d, hB, hM, h1, h2, hg, k⟩
  cases dx with
  | int i =>
    cases dy with
    | int j =>
      have hg : (if C i j then some (h' i j) else none) = some d := hg
      by_cases hc : C i j
      · rw [if_pos hc] at hg
        cases hg
        exact ho pins s σ H x y v u Q I rx ry ⟨i, j, h1.int, h2.int, hc, k _ _ (Same.refl H) (hh _ _ i j)⟩
      · rw [if_neg hc] at hg; cases hg
    | _ => cases hg
  | _ => cases hg
theorem rI0_I {f : Value → Value → Sem Value} {h : Int → Int → V} (ho : OpR X f (rI0 h)) : OpR X f (rI (fun _ _ => True) h) := fun pins s σ H x y v u Q I rx ry ⟨i, j, e1, e2, _, q⟩ => ho pins s σ H x y v u Q I rx ry ⟨i, j, e1, e2, q⟩
instance (i j : Int) : Decidable (CMul i j) := by unfold CMul; infer_instance
instance (i j : Int) : Decidable (CDiv i j) := by unfold CDiv; infer_instance
instance (i j : Int) : Decidable (CPow i j) := by unfold CPow; infer_instance
def gSub : PyData → PyData → Option PyData := fun x y => match x, y with
  | .int i, .int j => if True then some (.int (i - j)) else none
  | _, _ => none
def gMulI : PyData → PyData → Option PyData := fun x y => match x, y with
  | .int i, .int j => if CMul i j then some (.int (i * j)) else none
  | _, _ => none
def gMod : PyData → PyData → Option PyData := fun x y => match x, y with
  | .int i, .int j => if 0 < j then some (.int (i % j)) else none
  | _, _ => none
def gFdiv : PyData → PyData → Option PyData := fun x y => match x, y with
  | .int i, .int j => if CDiv i j then some (.int (i / j)) else none
  | _, _ => none
def gPow : PyData → PyData → Option PyData := fun x y => match x, y with
  | .int i, .int j => if CPow i j then some (.int (i ^ j.toNat)) else none
  | _, _ => none
def gAddI : PyData → PyData → Option PyData := fun x y => match x, y with
  | .int i, .int j => if True then some (.int (i + j)) else none
  | _, _ => none
def gLt : PyData → PyData → Option PyData := fun x y => match x, y with
  | .int i, .int j => if True then some (.bool (decide (i < j))) else none
  | _, _ => none
def gLe : PyData → PyData → Option PyData := fun x y => match x, y with
  | .int i, .int j => if True then some (.bool (decide (i ≤ j))) else none
  | _, _ => none
def gGt : PyData → PyData → Option PyData := fun x y => match x, y with
  | .int i, .int j => if True then some (.bool (decide (j < i))) else none
  | _, _ => none
def gGe : PyData → PyData → Option PyData := fun x y => match x, y with
  | .int i, .int j => if True then some (.bool (decide (j ≤ i))) else none
  | _, _ => none
theorem od_sub : OpD X (binaryOp .Sub) gSub := opD_int (C := fun _ _ => True) (h' := fun i j => .int (i - j)) (rI0_I op_sub) fun _ _ _ _ => .int _
theorem od_mulI : OpD X (binaryOp .Mult) gMulI := opD_int (C := CMul) (h' := fun i j => .int (i * j)) op_mul fun _ _ _ _ => .int _
theorem od_mod : OpD X (binaryOp .Mod) gMod := opD_int (C := fun _ j => 0 < j) (h' := fun i j => .int (i % j)) op_mod fun _ _ _ _ => .int _
theorem od_fdiv : OpD X (binaryOp .FloorDiv) gFdiv := opD_int (C := CDiv) (h' := fun i j => .int (i / j)) op_fdiv fun _ _ _ _ => .int _
theorem od_pow : OpD X (binaryOp .Pow) gPow := opD_int (C := CPow) (h' := fun i j => .int (i ^ j.toNat)) op_pow fun _ _ _ _ => .int _
theorem od_addI : OpD X (binaryOp .Add) gAddI := opD_int (C := fun _ _ => True) (h' := fun i j => .int (i + j)) (rI0_I op_add) fun _ _ _ _ => .int _
theorem od_lt : OpD X (compareOp .Lt) gLt := opD_int (C := fun _ _ => True) (h' := fun i j => .bool (decide (i < j))) (rI0_I op_lt) fun _ _ _ _ => .bl _
theorem od_le : OpD X (compareOp .LtE) gLe := opD_int (C := fun _ _ => True) (h' := fun i j => .bool (decide (i ≤ j))) (rI0_I op_le) fun _ _ _ _ => .bl _
theorem od_gt : OpD X (compareOp .Gt) gGt := opD_int (C := fun _ _ => True) (h' := fun i j => .bool (decide (j < i))) (rI0_I op_gt) fun _ _ _ _ => .bl _
theorem od_ge : OpD X (compareOp .GtE) gGe := opD_int (C := fun _ _ => True) (h' := fun i j => .bool (decide (j ≤ i))) (rI0_I op_ge) fun _ _ _ _ => .bl _
end
/-! ### + of texts, tuples, lists; * -/
/-- no list stands in the written part -/
def NoList (K : PySem.W.Frag) : Prop := ∀ a o, K.lookup a = some o → o.cls ≠ .type "list"
section
variable {X : Cx} {pins : List (Addr × Obj)} {σ : L2.St} {H : Hp} {s : Shared} {a : Addr} {xs : List V}
theorem rd_of (kl : NoList X.K) (h : SqL X.K H a xs) : Rd H a (.lst xs) := by
  rcases h with h | ⟨o, its, n, h1, h2, _⟩
  · exact h
  · exact absurd h2 (kl a o h1)
theorem lstX (kl : NoList X.K) (I : Inv X pins σ H s) (h : SqL X.K H a xs) : xs.length ≤ sizeLine ∧ ∃ (its : List Value) (n : Nat), Vals xs its ∧ xs.length = its.length ∧ s.heap.get? a = some { cls := .type "list", data := .seq its.toArray n } := by
  obtain ⟨hz, its, n, r, e⟩ := (rd_of kl h).ok I.hok
  exact ⟨hz, its, n, r, r.length, e⟩
end
def gAdd : PyData → PyData → Option PyData := fun x y => match x, y with
  | .int i, .int j => some (.int (i + j))
  | .str a, .str b => if a.length + b.length ≤ sizeLine then some (.str (a ++ b)) else none
  | .tuple a, .tuple b => if a.length + b.length ≤ sizeLine then some (.tuple (a ++ b)) else none
  | _, _ => none
def gCat : PyData → PyData → Option PyData := fun x y => match x, y with
  | .list a, .list b => if a.length + b.length ≤ sizeLine then some (.list (a ++ b)) else none
  | _, _ => none
def gRep : PyData → PyData → Option PyData := fun x y => match x, y with
  | .list a, .int k => if -(2 ^ 63) ≤ k ∧ k < 2 ^ 63 ∧ a.length * k.toNat ≤ sizeLine then some (.list (List.replicate k.toNat a).flatten) else none
  | _, _ => none
section
variable {X : Cx}
theorem od_add : OpD X (binaryOp .Add) gAdd := by
  intro pins s σ H x y v u Q I rx ry ⟨B0, S, M, dx, dy, d, hB, hM, h1, h2, hg, k⟩
  cases dx with
  | int i =>
    cases dy with
    | int j =>
      cases hg
      exact op_add pins s σ H x y v u Q I rx ry ⟨i, j, h1.int, h2.int, k _ _ (Same.refl H) (.int _)⟩
    | _ => cases hg
  | str i =>
    cases dy with
    | str j =>
      have hg : (if i.length + j.length ≤ sizeLine then some (PyData.str (i ++ j)) else none) = some d := hg
      by_cases hc : i.length + j.length ≤ sizeLine
      · rw [if_pos hc] at hg
        cases hg
        exact op_add_str pins s σ H x y v u Q I rx ry ⟨i, j, h1.str, h2.str, hc, k _ _ (Same.refl H) (.str _)⟩
      · rw [if_neg hc] at hg; cases hg
    | _ => cases hg
  | tuple i =>
    cases dy with
    | tuple j =>
      have hg : (if i.length + j.length ≤ sizeLine then some (PyData.tuple (i ++ j)) else none) = some d := hg
      by_cases hc : i.length + j.length ≤ sizeLine
      · rw [if_pos hc] at hg
        cases hg
        have h2' := h2
        have h1' := h1
        obtain ⟨p, xs, e1, q1, a1⟩ := h1.tup
        obtain ⟨p2, ys, e2, q2, a2⟩ := h2.tup
        have l1 := dpa_len a1
        have l2 := dpa_len a2
        have strict : ∀ {z : V} {ds : List PyData}, dB X.K S M H z (.tuple ds) → dV X.K M H z (.tuple ds) := fun {z ds} h => by
          rcases h with h | ⟨_, _, _, _, e, _⟩
          · exact h
          · cases e
        refine op_catA pins s σ H x y v u Q I rx ry ⟨p, p2, xs, ys, e1, e2, q1, q2, by rw [l1, l2]; exact hc, fun e => ?_, fun _ e => ?_, fun _ _ q hq => ?_⟩
        · subst e
          have : i = [] := List.eq_nil_of_length_eq_zero l1.symm
          subst this
          rw [List.nil_append] at k
          rw [e2] at h2'
          exact k _ _ (Same.refl H) (strict h2')
        · subst e
          have : j = [] := List.eq_nil_of_length_eq_zero l2.symm
          subst this
          rw [List.append_nil] at k
          rw [e1] at h1'
          exact k _ _ (Same.refl H) (strict h1')
        · exact k _ _ (same_upd hq) (new_tup hM hq (dpa_append a1 a2))
      · rw [if_neg hc] at hg; cases hg
    | _ => cases hg
  | _ => cases hg
theorem of_cat (kl : NoList X.K) : OpF X (binaryOp .Add) gCat := by
  intro pins s σ H x y v u Q I rx ry ⟨B0, S, M, dx, dy, d, hB, hM, h1, h2, hg, k⟩
  cases dx with
  | list i =>
    cases dy with
    | list j =>
      have hg : (if i.length + j.length ≤ sizeLine then some (PyData.list (i ++ j)) else none) = some d := hg
      by_cases hc : i.length + j.length ≤ sizeLine
      · rw [if_pos hc] at hg
        cases hg
        obtain ⟨p, xs, e1, q1, a1⟩ := h1.lst
        obtain ⟨p2, ys, e2, q2, a2⟩ := h2.lst
        have l1 := dpa_len a1
        have l2 := dpa_len a2
        subst e1 e2
        cases rx
        cases ry
        obtain ⟨z, its, n, r, hl, e⟩ := lstX kl I q1
        obtain ⟨z2, its2, n2, r2, hl2, e2⟩ := lstX kl I q2
        refine PySem.P.add_list e e2 ?_ (by rw [List.size_toArray, List.size_toArray]; omega)
        have ea : its.toArray ++ its2.toArray = (its ++ its2).toArray := by simp
        rw [ea]
        exact ⟨.ref _, _, I.lnew (t' := s.toks) (r.append r2) (by rw [List.length_append]; omega), rfl, k _ _ (same_upd I.fresh) (new_lst hB hM I.fresh (dpa_append a1 a2))⟩
      · rw [if_neg hc] at hg; cases hg
    | _ => cases hg
  | _ => cases hg
end
end DL
set_option Elab.async false
set_option linter.all false
set_option maxRecDepth 100000
set_option maxHeartbeats 1000000
namespace DL
open PySem PySem.Spec PyProof.Rows L2
theorem tmul_same (l : Addr) (items : Array Value) (n : Nat) (dd : Option Addr) (sl : Array (Option Value)) (x : Int) (u : Tok) (c0 : (decide (x < -(2 ^ 63)) || decide (x ≥ 2 ^ 63)) = false) (c1 : (items.isEmpty || x == 1) = true) :
    Meets (Builtin.«tuple.__mul__» ⟨[.ref l, .int x u], []⟩) (fun _ R s => s.heap.get? l = some { cls := .type "tuple", dict := dd, data := .seq items n, slots := sl } ∧ R (.ok (.ret (Value.ref l))) s) :=
  .of_wp fun prog w A R s h => by
    obtain ⟨hp, g, d, tk, os⟩ := s
    obtain ⟨hl, h⟩ := h
    have f1 := AutoSeq1.idx_int
    have ht : IsTup hp l items := ⟨_, hl, rfl, n, rfl⟩
    wp_walk using wpAny_loadPart' hl
    refine wpAny_ite_false (decide_eq_false (by rw [c0]; exact Bool.false_ne_true)) ?_
    refine wpAny_bind (PyProof.Rows.tupleItemsOf_ ht ?_)
    rw [if_pos c1]
    refine wpAny_bind ?_
    show wpAny _ _ (typeOf (.ref l) >>= fun T => pure (T == .type "tuple")) _ _ _
    refine wpAny_bind (wpAny_typeOf ht.typeIs (wpAny_pure ?_))
    simp only [beq_self_eq_true, if_true]
    exact wpAny_bind (wpAny_rule (wpAny_pure ⟨_, rfl, h⟩))
theorem tmul_none (l : Addr) (items : Array Value) (n : Nat) (dd : Option Addr) (sl : Array (Option Value)) (x : Int) (u : Tok) (c0 : (decide (x < -(2 ^ 63)) || decide (x ≥ 2 ^ 63)) = false) (c1 : (items.isEmpty || x == 1) = false) (c2 : (decide (x ≤ 0) || items.isEmpty) = true) :
    Meets (Builtin.«tuple.__mul__» ⟨[.ref l, .int x u], []⟩) (fun _ R s => s.heap.get? l = some { cls := .type "tuple", dict := dd, data := .seq items n, slots := sl } ∧
      R (.ok (.ret (Value.ref s.heap.objs.size))) { s with heap := s.heap.push { cls := Value.type "tuple", data := Data.seq #[] }, toks := s.toks }) :=
  .of_wp fun prog w A R s h => by
    obtain ⟨hp, g, d, tk, os⟩ := s
    obtain ⟨hl, h⟩ := h
    have f1 := AutoSeq1.idx_int
    have ht : IsTup hp l items := ⟨_, hl, rfl, n, rfl⟩
    wp_walk using wpAny_loadPart' hl
    refine wpAny_ite_false (decide_eq_false (by rw [c0]; exact Bool.false_ne_true)) ?_
    refine wpAny_bind (PyProof.Rows.tupleItemsOf_ ht ?_)
    rw [if_neg (by rw [c1]; exact Bool.false_ne_true), if_pos c2]
    wp_walk using wpAny_loadPart' hl
    exact ⟨_, rfl, h⟩

theorem flat_len (n : Nat) (xs : List PyData) : (List.replicate n xs).flatten.length = n * xs.length := by
  induction n with
  | zero => simp
  | succ n ih => rw [List.replicate_succ, List.flatten_cons, List.length_append, ih, Nat.succ_mul, Nat.add_comm]
theorem flat_lenV (n : Nat) (xs : List V) : (List.replicate n xs).flatten.length = n * xs.length := by
  induction n with
  | zero => simp
  | succ n ih => rw [List.replicate_succ, List.flatten_cons, List.length_append, ih, Nat.succ_mul, Nat.add_comm]
def gMul : PyData → PyData → Option PyData := fun x y => match x, y with
  | .int i, .int j => if CMul i j then some (.int (i * j)) else none
  | .tuple a, .int k => if -(2 ^ 63) ≤ k ∧ k < 2 ^ 63 ∧ a.length * k.toNat ≤ sizeLine then some (.tuple (List.replicate k.toNat a).flatten) else none
  | _, _ => none
theorem rep_one {α : Type} (xs : List α) : (List.replicate 1 xs).flatten = xs := by simp
theorem rep_nil {α : Type} (n : Nat) : (List.replicate n ([] : List α)).flatten = [] := by
  induction n with
  | zero => rfl
  | succ n ih => rw [List.replicate_succ, List.flatten_cons, ih]; rfl
section
variable {X : Cx}
theorem od_mul : OpD X (binaryOp .Mult) gMul := by
  intro pins s σ H x y v u Q I rx ry ⟨B0, S, M, dx, dy, d, hB, hM, h1, h2, hg, k⟩
  cases dx with
  | int i =>
    cases dy with
    | int j =>
      have hg : (if CMul i j then some (PyData.int (i * j)) else none) = some d := hg
      by_cases hc : CMul i j
      · rw [if_pos hc] at hg
        cases hg
        exact op_mul pins s σ H x y v u Q I rx ry ⟨i, j, h1.int, h2.int, hc, k _ _ (Same.refl H) (.int _)⟩
      · rw [if_neg hc] at hg; cases hg
    | _ => cases hg
  | tuple a =>
    cases dy with
    | int m =>
      have hg : (if -(2 ^ 63) ≤ m ∧ m < 2 ^ 63 ∧ a.length * m.toNat ≤ sizeLine then some (PyData.tuple (List.replicate m.toNat a).flatten) else none) = some d := hg
      by_cases hc : -(2 ^ 63) ≤ m ∧ m < 2 ^ 63 ∧ a.length * m.toNat ≤ sizeLine
      · rw [if_pos hc] at hg
        cases hg
        obtain ⟨b1, b2, b3⟩ := hc
        have hst : dV X.K M H x (.tuple a) := by
          rcases h1 with h1 | ⟨_, _, _, _, e, _⟩
          · exact h1
          · cases e
        obtain ⟨p, xs, e1, q1, a1⟩ := h1.tup
        have l1 := dpa_len a1
        have e2 := h2.int
        subst e1 e2
        cases rx
        obtain ⟨tk, rfl⟩ := ry
        obtain ⟨its, r, ⟨⟨cls, dd, data, sl⟩, ho, hcl, n, hd⟩, hs⟩ := I.tuple q1
        simp only at hcl hd
        subst hcl hd
        have lv : its.length = xs.length := r.length.symm
        have c0 : (decide (m < -(2 ^ 63)) || decide (m ≥ 2 ^ 63)) = false := by
          rw [decide_eq_false (by omega), decide_eq_false (by omega), Bool.or_false]
        by_cases hsame : (its.toArray.isEmpty || m == 1) = true
        · refine wpAny_binaryOp_repeat_ref (T := "tuple") (U := "int") (by decide) ⟨_, ho, rfl⟩ (fun s' => typeIs_int s' m tk) noFill_tuple_mul F.fills_int_mul F.slot_int_rmul repeat_tuple F.slot_int_index.lookup
            (call_meets F.slot_int_rmul (typeIs_int s m tk) F.entry_int_rmul (F.args_int_rmul_2 _ _) (int_rmul_tuple m tk p its.toArray n dd sl)
              ⟨ho, rfl, ⟨_, ho, rfl⟩, call_meets F.slot_tuple_mul ⟨_, ho, rfl⟩ F.entry_tuple_mul (F.args_tuple_mul_2 _ _) (tmul_same p its.toArray n dd sl m tk c0 hsame) ⟨ho, ?_⟩⟩)
          refine ⟨.ref p, H, I, rfl, k _ _ (Same.refl H) ?_⟩
          have ed : (List.replicate m.toNat a).flatten = a := by
            rcases Bool.or_eq_true_iff.mp hsame with z | z
            · have : its = [] := by simpa using z
              have : a = [] := List.eq_nil_of_length_eq_zero (by rw [← l1, ← lv, this]; rfl)
              rw [this, rep_nil]
            · have : m = 1 := by simpa using z
              rw [this]; exact rep_one a
          rw [ed]
          exact hst
        · have hsame : (its.toArray.isEmpty || m == 1) = false := by simpa using hsame
          have hne : its.toArray.isEmpty = false := by
            cases z : its.toArray.isEmpty with
            | false => rfl
            | true => rw [z, Bool.true_or] at hsame; cases hsame
          by_cases h0 : m ≤ 0
          · refine wpAny_binaryOp_repeat_ref (T := "tuple") (U := "int") (by decide) ⟨_, ho, rfl⟩ (fun s' => typeIs_int s' m tk) noFill_tuple_mul F.fills_int_mul F.slot_int_rmul repeat_tuple F.slot_int_index.lookup
              (call_meets F.slot_int_rmul (typeIs_int s m tk) F.entry_int_rmul (F.args_int_rmul_2 _ _) (int_rmul_tuple m tk p its.toArray n dd sl)
                ⟨ho, rfl, ⟨_, ho, rfl⟩, call_meets F.slot_tuple_mul ⟨_, ho, rfl⟩ F.entry_tuple_mul (F.args_tuple_mul_2 _ _) (tmul_none p its.toArray n dd sl m tk c0 hsame (by rw [decide_eq_true h0, Bool.true_or])) ⟨ho, ?_⟩⟩)
            have ed : (List.replicate m.toNat a).flatten = [] := by rw [show m.toNat = 0 by omega]; rfl
            rw [ed] at k
            refine ⟨.ref _, upd H s.heap.objs.size (.tup []), I.laid (t' := s.toks) (fun b ob q => Heap.get?_push_of_some _ q) (Nat.le_refl _) ?_, rfl, k _ _ (same_upd I.fresh) (new_tup hM I.fresh .nil)⟩
            exact ⟨Nat.zero_le _, [], .nil, IsTup.new _ _⟩
          · have hlen : its.toArray.size * m.toNat ≤ sizeLine := by rw [List.size_toArray, lv, l1]; exact b3
            have hsl : sizeLine = 16777216 := sizeLine_eq
            have hprod : ((its.toArray.size : Nat) : Int) * m = ((its.toArray.size * m.toNat : Nat) : Int) := by
              rw [Int.natCast_mul, Int.toNat_of_nonneg (by omega)]
            have c4 : Builtin.Tuple.tupleTooMany (((its.toArray.size : Nat) : Int) * m) = false := by
              unfold Builtin.Tuple.tupleTooMany
              rw [hprod]
              exact decide_eq_false (by omega)
            have fl : (List.replicate m.toNat its).flatten.length ≤ sizeLine := by
              rw [PyProof.Rows.lm_len_rep_flat, Nat.mul_comm]
              rw [List.size_toArray] at hlen
              exact hlen
            refine wpAny_binaryOp_repeat_ref (T := "tuple") (U := "int") (by decide) ⟨_, ho, rfl⟩ (fun s' => typeIs_int s' m tk) noFill_tuple_mul F.fills_int_mul F.slot_int_rmul repeat_tuple F.slot_int_index.lookup
              (call_meets F.slot_int_rmul (typeIs_int s m tk) F.entry_int_rmul (F.args_int_rmul_2 _ _) (int_rmul_tuple m tk p its.toArray n dd sl)
                ⟨ho, rfl, ⟨_, ho, rfl⟩, call_meets F.slot_tuple_mul ⟨_, ho, rfl⟩ F.entry_tuple_mul (F.args_tuple_mul_2 _ _)
                  (tuple_mulW p its.toArray n dd sl m tk c0 hsame (by rw [hne, Bool.or_false]; exact decide_eq_false h0) (by rw [hprod]; omega) c4 (by rw [size_rep, List.size_toArray]; exact fl)) ⟨ho, ?_⟩⟩)
            rw [size_rep]
            refine ⟨.ref _, upd H s.heap.objs.size (.tup (List.replicate m.toNat xs).flatten), I.laid (t' := s.toks) (fun b ob q => Heap.get?_push_of_some _ q) (Nat.le_refl _) ?_, rfl, k _ _ (same_upd I.fresh) (new_tup hM I.fresh (dpa_rep a1 _))⟩
            exact ⟨by rw [flat_lenV, l1, Nat.mul_comm]; exact b3, _, r.rep m.toNat, IsTup.new _ _⟩
      · rw [if_neg hc] at hg; cases hg
    | _ => cases hg
  | _ => cases hg
theorem of_rep (kl : NoList X.K) : OpF X (binaryOp .Mult) gRep := by
  intro pins s σ H x y v u Q I rx ry ⟨B0, S, M, dx, dy, d, hB, hM, h1, h2, hg, k⟩
  cases dx with
  | list a =>
    cases dy with
    | int m =>
      have hg : (if -(2 ^ 63) ≤ m ∧ m < 2 ^ 63 ∧ a.length * m.toNat ≤ sizeLine then some (PyData.list (List.replicate m.toNat a).flatten) else none) = some d := hg
      by_cases hc : -(2 ^ 63) ≤ m ∧ m < 2 ^ 63 ∧ a.length * m.toNat ≤ sizeLine
      · rw [if_pos hc] at hg
        cases hg
        obtain ⟨b1, b2, b3⟩ := hc
        obtain ⟨p, xs, e1, q1, a1⟩ := h1.lst
        have l1 := dpa_len a1
        have e2 := h2.int
        subst e1 e2
        cases rx
        obtain ⟨tk, rfl⟩ := ry
        obtain ⟨hz, its, n, r, hl, e⟩ := lstX kl I q1
        have hsl : sizeLine = 16777216 := sizeLine_eq
        have hlen : its.toArray.size * m.toNat ≤ sizeLine := by rw [List.size_toArray, ← hl, l1]; exact b3
        have hfit : ¬ (!Builtin.List.listFitsIndex m) = true := by rw [fitsIndex_both b1 b2]; exact Bool.false_ne_true
        have hlong : ¬ Builtin.List.listTooLong (its.toArray.size * m.toNat) = true := by rw [notLongL hlen]; exact Bool.false_ne_true
        have f0 : ∀ j : Nat, List.foldl (fun x1 x2 => x1 ++ x2) #[] (List.replicate j its.toArray) = (List.replicate j its).flatten.toArray := fun j => size_rep its j
        have hnew : List.foldl (fun x1 x2 => x1 ++ x2) #[] (List.replicate (if its.toArray.isEmpty = true then 0 else m.toNat) its.toArray) = (List.replicate m.toNat its).flatten.toArray := by
          rw [f0]
          cases its with
          | nil => rw [rep_nil, rep_nil]
          | cons z zs => rw [if_neg (by simp)]
        refine wpAny_binaryOp_repeat_ref (T := "list") (U := "int") (by decide) ⟨_, e, rfl⟩ (fun s' => typeIs_int s' m tk) noFill_list_mul F.fills_int_mul F.slot_int_rmul repeat_list F.slot_int_index.lookup
          (call_meets F.slot_int_rmul (typeIs_int s m tk) F.entry_int_rmul (F.args_int_rmul_2 _ _) (int___rmul___int_list m tk p its.toArray n)
            ⟨e, rfl, ⟨_, e, rfl⟩, call_meets F.slot_list_mul ⟨_, e, rfl⟩ F.entry_list_mul (F.args_list_mul_2 _ _) (AutoListH.list___mul___list_int_3 p its.toArray n m tk hfit (by omega) hlong) ⟨e, ?_⟩⟩)
        rw [hnew]
        exact ⟨.ref _, _, I.lnew (t' := s.toks) (r.rep m.toNat) (by rw [flat_lenV, l1, Nat.mul_comm]; exact b3), rfl, k _ _ (same_upd I.fresh) (new_lst hB hM I.fresh (dpa_rep a1 _))⟩
      · rw [if_neg hc] at hg; cases hg
    | _ => cases hg
  | _ => cases hg
end
end DL
set_option Elab.async false
set_option linter.all false
set_option maxRecDepth 100000
set_option maxHeartbeats 1000000
namespace DL
open PySem PySem.Spec PyProof.Rows L2
/-! ### == and != -/
/-- pairs of which == is known without a look at the data's form -/
def scalD : PyData → PyData → Bool
  | .none, .none => true | .none, .int _ => true | .int _, .none => true | .none, .bool _ => true | .bool _, .none => true | .none, .str _ => true | .str _, .none => true
  | .int _, .int _ => true | .bool _, .bool _ => true | .str _, .str _ => true
  | .int _, .str _ => true | .str _, .int _ => true | .bool _, .str _ => true | .str _, .bool _ => true
  | _, _ => false
def shp (d : PyData) : Bool := SeqAt.shaped d
def eqOk (x y : PyData) : Bool := scalD x y || (shp x && shp y)
def gEq (x y : PyData) : Option PyData := if eqOk x y = true then some (.bool (PyData.eqv x y)) else none
def gNe (x y : PyData) : Option PyData := if eqOk x y = true then some (.bool (!PyData.eqv x y)) else none
section
variable {K : PySem.W.Frag} {M : List Addr} {H : Hp} {x y : V} {dx dy : PyData}
theorem scal_rel (h1 : dB K S M H x dx) (h2 : dB K S M H y dy) (hs : scalD dx dy = true) : scal x y = true ∧ decide (x = y) = PyData.eqv dx dy := by
  cases dx with
  | none =>
    rw [h1.non]
    cases dy with
    | none => rw [h2.non]; exact ⟨rfl, rfl⟩
    | bool b => rw [h2.bl]; exact ⟨rfl, rfl⟩
    | int b => rw [h2.int]; exact ⟨rfl, rfl⟩
    | str b => rw [h2.str]; exact ⟨rfl, rfl⟩
    | _ => cases hs
  | bool a =>
    rw [h1.bl]
    cases dy with
    | none => rw [h2.non]; exact ⟨rfl, rfl⟩
    | bool b => rw [h2.bl]; exact ⟨rfl, by rw [dec_bl]; rfl⟩
    | str b => rw [h2.str]; exact ⟨rfl, rfl⟩
    | _ => cases hs
  | int a =>
    rw [h1.int]
    cases dy with
    | none => rw [h2.non]; exact ⟨rfl, rfl⟩
    | int b => rw [h2.int]; exact ⟨rfl, by rw [dec_int]; rfl⟩
    | str b => rw [h2.str]; exact ⟨rfl, rfl⟩
    | _ => cases hs
  | str a =>
    rw [h1.str]
    cases dy with
    | none => rw [h2.non]; exact ⟨rfl, rfl⟩
    | bool b => rw [h2.bl]; exact ⟨rfl, rfl⟩
    | int b => rw [h2.int]; exact ⟨rfl, rfl⟩
    | str b => rw [h2.str]; exact ⟨rfl, by rw [dec_str]; rfl⟩
    | _ => cases hs
  | _ => cases hs
end
section
variable {X : Cx}
theorem od_eq (hu : X.A.units + 64 < cLine) : OpD X (compareOp .Eq) gEq := by
  intro pins s σ H x y v u Q I rx ry ⟨B0, S, M, dx, dy, d, hB, hM, h1, h2, hg, k⟩
  unfold gEq at hg
  by_cases hc : eqOk dx dy = true
  · rw [if_pos hc] at hg
    cases hg
    rcases Bool.or_eq_true_iff.mp hc with hs | hs
    · obtain ⟨e1, e2⟩ := scal_rel h1 h2 hs
      exact op_eq pins s σ H x y v u Q I rx ry ⟨e1, by rw [e2]; exact k _ _ (Same.refl H) (.bl _)⟩
    · obtain ⟨e1, e2⟩ := Bool.and_eq_true_iff.mp hs
      exact op_eqD hu pins s σ H x y v u Q I rx ry ⟨dx, dy, h1.dp, h2.dp, e1, e2, k _ _ (Same.refl H) (.bl _)⟩
  · rw [if_neg hc] at hg; cases hg
theorem od_ne (hu : X.A.units + 64 < cLine) : OpD X (compareOp .NotEq) gNe := by
  intro pins s σ H x y v u Q I rx ry ⟨B0, S, M, dx, dy, d, hB, hM, h1, h2, hg, k⟩
  unfold gNe at hg
  by_cases hc : eqOk dx dy = true
  · rw [if_pos hc] at hg
    cases hg
    rcases Bool.or_eq_true_iff.mp hc with hs | hs
    · obtain ⟨e1, e2⟩ := scal_rel h1 h2 hs
      exact op_ne pins s σ H x y v u Q I rx ry ⟨e1, by rw [e2]; exact k _ _ (Same.refl H) (.bl _)⟩
    · obtain ⟨e1, e2⟩ := Bool.and_eq_true_iff.mp hs
      exact op_neD hu pins s σ H x y v u Q I rx ry ⟨dx, dy, h1.dp, h2.dp, e1, e2, k _ _ (Same.refl H) (.bl _)⟩
  · rw [if_neg hc] at hg; cases hg
end
/-! ### in, not in -/
def flatD : PyData → Bool
  | .none => true
  | .bool _ => true
  | .int _ => true
  | .str _ => true
  | _ => false
def inOk (x : PyData) (ds : List PyData) : Bool := (flatD x && ds.all flatD) || (shp x && shp (.tuple ds))
def inD (x : PyData) (ds : List PyData) : Bool := ds.any fun z => PyData.eqv z x
def gIn (x y : PyData) : Option PyData := match y with
  | .list ds => if inOk x ds = true then some (.bool (inD x ds)) else none
  | .tuple ds => if inOk x ds = true then some (.bool (inD x ds)) else none
  | .str j => match x with
    | .str i => some (.bool (!(Builtin.Str.occurrences j i 0 j.length 1).isEmpty))
    | _ => none
  | _ => none
def gNotIn (x y : PyData) : Option PyData := match gIn x y with
  | some (.bool b) => some (.bool (!b))
  | _ => none
section
variable {K : PySem.W.Frag} {M : List Addr} {H : Hp}
theorem flat_rel {x : V} {dx : PyData} (h : Dp K H x dx) (hf : flatD dx = true) : flatV x = true := by
  cases h <;> first | rfl | cases hf
theorem flat_eq {x y : V} {dx dy : PyData} (h : Dp K H x dx) (h' : Dp K H y dy) (hf : flatD dx = true) (hf' : flatD dy = true) : eqV x y = PyData.eqv dx dy := by
  cases h <;> first
    | (cases hf; done)
    | (cases h' <;> first
        | (cases hf'; done)
        | rfl)
theorem flat_all : ∀ {vs : List V} {ds : List PyData}, DpAll K H vs ds → ds.all flatD = true → vs.all flatV = true
  | _, _, .nil, _ => rfl
  | _, _, .cons r t, h => by
    rw [List.all_cons, Bool.and_eq_true] at h ⊢
    exact ⟨flat_rel r h.1, flat_all t h.2⟩
theorem flat_in {x : V} {dx : PyData} (h : Dp K H x dx) (hf : flatD dx = true) : ∀ {vs : List V} {ds : List PyData}, DpAll K H vs ds → ds.all flatD = true → inV x vs = inD dx ds
  | _, _, .nil, _ => rfl
  | _, _, .cons r t, hs => by
    rw [List.all_cons, Bool.and_eq_true] at hs
    unfold inV inD
    rw [List.any_cons, List.any_cons, flat_eq r h hs.1 hf]
    exact congrArg _ (flat_in h hf t hs.2)
theorem dB.all {x : V} {dx : PyData} (h : dB K S M H x dx) : Dp K H x dx := h.dp
end
section
variable {X : Cx}
theorem shp_parts {ds : List PyData} {b : PyData} (h : b = .tuple ds ∨ b = .list ds) (hs : shp (.tuple ds) = true) : PyData.canLayAll0 ds = true := by
  have z : PyData.canLay0 (.tuple ds) = true := SeqAt.canLay_of_shaped hs
  simpa [PyData.canLay0] using z
theorem in_room {A : Around} {ds : List PyData} {d : PyData} (h : shp d = true) (hu : A.units + 65 < cLine) : A.units + 1 + min (PyData.depthAll ds) d.depth < cLine := by
  have h1 := SeqAt.depth_of_shaped h
  have h2 : min (PyData.depthAll ds) d.depth ≤ d.depth := Nat.min_le_right _ _
  omega
theorem od_in (hu : X.A.units + 65 < cLine) : OpD X (compareOp .In) gIn := by
  intro pins s σ H x y v u Q I rx ry ⟨B0, S, M, dx, dy, d, hB, hM, h1, h2, hg, k⟩
  cases dy with
  | list ds =>
    have hg : (if inOk dx ds = true then some (PyData.bool (inD dx ds)) else none) = some d := hg
    by_cases hc : inOk dx ds = true
    · rw [if_pos hc] at hg
      cases hg
      have k1 := k (.bl (inD dx ds)) H (Same.refl H) (.bl _)
      rcases Bool.or_eq_true_iff.mp hc with hs | hs
      · obtain ⟨e1, e2⟩ := Bool.and_eq_true_iff.mp hs
        obtain ⟨p, xs, e3, q1, a1⟩ := h2.lst
        have a2 := dpa_mono hid_le ds xs a1
        refine op_in_seq pins s σ H x y v u Q I rx ry ⟨p, xs, e3, .inl q1, flat_rel h1.dp e1, flat_all a2 e2, ?_⟩
        show Q (.bl (inV x xs)) H
        rw [flat_in h1.dp e1 a2 e2]
        exact k1
      · obtain ⟨e1, e2⟩ := Bool.and_eq_true_iff.mp hs
        obtain ⟨as, r1⟩ := Dp.reads I dx x v h1.dp rx
        obtain ⟨bs, r2⟩ := Dp.reads I (.list ds) y u h2.dp ry
        exact SeqAt.in_list_reads r2 r1 (shp_parts (.inr rfl) e2) (SeqAt.canLay_of_shaped e1) (in_room e1 hu) ⟨.bl _, H, I, rfl, k1⟩
    · rw [if_neg hc] at hg; cases hg
  | tuple ds =>
    have hg : (if inOk dx ds = true then some (PyData.bool (inD dx ds)) else none) = some d := hg
    by_cases hc : inOk dx ds = true
    · rw [if_pos hc] at hg
      cases hg
      have k1 := k (.bl (inD dx ds)) H (Same.refl H) (.bl _)
      rcases Bool.or_eq_true_iff.mp hc with hs | hs
      · obtain ⟨e1, e2⟩ := Bool.and_eq_true_iff.mp hs
        obtain ⟨p, xs, e3, q1, a1⟩ := h2.tup
        have a2 := dpa_mono hid_le ds xs a1
        refine op_in_seq pins s σ H x y v u Q I rx ry ⟨p, xs, e3, .inr q1, flat_rel h1.dp e1, flat_all a2 e2, ?_⟩
        show Q (.bl (inV x xs)) H
        rw [flat_in h1.dp e1 a2 e2]
        exact k1
      · obtain ⟨e1, e2⟩ := Bool.and_eq_true_iff.mp hs
        obtain ⟨as, r1⟩ := Dp.reads I dx x v h1.dp rx
        obtain ⟨bs, r2⟩ := Dp.reads I (.tuple ds) y u h2.dp ry
        exact SeqAt.in_tuple_reads r2 r1 (shp_parts (.inl rfl) e2) (SeqAt.canLay_of_shaped e1) (in_room e1 hu) ⟨.bl _, H, I, rfl, k1⟩
    · rw [if_neg hc] at hg; cases hg
  | str j =>
    cases dx with
    | str i =>
      cases hg
      exact op_in_str pins s σ H x y v u Q I rx ry ⟨i, j, h1.str, h2.str, k _ _ (Same.refl H) (.bl _)⟩
    | _ => cases hg
  | _ => cases hg
theorem od_notIn (hu : X.A.units + 65 < cLine) : OpD X (compareOp .NotIn) gNotIn := by
  intro pins s σ H x y v u Q I rx ry ⟨B0, S, M, dx, dy, d, hB, hM, h1, h2, hg, k⟩
  cases dy with
  | list ds =>
    by_cases hc : inOk dx ds = true
    · have hg : (match (if inOk dx ds = true then some (PyData.bool (inD dx ds)) else none) with | some (.bool b) => some (PyData.bool (!b)) | _ => none) = some d := hg
      rw [if_pos hc] at hg
      cases hg
      have k1 := k (.bl (!inD dx ds)) H (Same.refl H) (.bl _)
      rcases Bool.or_eq_true_iff.mp hc with hs | hs
      · obtain ⟨e1, e2⟩ := Bool.and_eq_true_iff.mp hs
        obtain ⟨p, xs, e3, q1, a1⟩ := h2.lst
        have a2 := dpa_mono hid_le ds xs a1
        refine op_notIn_seq pins s σ H x y v u Q I rx ry ⟨p, xs, e3, .inl q1, flat_rel h1.dp e1, flat_all a2 e2, ?_⟩
        show Q (.bl (!inV x xs)) H
        rw [flat_in h1.dp e1 a2 e2]
        exact k1
      · obtain ⟨e1, e2⟩ := Bool.and_eq_true_iff.mp hs
        obtain ⟨as, r1⟩ := Dp.reads I dx x v h1.dp rx
        obtain ⟨bs, r2⟩ := Dp.reads I (.list ds) y u h2.dp ry
        exact SeqAt.notIn_list_reads r2 r1 (shp_parts (.inr rfl) e2) (SeqAt.canLay_of_shaped e1) (in_room e1 hu) ⟨.bl _, H, I, rfl, k1⟩
    · have hg : (match (if inOk dx ds = true then some (PyData.bool (inD dx ds)) else none) with | some (.bool b) => some (PyData.bool (!b)) | _ => none) = some d := hg
      rw [if_neg hc] at hg; cases hg
  | tuple ds =>
    by_cases hc : inOk dx ds = true
    · have hg : (match (if inOk dx ds = true then some (PyData.bool (inD dx ds)) else none) with | some (.bool b) => some (PyData.bool (!b)) | _ => none) = some d := hg
      rw [if_pos hc] at hg
      cases hg
      have k1 := k (.bl (!inD dx ds)) H (Same.refl H) (.bl _)
      rcases Bool.or_eq_true_iff.mp hc with hs | hs
      · obtain ⟨e1, e2⟩ := Bool.and_eq_true_iff.mp hs
        obtain ⟨p, xs, e3, q1, a1⟩ := h2.tup
        have a2 := dpa_mono hid_le ds xs a1
        refine op_notIn_seq pins s σ H x y v u Q I rx ry ⟨p, xs, e3, .inr q1, flat_rel h1.dp e1, flat_all a2 e2, ?_⟩
        show Q (.bl (!inV x xs)) H
        rw [flat_in h1.dp e1 a2 e2]
        exact k1
      · obtain ⟨e1, e2⟩ := Bool.and_eq_true_iff.mp hs
        obtain ⟨as, r1⟩ := Dp.reads I dx x v h1.dp rx
        obtain ⟨bs, r2⟩ := Dp.reads I (.tuple ds) y u h2.dp ry
        exact SeqAt.notIn_tuple_reads r2 r1 (shp_parts (.inl rfl) e2) (SeqAt.canLay_of_shaped e1) (in_room e1 hu) ⟨.bl _, H, I, rfl, k1⟩
    · have hg : (match (if inOk dx ds = true then some (PyData.bool (inD dx ds)) else none) with | some (.bool b) => some (PyData.bool (!b)) | _ => none) = some d := hg
      rw [if_neg hc] at hg; cases hg
  | str j =>
    cases dx with
    | str i =>
      cases hg
      exact op_notIn_str pins s σ H x y v u Q I rx ry ⟨i, j, h1.str, h2.str, k _ _ (Same.refl H) (.bl _)⟩
    | _ => cases hg
  | _ => cases hg
/-! ### is, is not: against None, between bools -/
def isN : PyData → Bool
  | .none => true
  | _ => false
def gIs (x y : PyData) : Option PyData := match y with
  | .none => some (.bool (isN x))
  | .bool b => match x with
    | .bool a => some (.bool (decide (a = b)))
    | _ => none
  | _ => none
def gIsNot (x y : PyData) : Option PyData := match y with
  | .none => some (.bool (!isN x))
  | .bool b => match x with
    | .bool a => some (.bool (!decide (a = b)))
    | _ => none
  | _ => none
theorem non_rel {K : PySem.W.Frag} {M : List Addr} {H : Hp} {x : V} {dx : PyData} (h : dB K S M H x dx) : decide (x = V.non) = isN dx := by
  cases dx with
  | none => rw [h.non]; rfl
  | bool b => rw [h.bl]; rfl
  | int b => rw [h.int]; rfl
  | str b => rw [h.str]; rfl
  | list b => obtain ⟨p, xs, e, _⟩ := h.lst; rw [e]; rfl
  | tuple b => obtain ⟨p, xs, e, _⟩ := h.tup; rw [e]; rfl
  | dict b => exact h.dict.elim
theorem od_is : OpD X (compareOp .Is) gIs := by
  intro pins s σ H x y v u Q I rx ry ⟨B0, S, M, dx, dy, d, hB, hM, h1, h2, hg, k⟩
  cases dy with
  | none =>
    cases hg
    refine op_isN pins s σ H x y v u Q I rx ry ⟨h2.non, ?_⟩
    rw [non_rel h1]
    exact k _ _ (Same.refl H) (.bl _)
  | bool b =>
    cases dx with
    | bool a =>
      cases hg
      exact op_isBl pins s σ H x y v u Q I rx ry ⟨a, b, h1.bl, h2.bl, k _ _ (Same.refl H) (.bl _)⟩
    | _ => cases hg
  | _ => cases hg
theorem od_isNot : OpD X (compareOp .IsNot) gIsNot := by
  intro pins s σ H x y v u Q I rx ry ⟨B0, S, M, dx, dy, d, hB, hM, h1, h2, hg, k⟩
  cases dy with
  | none =>
    cases hg
    refine op_notN pins s σ H x y v u Q I rx ry ⟨h2.non, ?_⟩
    rw [non_rel h1]
    exact k _ _ (Same.refl H) (.bl _)
  | bool b =>
    cases dx with
    | bool a =>
      cases hg
      exact op_notBl pins s σ H x y v u Q I rx ry ⟨a, b, h1.bl, h2.bl, k _ _ (Same.refl H) (.bl _)⟩
    | _ => cases hg
  | _ => cases hg
end
/-! ### chains -/
def fChain (g g' : PyData → PyData → Option PyData) (fa fb fc : Rho → R PyData) : Rho → R PyData := fun ρ => (fa ρ).bind fun x => (fb ρ).bind fun y => (R.ofO (g x y)).bind fun z => (tr z).bind fun k =>
  if k = true then (fc ρ).bind fun w => R.ofO (g' y w) else .ok (.bool false)
section
variable {X : Cx} {ec : EC} {Ef : L2.St → XK} {O : List Nat} {a b c : Expr} {fa fb fc : Rho → R PyData} {g g' : PyData → PyData → Option PyData} {pos : Pos}
theorem chain_imp (σ : L2.St) (H : Hp) (Q : VK) (h : tG X.K ec Ef O (fun _ _ => dV X.K) (fChain g g' fa fb fc) σ H Q) :
    tChain (rD X.K (fun _ => dV X.K) g) (rD X.K (fun _ => dV X.K) g') (tG X.K ec Ef O (fun _ S => dB X.K S) fa) (tG X.K ec Ef O (fun _ S => dB X.K S) fb) (tG X.K ec Ef O (fun _ S => dB X.K S) fc) σ H Q := by
  obtain ⟨B, P, Z, ρ, hE, p⟩ := h
  refine ⟨B, P, Z, ρ, hE, (Post.bind p).imp fun v H1 ⟨dx, _, s1, d1, p1⟩ => ⟨B, P, Z, ρ, hE.same s1, (Post.bind p1).imp fun u H2 ⟨dy, _, s2, d2, p2⟩ => ?_⟩⟩
  have hE2 := (hE.same s1).same s2
  cases hg : g dx dy with
  | none => rw [hg] at p2; exact p2.elim
  | some d =>
    rw [hg] at p2
    refine ⟨H, B.S, P ++ Z, dx, dy, d, (s1.trans s2).free hE.so, hE2.trk, d1.mono s2, d2, hg, fun z H3 s3' d3 => ?_⟩
    have s3 : Gr B.S (P ++ Z) H2 H3 := .of s3'
    rcases tr_case (d := d) with ⟨k, rfl, e⟩ | e
    · have p3 : Post B.S X.K ec (dV X.K (P ++ Z)) (P ++ Z) (Ef σ) H3 Q ((tr (.bool k)).bind fun k => if k = true then (fc ρ).bind fun w => R.ofO (g' dy w) else .ok (.bool false)) := Post.move s3 p2
      refine ⟨k, by cases d3; rfl, ?_⟩
      cases k with
      | false =>
        rw [if_neg Bool.false_ne_true]
        exact (show Post B.S X.K ec (dV X.K (P ++ Z)) (P ++ Z) (Ef σ) H3 Q (.ok (.bool false)) from p3).ok (.bl false)
      | true =>
        rw [if_pos rfl]
        have p4 : Post B.S X.K ec (dV X.K (P ++ Z)) (P ++ Z) (Ef σ) H3 Q ((fc ρ).bind fun w => R.ofO (g' dy w)) := p3
        refine ⟨B, P, Z, ρ, hE2.same s3, (Post.bind p4).imp fun w H4 ⟨dw, _, s4, d4, p5⟩ => ?_⟩
        cases hg' : g' dy dw with
        | none => rw [hg'] at p5; exact p5.elim
        | some d' =>
          rw [hg'] at p5
          exact ⟨H, B.S, P ++ Z, dy, dw, d', (((s1.trans s2).trans s3).trans s4).free hE.so, ((hE2.same s3).same s4).trk, (d2.mono s3).mono s4, d4, hg', fun z' H' s5 d5 => p5 z' H' (.of s5) d5⟩
    · exfalso
      have p2 : Post B.S X.K ec (dV X.K (P ++ Z)) (P ++ Z) (Ef σ) H2 Q ((tr d).bind fun k => if k = true then (fc ρ).bind fun w => R.ofO (g' dy w) else .ok (.bool false)) := p2
      rw [e] at p2
      exact p2.elim
theorem de_chain {op op' : CmpOp} (ho : OpD X (compareOp op) g) (ho' : OpD X (compareOp op') g') (ha : DB X ec Ef O a fa) (hb : DB X ec Ef O b fb) (hc : DB X ec Ef O c fc)
    (hm : lastMarks [op, op'] [b, c] = false := by with_unfolding_all rfl) : DE X ec Ef O (.Compare a [op, op'] [b, c] pos) (fChain g g' fa fb fc) := ⟨(pe_chain ho ho' ha.pe hb.pe hc.pe hm).imp chain_imp⟩
theorem dt_chain {op op' : CmpOp} (ho : OpD X (compareOp op) g) (ho' : OpD X (compareOp op') g') (ha : DB X ec Ef O a fa) (hb : DB X ec Ef O b fb) (hc : DB X ec Ef O c fc)
    (hm : lastMarks [op, op'] [b, c] = false := by with_unfolding_all rfl) : DT X ec Ef O (.Compare a [op, op'] [b, c] pos) (fun ρ => (fChain g g' fa fb fc ρ).bind tr) :=
  ⟨(pt_chain ho ho' ha.pe hb.pe hc.pe hm).imp fun σ H Q ⟨B, P, Z, ρ, hE, p⟩ => chain_imp (ec := ec) (Ef := Ef) (O := O) σ H _ ⟨B, P, Z, ρ, hE, (Post.bind p).imp fun v H1 ⟨d, _, s1, d1, p1⟩ => by
    rcases tr_case (d := d) with ⟨c, rfl, e⟩ | e
    · rw [e] at p1
      have e2 : v = .bl c := by cases d1; rfl
      exact ⟨c, e2, p1.ok rfl⟩
    · rw [e] at p1; exact p1.elim⟩⟩
end
end DL
set_option Elab.async false
set_option linter.all false
set_option maxRecDepth 100000
set_option maxHeartbeats 1000000
namespace DL
open PySem PySem.Spec PyProof.Rows L2
/-! ### an item -/
def gIx (x y : PyData) : Option PyData := match x, y with
  | .list ds, .int i => atI ds i
  | .tuple ds, .int i => atI ds i
  | .str s, .int i => if s.length ≤ sizeLine then (atI s.cps.toList i).map fun c => .str ⟨#[c]⟩ else none
  | _, _ => none
section
variable {K : PySem.W.Frag} {H : Hp}
theorem dpa_at {vs : List V} {ds : List PyData} {i : Int} {d : PyData} (h : DpAll K H vs ds) (e : atI ds i = some d) : ∃ v, atI vs i = some v ∧ Dp K H v d := by
  unfold atI at e ⊢
  rw [dpa_len h]
  cases hj : ixN ds.length i with
  | none => rw [hj] at e; cases e
  | some j =>
    rw [hj] at e
    have e2 : ds[j]? = some d := e
    exact dpa_get' h e2
end
section
variable {X : Cx} {ec : EC} {Ef : L2.St → XK} {O : List Nat} {a b : Expr} {fa fb : Rho → R PyData} {pos : Pos}
theorem de_ix (ha : DB X ec Ef O a fa) (hb : DB X ec Ef O b fb) (hs : PlainIx b) : DE X ec Ef O (.Subscript a b pos) (fBin gIx fa fb) :=
  ⟨(pe_ix ix_seq ha.pe hb.pe hs).imp fun σ H Q h => by
    have h2 := bin_imp (ec := ec) (Ef := Ef) (O := O) (den := fun _ => dV X.K) σ H Q h
    obtain ⟨B, P, Z, ρ, hE, p⟩ := h2
    refine ⟨B, P, Z, ρ, hE, p.imp fun v H1 ⟨B, P, Z, ρ, hE, p⟩ => ⟨B, P, Z, ρ, hE, p.imp fun u H2 ⟨B0, S, M, dx, dy, d, hB, hM, h1, h2, hg, k⟩ => ?_⟩⟩
    cases dy with
    | int i =>
      cases dx with
      | list ds =>
        obtain ⟨q, xs, e1, q1, a1⟩ := h1.lst
        obtain ⟨w, e2, d2⟩ := dpa_at a1 (show atI ds i = some d from hg)
        exact .inl ⟨q, xs, i, w, e1, h2.int, q1, e2, k _ _ (Same.refl _) d2⟩
      | tuple ds =>
        obtain ⟨q, xs, e1, q1, a1⟩ := h1.tup
        obtain ⟨w, e2, d2⟩ := dpa_at a1 (show atI ds i = some d from hg)
        exact .inr (.inl ⟨q, xs, i, w, e1, h2.int, q1, e2, k _ _ (Same.refl _) d2⟩)
      | str z =>
        have hg : (if z.length ≤ sizeLine then (atI z.cps.toList i).map fun c => PyData.str ⟨#[c]⟩ else none) = some d := hg
        by_cases hl : z.length ≤ sizeLine
        · rw [if_pos hl] at hg
          cases hc : atI z.cps.toList i with
          | none => rw [hc] at hg; cases hg
          | some c =>
            rw [hc] at hg
            cases hg
            exact .inr (.inr ⟨z, i, c, h1.str, h2.int, hl, hc, k _ _ (Same.refl _) (.str _)⟩)
        · rw [if_neg hl] at hg; cases hg
      | _ => cases hg
    | _ => cases dx <;> cases hg⟩
end
/-! ### slices -/
structure DP (X : Cx) (ec : EC) (Ef : L2.St → XK) (O : List Nat) (e : Option Expr) (f : Rho → R (Option Int)) : Prop where
  po : PO X e (tG X.K ec Ef O (fun _ _ _ _ (o : Option Int) o' => o = o') f)
theorem _root_.L2.PO.imp {X : Cx} {e : Option Expr} {t t' : TO} (h : PO X e t) (hi : ∀ σ H Q, t' σ H Q → t σ H Q) : PO X e t' := ⟨fun pins s σ H Q I hw => h.run pins s σ H Q I (hi σ H Q hw)⟩
def toI (d : PyData) : R (Option Int) := match d with
  | .int i => .ok (some i)
  | _ => .bad
theorem toI_case {d : PyData} : (∃ b, d = .int b ∧ toI d = .ok (some b)) ∨ toI d = .bad := by
  cases d <;> first | exact .inl ⟨_, rfl, rfl⟩ | exact .inr rfl
def cutD (xs : List PyData) (lo hi : Option Int) : List PyData := (xs.drop (HT.sIx xs.length 0 lo)).take (HT.sIx xs.length xs.length hi - HT.sIx xs.length 0 lo)
theorem dpa_cut {K : PySem.W.Frag} {H : Hp} {vs : List V} {ds : List PyData} (lo hi : Option Int) (h : DpAll K H vs ds) : DpAll K H (cutV vs lo hi) (cutD ds lo hi) := by
  unfold cutV cutD
  rw [dpa_len h]
  exact dpa_take _ (dpa_drop _ h)
def gSl (x : PyData) (lo hi : Option Int) : Option PyData := match x with
  | .tuple ds => some (.tuple (cutD ds lo hi))
  | .str z => if z.length ≤ sizeLine then some (.str (cutS z lo hi)) else none
  | _ => none
def gSlL (x : PyData) (lo hi : Option Int) : Option PyData := match x with
  | .list ds => some (.list (cutD ds lo hi))
  | _ => none
def fSl (g : PyData → Option Int → Option Int → Option PyData) (fa : Rho → R PyData) (fl fh : Rho → R (Option Int)) : Rho → R PyData := fun ρ => (fa ρ).bind fun x => (fl ρ).bind fun lo => (fh ρ).bind fun hi => R.ofO (g x lo hi)
section
variable {X : Cx} {ec : EC} {Ef : L2.St → XK} {O : List Nat} {a b : Expr} {fa fb : Rho → R PyData} {pos p2 : Pos} {lo hi : Option Expr} {fl fh : Rho → R (Option Int)}
theorem dp_none : DP X ec Ef O none (fun _ => .ok none) := ⟨po_none.imp fun σ H Q ⟨B, P, Z, ρ, hE, p⟩ => (show Post B.S X.K ec (fun _ (o : Option Int) o' => o = o') (P ++ Z) (Ef σ) H Q (.ok none) from p).ok rfl⟩
theorem dp_some (h : DB X ec Ef O a fa) : DP X ec Ef O (some a) (fun ρ => (fa ρ).bind toI) := ⟨(po_some h.pe).imp fun σ H Q ⟨B, P, Z, ρ, hE, p⟩ => ⟨B, P, Z, ρ, hE, (Post.bind p).imp fun v H1 ⟨d, _, s1, d1, p1⟩ => by
  rcases toI_case (d := d) with ⟨c, rfl, e⟩ | e
  · rw [e] at p1
    exact ⟨c, d1.int, p1.ok rfl⟩
  · rw [e] at p1; exact p1.elim⟩⟩
theorem de_sl (ha : DB X ec Ef O a fa) (hl : DP X ec Ef O lo fl) (hh : DP X ec Ef O hi fh) : DE X ec Ef O (.Subscript a (.Slice lo hi none p2) pos) (fSl gSl fa fl fh) :=
  ⟨(pe_slice (SlR.or sl_tupA sl_str) ha.pe hl.po hh.po).imp fun σ H Q ⟨B, P, Z, ρ, hE, p⟩ => ⟨B, P, Z, ρ, hE, (Post.bind p).imp fun v H1 ⟨dx, _, s1, d1, p1⟩ => ⟨B, P, Z, ρ, hE.same s1, (Post.bind p1).imp fun l H2 ⟨l', _, s2, e2, p2⟩ => ⟨B, P, Z, ρ, (hE.same s1).same s2, (Post.bind p2).imp fun u H3 ⟨u', _, s3, e3, p3⟩ => by
    have hE3 := ((hE.same s1).same s2).same s3
    have d3 := (d1.mono s2).mono s3
    subst e2 e3
    cases dx with
    | tuple ds =>
      left
      obtain ⟨q, xs, e1, q1, a1⟩ := d3.tup
      refine ⟨q, xs, e1, q1, fun hw => ?_, fun _ r hr => ?_⟩
      · have hst : dV X.K (P ++ Z) H3 v (.tuple ds) := by
          rcases d3 with z | ⟨_, _, _, _, e, _⟩
          · exact z
          · cases e
        have ec2 : cutD ds l u = ds := by
          unfold cutD
          rw [dpa_len a1] at hw
          rw [hw.1, hw.2, List.drop_zero, Nat.sub_zero, List.take_length]
        have p4 : Post B.S X.K ec (dV X.K (P ++ Z)) (P ++ Z) (Ef σ) H3 Q (.ok (.tuple (cutD ds l u))) := p3
        rw [ec2] at p4
        rw [e1] at hst
        exact p4.ok hst
      · exact (show Post B.S X.K ec (dV X.K (P ++ Z)) (P ++ Z) (Ef σ) H3 Q (.ok (.tuple (cutD ds l u))) from p3) _ _ (.of (same_upd hr)) (new_tup hE3.trk hr (dpa_cut l u a1))
    | str z =>
      right
      have p4 : Post B.S X.K ec (dV X.K (P ++ Z)) (P ++ Z) (Ef σ) H3 Q (R.ofO (if z.length ≤ sizeLine then some (.str (cutS z l u)) else none)) := p3
      by_cases hz : z.length ≤ sizeLine
      · rw [if_pos hz] at p4
        exact ⟨z, d3.str, hz, (show Post B.S X.K ec (dV X.K (P ++ Z)) (P ++ Z) (Ef σ) H3 Q (.ok (.str (cutS z l u))) from p4).ok (.str _)⟩
      · rw [if_neg hz] at p4; exact p4.elim
    | _ => exact p3.elim⟩⟩⟩⟩
theorem df_sl (ha : DB X ec Ef O a fa) (hl : DP X ec Ef O lo fl) (hh : DP X ec Ef O hi fh) : DF X ec Ef O (.Subscript a (.Slice lo hi none p2) pos) (fSl gSlL fa fl fh) :=
  ⟨(pe_slice sl_list ha.pe hl.po hh.po).imp fun σ H Q ⟨B, P, Z, ρ, hE, p⟩ => ⟨B, P, Z, ρ, hE, (Post.bind p).imp fun v H1 ⟨dx, _, s1, d1, p1⟩ => ⟨B, P, Z, ρ, hE.same s1, (Post.bind p1).imp fun l H2 ⟨l', _, s2, e2, p2⟩ => ⟨B, P, Z, ρ, (hE.same s1).same s2, (Post.bind p2).imp fun u H3 ⟨u', _, s3, e3, p3⟩ => by
    have hE3 := ((hE.same s1).same s2).same s3
    have d3 := (d1.mono s2).mono s3
    subst e2 e3
    cases dx with
    | list ds =>
      obtain ⟨q, xs, e1, q1, a1⟩ := d3.lst
      exact ⟨q, xs, e1, q1, fun r hr => (show Post B.S X.K ec (dF X.K H (P ++ Z)) (P ++ Z) (Ef σ) H3 Q (.ok (.list (cutD ds l u))) from p3) _ _ (.of (same_upd hr)) (new_lst (((s1.trans s2).trans s3).free hE.so) hE3.trk hr (dpa_cut l u a1))⟩
    | _ => exact p3.elim⟩⟩⟩⟩
end
/-! ### [::-1] -/
section
variable {prog : Program} {w : World} {A : Around} {E : Value → Shared → Prop} {s : Shared}
theorem places_rev (n : Nat) : Builtin.Slice.slicePlaces ((n : Int) - 1) (-1) (-1) = n := by
  unfold Builtin.Slice.slicePlaces
  have h1 : ¬ ((-1 : Int) > 0) := by omega
  rw [if_neg h1]
  by_cases hn : n = 0
  · subst hn; rfl
  · rw [if_pos (by omega)]
    have e0 : ((n : Int) - 1 - -1 - 1) = (n : Int) - 1 := by omega
    have e1 : (- (-1) : Int) = 1 := rfl
    rw [e0, e1, Int.ediv_one, Int.sub_add_cancel]
    exact Int.toNat_natCast n
theorem applied_rev {sl : Addr} {t : Tok} {n : Nat} {Q : Int × Int × Nat → Shared → Prop} (hs : s.heap.IsSliceOf sl .none .none (.int (-1) t))
    (h : Q ((n : Int) - 1, -1, n) s) : wpAny (model prog w) A (Builtin.Slice.sliceApplied (.ref sl) (pure (n : Int))) Q E s := by
  obtain ⟨os, hos, hcs, hds⟩ := id hs
  unfold Builtin.Slice.sliceApplied Builtin.Slice.sliceFields
  refine wpAny_bind (wpAny_bind (wpAny_field hos hds (x := .none) rfl (wpAny_bind (wpAny_field hos hds (x := .none) rfl (wpAny_bind (wpAny_field hos hds (x := .int (-1) t) rfl (wpAny_pure ?_)))))))
  refine wpAny_bind (slicePart_int ?_)
  show wpAny _ _ (if ((-1 : Int) == 0) = true then _ else _) _ _ s
  rw [if_neg (by decide)]
  refine wpAny_bind (slicePart_none (wpAny_bind (slicePart_none (wpAny_bind (wpAny_pure ?_)))))
  show wpAny _ _ (pure ((n : Int) - 1, (-1 : Int), Builtin.Slice.slicePlaces ((n : Int) - 1) (-1) (-1))) _ _ s
  rw [places_rev]
  exact wpAny_pure h
theorem pick_rev (xs : Array Value) : ((List.range xs.size).filterMap fun (m : Nat) => xs[((xs.size : Int) - 1 + (m : Int) * (-1)).toNat]?).toArray = xs.toList.reverse.toArray := by
  have key : ∀ k, k ≤ xs.size → (List.range k).filterMap (fun (m : Nat) => xs[((xs.size : Int) - 1 + (m : Int) * (-1)).toNat]?) = (xs.toList.drop (xs.size - k)).reverse := by
    intro k
    induction k with
    | zero => intro _; rw [Nat.sub_zero, List.drop_of_length_le (by rw [Array.length_toList]; exact Nat.le_refl _)]; rfl
    | succ k ih =>
      intro hk
      rw [List.range_succ, List.filterMap_append, ih (by omega)]
      have e : ((xs.size : Int) - 1 + (k : Int) * (-1)).toNat = xs.size - (k + 1) := by omega
      have hlt : xs.size - (k + 1) < xs.size := by omega
      rw [List.filterMap_cons, e, Array.getElem?_eq_getElem hlt]
      show _ ++ [xs[xs.size - (k + 1)]] = _
      have hl : xs.size - (k + 1) < xs.toList.length := by rw [Array.length_toList]; exact hlt
      rw [List.drop_eq_getElem_cons hl, List.reverse_cons, show xs.size - (k + 1) + 1 = xs.size - k by omega, Array.getElem_toList]
  rw [key xs.size (Nat.le_refl _), Nat.sub_self, List.drop_zero]
theorem getItem_tuple_rev {t sl : Addr} {items : Array Value} {tk : Tok} {Q : Value → Shared → Prop} (ht : IsTup s.heap t items) (hs : s.heap.IsSliceOf sl .none .none (.int (-1) tk))
    (h : Q (.ref s.heap.objs.size) { s with heap := s.heap.push { cls := .type "tuple", data := .seq items.toList.reverse.toArray } }) (hsz : items.size ≤ sizeLine) : wpAny (model prog w) A (getItem (.ref t) (.ref sl)) Q E s := by
  have htake : sizeOk (.seq items.toList.reverse.toArray) := by
    show items.toList.reverse.toArray.size ≤ sizeLine
    rw [List.size_toArray, List.length_reverse, Array.length_toList]
    exact hsz
  obtain ⟨os, hos, hcs, hds⟩ := id hs
  have hTs : s.TypeIs (.ref sl) "slice" := ⟨os, hos, hcs⟩
  unfold getItem
  try with_reducible refine wpAny_holding ?_
  first | refine wpAny_bind (wpAny_pure ?_) | skip
  refine wpAny_bind (wpAny_sequenceKey ht.typeIs (by decide) ?_)
  refine wpAny_bind (wpAny_callSpecial?_slot (name := Str.ofString "__getitem__") ht.typeIs PyProof.Rows.slot_tuple_getitem (wpAny_call_entry PyProof.Rows.slot_tuple_getitem ht.typeIs entry_tuple_getitem ?_ (args_tuple_getitem _ _)))
  show wpAny _ _ (Builtin.Tuple.tupleItemsOf (.ref t) >>= _) _ _ s
  refine wpAny_bind (tupleItemsOf_ ht (wpAny_bind (wpAny_typeOf hTs ?_)))
  rw [if_pos (by decide)]
  refine wpAny_bind (applied_rev hs ?_)
  have hno : ¬ ((((items.size : Int) - 1) == 0 && (-1 : Int) == 1 && items.size == items.size) = true) := by simp
  show wpAny _ _ (if (((items.size : Int) - 1) == 0 && (-1 : Int) == 1 && items.size == items.size) = true then _ else _) _ _ s
  rw [if_neg hno, pick_rev]
  first
    | exact wpAny_bind (m := Builtin.Tuple.tupleExact _) (wpAny_newObj_type (wpAny_pure ⟨_, rfl, wpAny_pure h⟩) htake)
    | exact wpAny_bind (m := Builtin.Tuple.tupleExact _) (wpAny_newObj_type (wpAny_bind (wpAny_pure (wpAny_pure ⟨_, rfl, wpAny_pure h⟩))) htake)
    | exact wpAny_bind (wpAny_bind (m := Builtin.Tuple.tupleExact _) (wpAny_newObj_type (wpAny_pure (wpAny_pure ⟨_, rfl, wpAny_pure h⟩)) htake))
    | exact wpAny_bind (wpAny_bind (m := Builtin.Tuple.tupleExact _) (wpAny_newObj_type (wpAny_pure ⟨_, rfl, wpAny_pure h⟩) htake))
end
def tRevT (K : PySem.W.Frag) (te : TE) : TE := fun σ H Q => te σ H fun x H1 => ∃ a xs, x = .ref a ∧ SqT K H1 a xs ∧ ∀ p, H1 p = none → Q (.ref p) (upd H1 p (.tup xs.reverse))
theorem pe_revT {X : Cx} {e : Expr} {te : TE} {k : Nat} {p1 p2 p3 pos : Pos} (he : PE X e te) : PE X (.Subscript e (.Slice none none (some (.UnaryOp .USub (.Constant (.int 1) k p1) p2)) p3) pos) (tRevT X.K te) := by
  refine ⟨fun pins s σ H Q I h => Subscript_ (thn (he.run pins s σ H _ I h) fun v s1 ⟨x, H1, I1, r1, a, xs, ex, hx, q⟩ => ?_)⟩
  subst ex
  cases r1
  have hst : PO X (some (.UnaryOp .USub (.Constant (.int 1) k p1) p2)) (tPart (tUn (rU fun i => .int (-i)) (tC (.int 1)))) := po_some (pe_un un_neg pe_int)
  refine wpAny_Slice (thn (po_none.run pins s1 σ H1 (fun o H2 => o = none ∧ H2 = H1) I1 ⟨rfl, rfl⟩) fun vl s2 ⟨l, H2, I2, pl, el, e2⟩ => ?_)
  subst el e2
  refine thn (po_none.run pins s2 σ H2 (fun o H3 => o = none ∧ H3 = H2) I2 ⟨rfl, rfl⟩) fun vu s3 ⟨u, H3, I3, pu, eu, e3⟩ => ?_
  subst eu e3
  refine thn (hst.run pins s3 σ H3 (fun o H4 => o = some (-1) ∧ H4 = H3) I3 ⟨1, rfl, -1, rfl, rfl, rfl⟩) fun vs s4 ⟨o, H4, I4, ps, eo, e4⟩ => ?_
  subst eo e4
  cases pl
  cases pu
  cases ps
  rename_i tk _
  have I5 : L2.Inv X pins σ H4 { s4 with heap := s4.heap.push { cls := .type "slice", data := .fields #[.none, .none, .int (-1) tk] } } := I4.kept (t' := s4.toks) fun b ob q => Heap.get?_push_of_some _ q
  obtain ⟨its, r, ht, hz⟩ := I5.tuple hx
  have hlen := r.length
  show wpAny (model X.prog X.w) X.A (subscriptTail e (.Slice none none (some (.UnaryOp .USub (.Constant (.int 1) k p1) p2)) p3) (.ref a) (.ref s4.heap.objs.size)) (EP X pins σ Q) X.xe { s4 with heap := s4.heap.push { cls := .type "slice", data := .fields #[.none, .none, .int (-1) tk] } }
  refine tail_any (ops := [.ref a, .ref s4.heap.objs.size]) ht.typeIs (PyProof.Rows.slot_tuple_getitem.lookup) ?_ (by with_unfolding_all rfl)
  refine getItem_tuple_rev ht (Heap.IsSliceOf.new _ .none .none _) ?_ (by rw [List.size_toArray]; omega)
  refine ⟨.ref _, _, I5.laid (t' := s4.toks) (o := .tup xs.reverse) (fun b ob q => Heap.get?_push_of_some _ q) (Nat.le_refl _) ?_, rfl, q _ (I5.hok.fresh (Nat.le_refl _))⟩
  exact ⟨by rw [List.length_reverse]; exact hz, _, r.reverse, IsTup.new _ _⟩
def revT (d : PyData) : R PyData := match d with
  | .tuple ds => .ok (.tuple ds.reverse)
  | _ => .bad
def revL (d : PyData) : R PyData := match d with
  | .list ds => .ok (.list ds.reverse)
  | _ => .bad
section
variable {X : Cx} {ec : EC} {Ef : L2.St → XK} {O : List Nat} {a b : Expr} {fa fb : Rho → R PyData} {pos p1 p2 p3 : Pos} {k : Nat}
theorem de_revT (ha : DB X ec Ef O a fa) : DE X ec Ef O (.Subscript a (.Slice none none (some (.UnaryOp .USub (.Constant (.int 1) k p1) p2)) p3) pos) (fun ρ => (fa ρ).bind revT) :=
  ⟨(pe_revT ha.pe).imp fun σ H Q ⟨B, P, Z, ρ, hE, p⟩ => ⟨B, P, Z, ρ, hE, (Post.bind p).imp fun v H1 ⟨dx, _, s1, d1, p1⟩ => by
    cases dx with
    | tuple ds =>
      obtain ⟨q, xs, e1, q1, a1⟩ := d1.tup
      exact ⟨q, xs, e1, q1, fun r hr => (show Post B.S X.K ec (dV X.K (P ++ Z)) (P ++ Z) (Ef σ) H1 Q (.ok (.tuple ds.reverse)) from p1) _ _ (.of (same_upd hr)) (new_tup (hE.same s1).trk hr (dpa_rev a1))⟩
    | _ => exact p1.elim⟩⟩
theorem df_revL (ha : DB X ec Ef O a fa) : DF X ec Ef O (.Subscript a (.Slice none none (some (.UnaryOp .USub (.Constant (.int 1) k p1) p2)) p3) pos) (fun ρ => (fa ρ).bind revL) :=
  ⟨(pe_revL ha.pe).imp fun σ H Q ⟨B, P, Z, ρ, hE, p⟩ => ⟨B, P, Z, ρ, hE, (Post.bind p).imp fun v H1 ⟨dx, _, s1, d1, p1⟩ => by
    cases dx with
    | list ds =>
      obtain ⟨q, xs, e1, q1, a1⟩ := d1.lst
      exact ⟨q, xs, e1, q1, fun r hr => (show Post B.S X.K ec (dF X.K H (P ++ Z)) (P ++ Z) (Ef σ) H1 Q (.ok (.list ds.reverse)) from p1) _ _ (.of (same_upd hr)) (new_lst (s1.free hE.so) (hE.same s1).trk hr (dpa_rev a1))⟩
    | _ => exact p1.elim⟩⟩
/-! ### signs, not, truth -/
def gNeg (d : PyData) : R PyData := match d with
  | .int i => .ok (.int (-i))
  | _ => .bad
theorem de_neg (ha : DB X ec Ef O a fa) : DE X ec Ef O (.UnaryOp .USub a pos) (fun ρ => (fa ρ).bind gNeg) :=
  ⟨(pe_un un_neg ha.pe).imp fun σ H Q ⟨B, P, Z, ρ, hE, p⟩ => ⟨B, P, Z, ρ, hE, (Post.bind p).imp fun v H1 ⟨dx, _, s1, d1, p1⟩ => by
    cases dx with
    | int i => exact ⟨i, d1.int, (show Post B.S X.K ec (dV X.K (P ++ Z)) (P ++ Z) (Ef σ) H1 Q (.ok (.int (-i))) from p1).ok (.int _)⟩
    | _ => exact p1.elim⟩⟩
/-- a value's truth -/
def tru (d : PyData) : R Bool := match d with
  | .none => .ok false
  | .bool b => .ok b
  | .int i => .ok (i != 0)
  | .str s => if s.length ≤ sizeLine then .ok ((s.length : Int) != 0) else .bad
  | .list ds => .ok (!ds.isEmpty)
  | .tuple ds => .ok (!ds.isEmpty)
  | .dict _ => .bad
theorem dpa_empty {K : PySem.W.Frag} {H : Hp} {vs : List V} {ds : List PyData} (h : DpAll K H vs ds) : vs.isEmpty = ds.isEmpty := by cases h <;> rfl
theorem tru_rel {K : PySem.W.Frag} {S : Srcs tt} {M : List Addr} {H : Hp} {v : V} {d : PyData} {b : Bool} (h : dB K S M H v d) (e : tru d = .ok b) : TruV K v H b := by
  cases d with
  | none => cases e; rw [h.non]; rfl
  | bool c => cases e; rw [h.bl]; rfl
  | int i => cases e; rw [h.int]; rfl
  | str z =>
    have e : (if z.length ≤ sizeLine then R.ok ((z.length : Int) != 0) else R.bad) = R.ok b := e
    by_cases hz : z.length ≤ sizeLine
    · rw [if_pos hz] at e; cases e; rw [h.str]; exact ⟨hz, rfl⟩
    · rw [if_neg hz] at e; cases e
  | list ds =>
    cases e
    obtain ⟨p, xs, e1, q1, a1⟩ := h.lst
    rw [e1, ← dpa_empty a1]; exact .inl ⟨xs, q1, rfl⟩
  | tuple ds =>
    cases e
    obtain ⟨p, xs, e1, q1, a1⟩ := h.tup
    rw [e1, ← dpa_empty a1]; exact .inr (.inl ⟨xs, q1, rfl⟩)
  | dict _ => cases e
theorem tru_noexc {d : PyData} : (∃ b, tru d = .ok b) ∨ tru d = .bad := by
  cases d with
  | str z =>
    by_cases hz : z.length ≤ sizeLine
    · exact .inl ⟨_, if_pos hz⟩
    · exact .inr (if_neg hz)
  | dict _ => exact .inr rfl
  | _ => exact .inl ⟨_, rfl⟩
theorem de_not (ha : DB X ec Ef O a fa) : DE X ec Ef O (.UnaryOp .Not a pos) (fun ρ => (fa ρ).bind fun x => (tru x).bind fun b => .ok (.bool (!b))) :=
  ⟨(pe_notT ha.pe).imp fun σ H Q ⟨B, P, Z, ρ, hE, p⟩ => ⟨B, P, Z, ρ, hE, (Post.bind p).imp fun v H1 ⟨dx, _, s1, d1, p1⟩ => by
    rcases tru_noexc (d := dx) with ⟨b, e⟩ | e
    · rw [e] at p1
      exact ⟨b, tru_rel d1 e, (show Post B.S X.K ec (dV X.K (P ++ Z)) (P ++ Z) (Ef σ) H1 Q (.ok (.bool (!b))) from p1).ok (.bl _)⟩
    · rw [e] at p1; exact p1.elim⟩⟩
theorem dt_of (ha : DB X ec Ef O a fa) (he : ∀ whole, isTrue a X.env whole = (do let v ← whole; standAt a.pos; holding [v] (truthy v)) := by intro _; rfl) : DT X ec Ef O a (fun ρ => (fa ρ).bind tru) :=
  ⟨(pt_truth ha.pe he).imp fun σ H Q ⟨B, P, Z, ρ, hE, p⟩ => ⟨B, P, Z, ρ, hE, (Post.bind p).imp fun v H1 ⟨dx, _, s1, d1, p1⟩ => by
    rcases tru_noexc (d := dx) with ⟨b, e⟩ | e
    · rw [e] at p1
      exact ⟨b, tru_rel d1 e, (show Post B.S X.K ec dT (P ++ Z) (Ef σ) H1 Q (.ok b) from p1).ok rfl⟩
    · rw [e] at p1; exact p1.elim⟩⟩
theorem dt_not {f : Rho → R Bool} (ha : DT X ec Ef O a f) : DT X ec Ef O (.UnaryOp .Not a pos) (fun ρ => (f ρ).bind fun b => .ok (!b)) :=
  ⟨(pt_not ha.pt).imp fun σ H Q ⟨B, P, Z, ρ, hE, p⟩ => ⟨B, P, Z, ρ, hE, (Post.bind p).imp fun v H1 ⟨b, _, s1, d1, p1⟩ => by
    cases d1
    exact p1.ok rfl⟩⟩
/-! ### and, or -/
variable {rest : List Expr}
theorem de_one {op : PySem.BoolOp} (h : DE X ec Ef O a fa) : DE X ec Ef O (.BoolOp op [a] pos) fa := ⟨pe_one h.pe⟩
theorem de_and (ha : DE X ec Ef O a fa) (hb : DE X ec Ef O (.BoolOp .And (b :: rest) pos) fb) : DE X ec Ef O (.BoolOp .And (a :: b :: rest) pos) (fun ρ => (fa ρ).bind fun x => (tru x).bind fun k => if k = true then fb ρ else .ok x) :=
  ⟨(pe_andT ha.pe hb.pe).imp fun σ H Q ⟨B, P, Z, ρ, hE, p⟩ => ⟨B, P, Z, ρ, hE, (Post.bind p).imp fun v H1 ⟨dx, _, s1, d1, p1⟩ => by
    rcases tru_noexc (d := dx) with ⟨k, e⟩ | e
    · rw [e] at p1
      refine ⟨k, tru_rel (S := B.S) d1.b e, ?_⟩
      cases k with
      | true =>
        rw [if_pos rfl]
        exact ⟨B, P, Z, ρ, hE.same s1, (show Post B.S X.K ec (dV X.K (P ++ Z)) (P ++ Z) (Ef σ) H1 Q (fb ρ) from p1)⟩
      | false =>
        rw [if_neg Bool.false_ne_true]
        exact (show Post B.S X.K ec (dV X.K (P ++ Z)) (P ++ Z) (Ef σ) H1 Q (.ok dx) from p1).ok d1
    · rw [e] at p1; exact p1.elim⟩⟩
theorem de_or (ha : DE X ec Ef O a fa) (hb : DE X ec Ef O (.BoolOp .Or (b :: rest) pos) fb) : DE X ec Ef O (.BoolOp .Or (a :: b :: rest) pos) (fun ρ => (fa ρ).bind fun x => (tru x).bind fun k => if k = true then .ok x else fb ρ) :=
  ⟨(pe_orT ha.pe hb.pe).imp fun σ H Q ⟨B, P, Z, ρ, hE, p⟩ => ⟨B, P, Z, ρ, hE, (Post.bind p).imp fun v H1 ⟨dx, _, s1, d1, p1⟩ => by
    rcases tru_noexc (d := dx) with ⟨k, e⟩ | e
    · rw [e] at p1
      refine ⟨k, tru_rel (S := B.S) d1.b e, ?_⟩
      cases k with
      | true =>
        rw [if_pos rfl]
        exact (show Post B.S X.K ec (dV X.K (P ++ Z)) (P ++ Z) (Ef σ) H1 Q (.ok dx) from p1).ok d1
      | false =>
        rw [if_neg Bool.false_ne_true]
        exact ⟨B, P, Z, ρ, hE.same s1, (show Post B.S X.K ec (dV X.K (P ++ Z)) (P ++ Z) (Ef σ) H1 Q (fb ρ) from p1)⟩
    · rw [e] at p1; exact p1.elim⟩⟩
theorem _root_.L2.PW.imp {X : Cx} {e : Expr} {t t' : TT} (h : PW X e t) (hi : ∀ σ H Q, t' σ H Q → t σ H Q) : PW X e t' := ⟨fun wh pins s σ H Q I hw => h.run wh pins s σ H Q I (hi σ H Q hw)⟩
structure DW (X : Cx) (ec : EC) (Ef : L2.St → XK) (O : List Nat) (e : Expr) (f : Rho → R Bool) : Prop where
  pw : PW X e (tG X.K ec Ef O (fun _ _ _ => dT) f)
variable {f g : Rho → R Bool}
theorem DW.t (h : DW X ec Ef O a f) : DT X ec Ef O a f := ⟨h.pw.pt⟩
theorem dw_and1 (h : DT X ec Ef O a f) : DW X ec Ef O (.BoolOp .And [a] pos) f := ⟨pw_and1 h.pt⟩
theorem dw_or1 (h : DT X ec Ef O a f) : DW X ec Ef O (.BoolOp .Or [a] pos) f := ⟨pw_or1 h.pt⟩
theorem dw_and (ha : DT X ec Ef O a f) (hb : DW X ec Ef O (.BoolOp .And (b :: rest) pos) g) : DW X ec Ef O (.BoolOp .And (a :: b :: rest) pos) (fun ρ => (f ρ).bind fun k => if k = true then g ρ else .ok false) :=
  ⟨(pw_and ha.pt hb.pw).imp fun σ H Q ⟨B, P, Z, ρ, hE, p⟩ => ⟨B, P, Z, ρ, hE, (Post.bind p).imp fun v H1 ⟨k, _, s1, d1, p1⟩ => by
    cases d1
    cases v with
    | true => rw [if_pos rfl] at p1 ⊢; exact ⟨B, P, Z, ρ, hE.same s1, p1⟩
    | false => rw [if_neg Bool.false_ne_true] at p1 ⊢; exact p1.ok rfl⟩⟩
theorem dw_or (ha : DT X ec Ef O a f) (hb : DW X ec Ef O (.BoolOp .Or (b :: rest) pos) g) : DW X ec Ef O (.BoolOp .Or (a :: b :: rest) pos) (fun ρ => (f ρ).bind fun k => if k = true then .ok true else g ρ) :=
  ⟨(pw_or ha.pt hb.pw).imp fun σ H Q ⟨B, P, Z, ρ, hE, p⟩ => ⟨B, P, Z, ρ, hE, (Post.bind p).imp fun v H1 ⟨k, _, s1, d1, p1⟩ => by
    cases d1
    cases v with
    | true => rw [if_pos rfl] at p1 ⊢; exact p1.ok rfl
    | false => rw [if_neg Bool.false_ne_true] at p1 ⊢; exact ⟨B, P, Z, ρ, hE.same s1, p1⟩⟩⟩
/-! ### a if c else b -/
variable {c : Expr}
theorem de_if (hc : DT X ec Ef O c f) (ha : DE X ec Ef O a fa) (hb : DE X ec Ef O b fb) : DE X ec Ef O (.IfExp c a b pos) (fun ρ => (f ρ).bind fun k => if k = true then fa ρ else fb ρ) :=
  ⟨(pe_ifExp hc.pt ha.pe hb.pe).imp fun σ H Q ⟨B, P, Z, ρ, hE, p⟩ => ⟨B, P, Z, ρ, hE, (Post.bind p).imp fun v H1 ⟨k, _, s1, d1, p1⟩ => by
    cases d1
    cases v with
    | true => rw [if_pos rfl] at p1 ⊢; exact ⟨B, P, Z, ρ, hE.same s1, p1⟩
    | false => rw [if_neg Bool.false_ne_true] at p1 ⊢; exact ⟨B, P, Z, ρ, hE.same s1, p1⟩⟩⟩
theorem db_if (hc : DT X ec Ef O c f) (ha : DB X ec Ef O a fa) (hb : DB X ec Ef O b fb) : DB X ec Ef O (.IfExp c a b pos) (fun ρ => (f ρ).bind fun k => if k = true then fa ρ else fb ρ) :=
  ⟨(pe_ifExp hc.pt ha.pe hb.pe).imp fun σ H Q ⟨B, P, Z, ρ, hE, p⟩ => ⟨B, P, Z, ρ, hE, (Post.bind p).imp fun v H1 ⟨k, _, s1, d1, p1⟩ => by
    cases d1
    cases v with
    | true => rw [if_pos rfl] at p1 ⊢; exact ⟨B, P, Z, ρ, hE.same s1, p1⟩
    | false => rw [if_neg Bool.false_ne_true] at p1 ⊢; exact ⟨B, P, Z, ρ, hE.same s1, p1⟩⟩⟩
end
end DL
set_option Elab.async false
set_option linter.all false
set_option maxRecDepth 100000
set_option maxHeartbeats 1000000
namespace DL
open PySem PySem.Spec PyProof.Rows L2
/-! ### positions -/
section
variable {α β : Type} {F : α → β → Prop}
theorem paired_ix : ∀ {l : List α} {m : List β} {j : Nat} {a : α}, Paired F l m → l[j]? = some a → ∃ b, m[j]? = some b ∧ F a b
  | _, _, _, _, .nil, e => by simp at e
  | _, _, 0, _, .cons r _, e => by simp at e; subst e; exact ⟨_, rfl, r⟩
  | _, _, j + 1, a, .cons _ t, e => by
    obtain ⟨b, h1, h2⟩ := paired_ix (j := j) (a := a) t (by simpa using e)
    exact ⟨b, by simpa using h1, h2⟩
theorem paired_sub {l' : List α} : ∀ {l : List α} {m : List β}, List.Sublist l' l → Paired F l m → ∃ m', List.Sublist m' m ∧ Paired F l' m' := by
  intro l m h
  induction h generalizing m with
  | slnil => intro p; cases p; exact ⟨[], .slnil, .nil⟩
  | cons a _ ih =>
    intro p
    cases p with
    | cons r t =>
      obtain ⟨m', h1, h2⟩ := ih t
      exact ⟨m', .cons _ h1, h2⟩
  | cons_cons a _ ih =>
    intro p
    cases p with
    | cons r t =>
      obtain ⟨m', h1, h2⟩ := ih t
      exact ⟨_ :: m', .cons_cons _ h1, .cons r h2⟩
end
/-! ### the slots change -/
section
variable {K : PySem.W.Frag} {B : BB tt lm} {H H' : Hp} {O O' : List Nat} {P Z : List Addr} {σ : L2.St} {ρ : Rho}
theorem own_uniq (h : EnvOk K B O P Z σ H ρ) {i i' : Nat} {p : Addr} (hi : i ∈ O) (hi' : i' ∈ O) (hp : p ∈ P) (e : σ[i]? = some (some (.ref p))) (e' : σ[i']? = some (some (.ref p))) : i = i' := by
  obtain ⟨j, hj⟩ := List.mem_iff_getElem?.mp hi
  obtain ⟨j', hj'⟩ := List.mem_iff_getElem?.mp hi'
  obtain ⟨q, h1, h2, _⟩ := paired_ix h.own hj
  obtain ⟨q', h1', h2', _⟩ := paired_ix h.own hj'
  rw [e] at h2
  rw [e'] at h2'
  cases h2
  cases h2'
  have : j = j' := nodup_ix' h.nd h1 h1'
  subst this
  rw [hj] at hj'
  exact Option.some.inj hj'
where
  nodup_ix' {l : List Addr} (hN : l.Nodup) {i j : Nat} {x : Addr} (a : l[i]? = some x) (b : l[j]? = some x) : i = j := by
    obtain ⟨h1, e1⟩ := List.getElem?_eq_some_iff.mp a
    obtain ⟨h2, e2⟩ := List.getElem?_eq_some_iff.mp b
    exact (List.getElem_inj hN).mp (e1.trans e2.symm)
theorem mask_sub {P P' Z : List Addr} (h : List.Sublist P' P) : ∀ a, a ∈ P' ++ Z → a ∈ P ++ Z := fun a z => by
  rcases List.mem_append.mp z with z | z
  · exact List.mem_append_left _ (h.subset z)
  · exact List.mem_append_right _ z
/-- some slots own their lists no more -/
theorem EnvOk.release (h : EnvOk K B O P Z σ H ρ) (hs : List.Sublist O' O) : ∃ P', List.Sublist P' P ∧ EnvOk K B O' P' Z σ H ρ := by
  obtain ⟨P', h1, h2⟩ := paired_sub hs h.own
  have sub := mask_sub (Z := Z) h1
  refine ⟨P', h1, h.len, h.bs, h.gs.trans (hid_sub sub), Paired.mapP h2 fun i p ⟨x1, o, d, x2, x3, x4⟩ => ⟨x1, o, d, x2, x3, x4.mono (hid_sub sub)⟩, h.nd.sublist h1, fun p hp => h.pb p (h1.subset hp), h.zt, fun p hp => h.pz p (h1.subset hp), h.sz, h.sb, h.so, fun i hi e => ?_, fun i x hi e => ?_, fun i hi e => ?_, fun i d hi hdd e => ?_⟩
  · by_cases hiO : i ∈ O
    · obtain ⟨p, hp, x1, o, d', x2, x3, x4⟩ := paired_left h.own i hiO
      rw [e] at x2
      cases x2
      cases x4
    · exact h.src i hiO e
  · by_cases hiO : i ∈ O
    · obtain ⟨p, hp, x1, o, d', x2, x3, x4⟩ := paired_left h.own i hiO
      rw [e] at x2
      cases x2
      cases x4
    · exact h.fns i x hiO e
  · by_cases hiO : i ∈ O
    · obtain ⟨p, hp, x1, o, d', x2, x3, x4⟩ := paired_left h.own i hiO
      rw [e] at x2
      cases x2
      cases x4
    · exact ⟨(h.lam i hiO e).1, (h.lam i hiO e).2.mono (fun _ _ => rfl) (hid_sub sub)⟩
  by_cases hiO : i ∈ O
  · obtain ⟨p, hp, x1, o, d', x2, x3, x4⟩ := paired_left h.own i hiO
    rw [e] at x2
    cases x2
    have np : p ∉ P' ++ Z := fun z => by
      rcases List.mem_append.mp z with z | z
      · obtain ⟨i', hi', y1, _⟩ := paired_right h2 p z
        exact hi (own_uniq h hiO (hs.subset hi') hp x1 y1 ▸ hi')
      · exact h.pz p hp z
    cases x4 with
    | lst x4 => exact ⟨_, x1, .lst (.inl (.inl (by rw [hid_out np]; exact x3))) (dpa_mono (hid_sub sub) _ _ x4)⟩
    | dk x4 => cases hdd
  · obtain ⟨v, x1, x2⟩ := h.oth i d hiO hdd e
    exact ⟨v, x1, svd_mono (hid_sub sub) d v x2⟩
theorem set_get {α : Type} {l : List α} {i j : Nat} {a b : α} (h : (l.set i a)[j]? = some b) : (i = j ∧ a = b) ∨ (i ≠ j ∧ l[j]? = some b) := by
  by_cases e : i = j
  · subst e
    rw [List.getElem?_set] at h
    simp only [if_true] at h
    split at h
    · exact .inl ⟨rfl, Option.some.inj h⟩
    · cases h
  · rw [List.getElem?_set_ne e] at h
    exact .inr ⟨e, h⟩
theorem EnvOk.setS (h : EnvOk K B O P Z σ H ρ) {i : Nat} {v : V} {x : SV} (hx : SV.isD x = true) (hi : i ∉ O) (hv : SvD K (hid (P ++ Z) H) v x) : EnvOk K B O P Z (σ.set i (some v)) H (ρ.set i (some x)) := by
  refine ⟨by rw [List.length_set, List.length_set]; exact h.len, h.bs, h.gs, ?_, h.nd, h.pb, h.zt, h.pz, h.sz, h.sb, h.so, fun j hj q => ?_, fun j y hj q => ?_, fun j hj q => ?_, fun j e hj hd q => ?_⟩
  · have key : ∀ {l : List Nat} {m : List Addr}, (∀ j, j ∈ l → j ∈ O) → Paired (Own1 K (P ++ Z) H σ ρ) l m → Paired (Own1 K (P ++ Z) H (σ.set i (some v)) (ρ.set i (some x))) l m := by
      intro l m hl p
      induction p with
      | nil => exact .nil
      | cons r t ih =>
        obtain ⟨x1, o, d', x2, x3, x4⟩ := r
        have ne : i ≠ _ := fun z => hi (z ▸ hl _ List.mem_cons_self)
        exact .cons ⟨by rw [List.getElem?_set_ne ne]; exact x1, o, d', by rw [List.getElem?_set_ne ne]; exact x2, x3, x4⟩ (ih fun j hj => hl j (List.mem_cons_of_mem _ hj))
    exact key (fun _ z => z) h.own
  · rcases set_get q with ⟨e1, e2⟩ | ⟨ne, q⟩
    · cases e2; cases hx
    · obtain ⟨a, x1, x2⟩ := h.src j hj q
      exact ⟨a, x1, by rw [List.getElem?_set_ne ne]; exact x2⟩
  · rcases set_get q with ⟨e1, e2⟩ | ⟨ne, q⟩
    · cases e2; cases hx
    · rw [List.getElem?_set_ne ne]; exact h.fns j y hj q
  · rcases set_get q with ⟨e1, e2⟩ | ⟨ne, q⟩
    · cases e2; cases hx
    · rw [List.getElem?_set_ne ne]; exact h.lam j hj q
  · have q0 := q
    rcases set_get q with ⟨e1, e2⟩ | ⟨ne, q⟩
    · subst e1
      cases e2
      have hl : i < σ.length := by
        rw [← h.len]
        have := (List.getElem?_eq_some_iff.mp q0).1
        rwa [List.length_set] at this
      exact ⟨v, List.getElem?_set_self hl, hv⟩
    · obtain ⟨w, x1, x2⟩ := h.oth j e hj hd q
      exact ⟨w, by rw [List.getElem?_set_ne ne]; exact x1, x2⟩
theorem EnvOk.setV (h : EnvOk K B O P Z σ H ρ) {i : Nat} {v : V} {d : PyData} (hi : i ∉ O) (hv : Dp K (hid (P ++ Z) H) v d) : EnvOk K B O P Z (σ.set i (some v)) H (ρ.set i (some (.d d))) := h.setS rfl hi hv
/-- a new list comes into a slot that owns it -/
theorem EnvOk.setNew (h : EnvOk K B O P Z σ H ρ) (s : Gr B.S (P ++ Z) H H') {i : Nat} {p : Addr} {ob : HO} {d : SV} (hi : i ∉ O) (hl : i < σ.length) (hB : H p = none) (np : p ∉ P ++ Z) (hp : H' p = some ob) (ha : OwnV K (p :: (P ++ Z)) H' ob d) : EnvOk K B (i :: O) (p :: P) Z (σ.set i (some (.ref p))) H' (ρ.set i (some d)) := by
  have hlr : i < ρ.length := by rw [h.len]; exact hl
  have vs' : Same (hid (P ++ Z) H) (hid (p :: P ++ Z) H') := fun b o e => by
    obtain ⟨y1, y2⟩ := hid_some e
    have nb : b ≠ p := ne_of_none y2 hB
    rw [hid_out (by show b ∉ p :: (P ++ Z); simp only [List.mem_cons, not_or]; exact ⟨nb, y1⟩)]
    exact s.fr b o (fun z => y1 (List.mem_append_right _ (h.sz b z))) y2
  refine ⟨by rw [List.length_set, List.length_set]; exact h.len, h.bs' s, h.gs.trans vs', .cons ⟨List.getElem?_set_self hl, _, _, List.getElem?_set_self hlr, hp, ha⟩ ?_, ?_, fun q hq => ?_, h.zt' s, fun q hq => ?_, h.sz, h.sb, s.so h.so, fun j hj q => ?_, fun j x hj q => ?_, fun j hj q => ?_, fun j e hj hd q => ?_⟩
  · have key : ∀ {l : List Nat} {m : List Addr}, (∀ j, j ∈ l → j ∈ O) → (∀ q, q ∈ m → q ∈ P) → Paired (Own1 K (P ++ Z) H σ ρ) l m → Paired (Own1 K (p :: P ++ Z) H' (σ.set i (some (.ref p))) (ρ.set i (some d))) l m := by
      intro l m hl hm p
      induction p with
      | nil => exact .nil
      | cons r t ih =>
        obtain ⟨x1, o, d', x2, x3, x4⟩ := r
        have ne : i ≠ _ := fun z => hi (z ▸ hl _ List.mem_cons_self)
        exact .cons ⟨by rw [List.getElem?_set_ne ne]; exact x1, o, d', by rw [List.getElem?_set_ne ne]; exact x2, s.fr _ _ (h.ps (hm _ List.mem_cons_self)) x3, x4.mono vs'⟩ (ih (fun j hj => hl j (List.mem_cons_of_mem _ hj)) fun j hj => hm j (List.mem_cons_of_mem _ hj))
    exact key (fun _ z => z) (fun _ z => z) h.own
  · exact List.nodup_cons.mpr ⟨fun z => np (List.mem_append_left _ z), h.nd⟩
  · rcases List.mem_cons.mp hq with rfl | hq
    · cases q1 : B.1 q with
      | none => rfl
      | some o => rw [h.bs q o q1] at hB; cases hB
    · exact h.pb q hq
  · rcases List.mem_cons.mp hq with rfl | hq
    · exact fun z => np (List.mem_append_right _ z)
    · exact h.pz q hq
  · have hj' : j ≠ i ∧ j ∉ O := by simpa only [List.mem_cons, not_or] using hj
    rcases set_get q with ⟨e1, _⟩ | ⟨ne, q⟩
    · exact absurd e1.symm hj'.1
    · obtain ⟨a, x1, x2⟩ := h.src j hj'.2 q
      exact ⟨a, x1, by rw [List.getElem?_set_ne ne]; exact x2⟩
  · have hj' : j ≠ i ∧ j ∉ O := by simpa only [List.mem_cons, not_or] using hj
    rcases set_get q with ⟨e1, _⟩ | ⟨ne, q⟩
    · exact absurd e1.symm hj'.1
    · rw [List.getElem?_set_ne ne]; exact h.fns j x hj'.2 q
  · have hj' : j ≠ i ∧ j ∉ O := by simpa only [List.mem_cons, not_or] using hj
    rcases set_get q with ⟨e1, _⟩ | ⟨ne, q⟩
    · exact absurd e1.symm hj'.1
    · rw [List.getElem?_set_ne ne]; exact ⟨(h.lam j hj'.2 q).1, (h.lam j hj'.2 q).2.gr s vs'⟩
  · have hj' : j ≠ i ∧ j ∉ O := by simpa only [List.mem_cons, not_or] using hj
    rcases set_get q with ⟨e1, _⟩ | ⟨ne, q⟩
    · exact absurd e1.symm hj'.1
    · obtain ⟨w, x1, x2⟩ := h.oth j e hj'.2 hd q
      exact ⟨w, by rw [List.getElem?_set_ne ne]; exact x1, svd_mono vs' e w x2⟩
theorem EnvOk.setF (h : EnvOk K B O P Z σ H ρ) (s : Gr B.S (P ++ Z) H H') {i : Nat} {v : V} {d : PyData} (hi : i ∉ O) (hl : i < σ.length) (hv : dF K H (P ++ Z) H' v d) : ∃ p, EnvOk K B (i :: O) (p :: P) Z (σ.set i (some v)) H' (ρ.set i (some (.d d))) := by
  obtain ⟨p, vs, ds, rfl, rfl, hB, np, hp, ha⟩ := hv
  exact ⟨p, h.setNew s hi hl hB np hp (.lst ha)⟩
/-- an owned list is changed -/
theorem EnvOk.setO (h : EnvOk K B O P Z σ H ρ) {i : Nat} {p : Addr} {o : HO} {d : SV} (hi : i ∈ O) (e : σ[i]? = some (some (.ref p))) (ha : OwnV K (P ++ Z) H o d) :
    EnvOk K B O P Z σ (upd H p o) (ρ.set i (some d)) := by
  have hp : p ∈ P := by
    obtain ⟨q, hq, x1, _⟩ := paired_left h.own i hi
    rw [e] at x1
    cases x1
    exact hq
  have hlr : i < ρ.length := by rw [h.len]; exact (List.getElem?_eq_some_iff.mp e).1
  have vis : Same (hid (P ++ Z) H) (hid (P ++ Z) (upd H p o)) := fun b _ q => by
    obtain ⟨y1, y2⟩ := hid_some q
    have nb : b ≠ p := fun z => y1 (z ▸ List.mem_append_left _ hp)
    rw [hid_out y1, upd_ne nb]
    exact y2
  have hso : SrcOk B.S (upd H p o) := by
    obtain ⟨q, hq, x1, o', d', x2, x3, x4⟩ := paired_left h.own i hi
    rw [e] at x1
    cases x1
    refine ⟨fun a ha => ?_, tabs_upd x3 x4.chg h.so.tab⟩
    obtain ⟨x, y, x1, x2, x3⟩ := h.so.src a ha
    have na : a ≠ p := fun e => h.ps hp (e ▸ Srcs.l_mem ha)
    exact ⟨x, y, x1, x2, by rw [upd_ne na]; exact x3⟩
  refine ⟨by rw [List.length_set]; exact h.len, fun b _ q => ?_, h.gs.trans vis, ?_, h.nd, h.pb, fun z hz q => ?_, h.pz, h.sz, h.sb, hso, fun j hj q => ?_, fun j x hj q => ?_, fun j hj q => ?_, fun j d' hj hd q => ?_⟩
  · have nb : b ≠ p := fun z => by rw [z, h.pb p hp] at q; cases q
    rw [upd_ne nb]
    exact h.bs b _ q
  · have key : ∀ {l : List Nat} {m : List Addr}, (∀ j, j ∈ l → j ∈ O) → (∀ q, q ∈ m → q ∈ P) → Paired (Own1 K (P ++ Z) H σ ρ) l m → Paired (Own1 K (P ++ Z) (upd H p o) σ (ρ.set i (some d))) l m := by
      intro l m hl hm pr
      induction pr with
      | nil => exact .nil
      | @cons j q l m r t ih =>
        obtain ⟨x1, o', d', x2, x3, x4⟩ := r
        refine .cons ?_ (ih (fun j hj => hl j (List.mem_cons_of_mem _ hj)) fun j hj => hm j (List.mem_cons_of_mem _ hj))
        by_cases ej : i = j
        · subst ej
          rw [e] at x1
          cases x1
          exact ⟨e, o, d, List.getElem?_set_self hlr, upd_same, ha.mono vis⟩
        · have nq : q ≠ p := fun z => ej (own_uniq h hi (hl _ List.mem_cons_self) hp e (z ▸ x1))
          exact ⟨x1, o', d', by rw [List.getElem?_set_ne ej]; exact x2, by rw [upd_ne nq]; exact x3, x4.mono vis⟩
    exact key (fun _ z => z) (fun _ z => z) h.own
  · have nz : z ≠ p := fun e => h.pz p hp (e ▸ hz)
    rw [upd_ne nz] at q
    exact h.zt z hz q
  · rcases set_get q with ⟨e1, _⟩ | ⟨ne, q⟩
    · exact absurd (e1 ▸ hi) hj
    · exact h.src j hj q
  · rcases set_get q with ⟨e1, _⟩ | ⟨ne, q⟩
    · exact absurd (e1 ▸ hi) hj
    · exact h.fns j x hj q
  · rcases set_get q with ⟨e1, _⟩ | ⟨ne, q⟩
    · exact absurd (e1 ▸ hi) hj
    · obtain ⟨y1, y2⟩ := h.lam j hj q
      refine ⟨y1, y2.mono (fun o1 ho => upd_ne fun z => ?_) vis⟩
      obtain ⟨q', hq', x1, o', d', x2, x3, x4⟩ := paired_left h.own i hi
      rw [e] at x1
      cases x1
      rw [← z, y2.obs o1 ho] at x3
      exact y2.nc o1 ho (Option.some.inj x3 ▸ x4.chg)
  · rcases set_get q with ⟨e1, _⟩ | ⟨ne, q⟩
    · exact absurd (e1 ▸ hi) hj
    · obtain ⟨w, x1, x2⟩ := h.oth j d' hj hd q
      exact ⟨w, x1, svd_mono vis d' w x2⟩
end
end DL
set_option Elab.async false
set_option linter.all false
set_option maxRecDepth 100000
set_option maxHeartbeats 1000000
namespace DL
open PySem PySem.Spec PyProof.Rows L2
/-! ### statements -/
inductive Fl where
  | nx (ρ : Rho)
  | rt (d : PyData) (ρ : Rho)
  | rf (d : PyData) (ρ : Rho)
  | bk (ρ : Rho)
  | ct (ρ : Rho)
/-- what is returned: a list that is new, a tuple that bears no dict -/
def dR (K : PySem.W.Frag) (B : Hp) (M : List Addr) (H : Hp) (v : V) (d : PyData) : Prop := (∃ ds, d = .tuple ds ∧ FzT K (hid M H) v ds) ∨ dF K B M H v d
theorem dR.toV {K : PySem.W.Frag} {B : Hp} {M : List Addr} {H : Hp} {v : V} {d : PyData} (h : dR K B M H v d) : dV K M H v d := by
  rcases h with ⟨ds, rfl, h⟩ | h
  · exact h.dp
  · exact h.toV
/-- the static part: io the slots that own something at the end, Ol those at a loop's end -/
def PostF (K : PySem.W.Frag) (B : BB tt lm) (Z : List Addr) (io Ol O' : List Nat) (D : Ends) : Fl → Prop
  | .nx ρ' => ∀ σ' P' H', EnvOk K B O' P' Z σ' H' ρ' → D.nx σ' H'
  | .rt d ρ' => ∀ v σ' P' H', EnvOk K B io P' Z σ' H' ρ' → Dp K (hid (P' ++ Z) H') v d → D.rt v H'
  | .rf d ρ' => ∀ v σ' P' H', EnvOk K B io P' Z σ' H' ρ' → dR K B.1 (P' ++ Z) H' v d → D.rt v H'
  | .bk ρ' => ∀ σ' P' H', EnvOk K B Ol P' Z σ' H' ρ' → D.bk σ' H'
  | .ct ρ' => ∀ σ' P' H', EnvOk K B Ol P' Z σ' H' ρ' → D.ct σ' H'
def PostX (K : PySem.W.Frag) (ec : EC) (Ef : L2.St → XK) (B : BB tt lm) (Z : List Addr) (c : Nat) (x : Option PyData) : Prop := ∀ σ' H' dx, Same B.1 H' → SrcOk B.S H' → ExOk K Z ec H' c dx x → Ef σ' (ec.cls c) dx H'
def PostS (K : PySem.W.Frag) (ec : EC) (Ef : L2.St → XK) (B : BB tt lm) (Z : List Addr) (io Ol O' : List Nat) (D : Ends) (r : R Fl) : Prop := r.wp (PostF K B Z io Ol O' D) (PostX K ec Ef B Z)
def tS (K : PySem.W.Frag) (ec : EC) (Ef : L2.St → XK) (io Ol O O' : List Nat) (g : Rho → R Fl) : TS := fun D σ H => ∃ (B : BB ec.tabs ec.lam) (P Z : List Addr) (ρ : Rho), EnvOk K B O P Z σ H ρ ∧ PostS K ec Ef B Z io Ol O' D (g ρ)
structure DS (X : Cx) (ec : EC) (Ef : L2.St → XK) (io Ol O O' : List Nat) (st : Stmt) (g : Rho → R Fl) : Prop where
  ps : PS X st (tS X.K ec Ef io Ol O O' g)
structure DSs (X : Cx) (ec : EC) (Ef : L2.St → XK) (io Ol O O' : List Nat) (st : List Stmt) (g : Rho → R Fl) : Prop where
  ps : PSs X st (tS X.K ec Ef io Ol O O' g)
/-- exceptions do not lean on the slots -/
abbrev Flat (Ef : L2.St → XK) : Prop := ∀ σ σ' c d H, Ef σ c d H → Ef σ' c d H
section
variable {K : PySem.W.Frag} {ec : EC} {M M' : List Addr} {H' : Hp}
theorem exOk_sub {c : Nat} {dx : Option Addr} {x : Option PyData} (h : ∀ a, a ∈ M' → a ∈ M) (e : ExOk K M ec H' c dx x) : ExOk K M' ec H' c dx x := by
  cases x with
  | none => exact e
  | some d =>
    obtain ⟨a, v, h1, h2, h3⟩ := e
    exact ⟨a, v, h1, h2, dp_mono (hid_sub h) d v h3⟩
end
section
variable {K : PySem.W.Frag} {ec : EC} {Ef : L2.St → XK} {B : BB tt lm} {Z P : List Addr} {io Ol O O' O1 : List Nat} {D : Ends} {σ : L2.St} {H : Hp} {ρ : Rho}
/-- from an expression's result into a statement's -/
theorem PostS.of {ν α : Type} {den : Hp → ν → α → Prop} {r : R α} {k : α → R Fl} (fl : Flat Ef) (hE : EnvOk K B O P Z σ H ρ) (h : PostS K ec Ef B Z io Ol O' D (r.bind k)) {Q : ν → Hp → Prop}
    (hk : ∀ a v H1, True → Gr B.S (P ++ Z) H H1 → den H1 v a → EnvOk K B O P Z σ H1 ρ → PostS K ec Ef B Z io Ol O' D (k a) → Q v H1) : Post B.S K ec den (P ++ Z) (Ef σ) H Q r := by
  unfold PostS at h
  rw [R.wp_bind] at h
  exact R.wp_imp h (fun a h v H1 s d => hk a v H1 trivial s d (hE.same s) h) (fun c x h H1 dx s e => fl _ _ _ _ _ (h σ H1 dx (hE.bs' s) (s.so hE.so) (exOk_sub (fun a z => List.mem_append_right _ z) e)))
/-- one statement, then others -/
def fSeq (g h : Rho → R Fl) : Rho → R Fl := fun ρ => (g ρ).bind fun f => match f with
  | .nx ρ' => h ρ'
  | x => .ok x
theorem seq_imp {g h : Rho → R Fl} (D : Ends) (σ : L2.St) (H : Hp) (hs : tS K ec Ef io Ol O O' (fSeq g h) D σ H) : tSeq (tS K ec Ef io Ol O O1 g) (tS K ec Ef io Ol O1 O' h) D σ H := by
  obtain ⟨B, P, Z, ρ, hE, p⟩ := hs
  refine ⟨B, P, Z, ρ, hE, ?_⟩
  unfold fSeq PostS at p
  rw [R.wp_bind] at p
  refine R.wp_imp p (fun f p => ?_) (fun _ _ p => p)
  cases f with
  | nx ρ' => exact fun σ' P' H' hE' => ⟨B, P', Z, ρ', hE', p⟩
  | rt d ρ' => exact p
  | rf d ρ' => exact p
  | bk ρ' => exact p
  | ct ρ' => exact p
end
section
variable {X : Cx} {ec : EC} {Ef : L2.St → XK} {io Ol O O' O1 : List Nat} {st : Stmt} {rest : List Stmt} {g h : Rho → R Fl} {e : Expr} {f : Rho → R PyData} {pos : Pos}
theorem dss_nil (hs : List.Sublist O' O := by decide) : DSs X ec Ef io Ol O O' [] (fun ρ => .ok (.nx ρ)) := ⟨pss_nil.imp fun D σ H ⟨B, P, Z, ρ, hE, p⟩ => by
  obtain ⟨P', _, hE'⟩ := hE.release hs
  exact p _ _ _ hE'⟩
theorem dss_cons (h1 : DS X ec Ef io Ol O O1 st g) (h2 : DSs X ec Ef io Ol O1 O' rest h) : DSs X ec Ef io Ol O O' (st :: rest) (fSeq g h) := ⟨(pss_cons h1.ps h2.ps).imp fun D σ H hs => seq_imp D σ H hs⟩
theorem dss_one (h1 : DS X ec Ef io Ol O O' st g) : DSs X ec Ef io Ol O O' [st] g := ⟨pss_one h1.ps⟩
/-- slots are released ahead of a statement -/
theorem ds_rel (h1 : DS X ec Ef io Ol O1 O' st g) (hs : List.Sublist O1 O := by decide) : DS X ec Ef io Ol O O' st g := ⟨h1.ps.imp fun D σ H ⟨B, P, Z, ρ, hE, p⟩ => by
  obtain ⟨P', _, hE'⟩ := hE.release hs
  exact ⟨B, P', Z, ρ, hE', p⟩⟩
/-! ### assignments -/
def setE (i : Nat) (f : Rho → R PyData) : Rho → R Fl := fun ρ => (f ρ).bind fun d => .ok (.nx (ρ.set i (some (.d d))))
theorem ds_asg {x : Str} {i : Nat} {pos' : Pos} (fl : Flat Ef) (hN : X.N.Nodup) (hi : X.N[i]? = some x) (hx : Loc X.env.scope x) (he : DE X ec Ef O e f) (hO : i ∉ O := by decide) (hs : swapsWith e (some (.Name x pos')) pos.line X.env = pure false := by rfl)
    (hf : X.fn x = true ∨ X.env.scope.names.lookup x = some .local := by first | exact .inl rfl | exact .inr rfl | assumption) : DS X ec Ef io Ol O O (.Assign [.Name x pos'] e pos) (setE i f) :=
  ⟨(ps_set (i := i) hN hi hx he.pe hs hf).imp fun D σ H ⟨B, P, Z, ρ, hE, p⟩ => ⟨B, P, Z, ρ, hE, PostS.of fl hE p fun d v H1 _ s d1 hE1 p1 => p1 _ _ _ (hE1.setV hO d1)⟩⟩
theorem ds_own {x : Str} {i : Nat} {pos' : Pos} (fl : Flat Ef) (hN : X.N.Nodup) (hi : X.N[i]? = some x) (hx : Loc X.env.scope x) (he : DF X ec Ef O e f) (hl : ∀ σ : L2.St, σ.length = X.N.length → i < σ.length) (hO : i ∉ O := by decide) (hs : swapsWith e (some (.Name x pos')) pos.line X.env = pure false := by rfl)
    (hf : X.fn x = true ∨ X.env.scope.names.lookup x = some .local := by first | exact .inl rfl | exact .inr rfl | assumption) : DS X ec Ef io Ol O (i :: O) (.Assign [.Name x pos'] e pos) (setE i f) := by
  refine ⟨⟨fun pins s σ H D I hw => (ps_set (i := i) hN hi hx he.pe hs hf).run pins s σ H D I ?_⟩⟩
  obtain ⟨B, P, Z, ρ, hE, p⟩ := hw
  refine ⟨B, P, Z, ρ, hE, PostS.of fl hE p fun d v H1 _ s d1 hE1 p1 => ?_⟩
  obtain ⟨q, hq⟩ := hE.setF s hO (hl σ I.len) d1
  exact p1 _ _ _ hq
/-- return -/
def retE (f : Rho → R PyData) : Rho → R Fl := fun ρ => (f ρ).bind fun d => .ok (.rt d ρ)
theorem ds_ret (fl : Flat Ef) (he : DE X ec Ef io e f) (hs : List.Sublist io O := by decide) : DS X ec Ef io Ol O O' (.Return (some e) pos) (retE f) :=
  ⟨(ps_ret he.pe).imp fun D σ H ⟨B, P, Z, ρ, hE, p⟩ => by
    obtain ⟨P', _, hE'⟩ := hE.release hs
    exact ⟨B, P', Z, ρ, hE', PostS.of fl hE' p fun d v H1 _ s d1 hE1 p1 => p1 _ _ _ _ hE1 d1⟩⟩
theorem ds_retO (fl : Flat Ef) (he : DE X ec Ef O e f) (hs : List.Sublist io O := by decide) : DS X ec Ef io Ol O O' (.Return (some e) pos) (retE f) :=
  ⟨(ps_ret he.pe).imp fun D σ H ⟨B, P, Z, ρ, hE, p⟩ => ⟨B, P, Z, ρ, hE, PostS.of fl hE p fun d v H1 _ s d1 hE1 p1 => by
    obtain ⟨P', h1, hE'⟩ := hE1.release hs
    exact p1 _ _ _ _ hE' (dp_mono (hid_sub (mask_sub h1)) d v d1)⟩⟩
def retF (f : Rho → R PyData) : Rho → R Fl := fun ρ => (f ρ).bind fun d => .ok (.rf d ρ)
/-- a new list is returned -/
theorem ds_retF (fl : Flat Ef) (he : DF X ec Ef io e f) (hs : List.Sublist io O := by decide) : DS X ec Ef io Ol O O' (.Return (some e) pos) (retF f) :=
  ⟨(ps_ret he.pe).imp fun D σ H ⟨B, P, Z, ρ, hE, p⟩ => by
    obtain ⟨P', _, hE'⟩ := hE.release hs
    refine ⟨B, P', Z, ρ, hE', PostS.of fl hE' p fun d v H1 _ s d1 hE1 p1 => p1 _ _ _ _ hE1 ?_⟩
    obtain ⟨q, vs, ds, e1, e2, e3, e4⟩ := d1
    refine .inr ⟨q, vs, ds, e1, e2, ?_, e4⟩
    cases h : B.1 q with
    | none => rfl
    | some o => rw [hE'.bs q o h] at e3; cases e3⟩
theorem ds_retN (hs : List.Sublist io O := by decide) : DS X ec Ef io Ol O O' (.Return none pos) (fun ρ => .ok (.rt .none ρ)) :=
  ⟨ps_retN.imp fun D σ H ⟨B, P, Z, ρ, hE, p⟩ => by
    obtain ⟨P', _, hE'⟩ := hE.release hs
    exact p _ _ _ _ hE' .non⟩
theorem ds_expr (fl : Flat Ef) (he : DE X ec Ef O e f) (hs : swapsWith e none pos.line X.env = pure false := by rfl) : DS X ec Ef io Ol O O (.Expr e pos) (fun ρ => (f ρ).bind fun _ => .ok (.nx ρ)) :=
  ⟨(ps_expr he.pe hs).imp fun D σ H ⟨B, P, Z, ρ, hE, p⟩ => ⟨B, P, Z, ρ, hE, PostS.of fl hE p fun d v H1 _ s d1 hE1 p1 => p1 _ _ _ hE1⟩⟩
theorem ds_pass : DS X ec Ef io Ol O O (.Pass pos) (fun ρ => .ok (.nx ρ)) := ⟨ps_pass.imp fun D σ H ⟨B, P, Z, ρ, hE, p⟩ => p _ _ _ hE⟩
theorem ds_continue (hs : List.Sublist Ol O := by decide) : DS X ec Ef io Ol O O' (.Continue pos) (fun ρ => .ok (.ct ρ)) := ⟨ps_continue.imp fun D σ H ⟨B, P, Z, ρ, hE, p⟩ => by
  obtain ⟨P', _, hE'⟩ := hE.release hs
  exact p _ _ _ hE'⟩
/-- x.append(e), x an owned list -/
def appD (l d : PyData) : R PyData := match l with
  | .list ds => if ds.length < sizeLine then .ok (.list (ds ++ [d])) else .bad
  | _ => .bad
def appE (i : Nat) (f : Rho → R PyData) : Rho → R Fl := fun ρ => (getV ρ i).bind fun l => (f ρ).bind fun d => (appD l d).bind fun l' => .ok (.nx (ρ.set i (some (.d l'))))
theorem ds_append {o : Expr} {i : Nat} {apos cpos : Pos} (fl : Flat Ef) (ho : PE X o (tVar i)) (he : DE X ec Ef O e f) (hO : i ∈ O := by decide)
    (hbase : attributeBase o "append" X.env (eval o X.env) = eval o X.env := by rfl)
    (hfew : ((backTo cpos (starEach [e] X.env)).all (fun x => !x.1) && (backToKw cpos (keywordEach [] X.env)).all (fun x => x.1.isSome)
      && decide ([e].length + ([] : List Keyword).length + (if ([] : List Keyword).isEmpty then 0 else 1) < 30)) = true := by rfl)
    (hline : (apos.endLine == cpos.line) = true := by rfl) (hst : starEach [e] X.env = (false, eval e X.env) :: starEach [] X.env := by rfl) (hplain : (backTo cpos (starEach [] X.env)).any (·.1) = false := by rfl)
    (hs : swapsWith (.Call (.Attribute o "append" apos) [e] [] cpos) none pos.line X.env = pure false := by rfl) :
    DS X ec Ef io Ol O O (.Expr (.Call (.Attribute o "append" apos) [e] [] cpos) pos) (appE i f) :=
  ⟨(ps_expr (pe_bm PySem.F.plainAttrs_list PySem.F.slot_list_append PySem.F.type_list_append mt_append ho (pa_cons he.pe pa_nil hst) hbase hfew hline hst hplain) hs).imp fun D σ H ⟨B, P, Z, ρ, hE, p⟩ => by
    obtain ⟨q, hq, x1, o, dd, x2, x3, x4⟩ := paired_left hE.own i hO
    have p0 : PostS X.K ec Ef B Z io Ol O D (appE i f ρ) := p
    cases x4 with
    | dk x4 =>
      unfold appE at p0
      have : getV ρ i = .bad := by unfold getV; rw [x2]
      rw [this] at p0
      exact p0.elim
    | @lst vs ds x4 =>
      unfold appE at p0
      rw [getV_ok x2] at p0
      have p0 : PostS X.K ec Ef B Z io Ol O D ((f ρ).bind fun d => (appD (.list ds) d).bind fun l' => .ok (.nx (ρ.set i (some (.d l'))))) := p0
      refine ⟨.ref q, x1, .inl ⟨rfl, _, .inl (.inl x3)⟩, B, P, Z, ρ, hE, PostS.of fl hE p0 fun d v H1 _ s d1 hE1 p2 => ?_⟩
      have hl : vs.length = ds.length := dpa_len x4
      unfold appD at p2
      by_cases hz : ds.length < sizeLine
      · simp only [hz, if_true, R.ok_bind] at p2
        exact ⟨q, vs, v, rfl, rfl, s.fr _ _ (hE.ps hq) x3, by rw [hl]; exact hz, p2 _ _ _ (hE1.setO hO x1 (.lst (dpa_append (dpa_mono s.vis ds vs x4) (.cons d1 .nil))))⟩
      · simp only [hz, if_false, R.bad_bind] at p2
        exact p2.elim⟩
/-- x[k] = e, x an owned list -/
def putD (l k d : PyData) : R PyData := match l, k with
  | .list ds, .int i => match ixN ds.length i with
    | some j => .ok (.list (ds.set j d))
    | none => .bad
  | _, _ => .bad
def putE (i : Nat) (fk f : Rho → R PyData) : Rho → R Fl := fun ρ => (f ρ).bind fun d => (getV ρ i).bind fun l => (fk ρ).bind fun k => (putD l k d).bind fun l' => .ok (.nx (ρ.set i (some (.d l'))))
theorem ds_put {o k : Expr} {fk : Rho → R PyData} {i : Nat} {tpos : Pos} (fl : Flat Ef) (ho : PE X o (tVar i)) (hk : DE X ec Ef O k fk) (he : DE X ec Ef O e f) (hO : i ∈ O := by decide)
    (ha : ∀ v, assign (.Subscript o k tpos) X.env v = (do
      let ov ← holding [v] (eval o X.env)
      let iv ← holding [v, ov] (eval k X.env)
      standAt tpos
      holding [v, ov, iv] (setItem ov iv v)
      release [v, ov, iv] []) := by intro _; rfl)
    (hs : swapsWithSole [.Subscript o k tpos] e pos.line X.env = pure false := by rfl) (hw : swappedStores [.Subscript o k tpos] e X.env = pure none := by rfl) (h1 : (assignEach [.Subscript o k tpos] X.env).map (·.2) = [assign (.Subscript o k tpos) X.env] := by rfl) :
    DS X ec Ef io Ol O O (.Assign [.Subscript o k tpos] e pos) (putE i fk f) :=
  ⟨(ps_asg he.pe (pg_sub ho hk.pe set_list ha) hs hw h1).imp fun D σ H ⟨B, P, Z, ρ, hE, p⟩ => ⟨B, P, Z, ρ, hE, PostS.of fl hE p fun d v H1 _ s d1 hE1 p1 => by
    obtain ⟨q, hq, x1, o, dd, x2, x3, x4⟩ := paired_left hE1.own i hO
    cases x4 with
    | dk x4 =>
      have : getV ρ i = .bad := by unfold getV; rw [x2]
      rw [this] at p1
      exact p1.elim
    | @lst vs ds x4 =>
      rw [getV_ok x2] at p1
      have p1 : PostS X.K ec Ef B Z io Ol O D ((fk ρ).bind fun k => (putD (.list ds) k d).bind fun l' => .ok (.nx (ρ.set i (some (.d l'))))) := p1
      refine ⟨.ref q, x1, B, P, Z, ρ, hE1, PostS.of fl hE1 p1 fun kd kv H2 _ s2 d2 hE2 p3 => ?_⟩
      cases kd with
      | int n =>
        unfold putD at p3
        have hl : vs.length = ds.length := dpa_len x4
        cases hj : ixN ds.length n with
        | none => simp only [hj, R.bad_bind] at p3; exact p3.elim
        | some j =>
          simp only [hj, R.ok_bind] at p3
          have e2 : kv = .int n := by cases d2; rfl
          exact ⟨q, vs, n, j, rfl, e2, s2.fr _ _ (hE1.ps hq) x3, by rw [hl]; exact hj, p3 _ _ _ (hE2.setO hO x1 (.lst (dpa_set (d1.mono s2) j (dpa_mono s2.vis ds vs x4))))⟩
      | _ => exact p3.elim⟩⟩
/-- if -/
theorem ds_if {c : Expr} {a b : List Stmt} {fc : Rho → R Bool} (fl : Flat Ef) (hc : DT X ec Ef O c fc) (ha : DSs X ec Ef io Ol O O' a g) (hb : DSs X ec Ef io Ol O O' b h) : DS X ec Ef io Ol O O' (.If c a b pos) (fun ρ => (fc ρ).bind fun k => if k = true then g ρ else h ρ) :=
  ⟨(ps_if hc.pt ha.ps hb.ps).imp fun D σ H ⟨B, P, Z, ρ, hE, p⟩ => ⟨B, P, Z, ρ, hE, PostS.of fl hE p fun k v H1 _ s d1 hE1 p1 => by
    cases d1
    cases k with
    | true => rw [if_pos rfl] at p1 ⊢; exact ⟨B, P, Z, ρ, hE1, p1⟩
    | false => rw [if_neg Bool.false_ne_true] at p1 ⊢; exact ⟨B, P, Z, ρ, hE1, p1⟩⟩⟩
/-- raise -/
theorem ds_raise {W : WX} {c : Nat} {t : L2.St → Hp → XK → Prop} (hc : X.calm = true) (tk : Takes X (fun cls d σ H => Ef σ cls d H)) (hm : PMk X e (fun _ H Q => Q (ec.cls c) none H)) : DS X ec Ef io Ol O O' (.Raise (some e) none pos) (fun _ => .exc c none) :=
  ⟨(ps_raise hc tk hm).imp fun D σ H ⟨B, P, Z, ρ, hE, p⟩ => (show PostS X.K ec Ef B Z io Ol O' D (.exc c none) from p) σ H none hE.bs hE.so rfl⟩
end
end DL
set_option Elab.async false
set_option linter.all false
set_option maxRecDepth 100000
set_option maxHeartbeats 1000000
namespace DL
open PySem PySem.Spec PyProof.Rows L2
/-! ### contracts -/
/-- what a call meets: the sources are kept -/
structure Met (S : Srcs tt) (M : List Addr) (H : Hp) : Prop where
  tr : ∀ m, m ∈ M → H m ≠ none
  sm : ∀ a, a ∈ S → a ∈ M
  so : SrcOk S H
/-- called with data, a def gives what F says; n arguments -/
def spD (K : PySem.W.Frag) (ec : EC) (n : Nat) (F : List PyData → R PyData) : Sp := fun vs H Q E =>
  vs.length = n ∧ ∃ (S : Srcs ec.tabs) (M : List Addr) (ds : List PyData), DpAll K (hid M H) vs ds ∧ Met S M H ∧ Post S K ec (dV K M) M E H Q (F ds)
/-- .. a list that is new -/
def spF (K : PySem.W.Frag) (ec : EC) (n : Nat) (F : List PyData → R PyData) : Sp := fun vs H Q E =>
  vs.length = n ∧ ∃ (S : Srcs ec.tabs) (M : List Addr) (ds : List PyData), DpAll K (hid M H) vs ds ∧ Met S M H ∧ Post S K ec (dF K H M) M E H Q (F ds)
/-- .. the first argument a source -/
def spN (K : PySem.W.Frag) (ec : EC) (n : Nat) (F : List PyData → R PyData) : Sp := fun vs H Q E =>
  vs.length = n ∧ ∃ (S : Srcs ec.tabs) (M : List Addr) (a : Addr) (us : List V) (ds : List PyData), vs = .ref a :: us ∧ a ∈ S.l ∧ DpAll K (hid M H) us ds ∧ Met S M H ∧ Post S K ec (dV K M) M E H Q (F ds)
structure FnS (P : Program) (w : World) (K : PySem.W.Frag) (mg : Str → Option Value) (base : Heap) (k n : Nat) (x : Str) (sp : Sp) : Prop where
  ex : ∃ (f : Addr) (fd : FuncData) (ps : List Str), ps.length = n ∧ mg x = some (.ref f) ∧ PySem.W.keepIn K (.ref f) = true ∧ Binds K fd ps [] ∧ FnOk P w K mg base (L2.CX P w) k f fd ps sp
abbrev FnD (P : Program) (w : World) (K : PySem.W.Frag) (mg : Str → Option Value) (base : Heap) (ec : EC) (k n : Nat) (x : Str) (F : List PyData → R PyData) : Prop := FnS P w K mg base k n x (spD K ec n F)
abbrev FnN (P : Program) (w : World) (K : PySem.W.Frag) (mg : Str → Option Value) (base : Heap) (ec : EC) (k n : Nat) (x : Str) (F : List PyData → R PyData) : Prop := FnS P w K mg base k n x (spN K ec n F)
abbrev FnF (P : Program) (w : World) (K : PySem.W.Frag) (mg : Str → Option Value) (base : Heap) (ec : EC) (k n : Nat) (x : Str) (F : List PyData → R PyData) : Prop := FnS P w K mg base k n x (spF K ec n F)
theorem FnS.mono {P : Program} {w : World} {K : PySem.W.Frag} {mg : Str → Option Value} {base : Heap} {j k n : Nat} {x : Str} {sp : Sp} (G : FnS P w K mg base j n x sp) (h : j ≤ k) : FnS P w K mg base k n x sp := by
  obtain ⟨f, fd, ps, h1, h2, h3, h4, h5⟩ := G.ex
  exact ⟨f, fd, ps, h1, h2, h3, h4, h5.mono h⟩
/-- what a callee lets out is taken -/
abbrev PassE (X : Cx) (Ef : L2.St → XK) : Prop := ∀ σ, PassesAt (L2.CX X.prog X.w) X σ (Ef σ)
theorem EnvOk.met {K : PySem.W.Frag} {B : BB tt lm} {H : Hp} {O : List Nat} {P Z : List Addr} {σ : L2.St} {ρ : Rho} (h : EnvOk K B O P Z σ H ρ) : Met B.S (P ++ Z) H := ⟨h.trk, fun a z => List.mem_append_right _ (h.sz a z), h.so⟩
def chk (n : Nat) (F : List PyData → R PyData) (ds : List PyData) : R PyData := if ds.length = n then F ds else .bad
section
variable {X : Cx} {ec : EC} {Ef : L2.St → XK} {O : List Nat} {e : Expr} {es : List Expr} {fa : Rho → R (List PyData)} {F : List PyData → R PyData} {k n : Nat} {x : Str} {p pos : Pos}
theorem de_call (G : FnD X.prog X.w X.K X.mg X.base ec k n x F) (hr : Room k X.A) (hp : PassE X Ef) (hg : Gl X x) (ha : DA X ec Ef O (e :: es) fa) (hdb : (x == ("__debug__" : Str)) = false := by decide)
    (he : starEach (e :: es) X.env = (false, eval e X.env) :: starEach es X.env := by rfl) (hpl : (backTo pos (starEach es X.env)).any (·.1) = false := by rfl) : DE X ec Ef O (.Call (.Name x p) (e :: es) [] pos) (fun ρ => (fa ρ).bind (chk n F)) := by
  obtain ⟨f, fd, ps, h1, h2, h3, h4, h5⟩ := G.ex
  exact ⟨(pe_callS (E := Ef) h5 hr hg h2 h3 h4 hp ha.pa hdb he hpl).imp fun σ H Q ⟨B, P, Z, ρ, hE, q⟩ => ⟨B, P, Z, ρ, hE, (Post.bind q).imp fun vs H1 ⟨ds, _, s1, d1, p1⟩ => by
    unfold chk at p1
    by_cases hn : ds.length = n
    · rw [if_pos hn] at p1
      exact ⟨(dpa_len d1).trans hn, B.S, P ++ Z, ds, d1, (hE.same s1).met, p1⟩
    · rw [if_neg hn] at p1; exact p1.elim⟩⟩
theorem dF_since {K : PySem.W.Frag} {M : List Addr} {H H1 H' : Hp} {v : V} {d : PyData} (s : ∀ p, H1 p = none → H p = none) (h : dF K H1 M H' v d) : dF K H M H' v d := by
  obtain ⟨p, vs, ds, e1, e2, e3, e4⟩ := h
  exact ⟨p, vs, ds, e1, e2, s p e3, e4⟩
theorem df_call (G : FnF X.prog X.w X.K X.mg X.base ec k n x F) (hr : Room k X.A) (hp : PassE X Ef) (hg : Gl X x) (ha : DA X ec Ef O (e :: es) fa) (hdb : (x == ("__debug__" : Str)) = false := by decide)
    (he : starEach (e :: es) X.env = (false, eval e X.env) :: starEach es X.env := by rfl) (hpl : (backTo pos (starEach es X.env)).any (·.1) = false := by rfl) : DF X ec Ef O (.Call (.Name x p) (e :: es) [] pos) (fun ρ => (fa ρ).bind (chk n F)) := by
  obtain ⟨f, fd, ps, h1, h2, h3, h4, h5⟩ := G.ex
  exact ⟨(pe_callS (E := Ef) h5 hr hg h2 h3 h4 hp ha.pa hdb he hpl).imp fun σ H Q ⟨B, P, Z, ρ, hE, q⟩ => ⟨B, P, Z, ρ, hE, (Post.bind q).imp fun vs H1 ⟨ds, _, s1, d1, p1⟩ => by
    unfold chk at p1
    by_cases hn : ds.length = n
    · rw [if_pos hn] at p1
      exact ⟨(dpa_len d1).trans hn, B.S, P ++ Z, ds, d1, (hE.same s1).met, p1.den fun H' v a => dF_since (s1.free hE.so)⟩
    · rw [if_neg hn] at p1; exact p1.elim⟩⟩
/-- a source in a slot -/
def getS (ρ : Rho) (i : Nat) : R Unit := match ρ[i]? with
  | some (some .src) => .ok ()
  | _ => .bad
theorem getS_case {ρ : Rho} {i : Nat} : (ρ[i]? = some (some .src) ∧ getS ρ i = .ok ()) ∨ getS ρ i = .bad := by
  unfold getS
  split
  · rename_i h
    exact .inl ⟨h, rfl⟩
  · exact .inr rfl
def chkN (n : Nat) (F : List PyData → R PyData) (ds : List PyData) : R PyData := if ds.length + 1 = n then F ds else .bad
/-- a call that draws -/
theorem de_callN {i : Nat} {s : Expr} (G : FnN X.prog X.w X.K X.mg X.base ec k n x F) (hr : Room k X.A) (hp : PassE X Ef) (hg : Gl X x) (hsrc : PE X s (tVar i)) (ha : DA X ec Ef O es fa) (hi : i ∉ O := by decide) (hdb : (x == ("__debug__" : Str)) = false := by decide)
    (he : starEach (s :: es) X.env = (false, eval s X.env) :: starEach es X.env := by rfl) (hpl : (backTo pos (starEach es X.env)).any (·.1) = false := by rfl) : DE X ec Ef O (.Call (.Name x p) (s :: es) [] pos) (fun ρ => (getS ρ i).bind fun _ => (fa ρ).bind fun ds => chkN n F ds) := by
  obtain ⟨f, fd, ps, h1, h2, h3, h4, h5⟩ := G.ex
  exact ⟨(pe_callS (E := Ef) h5 hr hg h2 h3 h4 hp (pa_cons hsrc ha.pa he) hdb he hpl).imp fun σ H Q ⟨B, P, Z, ρ, hE, q⟩ => by
    rcases getS_case (ρ := ρ) (i := i) with ⟨h1, h2⟩ | h2
    · have q : Post B.S X.K ec (dV X.K (P ++ Z)) (P ++ Z) (Ef σ) H Q ((getS ρ i).bind fun _ => (fa ρ).bind fun ds => chkN n F ds) := q
      rw [h2] at q
      obtain ⟨a, a1, a2⟩ := hE.src i hi h1
      refine ⟨.ref a, a2, B, P, Z, ρ, hE, (Post.bind (den := dA X.K (P ++ Z)) q).imp fun vs H1 ⟨ds, _, s1, d1, p1⟩ => ?_⟩
      unfold chkN at p1
      by_cases hn : ds.length + 1 = n
      · rw [if_pos hn] at p1
        exact ⟨by rw [← hn, List.length_cons, dpa_len d1], B.S, P ++ Z, a, vs, ds, rfl, a1, d1, (hE.same s1).met, p1⟩
      · rw [if_neg hn] at p1; exact p1.elim
    · have q : Post B.S X.K ec (dV X.K (P ++ Z)) (P ++ Z) (Ef σ) H Q ((getS ρ i).bind fun _ => (fa ρ).bind fun ds => chkN n F ds) := q
      rw [h2] at q
      exact q.elim⟩
end
/-! ### a def by its body -/
def runS (n : Nat) (g : Rho → R Fl) (ss : List SV) : R PyData := (g (ss.map some ++ List.replicate (n - ss.length) none)).bind fun f => match f with
  | .nx _ => .ok .none
  | .rt d _ => .ok d
  | .rf d _ => .ok d
  | _ => .bad
/-- .. a new list is returned -/
def runF (n : Nat) (g : Rho → R Fl) (ss : List SV) : R PyData := (g (ss.map some ++ List.replicate (n - ss.length) none)).bind fun f => match f with
  | .rf (.list ds) _ => .ok (.list ds)
  | _ => .bad
/-- .. a tuple that bears no dict -/
def runZ (n : Nat) (g : Rho → R Fl) (ss : List SV) : R PyData := (g (ss.map some ++ List.replicate (n - ss.length) none)).bind fun f => match f with
  | .rf (.tuple ds) _ => .ok (.tuple ds)
  | _ => .bad
abbrev runB (n : Nat) (g : Rho → R Fl) (ds : List PyData) : R PyData := runS n g (ds.map .d)
abbrev runN (n : Nat) (g : Rho → R Fl) (ds : List PyData) : R PyData := runS n g (.src :: ds.map .d)
/-- values in slots -/
inductive SAll (K : PySem.W.Frag) (lm : LamD) (S : Srcs tt) (G : Hp) : List V → List SV → Prop
  | nil : SAll K lm S G [] []
  | d {v : V} {x : PyData} {vs : List V} {ss : List SV} (h : Dp K G v x) (t : SAll K lm S G vs ss) : SAll K lm S G (v :: vs) (.d x :: ss)
  | src {a : Addr} {vs : List V} {ss : List SV} (h : a ∈ S.l) (t : SAll K lm S G vs ss) : SAll K lm S G (.ref a :: vs) (.src :: ss)
  | fn {x : Str} {vs : List V} {ss : List SV} (t : SAll K lm S G vs ss) : SAll K lm S G (.ref (He.ga K x) :: vs) (.fn x :: ss)
  | lam {vs : List V} {ss : List SV} (t : SAll K lm S G vs ss) : SAll K lm S G (.ref lm.fl :: vs) (.lam :: ss)
  | tf {v : V} {ds : List PyData} {vs : List V} {ss : List SV} (h : FzT K G v ds) (t : SAll K lm S G vs ss) : SAll K lm S G (v :: vs) (.tf ds :: ss)
section
variable {P : Program} {w : World} {K : PySem.W.Frag} {mg : Str → Option Value} {base : Heap}
theorem sall_of {S : Srcs tt} {G : Hp} : ∀ {vs : List V} {ds : List PyData}, DpAll K G vs ds → SAll K lm S G vs (ds.map .d)
  | _, _, .nil => .nil
  | _, _, .cons r t => .d r (sall_of t)
theorem sall_len {S : Srcs tt} {G : Hp} : ∀ {vs : List V} {ss : List SV}, SAll K lm S G vs ss → vs.length = ss.length
  | _, _, .nil => rfl
  | _, _, .d _ t => by rw [List.length_cons, List.length_cons, sall_len t]
  | _, _, .src _ t => by rw [List.length_cons, List.length_cons, sall_len t]
  | _, _, .fn t => by rw [List.length_cons, List.length_cons, sall_len t]
  | _, _, .lam t => by rw [List.length_cons, List.length_cons, sall_len t]
  | _, _, .tf _ t => by rw [List.length_cons, List.length_cons, sall_len t]
theorem sall_d {S : Srcs tt} {G : Hp} {vs : List V} {ss : List SV} (h : SAll K lm S G vs ss) : ∀ {i : Nat} {x : SV}, SV.isD x = true → ss[i]? = some x → ∃ v, vs[i]? = some v ∧ SvD K G v x := by
  induction h with
  | nil => intro i x _ e; simp at e
  | d r t ih =>
    intro i x hd e
    cases i with
    | zero => cases e; exact ⟨_, rfl, r⟩
    | succ i => exact ih (i := i) hd e
  | tf r t ih =>
    intro i x hd e
    cases i with
    | zero => cases e; exact ⟨_, rfl, r⟩
    | succ i => exact ih (i := i) hd e
  | src a t ih =>
    intro i x hd e
    cases i with
    | zero => cases e; cases hd
    | succ i => exact ih (i := i) hd e
  | fn t ih =>
    intro i x hd e
    cases i with
    | zero => cases e; cases hd
    | succ i => exact ih (i := i) hd e
  | lam t ih =>
    intro i x hd e
    cases i with
    | zero => cases e; cases hd
    | succ i => exact ih (i := i) hd e
theorem sall_s {S : Srcs tt} {G : Hp} {vs : List V} {ss : List SV} (h : SAll K lm S G vs ss) : ∀ {i : Nat}, ss[i]? = some .src → ∃ a, a ∈ S.l ∧ vs[i]? = some (.ref a) := by
  induction h with
  | nil => intro i e; simp at e
  | d r t ih =>
    intro i e
    cases i with
    | zero => cases e
    | succ i => exact ih (i := i) e
  | src a t ih =>
    intro i e
    cases i with
    | zero => exact ⟨_, a, rfl⟩
    | succ i => exact ih (i := i) e
  | fn t ih =>
    intro i e
    cases i with
    | zero => cases e
    | succ i => exact ih (i := i) e
  | lam t ih =>
    intro i e
    cases i with
    | zero => cases e
    | succ i => exact ih (i := i) e
  | tf r t ih =>
    intro i e
    cases i with
    | zero => cases e
    | succ i => exact ih (i := i) e
theorem sall_f {S : Srcs tt} {G : Hp} {x : Str} {vs : List V} {ss : List SV} (h : SAll K lm S G vs ss) : ∀ {i : Nat}, ss[i]? = some (.fn x) → vs[i]? = some (.ref (He.ga K x)) := by
  induction h with
  | nil => intro i e; simp at e
  | d r t ih =>
    intro i e
    cases i with
    | zero => cases e
    | succ i => exact ih (i := i) e
  | src a t ih =>
    intro i e
    cases i with
    | zero => cases e
    | succ i => exact ih (i := i) e
  | fn t ih =>
    intro i e
    cases i with
    | zero => cases e; rfl
    | succ i => exact ih (i := i) e
  | lam t ih =>
    intro i e
    cases i with
    | zero => cases e
    | succ i => exact ih (i := i) e
  | tf r t ih =>
    intro i e
    cases i with
    | zero => cases e
    | succ i => exact ih (i := i) e
theorem sall_l {S : Srcs tt} {G : Hp} {vs : List V} {ss : List SV} (h : SAll K lm S G vs ss) : ∀ {i : Nat}, ss[i]? = some .lam → vs[i]? = some (.ref lm.fl) := by
  induction h with
  | nil => intro i e; simp at e
  | d r t ih =>
    intro i e
    cases i with
    | zero => cases e
    | succ i => exact ih (i := i) e
  | src a t ih =>
    intro i e
    cases i with
    | zero => cases e
    | succ i => exact ih (i := i) e
  | fn t ih =>
    intro i e
    cases i with
    | zero => cases e
    | succ i => exact ih (i := i) e
  | lam t ih =>
    intro i e
    cases i with
    | zero => rfl
    | succ i => exact ih (i := i) e
  | tf r t ih =>
    intro i e
    cases i with
    | zero => cases e
    | succ i => exact ih (i := i) e
/-- the slots at a def's entry -/
theorem env_start {N : List Str} {vs : List V} {ss : List SV} {S : Srcs tt} {M : List Addr} {H : Hp} (hd : SAll K lm S (hid M H) vs ss) (m : Met S M H) (hL : SV.lam ∈ ss → LamAt K lm S M H) :
    EnvOk K (⟨hid S H, hid M H, S⟩ : BB tt lm) [] [] M (start N vs) H (ss.map some ++ List.replicate (N.length - ss.length) none) := by
  have hl := sall_len hd
  have key : ∀ (i : Nat) (x : SV), (ss.map some ++ List.replicate (N.length - ss.length) none)[i]? = some (some x) → i < ss.length ∧ ss[i]? = some x := by
    intro i x e
    by_cases hi : i < ss.length
    · rw [List.getElem?_append_left (by rw [List.length_map]; exact hi), List.getElem?_map] at e
      obtain ⟨d', h1, h2⟩ := Option.map_eq_some_iff.mp e
      cases h2
      exact ⟨hi, h1⟩
    · rw [List.getElem?_append_right (by rw [List.length_map]; omega), List.getElem?_replicate] at e
      split at e <;> cases e
  have sl : ∀ (i : Nat) (v : V), i < ss.length → vs[i]? = some v → (start N vs)[i]? = some (some v) := by
    intro i v hi e
    unfold L2.start
    rw [List.getElem?_append_left (by rw [List.length_map, hl]; exact hi), List.getElem?_map, e]
    rfl
  refine ⟨by unfold L2.start; rw [List.length_append, List.length_append, List.length_map, List.length_map, List.length_replicate, List.length_replicate, hl], hid_le, Same.refl _, .nil, List.nodup_nil, (fun p z => by cases z), m.tr, (fun p z => by cases z), m.sm, (fun a ha => hid_in ha), m.so, fun i _ e => ?_, fun i x _ e => ?_, fun i _ e => ?_, fun i d _ hdd e => ?_⟩
  · obtain ⟨h1, h2⟩ := key i _ e
    obtain ⟨a, h3, h4⟩ := sall_s hd h2
    exact ⟨a, h3, sl i _ h1 h4⟩
  · obtain ⟨h1, h2⟩ := key i _ e
    exact sl i _ h1 (sall_f hd h2)
  · obtain ⟨h1, h2⟩ := key i _ e
    exact ⟨sl i _ h1 (sall_l hd h2), hL (List.mem_of_getElem? h2)⟩
  · obtain ⟨h1, h2⟩ := key i _ e
    obtain ⟨v, h3, h4⟩ := sall_d hd hdd h2
    exact ⟨v, sl i _ h1 h3, h4⟩
theorem flatE {E : XK} : Flat (fun _ => E) := fun _ _ _ _ _ h => h
theorem mir_of {ec : EC} {S : Srcs tt} {M : List Addr} {n : Nat} {g : Rho → R Fl} {r : R PyData} {ss : List SV} {H : Hp} {Q : VK} {E : XK} (m : Met S M H) (mir : R.le r (runS n g ss)) (p : Post S K ec (dV K M) M E H Q r) :
    PostS K ec (fun _ => E) (⟨hid S H, hid M H, S⟩ : BB tt lm) M [] [] [] ⟨fun _ H' => Q .non H', fun v H' => Q v H', fun _ _ => False, fun _ _ => False⟩ (g (ss.map some ++ List.replicate (n - ss.length) none)) := by
  have q := mir _ _ p
  unfold runS at q
  rw [R.wp_bind] at q
  refine R.wp_imp q (fun f q => ?_) (fun c x q => ?_)
  · cases f with
    | rf d ρ' => exact fun v σ' P' H' hE' hv => q _ _ (.mk' m.sm hE'.bs hE'.so) (dp_mono (hid_sub fun a z => List.mem_append_right _ z) d v hv.toV)
    | nx ρ' => exact fun σ' P' H' hE' => q _ _ (.mk' m.sm hE'.bs hE'.so) .non
    | rt d ρ' => exact fun v σ' P' H' hE' hv => q _ _ (.mk' m.sm hE'.bs hE'.so) (dp_mono (hid_sub fun a z => List.mem_append_right _ z) d v hv)
    | bk ρ' => exact q.elim
    | ct ρ' => exact q.elim
  · exact fun σ' H' dx s so e => q H' dx (.mk' m.sm s so) e
theorem mirF_of {ec : EC} {S : Srcs tt} {M : List Addr} {n : Nat} {g : Rho → R Fl} {r : R PyData} {ss : List SV} {H : Hp} {Q : VK} {E : XK} (m : Met S M H) (mir : R.le r (runF n g ss)) (p : Post S K ec (dF K H M) M E H Q r) :
    PostS K ec (fun _ => E) (⟨hid S H, hid M H, S⟩ : BB tt lm) M [] [] [] ⟨fun _ H' => Q .non H', fun v H' => Q v H', fun _ _ => False, fun _ _ => False⟩ (g (ss.map some ++ List.replicate (n - ss.length) none)) := by
  have q := mir _ _ p
  unfold runF at q
  rw [R.wp_bind] at q
  refine R.wp_imp q (fun f q => ?_) (fun c x q => ?_)
  · cases f with
    | rf d ρ' =>
      cases d with
      | list ds =>
        refine fun v σ' P' H' hE' hv => q _ _ (.mk' m.sm hE'.bs hE'.so) ?_
        rcases hv with ⟨_, e, _⟩ | hv
        · cases e
        obtain ⟨p, vs, ds, e1, e2, e3, e4, e5, e6⟩ := hv
        have np : p ∉ M := fun z => e4 (List.mem_append_right _ z)
        have e3 : hid S H p = none := e3
        rw [hid_out fun z => np (m.sm p z)] at e3
        exact ⟨p, vs, ds, e1, e2, e3, np, e5, dpa_mono (hid_sub fun a z => by
          rcases List.mem_cons.mp z with z | z
          · exact z ▸ List.mem_cons_self
          · exact List.mem_cons_of_mem _ (List.mem_append_right _ z)) ds vs e6⟩
      | _ => exact q.elim
    | nx ρ' => exact q.elim
    | rt d ρ' => exact q.elim
    | bk ρ' => exact q.elim
    | ct ρ' => exact q.elim
  · exact fun σ' H' dx s so e => q H' dx (.mk' m.sm s so) e
/-- a tuple that bears no dict -/
def dZ (K : PySem.W.Frag) (M : List Addr) (H : Hp) (v : V) (d : PyData) : Prop := ∃ ds, d = .tuple ds ∧ FzT K (hid M H) v ds
theorem mirZ_of {ec : EC} {S : Srcs tt} {M : List Addr} {n : Nat} {g : Rho → R Fl} {r : R PyData} {ss : List SV} {H : Hp} {Q : VK} {E : XK} (m : Met S M H) (mir : R.le r (runZ n g ss)) (p : Post S K ec (dZ K M) M E H Q r) :
    PostS K ec (fun _ => E) (⟨hid S H, hid M H, S⟩ : BB tt lm) M [] [] [] ⟨fun _ H' => Q .non H', fun v H' => Q v H', fun _ _ => False, fun _ _ => False⟩ (g (ss.map some ++ List.replicate (n - ss.length) none)) := by
  have q := mir _ _ p
  unfold runZ at q
  rw [R.wp_bind] at q
  refine R.wp_imp q (fun f q => ?_) (fun c x q => ?_)
  · cases f with
    | rf d ρ' =>
      cases d with
      | tuple ds =>
        refine fun v σ' P' H' hE' hv => q _ _ (.mk' m.sm hE'.bs hE'.so) ?_
        rcases hv with ⟨_, e, hv⟩ | ⟨_, _, _, _, e, _⟩
        · cases e
          exact ⟨_, rfl, hv.mono (hid_sub fun a z => List.mem_append_right _ z)⟩
        · cases e
      | _ => exact q.elim
    | nx ρ' => exact q.elim
    | rt d ρ' => exact q.elim
    | bk ρ' => exact q.elim
    | ct ρ' => exact q.elim
  · exact fun σ' H' dx s so e => q H' dx (.mk' m.sm s so) e
/-- a body's derivation -/
abbrev BodyOk (P : Program) (w : World) (K : PySem.W.Frag) (mg : Str → Option Value) (base : Heap) (ec : EC) (qual : Str) (st : Stmt) (f : Addr) (N : List Str) (k : Nat) (g : Rho → R Fl) : Prop :=
  ∀ (cdv : Value) (A : Around) (outer : List Env) (s : Shared) (H : Hp) (E : XK), Room k (A.deeper (envOfC qual (defScope st) s.heap.objs.size f cdv)) → PassE (cxOf (L2.CX P w) P w K mg base N qual (defScope st) f cdv A outer s H E) (fun _ => E) →
      Takes (cxOf (L2.CX P w) P w K mg base N qual (defScope st) f cdv A outer s H E) (fun cls d _ H => E cls d H) →
      DSs (cxOf (L2.CX P w) P w K mg base N qual (defScope st) f cdv A outer s H E) ec (fun _ => E) [] [] [] [] (defBody st) g
theorem okD_of {ec : EC} {x qual : Str} {st : Stmt} {f : Addr} {fd : FuncData} {N ps : List Str} {k n : Nat} {g : Rho → R Fl} {F : List PyData → R PyData} (Fn : FunD K x qual (defArgs st) (defBody st) (defScope st) [] [] f fd) (S : FnScope N ps (defScope st)) (hn : ps.length = n)
    (body : BodyOk P w K mg base ec qual st f N k g) (mir : ∀ ds, ds.length = n → R.le (F ds) (runB N.length g ds)) : FnOk P w K mg base (L2.CX P w) (k + 1) f fd ps (spD K ec n F) := by
  refine Fn.ok S (fun vs H Q E h => by rw [hn]; exact h.1) fun cdv A outer s H vs Q E hr h => ?_
  obtain ⟨hl, S, M, ds, hd, m, p⟩ := h
  have tk : Takes (cxOf (L2.CX P w) P w K mg base N qual (defScope st) f cdv A outer s H E) (fun cls d _ H => E cls d H) := takes_of rfl rfl rfl rfl
  have ps' : PassE (cxOf (L2.CX P w) P w K mg base N qual (defScope st) f cdv A outer s H E) (fun _ => E) := fun σ => passAt tk σ
  exact ⟨_, (body cdv A outer s H E hr ps' tk).ps, ⟨hid S H, hid M H, S⟩, [], M, _, env_start (sall_of hd) m (fun z => by simp at z), mir_of m (mir ds ((dpa_len hd).symm.trans hl)) p⟩
theorem fnD_of {ec : EC} {x qual : Str} {st : Stmt} {f : Addr} {fd : FuncData} {N ps : List Str} {k n : Nat} {g : Rho → R Fl} {F : List PyData → R PyData} (Fn : FunD K x qual (defArgs st) (defBody st) (defScope st) [] [] f fd) (S : FnScope N ps (defScope st)) (hb : Binds K fd ps []) (hg : mg x = some (.ref f)) (hn : ps.length = n)
    (body : BodyOk P w K mg base ec qual st f N k g) (mir : ∀ ds, ds.length = n → R.le (F ds) (runB N.length g ds)) : FnD P w K mg base ec (k + 1) n x F :=
  ⟨f, fd, ps, hn, hg, Fn.kp, hb, okD_of Fn S hn body mir⟩
theorem fnN_of {ec : EC} {x qual : Str} {st : Stmt} {f : Addr} {fd : FuncData} {N ps : List Str} {k n : Nat} {g : Rho → R Fl} {F : List PyData → R PyData} (Fn : FunD K x qual (defArgs st) (defBody st) (defScope st) [] [] f fd) (S : FnScope N ps (defScope st)) (hb : Binds K fd ps []) (hg : mg x = some (.ref f)) (hn : ps.length = n)
    (body : BodyOk P w K mg base ec qual st f N k g) (mir : ∀ ds, ds.length + 1 = n → R.le (F ds) (runN N.length g ds)) : FnN P w K mg base ec (k + 1) n x F := by
  refine ⟨f, fd, ps, hn, hg, Fn.kp, hb, Fn.ok S (fun vs H Q E h => by rw [hn]; exact h.1) fun cdv A outer s H vs Q E hr h => ?_⟩
  obtain ⟨hl, S, M, a, us, ds, rfl, ha, hd, m, p⟩ := h
  have tk : Takes (cxOf (L2.CX P w) P w K mg base N qual (defScope st) f cdv A outer s H E) (fun cls d _ H => E cls d H) := takes_of rfl rfl rfl rfl
  have ps' : PassE (cxOf (L2.CX P w) P w K mg base N qual (defScope st) f cdv A outer s H E) (fun _ => E) := fun σ => passAt tk σ
  exact ⟨_, (body cdv A outer s H E hr ps' tk).ps, ⟨hid S H, hid M H, S⟩, [], M, _, env_start (.src ha (sall_of hd)) m (fun z => by simp at z), mir_of m (mir ds (by rw [List.length_cons] at hl; rw [← dpa_len hd]; exact hl)) p⟩
theorem fnF_of {ec : EC} {x qual : Str} {st : Stmt} {f : Addr} {fd : FuncData} {N ps : List Str} {k n : Nat} {g : Rho → R Fl} {F : List PyData → R PyData} (Fn : FunD K x qual (defArgs st) (defBody st) (defScope st) [] [] f fd) (S : FnScope N ps (defScope st)) (hb : Binds K fd ps []) (hg : mg x = some (.ref f)) (hn : ps.length = n)
    (body : BodyOk P w K mg base ec qual st f N k g) (mir : ∀ ds, ds.length = n → R.le (F ds) (runF N.length g (ds.map .d))) : FnF P w K mg base ec (k + 1) n x F := by
  refine ⟨f, fd, ps, hn, hg, Fn.kp, hb, Fn.ok S (fun vs H Q E h => by rw [hn]; exact h.1) fun cdv A outer s H vs Q E hr h => ?_⟩
  obtain ⟨hl, S, M, ds, hd, m, p⟩ := h
  have tk : Takes (cxOf (L2.CX P w) P w K mg base N qual (defScope st) f cdv A outer s H E) (fun cls d _ H => E cls d H) := takes_of rfl rfl rfl rfl
  have ps' : PassE (cxOf (L2.CX P w) P w K mg base N qual (defScope st) f cdv A outer s H E) (fun _ => E) := fun σ => passAt tk σ
  exact ⟨_, (body cdv A outer s H E hr ps' tk).ps, ⟨hid S H, hid M H, S⟩, [], M, _, env_start (sall_of hd) m (fun z => by simp at z), mirF_of m (mir ds ((dpa_len hd).symm.trans hl)) p⟩
end
end DL
set_option Elab.async false
set_option linter.all false
set_option maxRecDepth 100000
set_option maxHeartbeats 1000000
namespace DL
open PySem PySem.Spec PyProof.Rows L2
/-! ### calls of built-ins, by values -/
def rC1 (K : PySem.W.Frag) (den : Hp → List Addr → Hp → V → PyData → Prop) (g : PyData → Option PyData) : List V → Hp → VK → Prop := fun xs H Q =>
  ∃ (B : Hp) (S M : List Addr) (v : V) (dv d : PyData), xs = [v] ∧ (∀ p, H p = none → B p = none) ∧ (∀ m, m ∈ M → H m ≠ none) ∧ dB K S M H v dv ∧ g dv = some d ∧ ∀ z H', Same H H' → den B M H' z d → Q z H'
abbrev C1D (X : Cx) (f : Value) (g : PyData → Option PyData) : Prop := CallR X f (rC1 X.K (fun _ => dV X.K) g)
abbrev C1F (X : Cx) (f : Value) (g : PyData → Option PyData) : Prop := CallR X f (rC1 X.K (fun H => dF X.K H) g)
def fC1 (g : PyData → Option PyData) (fa : Rho → R PyData) : Rho → R PyData := fun ρ => (fa ρ).bind fun x => R.ofO (g x)
section
variable {X : Cx} {ec : EC} {Ef : L2.St → XK} {O : List Nat} {a b : Expr} {fa fb : Rho → R PyData} {g : PyData → Option PyData} {x : Str} {p pos : Pos} {id T : String}
theorem c1_imp {den : Hp → List Addr → Hp → V → PyData → Prop} (σ : L2.St) (H : Hp) (Q : VK) (h : tG X.K ec Ef O (fun H _ M => den H M) (fC1 g fa) σ H Q) : tCB (rC1 X.K den g) (tCons (tG X.K ec Ef O (fun _ S => dB X.K S) fa) tNil) σ H Q := by
  obtain ⟨B, P, Z, ρ, hE, q⟩ := h
  refine ⟨B, P, Z, ρ, hE, (Post.bind q).imp fun v H1 ⟨dx, _, s1, d1, p1⟩ => ?_⟩
  cases hg : g dx with
  | none => rw [hg] at p1; exact p1.elim
  | some d =>
    rw [hg] at p1
    exact ⟨H, B.S, P ++ Z, v, dx, d, rfl, s1.free hE.so, (hE.same s1).trk, d1, hg, fun z H' s3 d3 => p1 z H' (.of s3) d3⟩
theorem de_b1 (hc : C1D X (.builtin id) g) (hg : Gl X x) (hm : X.mg x = none) (hv : bootBuiltins x = some (.builtin id)) (ha : DB X ec Ef O a fa) (hs : starEach [a] X.env = (false, eval a X.env) :: starEach [] X.env := by rfl) (hn : x ≠ "__name__" := by decide) (hdb : (x == ("__debug__" : Str)) = false := by decide) :
    DE X ec Ef O (.Call (.Name x p) [a] [] pos) (fC1 g fa) := ⟨(pe_callB hc hg hm hv (pa_cons ha.pe pa_nil hs) hn hdb hs (by rfl)).imp c1_imp⟩
theorem de_t1 (hc : C1D X (.type T) g) (hg : Gl X x) (hm : X.mg x = none) (hv : bootBuiltins x = some (.type T)) (ha : DB X ec Ef O a fa) (hs : starEach [a] X.env = (false, eval a X.env) :: starEach [] X.env := by rfl) (hn : x ≠ "__name__" := by decide) (hdb : (x == ("__debug__" : Str)) = false := by decide) :
    DE X ec Ef O (.Call (.Name x p) [a] [] pos) (fC1 g fa) := ⟨(pe_callTy hc hg hm hv (pa_cons ha.pe pa_nil hs) hn hdb hs (by rfl)).imp c1_imp⟩
theorem df_t1 (hc : C1F X (.type T) g) (hg : Gl X x) (hm : X.mg x = none) (hv : bootBuiltins x = some (.type T)) (ha : DB X ec Ef O a fa) (hs : starEach [a] X.env = (false, eval a X.env) :: starEach [] X.env := by rfl) (hn : x ≠ "__name__" := by decide) (hdb : (x == ("__debug__" : Str)) = false := by decide) :
    DF X ec Ef O (.Call (.Name x p) [a] [] pos) (fC1 g fa) := ⟨(pe_callTy hc hg hm hv (pa_cons ha.pe pa_nil hs) hn hdb hs (by rfl)).imp c1_imp⟩
end
/-! ### len, all, any, abs, int, tuple, list, sum -/
def gLen : PyData → Option PyData
  | .list ds => some (.int ds.length)
  | .tuple ds => some (.int ds.length)
  | .str s => if s.length ≤ sizeLine then some (.int s.length) else none
  | _ => none
def boolsOf : List PyData → Option (List Bool)
  | [] => some []
  | .bool b :: r => (boolsOf r).map (b :: ·)
  | _ => none
def gAll : PyData → Option PyData
  | .list ds => (boolsOf ds).map fun bs => .bool (bs.all id)
  | _ => none
def gAny : PyData → Option PyData
  | .list ds => (boolsOf ds).map fun bs => .bool (bs.any id)
  | _ => none
def intsOf : List PyData → Option (List Int)
  | [] => some []
  | .int b :: r => (intsOf r).map (b :: ·)
  | _ => none
def gSum : PyData → Option PyData
  | .list ds => (intsOf ds).map fun bs => .int bs.sum
  | _ => none
def gAbs : PyData → Option PyData
  | .int i => some (.int (if i < 0 then -i else i))
  | _ => none
def gInt : PyData → Option PyData
  | .int i => some (.int i)
  | .bool b => some (.int (if b then 1 else 0))
  | _ => none
def gTuple : PyData → Option PyData
  | .list ds => some (.tuple ds)
  | .tuple ds => some (.tuple ds)
  | _ => none
def gList : PyData → Option PyData
  | .list ds => some (.list ds)
  | .tuple ds => some (.list ds)
  | _ => none
section
variable {K : PySem.W.Frag} {H : Hp}
theorem bools_rel : ∀ {vs : List V} {ds : List PyData} {bs : List Bool}, DpAll K H vs ds → boolsOf ds = some bs → vs = bs.map V.bl
  | _, _, _, .nil, e => by cases e; rfl
  | _, d :: ds, bs, .cons r t, e => by
    cases d with
    | bool b =>
      have e : (boolsOf ds).map (b :: ·) = some bs := e
      obtain ⟨bs', h1, h2⟩ := Option.map_eq_some_iff.mp e
      subst h2
      rw [bools_rel t h1]
      cases r
      rfl
    | _ => cases e
theorem ints_rel : ∀ {vs : List V} {ds : List PyData} {bs : List Int}, DpAll K H vs ds → intsOf ds = some bs → vs = bs.map V.int
  | _, _, _, .nil, e => by cases e; rfl
  | _, d :: ds, bs, .cons r t, e => by
    cases d with
    | int b =>
      have e : (intsOf ds).map (b :: ·) = some bs := e
      obtain ⟨bs', h1, h2⟩ := Option.map_eq_some_iff.mp e
      subst h2
      rw [ints_rel t h1]
      cases r
      rfl
    | _ => cases e
end
section
variable {X : Cx}
theorem c_len : C1D X (.builtin "len") gLen := by
  intro pins s σ H xs us Q I r ⟨B, S, M, v, dv, d, e, hB, hM, h1, hg, k⟩
  subst e
  cases dv with
  | list ds =>
    cases hg
    obtain ⟨p, ys, e1, q1, a1⟩ := h1.lst
    exact call_len_seq pins s σ H [v] us Q I r ⟨p, ys, by rw [e1], .inl q1, by rw [dpa_len a1]; exact k _ _ (Same.refl H) (.int _)⟩
  | tuple ds =>
    cases hg
    obtain ⟨p, ys, e1, q1, a1⟩ := h1.tup
    exact call_len_seq pins s σ H [v] us Q I r ⟨p, ys, by rw [e1], .inr q1, by rw [dpa_len a1]; exact k _ _ (Same.refl H) (.int _)⟩
  | str z =>
    have hg : (if z.length ≤ sizeLine then some (PyData.int z.length) else none) = some d := hg
    by_cases hz : z.length ≤ sizeLine
    · rw [if_pos hz] at hg
      cases hg
      exact call_len_str pins s σ H [v] us Q I r ⟨z, by rw [h1.str], hz, k _ _ (Same.refl H) (.int _)⟩
    · rw [if_neg hz] at hg; cases hg
  | _ => cases hg
theorem c_all (hc : X.calm = true) : C1D X (.builtin "all") gAll := by
  intro pins s σ H xs us Q I r ⟨B, S, M, v, dv, d, e, hB, hM, h1, hg, k⟩
  subst e
  cases dv with
  | list ds =>
    obtain ⟨bs, e1, e2⟩ := Option.map_eq_some_iff.mp (show (boolsOf ds).map _ = some d from hg)
    subst e2
    obtain ⟨p, ys, e3, q1, a1⟩ := h1.lst
    exact cr_all hc pins s σ H [v] us Q I r ⟨p, bs, by rw [e3], by rw [← bools_rel a1 e1]; exact q1, k _ _ (Same.refl H) (.bl _)⟩
  | _ => cases hg
theorem c_any (hc : X.calm = true) : C1D X (.builtin "any") gAny := by
  intro pins s σ H xs us Q I r ⟨B, S, M, v, dv, d, e, hB, hM, h1, hg, k⟩
  subst e
  cases dv with
  | list ds =>
    obtain ⟨bs, e1, e2⟩ := Option.map_eq_some_iff.mp (show (boolsOf ds).map _ = some d from hg)
    subst e2
    obtain ⟨p, ys, e3, q1, a1⟩ := h1.lst
    exact cr_any hc pins s σ H [v] us Q I r ⟨p, bs, by rw [e3], by rw [← bools_rel a1 e1]; exact q1, k _ _ (Same.refl H) (.bl _)⟩
  | _ => cases hg
theorem c_sum (hc : X.calm = true) : C1D X (.builtin "sum") gSum := by
  intro pins s σ H xs us Q I r ⟨B, S, M, v, dv, d, e, hB, hM, h1, hg, k⟩
  subst e
  cases dv with
  | list ds =>
    obtain ⟨bs, e1, e2⟩ := Option.map_eq_some_iff.mp (show (intsOf ds).map _ = some d from hg)
    subst e2
    obtain ⟨p, ys, e3, q1, a1⟩ := h1.lst
    exact cr_sum hc pins s σ H [v] us Q I r ⟨p, bs, by rw [e3], by rw [← ints_rel a1 e1]; exact q1, k _ _ (Same.refl H) (.int _)⟩
  | _ => cases hg
theorem c_abs : C1D X (.builtin "abs") gAbs := by
  intro pins s σ H xs us Q I r ⟨B, S, M, v, dv, d, e, hB, hM, h1, hg, k⟩
  subst e
  cases dv with
  | int i =>
    cases hg
    exact call_abs pins s σ H [v] us Q I r ⟨i, by rw [h1.int], k _ _ (Same.refl H) (.int _)⟩
  | _ => cases hg
theorem c_int : C1D X (.type "int") gInt := by
  intro pins s σ H xs us Q I r ⟨B, S, M, v, dv, d, e, hB, hM, h1, hg, k⟩
  subst e
  cases dv with
  | int i =>
    cases hg
    exact call_int1 pins s σ H [v] us Q I r (.inl ⟨i, by rw [h1.int], k _ _ (Same.refl H) (.int _)⟩)
  | bool i =>
    cases hg
    exact call_int1 pins s σ H [v] us Q I r (.inr ⟨i, by rw [h1.bl], k _ _ (Same.refl H) (.int _)⟩)
  | _ => cases hg
theorem c_tuple : C1D X (.type "tuple") gTuple := by
  intro pins s σ H xs us Q I r ⟨B, S, M, v, dv, d, e, hB, hM, h1, hg, k⟩
  subst e
  cases dv with
  | list ds =>
    cases hg
    obtain ⟨p, ys, e1, q1, a1⟩ := h1.lst
    exact call_tuple_of pins s σ H [v] us Q I r ⟨p, ys, by rw [e1], .inl ⟨q1, fun l hl => k _ _ (same_upd hl) (new_tup hM hl a1)⟩⟩
  | tuple ds =>
    cases hg
    have hst : dV X.K M H v (.tuple ds) := by
      rcases h1 with z | ⟨_, _, _, _, e, _⟩
      · exact z
      · cases e
    obtain ⟨p, ys, e1, q1, a1⟩ := h1.tup
    rw [e1] at hst
    exact call_tuple_of pins s σ H [v] us Q I r ⟨p, ys, by rw [e1], .inr ⟨q1, k _ _ (Same.refl H) hst⟩⟩
  | _ => cases hg
theorem c_list : C1F X (.type "list") gList := by
  intro pins s σ H xs us Q I r ⟨B, S, M, v, dv, d, e, hB, hM, h1, hg, k⟩
  subst e
  cases dv with
  | list ds =>
    cases hg
    obtain ⟨p, ys, e1, q1, a1⟩ := h1.lst
    exact call_list_of pins s σ H [v] us Q I r ⟨p, ys, by rw [e1], .inl q1, fun l hl => k _ _ (same_upd hl) (new_lst hB hM hl a1)⟩
  | tuple ds =>
    cases hg
    obtain ⟨p, ys, e1, q1, a1⟩ := h1.tup
    exact call_list_of pins s σ H [v] us Q I r ⟨p, ys, by rw [e1], .inr q1, fun l hl => k _ _ (same_upd hl) (new_lst hB hM hl a1)⟩
  | _ => cases hg
end
/-! ### min(a, b), max(a, b) -/
def gMin (x y : PyData) : Option PyData := match x, y with
  | .int i, .int j => some (.int (if j < i then j else i))
  | _, _ => none
def gMax (x y : PyData) : Option PyData := match x, y with
  | .int i, .int j => some (.int (if j > i then j else i))
  | _, _ => none
section
variable {X : Cx} {ec : EC} {Ef : L2.St → XK} {O : List Nat} {a b : Expr} {fa fb : Rho → R PyData} {p pos : Pos}
theorem b2_imp {g : PyData → PyData → Option PyData} {h : Int → Int → Int} (hg : ∀ x y d, g x y = some d → ∃ i j, x = .int i ∧ y = .int j ∧ d = .int (h i j)) (σ : L2.St) (H : Hp) (Q : VK) (q : tG X.K ec Ef O (fun _ _ => dV X.K) (fBin g fa fb) σ H Q) :
    tCB (fun xs H Q => ∃ i j, xs = [.int i, .int j] ∧ Q (.int (h i j)) H) (tCons (tG X.K ec Ef O (fun _ S => dB X.K S) fa) (tCons (tG X.K ec Ef O (fun _ S => dB X.K S) fb) tNil)) σ H Q := by
  obtain ⟨B, P, Z, ρ, hE, q⟩ := q
  refine ⟨B, P, Z, ρ, hE, (Post.bind q).imp fun v H1 ⟨dx, _, s1, d1, p1⟩ => ⟨B, P, Z, ρ, hE.same s1, (Post.bind p1).imp fun u H2 ⟨dy, _, s2, d2, p2⟩ => ?_⟩⟩
  cases e : g dx dy with
  | none => rw [e] at p2; exact p2.elim
  | some d =>
    rw [e] at p2
    obtain ⟨i, j, rfl, rfl, rfl⟩ := hg _ _ _ e
    exact ⟨i, j, by rw [d1.int, d2.int], p2 _ _ (Gr.refl _) (.int _)⟩
theorem de_min2 (hc : X.calm = true) (hg : Gl X "min") (hm : X.mg "min" = none) (ha : DB X ec Ef O a fa) (hb : DB X ec Ef O b fb) (hs : starEach [a, b] X.env = (false, eval a X.env) :: starEach [b] X.env := by rfl) (hs2 : starEach [b] X.env = (false, eval b X.env) :: starEach [] X.env := by rfl)
    (hpl : (backTo pos (starEach [b] X.env)).any (·.1) = false := by rfl) : DE X ec Ef O (.Call (.Name "min" p) [a, b] [] pos) (fBin gMin fa fb) :=
  ⟨(pe_callB (call_min2 hc) hg hm (by decide +kernel) (pa_cons ha.pe (pa_cons hb.pe pa_nil hs2) hs) (by decide) (by decide) hs hpl).imp (b2_imp (h := fun i j => if j < i then j else i) fun x y d e => by
    cases x <;> cases y <;> first | exact ⟨_, _, rfl, rfl, (Option.some.inj e).symm⟩ | cases e)⟩
theorem de_max2 (hc : X.calm = true) (hg : Gl X "max") (hm : X.mg "max" = none) (ha : DB X ec Ef O a fa) (hb : DB X ec Ef O b fb) (hs : starEach [a, b] X.env = (false, eval a X.env) :: starEach [b] X.env := by rfl) (hs2 : starEach [b] X.env = (false, eval b X.env) :: starEach [] X.env := by rfl)
    (hpl : (backTo pos (starEach [b] X.env)).any (·.1) = false := by rfl) : DE X ec Ef O (.Call (.Name "max" p) [a, b] [] pos) (fBin gMax fa fb) :=
  ⟨(pe_callB (call_max2 hc) hg hm (by decide +kernel) (pa_cons ha.pe (pa_cons hb.pe pa_nil hs2) hs) (by decide) (by decide) hs hpl).imp (b2_imp (h := fun i j => if j > i then j else i) fun x y d e => by
    cases x <;> cases y <;> first | exact ⟨_, _, rfl, rfl, (Option.some.inj e).symm⟩ | cases e)⟩
/-! ### list(range(..)) -/
def rgD (a b : Int) : List PyData := (List.range (b - a).toNat).map fun i => PyData.int (a + (i : Nat))
theorem dpa_rg {K : PySem.W.Frag} {H : Hp} (a b : Int) : DpAll K H (rgV a b) (rgD a b) := by
  unfold rgV rgD
  generalize List.range (b - a).toNat = l
  induction l with
  | nil => exact .nil
  | cons x r ih => exact .cons (.int _) ih
instance (a b : Int) : Decidable (RgOk a b) := by unfold RgOk; infer_instance
def gRange (x : PyData) : Option PyData := match x with
  | .int n => if RgOk 0 n then some (.list (rgD 0 n)) else none
  | _ => none
theorem df_range {p2 pos2 : Pos} (hc : X.calm = true) (hg : Gl X "list") (hm : X.mg "list" = none) (hg2 : Gl X "range") (hm2 : X.mg "range" = none) (ha : DB X ec Ef O a fa) (na2 : starEach [a] X.env = (false, eval a X.env) :: starEach [] X.env := by rfl)
    (na : starEach [Expr.Call (.Name "range" p2) [a] [] pos2] X.env = (false, eval (.Call (.Name "range" p2) [a] [] pos2) X.env) :: starEach [] X.env := by rfl) : DF X ec Ef O (.Call (.Name "list" p) [.Call (.Name "range" p2) [a] [] pos2] [] pos) (fC1 gRange fa) :=
  ⟨(pe_listRg hc hg hm (prg_1 hg2 hm2 ha.pe na2) na).imp fun σ H Q ⟨B, P, Z, ρ, hE, q⟩ => ⟨B, P, Z, ρ, hE, (Post.bind q).imp fun v H1 ⟨dx, _, s1, d1, p1⟩ => by
    cases dx with
    | int n =>
      have p1 : Post B.S X.K ec (dF X.K H (P ++ Z)) (P ++ Z) (Ef σ) H1 Q (R.ofO (if RgOk 0 n then some (.list (rgD 0 n)) else none)) := p1
      by_cases hn : RgOk 0 n
      · rw [if_pos hn] at p1
        exact ⟨n, d1.int, hn, fun q hq => p1 _ _ (.of (same_upd hq)) (new_lst (s1.free hE.so) (hE.same s1).trk hq (dpa_rg 0 n))⟩
      · rw [if_neg hn] at p1; exact p1.elim
    | _ => exact p1.elim⟩⟩
/-! ### isinstance -/
def tyD : PyData → String
  | .none => "NoneType"
  | .bool _ => "bool"
  | .int _ => "int"
  | .str _ => "str"
  | .list _ => "list"
  | .tuple _ => "tuple"
  | .dict _ => "dict"
def isiS (T t : String) : Bool := t == T || (t == "bool" && T == "int")
def isiD (T : String) (d : PyData) : Bool := isiS T (tyD d)
/-- the built-in classes asked for here -/
def IsT (T : String) : Prop := T = "int" ∨ T = "bool" ∨ T = "str" ∨ T = "list" ∨ T = "tuple"
instance (T : String) : Decidable (IsT T) := by unfold IsT; infer_instance
theorem kit_some {K : PySem.W.Frag} {T : String} (hT : IsT T) {t : String} (ht : t ∈ ["NoneType", "bool", "int", "str", "list", "tuple", "dict"]) : PySem.W.kitOne K (.type t) (.type T) = some (isiS T t) := by
  simp only [List.mem_cons, List.not_mem_nil, or_false] at ht
  rcases hT with rfl | rfl | rfl | rfl | rfl <;> rcases ht with rfl | rfl | rfl | rfl | rfl | rfl | rfl <;> exact kit_ty (by decide +kernel)
theorem kit_all {K : PySem.W.Frag} {T : String} (hT : IsT T) (d : PyData) : PySem.W.kitOne K (.type (tyD d)) (.type T) = some (isiD T d) := kit_some hT (by cases d <;> simp [tyD])
theorem dp_ty {K : PySem.W.Frag} {H : Hp} {v : V} {d : PyData} (h : Dp K H v d) : TyX K H v (.type (tyD d)) := by
  cases h with
  | non => exact .base .non
  | bl b => exact .base (.bl b)
  | int i => exact .base (.int i)
  | str z => exact .base (.str z)
  | lst hs ha =>
    rcases hs with (h | ⟨o, h⟩) | ⟨o, its, n, h1, h2, _⟩
    · exact .base (.lst h)
    · exact .base (.frz h)
    · exact .kList h1 h2
  | tup hs ha =>
    rcases hs with (h | ⟨o, h⟩) | ⟨o, its, n, h1, h2, _⟩
    · exact .base (.tup h)
    · exact .fTuple h
    · exact .kTuple h1 h2
def fIsi (T : String) (fa : Rho → R PyData) : Rho → R PyData := fun ρ => (fa ρ).bind fun d => .ok (.bool (isiD T d))
theorem de_isi {T : String} {y : Str} {py : Pos} (hT : IsT T) (hg : Gl X "isinstance") (hm : X.mg "isinstance" = none) (hgy : Gl X y) (hmy : X.mg y = none) (hvy : bootBuiltins y = some (.type T)) (ha : DB X ec Ef O a fa) (hny : y ≠ "__name__" := by decide) (hdy : (y == ("__debug__" : Str)) = false := by decide)
    (hs : starEach [a, .Name y py] X.env = (false, eval a X.env) :: starEach [.Name y py] X.env := by rfl) (hs2 : starEach [Expr.Name y py] X.env = (false, eval (.Name y py) X.env) :: starEach [] X.env := by rfl) (hpl : (backTo pos (starEach [Expr.Name y py] X.env)).any (·.1) = false := by rfl) :
    DE X ec Ef O (.Call (.Name "isinstance" p) [a, .Name y py] [] pos) (fIsi T fa) :=
  ⟨(pe_callB call_isi hg hm (by decide +kernel) (pa_cons ha.pe (pa_cons (pe_bltn (v := .ty T) hgy hmy hvy rfl hny hdy) pa_nil hs2) hs) (by decide) (by decide) hs hpl).imp fun σ H Q ⟨B, P, Z, ρ, hE, q⟩ => ⟨B, P, Z, ρ, hE, (Post.bind q).imp fun v H1 ⟨dx, _, s1, d1, p1⟩ =>
    ⟨v, .ty T, _, _, isiD T dx, rfl, .ty T, dp_ty d1.dp, kit_all hT dx, (show Post B.S X.K ec (dV X.K (P ++ Z)) (P ++ Z) (Ef σ) H1 Q (.ok (.bool (isiD T dx))) from p1).ok (.bl _)⟩⟩⟩
end
end DL
set_option Elab.async false
set_option linter.all false
set_option maxRecDepth 100000
set_option maxHeartbeats 1000000
namespace DL
open PySem PySem.Spec PyProof.Rows L2
/-! ### iterators that yield data -/
structure ItD (K : PySem.W.Frag) (C : List Addr → Hp → Prop) (J : It) (ds : List PyData) : Prop where
  go : ∀ i M H2, C M H2 → i < ds.length → J.go i H2
  st : ∀ i M H2, C M H2 → ds.length ≤ i → J.stop i H2
  yl : ∀ i M H2 x H3 d, C M H2 → ds[i]? = some d → J.yld i H2 x H3 → Same H2 H3 ∧ Dp K (hid M H3) x d
/-- what was visible is visible -/
def C1 (G : Hp) (M : List Addr) (H2 : Hp) : Prop := Same G (hid M H2) ∧ ∀ m, m ∈ M → H2 m ≠ none
/-- the heap has grown; what is hidden more is new -/
structure C2 (S : Srcs tt) (M0 : List Addr) (H1 : Hp) (M : List Addr) (H2 : Hp) : Prop where
  sub : ∀ a, a ∈ M0 → a ∈ M
  new : ∀ a, a ∈ M → a ∈ M0 ∨ H1 a = none
  fr : ∀ b o, b ∉ S → H1 b = some o → H2 b = some o
  trk : ∀ m, m ∈ M → H2 m ≠ none
  sm : ∀ a, a ∈ S → a ∈ M0
theorem C2.vis {S : Srcs tt} {M0 M : List Addr} {H1 H2 : Hp} (c : C2 S M0 H1 M H2) : Same (hid M0 H1) (hid M H2) := fun b o e => by
  obtain ⟨e1, e2⟩ := hid_some e
  have nb : b ∉ M := fun z => by
    rcases c.new b z with z | z
    · exact e1 z
    · rw [z] at e2; cases e2
  rw [hid_out nb]
  exact c.fr b o (fun z => e1 (c.sm b z)) e2
theorem C2.c1 {S : Srcs tt} {M0 M : List Addr} {H1 H2 : Hp} (c : C2 S M0 H1 M H2) : C1 (hid M0 H1) M H2 := ⟨c.vis, c.trk⟩
theorem dB.lst' {K : PySem.W.Frag} {S : Srcs tt} {M : List Addr} {H : Hp} {v : V} {ds : List PyData} (h : dB K S M H v (.list ds)) : ∃ p vs, v = .ref p ∧ SqL K H p vs ∧ DpAll K (hid M H) vs ds ∧ ∀ M2 H2, (∀ b o, b ∉ S → H b = some o → H2 b = some o) → Same (hid M H) (hid M2 H2) → SqL K H2 p vs := by
  rcases h with h | ⟨p, vs, ds', e1, e2, e0, e3, e4⟩
  · cases h with
    | lst hs ha => exact ⟨_, _, rfl, hid_le.seq hs, ha, fun M2 H2 _ s => hid_le.seq (s.seq hs)⟩
  · cases e2; exact ⟨p, vs, e1, .inl (.inl e3), e4, fun M2 H2 f _ => .inl (.inl (f _ _ e0 e3))⟩
structure DI (X : Cx) (ec : EC) (Ef : L2.St → XK) (O : List Nat) (tg iter : Expr) (f : Rho → R (List PyData)) : Prop where
  pi : PI X tg iter (tG X.K ec Ef O (fun _ _ M H1 J ds => ItD X.K (C1 (hid M H1)) J ds) f)
structure DJ (X : Cx) (ec : EC) (Ef : L2.St → XK) (O : List Nat) (tg iter : Expr) (f : Rho → R (List PyData)) : Prop where
  pi : PI X tg iter (tG X.K ec Ef O (fun _ S M H1 J ds => ItD X.K (C2 S M H1) J ds) f)
theorem _root_.L2.PI.imp {X : Cx} {tg iter : Expr} {t t' : TI} (h : PI X tg iter t) (hi : ∀ σ H Q, t' σ H Q → t σ H Q) : PI X tg iter t' := ⟨fun pins s σ H R I hw => h.run pins s σ H R I (hi σ H R hw)⟩
section
variable {X : Cx} {ec : EC} {Ef : L2.St → XK} {O : List Nat} {tg iter a : Expr} {f : Rho → R (List PyData)} {fa : Rho → R PyData}
theorem DI.j (h : DI X ec Ef O tg iter f) : DJ X ec Ef O tg iter f := ⟨h.pi.imp fun σ H Q ⟨B, P, Z, ρ, hE, p⟩ => ⟨B, P, Z, ρ, hE, p.den fun H' v a d => ⟨fun i M H2 c => d.go i M H2 c.c1, fun i M H2 c => d.st i M H2 c.c1, fun i M H2 x H3 e c => d.yl i M H2 x H3 e c.c1⟩⟩⟩
/-- a list or a tuple -/
def iSeq (K : PySem.W.Frag) (tl : TE) : TI := fun σ H R => tl σ H fun x H1 => ∃ a, x = .ref a ∧ (((∃ xs, SqL K H1 a xs) ∧ R (Itl K a) H1) ∨ ((∃ xs, SqT K H1 a xs) ∧ R (Itt K a) H1))
theorem pi_seq {l : Expr} {tl : TE} (hl : PE X l tl) : PI X tg l (iSeq X.K tl) := by
  refine ⟨fun pins s σ H R I h => thn (hl.run pins s σ H _ I h) fun v s1 ⟨x, H1, I1, r1, a, e, q⟩ => ?_⟩
  subst e
  cases r1
  have fresh : ∀ {tk : Nat} (ob : Obj), L2.Inv X pins σ H1 { s1 with heap := s1.heap.push ob, toks := tk } := fun {tk} ob => I1.kept fun b o e => Heap.get?_push_of_some _ e
  have fp : ∀ b, b ∈ [s1.heap.objs.size] → FpOk X pins H1 b := fun b hb => by
    have e : b = s1.heap.objs.size := by simpa using hb
    subst e
    exact I1.fpOk (Nat.le_refl _) (I1.hok.fresh (Nat.le_refl _))
  rcases q with ⟨⟨xs, hq⟩, q⟩ | ⟨⟨xs, hq⟩, q⟩
  · obtain ⟨its, rv, p, hz⟩ := I1.list hq
    refine wpAny_pyIter_list p.isList ?_
    exact ⟨s1.heap.objs.size, [s1.heap.objs.size], _, _, H1, rfl, fresh (tk := s1.toks) _, turn_list a _, ⟨_, Heap.get?_push_size _ rfl, rfl, rfl⟩, fp, q⟩
  · obtain ⟨its, rv, p, hz⟩ := I1.tuple hq
    refine wpAny_pyIter_tuple (show s1.heap.IsTuple a its.toArray from p) ?_
    exact ⟨s1.heap.objs.size, [s1.heap.objs.size], _, _, H1, rfl, fresh (tk := s1.toks) _, turn_tuple a _, ⟨_, Heap.get?_push_size _ rfl, rfl, rfl⟩, fp, q⟩
theorem it_list {K : PySem.W.Frag} {C : List Addr → Hp → Prop} {a : Addr} {vs : List V} {ds : List PyData} (h : ∀ M H2, C M H2 → SqL K H2 a vs ∧ DpAll K (hid M H2) vs ds) : ItD K C (Itl K a) ds := by
  refine ⟨fun i M H2 c hi => ?_, fun i M H2 c hi => ?_, fun i M H2 x H3 d c e y => ?_⟩
  · obtain ⟨h1, h2⟩ := h M H2 c
    have hl : i < vs.length := by rw [dpa_len h2]; exact hi
    exact ⟨vs, vs[i], h1, by simp [hl]⟩
  · obtain ⟨h1, h2⟩ := h M H2 c
    exact ⟨vs, h1, by rw [dpa_len h2]; exact hi⟩
  · obtain ⟨h1, h2⟩ := h M H2 c
    obtain ⟨e1, y⟩ := y
    subst e1
    obtain ⟨d', e2, e3⟩ := dpa_get h2 (y vs h1)
    rw [e] at e2
    cases e2
    exact ⟨Same.refl _, e3⟩
theorem it_tup {K : PySem.W.Frag} {C : List Addr → Hp → Prop} {a : Addr} {vs : List V} {ds : List PyData} (h : ∀ M H2, C M H2 → SqT K H2 a vs ∧ DpAll K (hid M H2) vs ds) : ItD K C (Itt K a) ds := by
  refine ⟨fun i M H2 c hi => ?_, fun i M H2 c hi => ?_, fun i M H2 x H3 d c e y => ?_⟩
  · obtain ⟨h1, h2⟩ := h M H2 c
    have hl : i < vs.length := by rw [dpa_len h2]; exact hi
    exact ⟨vs, vs[i], h1, by simp [hl]⟩
  · obtain ⟨h1, h2⟩ := h M H2 c
    exact ⟨vs, h1, by rw [dpa_len h2]; exact hi⟩
  · obtain ⟨h1, h2⟩ := h M H2 c
    obtain ⟨e1, y⟩ := y
    subst e1
    obtain ⟨d', e2, e3⟩ := dpa_get h2 (y vs h1)
    rw [e] at e2
    cases e2
    exact ⟨Same.refl _, e3⟩
def seqOf (d : PyData) : R (List PyData) := match d with
  | .list ds => .ok ds
  | .tuple ds => .ok ds
  | _ => .bad
theorem di_seq (ha : DE X ec Ef O a fa) : DI X ec Ef O tg a (fun ρ => (fa ρ).bind seqOf) := ⟨(pi_seq ha.pe).imp fun σ H Q ⟨B, P, Z, ρ, hE, q⟩ => ⟨B, P, Z, ρ, hE, (Post.bind q).imp fun v H1 ⟨dx, _, s1, d1, p1⟩ => by
  cases dx with
  | list ds =>
    cases d1 with
    | lst hs ha =>
      exact ⟨_, rfl, .inl ⟨⟨_, hid_le.seq hs⟩, p1.ok (a := ds) (it_list fun M H2 c => ⟨hid_le.seq (c.1.seq hs), dpa_mono c.1 ds _ ha⟩)⟩⟩
  | tuple ds =>
    cases d1 with
    | tup hs ha =>
      exact ⟨_, rfl, .inr ⟨⟨_, same_seqT hid_le hs⟩, p1.ok (a := ds) (it_tup fun M H2 c => ⟨same_seqT hid_le (same_seqT c.1 hs), dpa_mono c.1 ds _ ha⟩)⟩⟩
  | _ => exact p1.elim⟩⟩
theorem dj_seq (ha : DB X ec Ef O a fa) : DJ X ec Ef O tg a (fun ρ => (fa ρ).bind seqOf) := ⟨(pi_seq ha.pe).imp fun σ H Q ⟨B, P, Z, ρ, hE, q⟩ => ⟨B, P, Z, ρ, hE, (Post.bind q).imp fun v H1 ⟨dx, _, s1, d1, p1⟩ => by
  cases dx with
  | list ds =>
    obtain ⟨p, xs, rfl, q1, a1, a2⟩ := d1.lst'
    exact ⟨_, rfl, .inl ⟨⟨_, q1⟩, p1.ok (a := ds) (it_list fun M H2 c => ⟨a2 M H2 c.fr c.vis, dpa_mono c.vis ds _ a1⟩)⟩⟩
  | tuple ds =>
    have d1 : Dp X.K (hid (P ++ Z) H1) v (.tuple ds) := by
      rcases d1 with z | ⟨_, _, _, _, e, _⟩
      · exact z
      · cases e
    cases d1 with
    | tup hs ha =>
      exact ⟨_, rfl, .inr ⟨⟨_, same_seqT hid_le hs⟩, p1.ok (a := ds) (it_tup fun M H2 c => ⟨same_seqT hid_le (same_seqT c.vis hs), dpa_mono c.vis ds _ ha⟩)⟩⟩
  | _ => exact p1.elim⟩⟩
/-- range(n) -/
def rgOf (d : PyData) : R (List PyData) := match d with
  | .int n => if -(2 ^ 62) ≤ n ∧ n < 2 ^ 62 then .ok (rgD 0 n) else .bad
  | _ => .bad
theorem it_range {K : PySem.W.Frag} {C : List Addr → Hp → Prop} (a b : Int) : ItD K C (Itr a (b - a).toNat) (rgD a b) := by
  have hl : (rgD a b).length = (b - a).toNat := by unfold rgD; rw [List.length_map, List.length_range]
  refine ⟨fun i M H2 c hi => (by rw [hl] at hi; exact hi), fun i M H2 c hi => (by rw [hl] at hi; exact hi), fun i M H2 x H3 d c e y => ?_⟩
  obtain ⟨e1, e2⟩ := y
  subst e1 e2
  refine ⟨Same.refl _, ?_⟩
  unfold rgD at e
  rw [List.getElem?_map] at e
  obtain ⟨j, h1, h2⟩ := Option.map_eq_some_iff.mp e
  obtain ⟨h3, h4⟩ := List.getElem?_eq_some_iff.mp h1
  rw [List.getElem_range] at h4
  subst h4 h2
  exact .int _
theorem di_range {p pos : Pos} (hg : Gl X "range") (hm : X.mg "range" = none) (ha : DB X ec Ef O a fa) (hs1 : starEach [a] X.env = (false, eval a X.env) :: starEach [] X.env := by rfl) (hs : starEach [a] X.env = [(false, eval a X.env)] := by rfl) :
    DI X ec Ef O tg (.Call (.Name "range" p) [a] [] pos) (fun ρ => (fa ρ).bind rgOf) := ⟨(pi_range1 hg hm (pa_cons ha.pe pa_nil hs1) hs).imp fun σ H Q ⟨B, P, Z, ρ, hE, q⟩ => ⟨B, P, Z, ρ, hE, (Post.bind q).imp fun v H1 ⟨dx, _, s1, d1, p1⟩ => by
  cases dx with
  | int n =>
    unfold rgOf at p1
    by_cases hn : -(2 ^ 62) ≤ n ∧ n < 2 ^ 62
    · simp only [hn, and_self, if_true] at p1
      have e := it_range (K := X.K) (C := C1 (hid (P ++ Z) H1)) 0 n
      rw [Int.sub_zero] at e
      exact ⟨n, by rw [d1.int], hn.1, hn.2, p1.ok e⟩
    · simp only [hn, if_false] at p1
      exact p1.elim
  | _ => exact p1.elim⟩⟩
end
/-! ### targets -/
def wipeR (ρ : Rho) : List Nat → Rho
  | [] => ρ
  | v :: vs => (wipeR ρ vs).set v none
/-- what a target does -/
def DGo (K : PySem.W.Frag) (S : List Nat) (t : PyData → Rho → Option Rho) (g : TG) : Prop := ∀ {tt : TTab} {lm : LamD} (B : BB tt lm) O P Z σ H ρ d v (Q : L2.St → Hp → Prop), (∀ i, i ∈ S → i ∉ O) → EnvOk K B O P Z σ H ρ → Dp K (hid (P ++ Z) H) v d →
    ∀ ρ', t d ρ = some ρ' → (∀ σ', EnvOk K B O P Z σ' H ρ' → (∀ vs, (∀ i, i ∈ S → i ∈ vs) → wipe σ' vs = wipe σ vs) → Q σ' H) → g v σ H Q
structure DG (X : Cx) (S : List Nat) (tg : Expr) (t : PyData → Rho → Option Rho) : Prop where
  ex : ∃ g, PG X tg g ∧ DGo X.K S t g
theorem wipe_set {σ : L2.St} {i : Nat} {o : Option V} : ∀ {vs : List Nat}, i ∈ vs → wipe (σ.set i o) vs = wipe σ vs
  | v :: vs, h => by
    have L : ∀ (w : List Nat), (wipe (σ.set i o) w).set i none = (wipe σ w).set i none := by
      intro w
      induction w with
      | nil => exact List.set_set ..
      | cons u w ih =>
        show ((wipe (σ.set i o) w).set u none).set i none = ((wipe σ w).set u none).set i none
        by_cases e : u = i
        · subst e
          rw [List.set_set, List.set_set]; exact ih
        · rw [List.set_comm _ _ e, List.set_comm _ _ e, ih]
    rcases List.mem_cons.mp h with e | h
    · subst e
      exact L vs
    · show (wipe (σ.set i o) vs).set v none = (wipe σ vs).set v none
      rw [wipe_set h]
def tg1 (i : Nat) : PyData → Rho → Option Rho := fun d ρ => some (ρ.set i (some (.d d)))
def tg2 (i j : Nat) : PyData → Rho → Option Rho := fun d ρ => match d with
  | .tuple [a, b] => some ((ρ.set i (some (.d a))).set j (some (.d b)))
  | _ => none
section
variable {X : Cx} {pos p1 p2 : Pos} {x y : Str} {i j k : Nat}
theorem dg_name (h : PG X (.Name x pos) (gName i)) : DG X [i] (.Name x pos) (tg1 i) := ⟨_, h, fun B O P Z σ H ρ d v Q hS hE hv ρ' ht hq => by
  cases ht
  exact hq _ (hE.setV (hS i (by simp)) hv) fun vs hvs => wipe_set (hvs i (by simp))⟩
theorem dg_tup2 (hc : X.calm = true) (h1 : PG X (.Name x p1) (gName i)) (h2 : PG X (.Name y p2) (gName j))
    (hs : (assignEach [Expr.Name x p1, .Name y p2] X.env).map (·.2) = assign (.Name x p1) X.env :: (assignEach [Expr.Name y p2] X.env).map (·.2) := by rfl) (hs2 : (assignEach [Expr.Name y p2] X.env).map (·.2) = assign (.Name y p2) X.env :: (assignEach [] X.env).map (·.2) := by rfl)
    (hn : (assignEach [Expr.Name x p1, .Name y p2] X.env).length = 2 := by rfl) (hst : (assignEach [Expr.Name x p1, .Name y p2] X.env).findIdx? (·.1) = none := by rfl) :
    DG X [i, j] (.Tuple [.Name x p1, .Name y p2] k pos) (tg2 i j) := ⟨_, pg_tup hc (pgs_cons h1 (pgs_cons h2 pgs_nil hs2) hs) hn hst, fun B O P Z σ H ρ d v Q hS hE hv ρ' ht hq => by
  cases d with
  | tuple ds =>
    match ds, ht with
    | [a, b], ht =>
      cases ht
      cases hv with
      | tup hs ha =>
        cases ha with
        | cons r1 t =>
          cases t with
          | cons r2 t =>
            cases t
            refine ⟨_, _, rfl, same_seqT hid_le hs, rfl, _, _, rfl, _, _, rfl, rfl, ?_⟩
            refine hq _ ((hE.setV (hS i (by simp)) r1).setV (hS j (by simp)) r2) fun vs hvs => ?_
            rw [wipe_set (hvs j (by simp)), wipe_set (hvs i (by simp))]
  | _ => cases ht⟩
end
/-! ### for -/
def forL (b : PyData → Rho → R Fl) : List PyData → Rho → R Fl
  | [], ρ => .ok (.nx ρ)
  | d :: ds, ρ => (b d ρ).bind fun f => match f with
    | .nx ρ' => forL b ds ρ'
    | .ct ρ' => forL b ds ρ'
    | .bk ρ' => .ok (.nx ρ')
    | .rt e ρ' => .ok (.rt e ρ')
    | .rf e ρ' => .ok (.rf e ρ')
def fFor (fi : Rho → R (List PyData)) (t : PyData → Rho → Option Rho) (g : Rho → R Fl) : Rho → R Fl := fun ρ => (fi ρ).bind fun ds => forL (fun d ρ => (R.ofO (t d ρ)).bind g) ds ρ
section
variable {K : PySem.W.Frag} {B : BB tt lm} {G H : Hp} {O : List Nat} {P Z : List Addr} {σ : L2.St} {ρ : Rho}
theorem EnvOk.back (h : EnvOk K (B.re G) O P Z σ H ρ) (s : Same B.2 G) : EnvOk K B O P Z σ H ρ := ⟨h.len, h.bs, s.trans h.gs, h.own, h.nd, h.pb, h.zt, h.pz, h.sz, h.sb, h.so, h.src, h.fns, h.lam, h.oth⟩
theorem EnvOk.here (h : EnvOk K B O P Z σ H ρ) : EnvOk K (B.re (hid (P ++ Z) H)) O P Z σ H ρ := ⟨h.len, h.bs, Same.refl _, h.own, h.nd, h.pb, h.zt, h.pz, h.sz, h.sb, h.so, h.src, h.fns, h.lam, h.oth⟩
end
section
variable {X : Cx} {ec : EC} {Ef : L2.St → XK} {io Ol O S : List Nat} {tg iter : Expr} {fi : Rho → R (List PyData)} {t : PyData → Rho → Option Rho} {g : Rho → R Fl} {body : List Stmt} {pos : Pos}
theorem ds_for (fl : Flat Ef) (hp : PassesOwn (model X.prog X.w) X.A X.env X.xe) (hc : X.calm = true) (hi : DI X ec Ef O tg iter fi) (hg : DG X S tg t) (hb : DSs X ec Ef io O O O body g) (hS : ∀ i, i ∈ S → i ∉ O := by decide)
    (hs : ∀ x, foldedSetIterable iter X.env x = pure x := by intro _; rfl) : DS X ec Ef io Ol O O (.For tg iter body [] pos) (fFor fi t g) := by
  obtain ⟨gg, hgg, hgo⟩ := hg.ex
  refine ⟨(ps_for hp hc hi.pi hgg hb.ps hs).imp fun D σ H ⟨B, P, Z, ρ, hE, q⟩ => ⟨B, P, Z, ρ, hE, PostS.of fl hE q fun ds J H1 _ s1 d1 hE1 q1 => ?_⟩⟩
  have hvis : Same B.2 (hid (P ++ Z) H1) := hE1.gs
  have cc : ∀ {P2 : List Addr} {σ2 : L2.St} {H2 : Hp} {ρ2 : Rho}, EnvOk X.K (B.re (hid (P ++ Z) H1)) O P2 Z σ2 H2 ρ2 → C1 (hid (P ++ Z) H1) (P2 ++ Z) H2 := fun e => ⟨e.gs, e.trk⟩
  refine ⟨fun i m σ2 H2 => m = ds.length - i ∧ i ≤ ds.length ∧ ∃ P2 ρ2, EnvOk X.K (B.re (hid (P ++ Z) H1)) O P2 Z σ2 H2 ρ2 ∧ PostS X.K ec Ef B Z io Ol O D (forL (fun d ρ => (R.ofO (t d ρ)).bind g) (ds.drop i) ρ2), ⟨ds.length, by omega, Nat.zero_le _, P, ρ, hE1.here, q1⟩, ?_⟩
  rintro i m σ2 H2 ⟨rfl, hi, P2, ρ2, hE2, q2⟩
  by_cases hlt : i < ds.length
  · have hd : ds[i]? = some ds[i] := by simp [hlt]
    rw [List.drop_eq_getElem_cons hlt] at q2
    refine .inr ⟨d1.go i _ H2 (cc hE2) hlt, fun σ' H' => ∃ P' ρ', EnvOk X.K (B.re (hid (P ++ Z) H1)) O P' Z σ' H' ρ' ∧ PostS X.K ec Ef B Z io Ol O D (forL (fun d ρ => (R.ofO (t d ρ)).bind g) (ds.drop (i + 1)) ρ'), fun σ' H' ⟨P', ρ', hE', q'⟩ => ⟨ds.length - (i + 1), by omega, rfl, hlt, P', ρ', hE', q'⟩, fun x H3 y => ?_⟩
    obtain ⟨s3, d3⟩ := d1.yl i _ H2 x H3 ds[i] (cc hE2) hd y
    have q3 : PostS X.K ec Ef B Z io Ol O D (((R.ofO (t ds[i] ρ2)).bind g).bind fun f => match f with
      | .nx ρ' => forL (fun d ρ => (R.ofO (t d ρ)).bind g) (ds.drop (i + 1)) ρ'
      | .ct ρ' => forL (fun d ρ => (R.ofO (t d ρ)).bind g) (ds.drop (i + 1)) ρ'
      | .bk ρ' => .ok (.nx ρ')
      | .rt e ρ' => .ok (.rt e ρ')
      | .rf e ρ' => .ok (.rf e ρ')) := q2
    cases ht : t ds[i] ρ2 with
    | none => rw [ht] at q3; exact q3.elim
    | some ρ3 =>
      rw [ht] at q3
      refine hgo (B.re (hid (P ++ Z) H1)) O P2 Z σ2 H3 ρ2 ds[i] x _ hS (hE2.same (.of s3)) d3 ρ3 ht fun σ4 hE4 _ => ⟨(B.re (hid (P ++ Z) H1)), P2, Z, ρ3, hE4, ?_⟩
      have q3 : PostS X.K ec Ef B Z io Ol O D ((g ρ3).bind fun f => match f with
        | .nx ρ' => forL (fun d ρ => (R.ofO (t d ρ)).bind g) (ds.drop (i + 1)) ρ'
        | .ct ρ' => forL (fun d ρ => (R.ofO (t d ρ)).bind g) (ds.drop (i + 1)) ρ'
        | .bk ρ' => .ok (.nx ρ')
        | .rt e ρ' => .ok (.rt e ρ')
        | .rf e ρ' => .ok (.rf e ρ')) := q3
      unfold PostS at q3
      rw [R.wp_bind] at q3
      refine R.wp_imp q3 (fun f q3 => ?_) (fun c z q3 => q3)
      cases f with
      | nx ρ' => exact fun σ' P' H' hE' => ⟨P', ρ', hE', q3⟩
      | ct ρ' => exact fun σ' P' H' hE' => ⟨P', ρ', hE', q3⟩
      | bk ρ' => exact fun σ' P' H' hE' => (show PostS X.K ec Ef B Z io Ol O D (.ok (.nx ρ')) from q3) _ _ _ (hE'.back hvis)
      | rf e ρ' => exact fun v σ' P' H' hE' hv => (show PostS X.K ec Ef B Z io Ol O D (.ok (.rf e ρ')) from q3) _ _ _ _ (hE'.back hvis) hv
      | rt e ρ' => exact fun v σ' P' H' hE' hv => (show PostS X.K ec Ef B Z io Ol O D (.ok (.rt e ρ')) from q3) _ _ _ _ (hE'.back hvis) hv
  · have e : i = ds.length := by omega
    subst e
    rw [List.drop_length] at q2
    exact .inl ⟨d1.st _ _ H2 (cc hE2) (Nat.le_refl _), (show PostS X.K ec Ef B Z io Ol O D (.ok (.nx ρ2)) from q2) _ _ _ (hE2.back hvis)⟩
end
end DL
set_option Elab.async false
set_option linter.all false
set_option maxRecDepth 100000
set_option maxHeartbeats 1000000
namespace DL
open PySem PySem.Spec PyProof.Rows L2
/-! ### no exceptions -/
def R.noX {α : Type} : R α → R α
  | .ok a => .ok a
  | .exc _ _ => .bad
  | .bad => .bad
  | .pick P k => .pick P fun d => (k d).noX
@[simp] theorem R.noX_ok {α : Type} (a : α) : (R.ok a).noX = .ok a := rfl
@[simp] theorem R.noX_exc {α : Type} (c : Nat) (x : Option PyData) : (R.exc c x : R α).noX = .bad := rfl
@[simp] theorem R.noX_bad {α : Type} : (R.bad : R α).noX = .bad := rfl
@[simp] theorem R.noX_pick {α : Type} (P : PyData → Prop) (k : PyData → R α) : (R.pick P k).noX = .pick P fun d => (k d).noX := rfl
theorem R.wp_noX {α : Type} (r : R α) (Q : α → Prop) (E : Nat → Option PyData → Prop) : r.noX.wp Q E = r.wp Q (fun _ _ => False) := by
  induction r with
  | pick P f ih => simp only [R.noX_pick, R.wp_pick]; exact forall_congr fun d => by rw [ih d]
  | _ => rfl
@[simp] theorem R.noX_bind {α β : Type} (r : R α) (k : α → R β) : (r.bind k).noX = r.noX.bind fun a => (k a).noX := by
  induction r with
  | pick P f ih => simp only [R.pick_bind, R.noX_pick]; congr 1; funext d; exact ih d
  | _ => rfl
def E0 : XK := fun _ _ _ => False
theorem passE0 {X : Cx} : PassE X (fun _ => E0) := fun σ pins H s e s' I ⟨_, _, _, _, _, _, _, _, _, _, _, _, h⟩ => h.elim
/-! ### the block -/
theorem Gr.mk2 {S : Srcs tt} {M : List Addr} {H H' : Hp} (hs : ∀ a, a ∈ S → a ∈ M) (fr : ∀ b o, b ∉ S → H b = some o → H' b = some o) (so : SrcOk S H') : Gr S M H H' := ⟨fr, fun b o e => by
  obtain ⟨h1, h2⟩ := hid_some e
  rw [hid_out h1]
  exact fr b o (fun z => h1 (hs b z)) h2, fun _ => so⟩
theorem Gr.trk {S : Srcs tt} {M : List Addr} {H H' : Hp} (so : SrcOk S H) (s : Gr S M H H') {a : Addr} (h : H a ≠ none) : H' a ≠ none := fun e => h (s.free so a e)
theorem wipe_wipe {σ : L2.St} : ∀ (us vs : List Nat), (∀ u, u ∈ us → u ∈ vs) → wipe (wipe σ us) vs = wipe σ vs
  | [], vs, _ => rfl
  | u :: us, vs, h => by
    show wipe ((wipe σ us).set u none) vs = wipe σ vs
    rw [wipe_set (h u List.mem_cons_self)]
    exact wipe_wipe us vs fun w hw => h w (List.mem_cons_of_mem _ hw)
theorem wipe_get {σ : L2.St} {i : Nat} : ∀ {vs : List Nat}, i ∉ vs → (wipe σ vs)[i]? = σ[i]?
  | [], _ => rfl
  | v :: vs, h => by
    have h' : i ≠ v ∧ i ∉ vs := by simpa only [List.mem_cons, not_or] using h
    show ((wipe σ vs).set v none)[i]? = _
    rw [List.getElem?_set_ne (Ne.symm h'.1)]
    exact wipe_get h'.2
theorem wipeR_len {ρ : Rho} : ∀ vs : List Nat, (wipeR ρ vs).length = ρ.length
  | [] => rfl
  | v :: vs => by unfold wipeR; rw [List.length_set, wipeR_len vs]
theorem wipeR_get {ρ : Rho} {i : Nat} : ∀ {vs : List Nat}, i ∉ vs → (wipeR ρ vs)[i]? = ρ[i]?
  | [], _ => rfl
  | v :: vs, h => by
    have h' : i ≠ v ∧ i ∉ vs := by simpa only [List.mem_cons, not_or] using h
    show ((wipeR ρ vs).set v none)[i]? = _
    rw [List.getElem?_set_ne (Ne.symm h'.1)]
    exact wipeR_get h'.2
theorem wipeR_some {ρ : Rho} {i : Nat} {x : SV} : ∀ {vs : List Nat}, (wipeR ρ vs)[i]? = some (some x) → ρ[i]? = some (some x) ∧ i ∉ vs
  | [], h => ⟨h, by simp⟩
  | v :: vs, h => by
    unfold wipeR at h
    rcases set_get h with ⟨_, e⟩ | ⟨ne, h⟩
    · cases e
    · obtain ⟨h1, h2⟩ := wipeR_some h
      exact ⟨h1, by simp only [List.mem_cons, not_or]; exact ⟨Ne.symm ne, h2⟩⟩
section
variable {K : PySem.W.Frag} {B : BB tt lm} {H H' : Hp} {O : List Nat} {P Z : List Addr} {σ : L2.St} {ρ : Rho}
/-- within a block: the new list is another's, the block's names are forgotten -/
theorem EnvOk.blk (h : EnvOk K B O P Z σ H ρ) {D : Addr} {o : HO} (hD : H D = none) {vs : List Nat} (hv : ∀ i, i ∈ vs → i ∉ O) :
    EnvOk K (B.nil) O P (D :: Z) (wipe σ vs) (upd H D o) (wipeR ρ vs) := by
  have nt : ∀ m, m ∈ P ++ Z → m ≠ D := fun m hm e => h.trk m hm (e ▸ hD)
  have nD : ∀ b u, H b = some u → b ≠ D := fun b u e => ne_of_none e hD
  have vis : Same (hid (P ++ Z) H) (hid (P ++ D :: Z) (upd H D o)) := fun b u e => by
    obtain ⟨e1, e2⟩ := hid_some e
    have hb : b ∉ P ++ D :: Z := fun z => by
      rcases List.mem_append.mp z with z | z
      · exact e1 (List.mem_append_left _ z)
      · rcases List.mem_cons.mp z with z | z
        · exact nD b u e2 z
        · exact e1 (List.mem_append_right _ z)
    rw [hid_out hb, upd_ne (nD b u e2)]
    exact e2
  refine ⟨by rw [wipeR_len, wipe_length]; exact h.len, (fun b u e => by cases e), (fun b u e => by cases e), ?_, h.nd, fun _ _ => rfl, fun z hz q => ?_, fun p hp z => ?_, fun a ha => List.mem_cons_of_mem _ (h.sz a ha), fun _ _ => rfl, (Gr.of (M := []) (same_upd hD)).so h.so, fun i hi e => ?_, fun i x hi e => ?_, fun i hi e => ?_, fun i d hi hd e => ?_⟩
  · have key : ∀ {l : List Nat} {m : List Addr}, (∀ j, j ∈ l → j ∈ O) → (∀ q, q ∈ m → q ∈ P) → Paired (Own1 K (P ++ Z) H σ ρ) l m → Paired (Own1 K (P ++ D :: Z) (upd H D o) (wipe σ vs) (wipeR ρ vs)) l m := by
      intro l m hl hm pr
      induction pr with
      | nil => exact .nil
      | @cons j q l m r t ih =>
        obtain ⟨x1, o', d', x2, x3, x4⟩ := r
        have nj : j ∉ vs := fun z => hv j z (hl _ List.mem_cons_self)
        exact .cons ⟨by rw [wipe_get nj]; exact x1, o', d', by rw [wipeR_get nj]; exact x2, by rw [upd_ne (nD _ _ x3)]; exact x3, x4.mono vis⟩ (ih (fun j hj => hl j (List.mem_cons_of_mem _ hj)) fun j hj => hm j (List.mem_cons_of_mem _ hj))
    exact key (fun _ z => z) (fun _ z => z) h.own
  · rcases List.mem_cons.mp hz with e | hz
    · rw [e, upd_same] at q; cases q
    · rw [upd_ne (nt z (List.mem_append_right _ hz))] at q
      exact h.zt z hz q
  · rcases List.mem_cons.mp z with e | z
    · exact nt p (List.mem_append_left _ hp) e
    · exact h.pz p hp z
  · obtain ⟨e1, ni⟩ := wipeR_some e
    obtain ⟨a, x1, x2⟩ := h.src i hi e1
    exact ⟨a, x1, by rw [wipe_get ni]; exact x2⟩
  · obtain ⟨e1, ni⟩ := wipeR_some e
    rw [wipe_get ni]; exact h.fns i x hi e1
  · obtain ⟨e1, ni⟩ := wipeR_some e
    rw [wipe_get ni]; exact ⟨(h.lam i hi e1).1, (h.lam i hi e1).2.mono (fun p hp => upd_ne (nD _ _ ((h.lam i hi e1).2.obs p hp))) vis⟩
  · obtain ⟨e1, ni⟩ := wipeR_some e
    obtain ⟨v, x1, x2⟩ := h.oth i d hi hd e1
    exact ⟨v, by rw [wipe_get ni]; exact x1, svd_mono vis d v x2⟩
theorem hid_upd {M : List Addr} {H : Hp} {p : Addr} {o : HO} (hp : p ∈ M) : hid M (upd H p o) = hid M H := by
  funext b
  by_cases hb : b ∈ M
  · rw [hid_in hb, hid_in hb]
  · have nb : b ≠ p := fun e => hb (e ▸ hp)
    rw [hid_out hb, hid_out hb, upd_ne nb]
/-- what is another's is changed -/
theorem EnvOk.hidU (h : EnvOk K B O P Z σ H ρ) {D : Addr} {o : HO} (hC : ∃ o', H D = some o' ∧ Chg o') (hD : D ∈ Z) (hS : D ∉ B.S) (hB : B.1 D = none) : EnvOk K B O P Z σ (upd H D o) ρ := by
  have hm : D ∈ P ++ Z := List.mem_append_right _ hD
  have hso : SrcOk B.S (upd H D o) := by
    obtain ⟨o', c1, c2⟩ := hC
    refine ⟨fun a ha => ?_, tabs_upd c1 c2 h.so.tab⟩
    obtain ⟨x, y, x1, x2, x3⟩ := h.so.src a ha
    have na : a ≠ D := fun e => hS (e ▸ Srcs.l_mem ha)
    exact ⟨x, y, x1, x2, by rw [upd_ne na]; exact x3⟩
  refine ⟨h.len, fun b u e => ?_, by rw [hid_upd hm]; exact h.gs, Paired.mapPR h.own fun i p hp ⟨x1, o', d', x2, x3, x4⟩ => ⟨x1, o', d', x2, ?_, ?_⟩, h.nd, h.pb, fun z hz q => ?_, h.pz, h.sz, h.sb, hso, h.src, h.fns, fun i hi e => ?_, fun i d hi hd e => ?_⟩
  · have nb : b ≠ D := fun z => by rw [z, hB] at e; cases e
    rw [upd_ne nb]; exact h.bs b u e
  · have np : p ≠ D := fun z => h.pz p hp (z ▸ hD)
    rw [upd_ne np]; exact x3
  · exact x4.mono (by rw [hid_upd hm]; exact Same.refl _)
  · by_cases e : z = D
    · rw [e, upd_same] at q; cases q
    · rw [upd_ne e] at q; exact h.zt z hz q
  · obtain ⟨y1, y2⟩ := h.lam i hi e
    refine ⟨y1, y2.mono (fun p hp => upd_ne fun z => ?_) (by rw [hid_upd hm]; exact Same.refl _)⟩
    obtain ⟨o', c1, c2⟩ := hC
    rw [← z, y2.obs p hp] at c1
    exact y2.nc p hp (Option.some.inj c1 ▸ c2)
  · obtain ⟨v, x1, x2⟩ := h.oth i d hi hd e
    exact ⟨v, x1, by rw [hid_upd hm]; exact x2⟩
end
/-! ### tests -/
structure DTs (X : Cx) (ec : EC) (Ef : L2.St → XK) (O : List Nat) (ifs : List Expr) (f : Rho → R Bool) : Prop where
  pt : PTs X ifs (tG X.K ec Ef O (fun _ _ _ => dT) f)
theorem _root_.L2.PTs.imp {X : Cx} {e : List Expr} {t t' : TT} (h : PTs X e t) (hi : ∀ σ H Q, t' σ H Q → t σ H Q) : PTs X e t' := ⟨fun pins s σ H Q I hw => h.run pins s σ H Q I (hi σ H Q hw)⟩
section
variable {X : Cx} {ec : EC} {Ef : L2.St → XK} {O : List Nat}
theorem dts_nil : DTs X ec Ef O [] (fun _ => .ok true) := ⟨pts_nil.imp fun σ H Q ⟨B, P, Z, ρ, hE, p⟩ => (show Post B.S X.K ec dT (P ++ Z) (Ef σ) H Q (.ok true) from p).ok rfl⟩
theorem dts_one {c : Expr} {f : Rho → R Bool} (h : DT X ec Ef O c f) : DTs X ec Ef O [c] f := ⟨pts_one h.pt⟩
end
/-! ### [e for x in xs if c] -/
def compL (t : PyData → Rho → Option Rho) (ft : Rho → R Bool) (fe : Rho → R PyData) (ρ : Rho) : List PyData → R (List PyData)
  | [] => .ok []
  | d :: ds => (R.ofO (t d ρ)).bind fun ρ1 => (ft ρ1).bind fun b => if b = true then (fe ρ1).bind fun y => (compL t ft fe ρ ds).bind fun ys => .ok (y :: ys) else compL t ft fe ρ ds
def fComp (vs : List Nat) (fi : Rho → R (List PyData)) (t : PyData → Rho → Option Rho) (ft : Rho → R Bool) (fe : Rho → R PyData) : Rho → R PyData := fun ρ => (fi ρ).bind fun ds =>
  if ds.length ≤ sizeLine then (compL t ft fe (wipeR ρ vs) ds).noX.bind fun ys => .ok (.list ys) else .bad
abbrev blkX (X : Cx) (scope : Scope) (s : Shared) (H : Hp) (C : Addr) (cl : List (Str × Addr)) (fp : List Addr) : Cx := X.blk s H scope (compEnvC scope cl C X.env) fp
section
variable {X : Cx} {ec : EC} {Ef : L2.St → XK} {O S : List Nat} {tg iter elt : Expr} {ifs : List Expr} {scope : Scope} {own : List (Str × Nat)} {pos : Pos} {fi : Rho → R (List PyData)} {t : PyData → Rho → Option Rho} {ft : Rho → R Bool} {fe : Rho → R PyData}
theorem comp_imp {gg : TG} (hv : ∀ i, i ∈ own.map (·.2) → i ∉ O) (hSv : ∀ i, i ∈ S → i ∈ own.map (·.2)) (hgo : DGo X.K S t gg) (σ : L2.St) (H : Hp) (Q : VK)
    (h : tG X.K ec Ef O (fun H _ => dF X.K H) (fComp (own.map (·.2)) fi t ft fe) σ H Q) :
    tLc (tG X.K ec Ef O (fun _ S M H1 J ds => ItD X.K (C2 S M H1) J ds) fi) gg (tG X.K ec (fun _ => E0) O (fun _ _ _ => dT) ft) (tG X.K ec (fun _ => E0) O (fun _ _ => dV X.K) fe) (own.map (·.2)) σ H Q := by
  obtain ⟨B, P, Z, ρ, hE, q⟩ := h
  refine ⟨B, P, Z, ρ, hE, (Post.bind q).imp fun J H1 ⟨ds, _, s1, d1, p1⟩ D hD => ?_⟩
  have hE1 := hE.same s1
  by_cases hl : ds.length ≤ sizeLine
  · rw [if_pos hl] at p1
    have hDM : D ∉ P ++ Z := fun z => hE1.trk D z hD
    have hDS : D ∉ B.S := fun z => hDM (List.mem_append_right _ (hE1.sz D z))
    generalize hvs : own.map (·.2) = vs at *
    unfold Post at p1
    rw [R.wp_bind, R.wp_noX] at p1
    -- the invariant
    let Fin : List PyData → Prop := fun ys => ∀ v H', Gr B.S (P ++ Z) H1 H' → dF X.K H (P ++ Z) H' v (.list ys) → Q v H'
    refine ⟨fun i m H2 => m = ds.length - i ∧ i ≤ ds.length ∧ EnvOk X.K (B.nil) O P (D :: Z) (wipe σ vs) H2 (wipeR ρ vs) ∧ (∀ b o, b ∉ B.S → H1 b = some o → H2 b = some o) ∧
      ∃ acc accD, H2 D = some (.lst acc) ∧ DpAll X.K (hid (P ++ D :: Z) H2) acc accD ∧ accD.length ≤ i ∧ (compL t ft fe (wipeR ρ vs) (ds.drop i)).wp (fun ys => Fin (accD ++ ys)) (fun _ _ => False),
      ⟨ds.length, by omega, Nat.zero_le _, hE1.blk hD hv, fun b o _ e => by rw [upd_ne (ne_of_none e hD)]; exact e, [], [], upd_same, .nil, Nat.le_refl _, p1⟩, ?_⟩
    rintro i m H2 ⟨rfl, hi, hE2, hfr, acc, accD, hacc, ha, hlen, hc⟩
    have cc : C2 B.S (P ++ Z) H1 (P ++ D :: Z) H2 := ⟨fun a z => by
      rcases List.mem_append.mp z with z | z
      · exact List.mem_append_left _ z
      · exact List.mem_append_right _ (List.mem_cons_of_mem _ z), fun a z => by
      rcases List.mem_append.mp z with z | z
      · exact .inl (List.mem_append_left _ z)
      · rcases List.mem_cons.mp z with z | z
        · exact .inr (z ▸ hD)
        · exact .inl (List.mem_append_right _ z), hfr, hE2.trk, fun a z => List.mem_append_right _ (hE1.sz a z)⟩
    by_cases hlt : i < ds.length
    · refine .inr ⟨d1.go i _ H2 cc hlt, fun H' => EnvOk X.K (B.nil) O P (D :: Z) (wipe σ vs) H' (wipeR ρ vs) ∧ (∀ b o, b ∉ B.S → H1 b = some o → H' b = some o) ∧
        ∃ acc accD, H' D = some (.lst acc) ∧ DpAll X.K (hid (P ++ D :: Z) H') acc accD ∧ accD.length ≤ i + 1 ∧ (compL t ft fe (wipeR ρ vs) (ds.drop (i + 1))).wp (fun ys => Fin (accD ++ ys)) (fun _ _ => False),
        fun H' w => ⟨ds.length - (i + 1), by omega, rfl, hlt, w⟩, fun x H3 y => ?_⟩
      have hd : ds[i]? = some ds[i] := by simp [hlt]
      rw [List.drop_eq_getElem_cons hlt] at hc
      obtain ⟨s3, d3⟩ := d1.yl i _ H2 x H3 ds[i] cc hd y
      have g3 : Gr B.S (P ++ D :: Z) H2 H3 := .of s3
      have hE3 := EnvOk.same (B := (B.nil)) g3 hE2
      cases ht : t ds[i] (wipeR ρ vs) with
      | none => unfold compL at hc; rw [ht] at hc; exact hc.elim
      | some ρ1 =>
        unfold compL at hc
        rw [ht] at hc
        have hc : ((ft ρ1).bind fun b => if b = true then (fe ρ1).bind fun y => (compL t ft fe (wipeR ρ vs) (ds.drop (i + 1))).bind fun ys => .ok (y :: ys) else compL t ft fe (wipeR ρ vs) (ds.drop (i + 1))).wp (fun ys => Fin (accD ++ ys)) (fun _ _ => False) := hc
        rw [R.wp_bind] at hc
        refine hgo (B.nil) O P (D :: Z) (wipe σ vs) H3 (wipeR ρ vs) ds[i] x _ (fun i hi => hv i (hSv i hi)) hE3 d3 ρ1 ht fun σ2 hE4 hw => ⟨by rw [hw vs hSv]; exact wipe_wipe vs vs fun _ z => z, (B.nil), P, D :: Z, ρ1, hE4, ?_⟩
        refine R.wp_imp hc (fun b hc k H4 g4 e4 => ?_) (fun c z hc => hc.elim)
        cases e4
        have hE5 := EnvOk.same (B := (B.nil)) g4 hE3
        have fr4 : ∀ b o, b ∉ B.S → H1 b = some o → H4 b = some o := fun b o n e => g4.fr b o n (s3 b o (hfr b o n e))
        have acc4 : H4 D = some (.lst acc) := g4.fr D _ hDS (s3 D _ hacc)
        have a4 := dpa_mono g4.vis accD acc (dpa_mono g3.vis accD acc ha)
        cases b with
        | false => rw [if_neg Bool.false_ne_true] at hc ⊢; exact ⟨hE5, fr4, acc, accD, acc4, a4, by omega, hc⟩
        | true =>
          rw [if_pos rfl] at hc ⊢
          rw [R.wp_bind] at hc
          refine ⟨(B.nil), P, D :: Z, ρ1, EnvOk.same (B := (B.nil)) g4 hE4, ?_⟩
          refine R.wp_imp hc (fun yd hc yv H5 g5 d5 => ?_) (fun c z hc => hc.elim)
          rw [R.wp_bind] at hc
          have acc5 : H5 D = some (.lst acc) := g5.fr D _ hDS acc4
          have hE6 := EnvOk.same (B := (B.nil)) g5 hE5
          have hDm : D ∈ P ++ D :: Z := List.mem_append_right _ List.mem_cons_self
          refine ⟨acc, acc5, by rw [dpa_len ha]; omega, hE6.hidU ⟨_, acc5, trivial⟩ List.mem_cons_self hDS rfl, fun b o n e => ?_, acc ++ [yv], accD ++ [yd], upd_same, ?_, by rw [List.length_append]; simp only [List.length_cons, List.length_nil]; omega, ?_⟩
          · rw [upd_ne (ne_of_none e hD)]
            exact g5.fr b o n (fr4 b o n e)
          · rw [hid_upd hDm]
            exact dpa_append (dpa_mono g5.vis accD acc a4) (.cons d5 .nil)
          · refine R.wp_imp hc (fun ys hc => ?_) (fun _ _ h => h)
            rw [List.append_assoc]
            exact hc
    · have e : i = ds.length := by omega
      subst e
      rw [List.drop_length] at hc
      have hc : Fin (accD ++ []) := hc
      rw [List.append_nil] at hc
      refine .inl ⟨d1.st _ _ H2 cc (Nat.le_refl _), hc _ _ (.mk2 (fun a z => List.mem_append_right _ (hE1.sz a z)) hfr hE2.so) ⟨D, acc, accD, rfl, rfl, s1.free hE.so D hD, hDM, hacc, dpa_mono (hid_sub fun a z => ?_) accD acc ha⟩⟩
      rcases List.mem_cons.mp z with e | z
      · exact List.mem_append_right _ (e ▸ List.mem_cons_self)
      · exact cc.sub a z
  · rw [if_neg hl] at p1; exact p1.elim
theorem df_comp (hc : X.calm = true) (hN : X.N.Nodup) (hi : DJ X ec Ef O tg iter fi) (ok : BlkOk X.N X.env.scope scope own) (hg : ∃ gg, (∀ s H C cl fp, PG (blkX X scope s H C cl fp) tg gg) ∧ DGo X.K S t gg)
    (ht : ∀ s H C cl fp, DTs (blkX X scope s H C cl fp) ec (fun _ => E0) O ifs ft) (he : ∀ s H C cl fp, DE (blkX X scope s H C cl fp) ec (fun _ => E0) O elt fe) (hv : ∀ i, i ∈ own.map (·.2) → i ∉ O := by decide) (hSv : ∀ i, i ∈ S → i ∈ own.map (·.2) := by decide)
    (hs : ∀ x, foldedSetIterable iter X.env x = pure x := by intro _; rfl) : DF X ec Ef O (.ListComp elt [⟨tg, iter, ifs, 0⟩] scope pos) (fComp (own.map (·.2)) fi t ft fe) := by
  obtain ⟨gg, h1, h2⟩ := hg
  exact ⟨(pe_lc hc hN hi.pi ok h1 (fun s H C cl fp => (ht s H C cl fp).pt) (fun s H C cl fp => (he s H C cl fp).pe) hs).imp (comp_imp hv hSv h2)⟩
end
end DL
set_option Elab.async false
set_option linter.all false
set_option maxRecDepth 100000
set_option maxHeartbeats 1000000
namespace DL
open PySem PySem.Spec PyProof.Rows L2
/-! ### sources: read, written, made -/
/-- what may stand at a place of a source -/
def SrcAt (k x : Int) : Prop := 0 ≤ x ∧ (k = 1 → x < 2 ^ 32)
instance (k x : Int) : Decidable (SrcAt k x) := by unfold SrcAt; infer_instance
def srcD (k : Int) : R PyData := .pick (fun d => ∃ x : Int, d = .int x ∧ SrcAt k x) .ok
def getSrc (i : Nat) (k : Int) : Rho → R PyData := fun ρ => (getS ρ i).bind fun _ => srcD k
def putSrc (k : Int) (f : Rho → R PyData) (i : Nat) : Rho → R Fl := fun ρ => (f ρ).bind fun d => (getS ρ i).bind fun _ => match d with
  | .int x => if SrcAt k x then .ok (.nx ρ) else .bad
  | _ => .bad
theorem src_at {a : Addr} {x y : Int} {k : Int} (hk : k = 0 ∨ k = 1) (hx : 0 ≤ x) (hy : 0 ≤ y ∧ y < 2 ^ 32) : ∃ z, atI [V.int x, .int y] k = some (.int z) ∧ SrcAt k z := by
  rcases hk with rfl | rfl
  · exact ⟨x, rfl, hx, fun e => by cases e⟩
  · exact ⟨y, rfl, hy.1, fun _ => hy.2⟩
section
variable {K : PySem.W.Frag} {B : BB tt lm} {H H' : Hp} {O : List Nat} {P Z : List Addr} {σ : L2.St} {ρ : Rho}
theorem EnvOk.updS (h : EnvOk K B O P Z σ H ρ) {a : Addr} {x y : Int} (ha : a ∈ B.S.l) (hx : 0 ≤ x) (hy : 0 ≤ y ∧ y < 2 ^ 32) : EnvOk K B O P Z σ (upd H a (.lst [.int x, .int y])) ρ :=
  h.same ⟨fun b o n e => by
    have nb : b ≠ a := fun z => n (z ▸ Srcs.l_mem ha)
    rw [upd_ne nb]; exact e, fun b o e => by rw [hid_upd (List.mem_append_right _ (h.sz a (Srcs.l_mem ha)))]; exact e, fun so => ⟨fun b hb => by
    by_cases e : b = a
    · subst e; exact ⟨x, y, hx, hy, upd_same⟩
    · obtain ⟨x', y', h1, h2, h3⟩ := so.src b hb
      exact ⟨x', y', h1, h2, by rw [upd_ne e]; exact h3⟩, by
    obtain ⟨_, _, _, _, e⟩ := so.src a ha
    exact tabs_upd e trivial so.tab⟩⟩
end
section
variable {X : Cx} {ec : EC} {Ef : L2.St → XK} {io Ol O O' : List Nat} {s e : Expr} {f : Rho → R PyData} {i j : Nat} {k : Int} {pos cp : Pos}
theorem de_src (hsrc : PE X s (tVar i)) (hk : k = 0 ∨ k = 1 := by decide) (hi : i ∉ O := by decide) (hs : PlainIx (.Constant (.int k) j cp) := by intro _ _; rfl) : DE X ec Ef O (.Subscript s (.Constant (.int k) j cp) pos) (getSrc i k) :=
  ⟨(pe_ix ix_list hsrc pe_int hs).imp fun σ H Q ⟨B, P, Z, ρ, hE, q⟩ => by
    have q : Post B.S X.K ec (dV X.K (P ++ Z)) (P ++ Z) (Ef σ) H Q ((getS ρ i).bind fun _ => srcD k) := q
    rcases getS_case (ρ := ρ) (i := i) with ⟨h1, h2⟩ | h2
    · rw [h2] at q
      obtain ⟨a, a1, a2⟩ := hE.src i hi h1
      obtain ⟨x, y, hx, hy, hH⟩ := hE.so.src a a1
      obtain ⟨z, e1, e2⟩ := src_at (a := a) hk hx hy
      exact ⟨.ref a, a2, a, _, k, _, rfl, rfl, .inl (.inl hH), e1, (show Post B.S X.K ec (dV X.K (P ++ Z)) (P ++ Z) (Ef σ) H Q (.ok (.int z)) from q (.int z) ⟨z, rfl, e2⟩).ok (.int z)⟩
    · rw [h2] at q; exact q.elim⟩
theorem ds_srcPut {tpos : Pos} (fl : Flat Ef) (hsrc : PE X s (tVar i)) (he : DE X ec Ef O e f) (hk : k = 0 ∨ k = 1 := by decide) (hi : i ∉ O := by decide)
    (ha : ∀ v, assign (.Subscript s (.Constant (.int k) j cp) tpos) X.env v = (do
      let ov ← holding [v] (eval s X.env)
      let iv ← holding [v, ov] (eval (.Constant (.int k) j cp) X.env)
      standAt tpos
      holding [v, ov, iv] (setItem ov iv v)
      release [v, ov, iv] []) := by intro _; rfl)
    (hs : swapsWithSole [.Subscript s (.Constant (.int k) j cp) tpos] e pos.line X.env = pure false := by rfl) (hw : swappedStores [.Subscript s (.Constant (.int k) j cp) tpos] e X.env = pure none := by rfl) (h1 : (assignEach [.Subscript s (.Constant (.int k) j cp) tpos] X.env).map (·.2) = [assign (.Subscript s (.Constant (.int k) j cp) tpos) X.env] := by rfl) :
    DS X ec Ef io Ol O O (.Assign [.Subscript s (.Constant (.int k) j cp) tpos] e pos) (putSrc k f i) :=
  ⟨(ps_asg he.pe (pg_sub hsrc pe_int set_list ha) hs hw h1).imp fun D σ H ⟨B, P, Z, ρ, hE, p⟩ => ⟨B, P, Z, ρ, hE, PostS.of fl hE p fun d v H1 _ s d1 hE1 p1 => by
    rcases getS_case (ρ := ρ) (i := i) with ⟨h1, h2⟩ | h2
    · rw [h2] at p1
      obtain ⟨a, a1, a2⟩ := hE1.src i hi h1
      obtain ⟨x, y, hx, hy, hH⟩ := hE1.so.src a a1
      cases d with
      | int z =>
        have p2 : PostS X.K ec Ef B Z io Ol O D (if SrcAt k z then .ok (.nx ρ) else .bad) := p1
        by_cases hz : SrcAt k z
        · rw [if_pos hz] at p2
          have p3 : PostS X.K ec Ef B Z io Ol O D (.ok (.nx ρ)) := p2
          have e1 : v = .int z := by cases d1; rfl
          subst e1
          rcases hk with rfl | rfl
          · exact ⟨.ref a, a2, a, _, 0, 0, rfl, rfl, hH, rfl, p3 _ _ _ (hE1.updS a1 hz.1 hy)⟩
          · exact ⟨.ref a, a2, a, _, 1, 1, rfl, rfl, hH, rfl, p3 _ _ _ (hE1.updS a1 hx ⟨hz.1, hz.2 rfl⟩)⟩
        · rw [if_neg hz] at p2; exact p2.elim
      | _ => exact p1.elim
    · rw [h2] at p1; exact p1.elim⟩⟩
end
/-! ### a source is made -/
def unS : Option SV → Option SV
  | some .src => none
  | x => x
def Fl.fgt : Fl → Fl
  | .nx ρ => .nx (ρ.map unS)
  | .rt d ρ => .rt d (ρ.map unS)
  | .rf d ρ => .rf d (ρ.map unS)
  | .bk ρ => .bk (ρ.map unS)
  | .ct ρ => .ct (ρ.map unS)
theorem unS_some {ρ : Rho} {i : Nat} {d : SV} (h : (ρ.map unS)[i]? = some (some d)) : ρ[i]? = some (some d) ∧ d ≠ .src := by
  rw [List.getElem?_map] at h
  obtain ⟨o, h1, h2⟩ := Option.map_eq_some_iff.mp h
  unfold unS at h2
  split at h2
  · cases h2
  · rename_i h3
    subst h2
    exact ⟨h1, fun e => h3 (by rw [e])⟩
theorem unS_keep {ρ : Rho} {i : Nat} {d : SV} (h : ρ[i]? = some (some d)) (hd : d ≠ .src) : (ρ.map unS)[i]? = some (some d) := by
  rw [List.getElem?_map, h]
  show some (unS (some d)) = _
  unfold unS
  split
  · rename_i h3; exact absurd (Option.some.inj h3) hd
  · rfl
theorem own_src {K : PySem.W.Frag} {M : List Addr} {H : Hp} {o : HO} (h : OwnV K M H o .src) : False := by cases h
def fSrc (i : Nat) (f : Rho → R PyData) (g : Rho → R Fl) : Rho → R Fl := fun ρ => (f ρ).bind fun d => match d with
  | .list [.int x, .int y] => if 0 ≤ x ∧ (0 ≤ y ∧ y < 2 ^ 32) then (g (ρ.set i (some .src))).bind fun r => .ok r.fgt else .bad
  | _ => .bad
section
variable {K : PySem.W.Frag} {B : BB tt lm} {H H' : Hp} {O : List Nat} {P Z : List Addr} {σ : L2.St} {ρ : Rho}
theorem EnvOk.newS (h : EnvOk K B O P Z σ H ρ) (s : Gr B.S (P ++ Z) H H') {i : Nat} {p : Addr} {x y : Int} (hi : i ∉ O) (hl : i < σ.length) (hp : H p = none) (np : p ∉ P ++ Z) (hx : 0 ≤ x) (hy : 0 ≤ y ∧ y < 2 ^ 32) (e : H' p = some (.lst [.int x, .int y])) :
    EnvOk K (B.cons p) O P (p :: Z) (σ.set i (some (.ref p))) H' (ρ.set i (some .src)) := by
  have vs' : Same (hid (P ++ Z) H) (hid (P ++ p :: Z) H') := fun b o q => by
    obtain ⟨y1, y2⟩ := hid_some q
    have nb : b ≠ p := ne_of_none y2 hp
    rw [hid_out (fun z => by
      rcases List.mem_append.mp z with z | z
      · exact y1 (List.mem_append_left _ z)
      · rcases List.mem_cons.mp z with z | z
        · exact nb z
        · exact y1 (List.mem_append_right _ z))]
    exact s.fr b o (fun z => y1 (List.mem_append_right _ (h.sz b z))) y2
  have hso : SrcOk (B.S.cons p) H' := by
    refine ⟨fun a ha => ?_, (s.so h.so).tab⟩
    rcases List.mem_cons.mp (show a ∈ p :: B.S.l from ha) with q | ha
    · subst q; exact ⟨x, y, hx, hy, e⟩
    · exact (s.so h.so).src a ha
  refine ⟨by rw [List.length_set, List.length_set]; exact h.len, EnvOk.bs' (B := B) s h, h.gs.trans vs', ?_, h.nd, h.pb, fun z hz => ?_, fun q hq z => ?_, fun a ha => ?_, fun a ha => ?_, hso, fun j hj q => ?_, fun j x hj q => ?_, fun j hj q => ?_, fun j d hj hd q => ?_⟩
  · have key : ∀ {l : List Nat} {m : List Addr}, (∀ j, j ∈ l → j ∈ O) → (∀ q, q ∈ m → q ∈ P) → Paired (Own1 K (P ++ Z) H σ ρ) l m → Paired (Own1 K (P ++ p :: Z) H' (σ.set i (some (.ref p))) (ρ.set i (some .src))) l m := by
      intro l m hl hm pr
      induction pr with
      | nil => exact .nil
      | cons r t ih =>
        obtain ⟨x1, o, d', x2, x3, x4⟩ := r
        have ne : i ≠ _ := fun z => hi (z ▸ hl _ List.mem_cons_self)
        exact .cons ⟨by rw [List.getElem?_set_ne ne]; exact x1, o, d', by rw [List.getElem?_set_ne ne]; exact x2, s.fr _ _ (h.ps (hm _ List.mem_cons_self)) x3, x4.mono vs'⟩ (ih (fun j hj => hl j (List.mem_cons_of_mem _ hj)) fun j hj => hm j (List.mem_cons_of_mem _ hj))
    exact key (fun _ z => z) (fun _ z => z) h.own
  · rcases List.mem_cons.mp hz with q | hz
    · rw [q, e]; intro z; cases z
    · exact EnvOk.zt' (B := B) s h z hz
  · rcases List.mem_cons.mp z with e2 | z
    · exact np (List.mem_append_left _ (e2 ▸ hq))
    · exact h.pz q hq z
  · rcases Srcs.mem_cons.mp ha with q | ha
    · exact q ▸ List.mem_cons_self
    · exact List.mem_cons_of_mem _ (h.sz a ha)
  · rcases Srcs.mem_cons.mp ha with q | ha
    · subst q
      cases q1 : B.1 a with
      | none => rfl
      | some o => rw [h.bs a o q1] at hp; cases hp
    · exact h.sb a ha
  · have q0 := q
    rcases set_get q with ⟨e1, _⟩ | ⟨ne, q⟩
    · subst e1
      exact ⟨p, List.mem_cons_self, List.getElem?_set_self hl⟩
    · obtain ⟨a, x1, x2⟩ := h.src j hj q
      exact ⟨a, List.mem_cons_of_mem _ x1, by rw [List.getElem?_set_ne ne]; exact x2⟩
  · rcases set_get q with ⟨e1, e2⟩ | ⟨ne, q⟩
    · cases e2
    · rw [List.getElem?_set_ne ne]; exact h.fns j x hj q
  · rcases set_get q with ⟨e1, e2⟩ | ⟨ne, q⟩
    · cases e2
    · rw [List.getElem?_set_ne ne]
      obtain ⟨y1, y2⟩ := h.lam j hj q
      have y3 := y2.gr s vs'
      refine ⟨y1, y3.obs, fun o ho z => ?_, y3.nc, y3.caps⟩
      rcases Srcs.mem_cons.mp z with z | z
      · rw [← z, y2.obs o ho] at hp; cases hp
      · exact y3.ns o ho z
  · rcases set_get q with ⟨e1, e2⟩ | ⟨ne, q⟩
    · cases e2; cases hd
    · obtain ⟨w, x1, x2⟩ := h.oth j d hj hd q
      exact ⟨w, by rw [List.getElem?_set_ne ne]; exact x1, svd_mono vs' d w x2⟩
theorem EnvOk.oldS {p : Addr} (h : EnvOk K (B.cons p) O P (p :: Z) σ H ρ) (hsz : ∀ a, a ∈ B.S → a ∈ Z) : EnvOk K B O P Z σ H (ρ.map unS) := by
  have sub : ∀ a, a ∈ P ++ Z → a ∈ P ++ p :: Z := fun a z => by
    rcases List.mem_append.mp z with z | z
    · exact List.mem_append_left _ z
    · exact List.mem_append_right _ (List.mem_cons_of_mem _ z)
  refine ⟨by rw [List.length_map]; exact h.len, h.bs, h.gs.trans (hid_sub sub), ?_, h.nd, h.pb, fun z hz => h.zt z (List.mem_cons_of_mem _ hz), fun q hq z => h.pz q hq (List.mem_cons_of_mem _ z), hsz, fun a ha => h.sb a (Srcs.mem_cons.mpr (.inr ha)), ⟨fun a ha => h.so.src a (List.mem_cons_of_mem _ ha), h.so.tab⟩, fun j hj q => ?_, fun j x hj q => h.fns j x hj (unS_some q).1, fun j hj q => ?_, fun j d hj hd q => ?_⟩
  · exact Paired.mapP h.own fun i q ⟨x1, o, d', x2, x3, x4⟩ => ⟨x1, o, d', unS_keep x2 (fun e => own_src (e ▸ x4)), x3, x4.mono (hid_sub sub)⟩
  · exact absurd rfl (unS_some q).2
  · obtain ⟨y1, y2⟩ := h.lam j hj (unS_some q).1
    exact ⟨y1, y2.obs, fun o ho z => y2.ns o ho (Srcs.mem_cons.mpr (.inr z)), y2.nc, dpa_mono (hid_sub sub) _ _ y2.caps⟩
  · obtain ⟨w, x1, x2⟩ := h.oth j d hj hd (unS_some q).1
    exact ⟨w, x1, svd_mono (hid_sub sub) d w x2⟩
end
section
variable {X : Cx} {ec : EC} {Ef : L2.St → XK} {io Ol O O' : List Nat} {e : Expr} {rest : List Stmt} {f : Rho → R PyData} {g : Rho → R Fl} {pos : Pos}
/-- x = a new source; what follows -/
theorem dss_src {x : Str} {i : Nat} {pos' : Pos} (fl : Flat Ef) (hN : X.N.Nodup) (hix : X.N[i]? = some x) (hx : Loc X.env.scope x) (he : DF X ec Ef O e f) (hr : DSs X ec Ef io Ol O O' rest g) (hl : ∀ σ : L2.St, σ.length = X.N.length → i < σ.length) (hO : i ∉ O := by decide) (hs : swapsWith e (some (.Name x pos')) pos.line X.env = pure false := by rfl)
    (hf : X.fn x = true ∨ X.env.scope.names.lookup x = some .local := by first | exact .inl rfl | exact .inr rfl | assumption) : DSs X ec Ef io Ol O O' (.Assign [.Name x pos'] e pos :: rest) (fSrc i f g) := by
  refine ⟨⟨fun pins s σ H D I hw => (pss_cons (ps_set (i := i) hN hix hx he.pe hs hf) hr.ps).run pins s σ H D I ?_⟩⟩
  obtain ⟨B, P, Z, ρ, hE, p⟩ := hw
  refine ⟨B, P, Z, ρ, hE, PostS.of (k := fun d => match d with
    | .list [.int x, .int y] => if 0 ≤ x ∧ (0 ≤ y ∧ y < 2 ^ 32) then (g (ρ.set i (some .src))).bind fun r => .ok r.fgt else .bad
    | _ => .bad) fl hE p fun d v H1 _ s d1 hE1 p1 => ?_⟩
  obtain ⟨q, vs, ds, rfl, rfl, hB, np, hp, ha⟩ := d1
  split at p1
  · rename_i x y e
    cases e
    cases ha with
    | cons a1 ha =>
      cases ha with
      | cons a2 ha =>
        cases ha
        cases a1
        cases a2
        split at p1
        · rename_i hxy
          refine ⟨⟨B.1, B.2, B.S.cons q⟩, P, q :: Z, _, hE.newS s hO (hl σ I.len) hB np hxy.1 hxy.2 hp, ?_⟩
          unfold PostS at p1
          rw [R.wp_bind] at p1
          refine R.wp_imp p1 (fun r p1 => ?_) (fun c z p1 => ?_)
          · cases r with
            | nx ρ' => exact fun σ' P' H' hE' => p1 _ _ _ (hE'.oldS hE.sz)
            | rt d ρ' => exact fun w σ' P' H' hE' hw => p1 _ _ _ _ (hE'.oldS hE.sz) (dp_mono (hid_sub fun a z => by
                rcases List.mem_append.mp z with z | z
                · exact List.mem_append_left _ z
                · exact List.mem_append_right _ (List.mem_cons_of_mem _ z)) d w hw)
            | rf d ρ' =>
              refine fun w σ' P' H' hE' hw => p1 _ _ _ _ (hE'.oldS hE.sz) ?_
              have sub : ∀ a, a ∈ P' ++ Z → a ∈ P' ++ q :: Z := fun a z => by
                rcases List.mem_append.mp z with z | z
                · exact List.mem_append_left _ z
                · exact List.mem_append_right _ (List.mem_cons_of_mem _ z)
              rcases hw with ⟨ds, e1, e2⟩ | ⟨p, vs, ds, e1, e2, e3, e4, e5, e6⟩
              · exact .inl ⟨ds, e1, e2.mono (hid_sub sub)⟩
              exact .inr ⟨p, vs, ds, e1, e2, e3, fun z => e4 (sub p z), e5, dpa_mono (hid_sub fun a z => by
                rcases List.mem_cons.mp z with z | z
                · exact z ▸ List.mem_cons_self
                · exact List.mem_cons_of_mem _ (sub a z)) ds vs e6⟩
            | bk ρ' => exact fun σ' P' H' hE' => p1 _ _ _ (hE'.oldS hE.sz)
            | ct ρ' => exact fun σ' P' H' hE' => p1 _ _ _ (hE'.oldS hE.sz)
          · exact fun σ' H' dx s so ex => p1 σ' H' dx s ⟨fun a ha => so.src a (List.mem_cons_of_mem _ ha), so.tab⟩ (exOk_sub (fun a z => List.mem_cons_of_mem _ z) ex)
        · exact p1.elim
  · exact p1.elim
end
end DL
set_option Elab.async false
set_option linter.all false
set_option maxRecDepth 100000
set_option maxHeartbeats 1000000
namespace DL
open PySem PySem.Spec PyProof.Rows L2
/-! ### dicts with ints and texts as keys -/
def keyOf : PyData → Option Key
  | .int i => some (.inl i)
  | .str s => some (.inr s)
  | _ => none
theorem keyOf_D (k : Key) : keyOf (keyD k) = some k := by cases k <;> rfl
theorem keyOf_some {d : PyData} {k : Key} (h : keyOf d = some k) : d = keyD k := by
  cases d <;> first | (cases h; done) | (cases h; rfl)
theorem dp_key {K : PySem.W.Frag} {H : Hp} {v : V} {d : PyData} {k : Key} (h : Dp K H v d) (e : keyOf d = some k) : v = kV k := by
  have := keyOf_some e
  subst this
  cases k <;> (cases h; rfl)
def lookD (ds : List (PyData × PyData)) (k : Key) : Option PyData := (ds.find? fun e => decide (keyOf e.1 = some k)).map (·.2)
abbrev PrK (K : PySem.W.Frag) (H : Hp) : List (Key × V) → List (PyData × PyData) → Prop := Paired (fun (q : Key × V) (e : PyData × PyData) => keyD q.1 = e.1 ∧ Dp K H q.2 e.2)
theorem look_rel {K : PySem.W.Frag} {H : Hp} {k : Key} : ∀ {kvs : List (Key × V)} {ds : List (PyData × PyData)}, PrK K H kvs ds → (valV kvs k = none ∧ lookD ds k = none) ∨ ∃ v d, valV kvs k = some v ∧ lookD ds k = some d ∧ Dp K H v d
  | _, _, .nil => .inl ⟨rfl, rfl⟩
  | q :: kvs, e :: ds, .cons r t => by
    by_cases h : q.1 = k
    · refine .inr ⟨q.2, e.2, valV_pos h, ?_, r.2⟩
      unfold lookD
      rw [List.find?_cons, decide_eq_true (show keyOf e.1 = some k by rw [← r.1, keyOf_D, h])]
      rfl
    · have h2 : lookD (e :: ds) k = lookD ds k := by
        unfold lookD
        rw [List.find?_cons, decide_eq_false (show ¬ keyOf e.1 = some k by rw [← r.1, keyOf_D]; exact fun z => h (Option.some.inj z))]
      rw [valV_neg h, h2]
      exact look_rel t
def dD (K : PySem.W.Frag) (B : Hp) (S : Srcs tt) (M : List Addr) (H : Hp) (v : V) (ds : List (PyData × PyData)) : Prop :=
  ∃ p kvs, v = .ref p ∧ B p = none ∧ p ∉ M ∧ p ∉ S ∧ H p = some (.dK kvs) ∧ PrK K (hid (p :: M) H) kvs ds
structure DD (X : Cx) (ec : EC) (Ef : L2.St → XK) (O : List Nat) (e : Expr) (f : Rho → R (List (PyData × PyData))) : Prop where
  pe : PE X e (tG X.K ec Ef O (dD X.K) f)
theorem prk_mono {K : PySem.W.Frag} {H H' : Hp} (s : Same H H') {kvs : List (Key × V)} {ds : List (PyData × PyData)} (h : PrK K H kvs ds) : PrK K H' kvs ds := Paired.mapP h fun q e z => ⟨z.1, dp_mono s _ _ z.2⟩
/-! ### displays -/
structure DKs (X : Cx) (ec : EC) (Ef : L2.St → XK) (O : List Nat) (pos : Pos) (keys : List (Option Expr)) (values : List Expr) (f : Rho → R (List (PyData × PyData))) : Prop where
  ex : ∃ trs, PPs X pos keys values trs ∧ ∀ σ H Rr, tG X.K ec Ef O (fun _ _ M H' (kvs : List (Key × V)) ds => PrK X.K (hid M H') kvs ds) f σ H (fun kvs H' => Rr (kvs.map fun kv => (kV kv.1, kv.2)) H') → tPairs trs σ H Rr
section
variable {X : Cx} {ec : EC} {Ef : L2.St → XK} {O : List Nat} {pos : Pos} {keys : List (Option Expr)} {values : List Expr} {e : Expr} {fe : Rho → R PyData} {f : Rho → R (List (PyData × PyData))}
theorem dks_nil : DKs X ec Ef O pos [] [] (fun _ => .ok []) := ⟨[], pps_nil, fun σ H Rr ⟨B, P, Z, ρ, hE, p⟩ => (show Post B.S X.K ec (fun H' (kvs : List (Key × V)) ds => PrK X.K (hid (P ++ Z) H') kvs ds) (P ++ Z) (Ef σ) H _ (.ok []) from p).ok (v := []) .nil⟩
theorem dks_cons {ke : Expr} (k : Key) (hk : PE X ke (tC (kV k))) (he : DE X ec Ef O e fe) (t : DKs X ec Ef O pos keys values f) : DKs X ec Ef O pos (some ke :: keys) (e :: values) (fun ρ => (fe ρ).bind fun d => (f ρ).bind fun ds => .ok ((keyD k, d) :: ds)) := by
  obtain ⟨trs, h1, h2⟩ := t.ex
  refine ⟨_, pps_cons hk he.pe h1, fun σ H Rr ⟨B, P, Z, ρ, hE, p⟩ => ⟨B, P, Z, ρ, hE, (Post.bind p).imp fun v H1 ⟨d, _, s1, d1, p1⟩ => h2 σ H1 _ ⟨B, P, Z, ρ, hE.same s1, (Post.bind p1).imp fun kvs H2 ⟨ds, _, s2, d2, p2⟩ => ?_⟩⟩⟩
  exact p2.ok (v := (k, v) :: kvs) (.cons ⟨rfl, d1.mono s2⟩ d2)
end
def distK : List (PyData × PyData) → Bool
  | [] => true
  | e :: r => (r.all fun q => decide (keyOf q.1 ≠ keyOf e.1)) && distK r
def mkDict (ds : List (PyData × PyData)) : R (List (PyData × PyData)) := if ds.length ≤ 15 ∧ distK ds = true then .ok ds else .bad
theorem merge_dist : ∀ (more acc : List (Key × V)), (∀ q, q ∈ acc → ∀ r, r ∈ more → q.1 ≠ r.1) → more.Pairwise (fun a b => a.1 ≠ b.1) → mergeK acc more = acc ++ more
  | [], acc, _, _ => (List.append_nil acc).symm
  | p :: r, acc, h, hp => by
    obtain ⟨h1, h2⟩ := List.pairwise_cons.mp hp
    have e : putK acc p.1 p.2 = acc ++ [p] := by
      unfold putK
      rw [if_neg]
      intro z
      obtain ⟨q, hq, hd⟩ := List.any_eq_true.mp z
      exact h q hq p List.mem_cons_self (of_decide_eq_true hd)
    show mergeK (putK acc p.1 p.2) r = _
    rw [e, merge_dist r (acc ++ [p]) (fun q hq z hz => ?_) h2, List.append_assoc]
    · rfl
    · rcases List.mem_append.mp hq with hq | hq
      · exact h q hq z (List.mem_cons_of_mem _ hz)
      · have : q = p := by simpa using hq
        subst this
        exact h1 z hz
theorem dist_pw {K : PySem.W.Frag} {H : Hp} : ∀ {kvs : List (Key × V)} {ds : List (PyData × PyData)}, PrK K H kvs ds → distK ds = true → kvs.Pairwise (fun a b => a.1 ≠ b.1)
  | _, _, .nil, _ => .nil
  | q :: kvs, e :: ds, .cons r t, h => by
    obtain ⟨h1, h2⟩ := Bool.and_eq_true_iff.mp h
    refine .cons (fun q' hq' z => ?_) (dist_pw t h2)
    obtain ⟨e', he', r'⟩ := paired_left t q' hq'
    have := of_decide_eq_true (List.all_eq_true.mp h1 e' he')
    rw [← r'.1, ← r.1, keyOf_D, keyOf_D] at this
    exact this (by rw [z])
section
variable {X : Cx} {ec : EC} {Ef : L2.St → XK} {O : List Nat} {pos : Pos} {keys : List (Option Expr)} {values : List Expr} {e : Expr} {fe : Rho → R PyData} {f : Rho → R (List (PyData × PyData))}
theorem paired_len {α β : Type} {F : α → β → Prop} : ∀ {l : List α} {m : List β}, Paired F l m → l.length = m.length
  | _, _, .nil => rfl
  | _, _, .cons _ t => by rw [List.length_cons, List.length_cons, paired_len t]
theorem dd_disp (h : DKs X ec Ef O pos keys values f) (hall : keys.all (·.isSome) = true := by rfl) (hl : keys.length = values.length := by rfl) (h0 : keys ≠ [] := by simp) (h15 : keys.length ≤ 15 := by decide) : DD X ec Ef O (.Dict keys values pos) (fun ρ => (f ρ).bind mkDict) := by
  obtain ⟨trs, h1, h2⟩ := h.ex
  refine ⟨(pe_disp h1 hall hl h0 h15).imp fun σ H Q ⟨B, P, Z, ρ, hE, q⟩ p hp => ?_⟩
  have hE0 : EnvOk X.K (B.nil) O P (p :: Z) σ (upd H p (.dK [])) ρ := hE.blk (vs := []) hp (fun i hi => by cases hi)
  have np : p ∉ P ++ Z := fun z => hE.trk p z hp
  have nS : p ∉ B.S := fun z => np (List.mem_append_right _ (hE.sz p z))
  have hm : p ∈ P ++ p :: Z := List.mem_append_right _ List.mem_cons_self
  have sub : ∀ a, a ∈ P ++ Z → a ∈ P ++ p :: Z := fun a z => by
    rcases List.mem_append.mp z with z | z
    · exact List.mem_append_left _ z
    · exact List.mem_append_right _ (List.mem_cons_of_mem _ z)
  have sub2 : ∀ a, a ∈ p :: (P ++ Z) → a ∈ P ++ p :: Z := fun a z => by
    rcases List.mem_cons.mp z with z | z
    · exact z ▸ hm
    · exact sub a z
  have hSM : ∀ a, a ∈ B.S → a ∈ P ++ Z := fun a z => List.mem_append_right _ (hE.sz a z)
  unfold Post at q
  rw [R.wp_bind] at q
  refine h2 σ _ _ ⟨(B.nil), P, p :: Z, ρ, hE0, R.wp_imp q (fun ds q kvs H2 s2 d2 => ?_) (fun c x q H' dx s e => q H' dx (.mk2 hSM (fun b o n e => s.fr b o n (by rw [upd_ne (ne_of_none e hp)]; exact e)) (s.so hE0.so)) (exOk_sub sub e))⟩
  unfold mkDict at q
  by_cases hd : ds.length ≤ 15 ∧ distK ds = true
  · rw [if_pos hd] at q
    have e2 : H2 p = some (.dK []) := s2.fr p _ nS upd_same
    refine ⟨e2, kvs, rfl, by rw [paired_len d2]; exact hd.1, ?_⟩
    rw [merge_dist kvs [] (fun q hq => by cases hq) (dist_pw d2 hd.2), List.nil_append]
    have hso : SrcOk B.S (upd H2 p (.dK kvs)) := by
      refine ⟨fun a ha => ?_, tabs_upd e2 trivial (s2.so hE0.so).tab⟩
      obtain ⟨x, y, x1, x2, x3⟩ := (s2.so hE0.so).src a ha
      have na : a ≠ p := fun e => nS (e ▸ Srcs.l_mem ha)
      exact ⟨x, y, x1, x2, by rw [upd_ne na]; exact x3⟩
    refine q _ _ (.mk2 hSM (fun b o n e => ?_) hso) ⟨p, kvs, rfl, hp, np, nS, upd_same, prk_mono (H := hid (P ++ p :: Z) H2) (fun b o e => ?_) d2⟩
    · have nb : b ≠ p := ne_of_none e hp
      rw [upd_ne nb]
      exact s2.fr b o n (by rw [upd_ne nb]; exact e)
    · obtain ⟨y1, y2⟩ := hid_some e
      have nb : b ≠ p := fun e => y1 (e ▸ hm)
      rw [hid_out fun z => y1 (sub2 b z), upd_ne nb]
      exact y2
  · rw [if_neg hd] at q; exact q.elim
end
/-! ### get -/
def getD2 (ds : List (PyData × PyData)) (k d : PyData) : R PyData := match keyOf k with
  | some k => .ok ((lookD ds k).getD d)
  | none => .bad
section
variable {X : Cx} {ec : EC} {Ef : L2.St → XK} {O : List Nat} {o e b : Expr} {fe fb : Rho → R PyData} {f : Rho → R (List (PyData × PyData))} {apos cpos : Pos}
theorem get_rel {K : PySem.W.Frag} {H : Hp} {a : Addr} {kvs : List (Key × V)} {ds : List (PyData × PyData)} {G : Hp} {y z : V} {k d : PyData} (hH : H a = some (.dK kvs)) (h : PrK K G kvs ds) (hy : Dp K G y k) (hz : Dp K G z d) {r : PyData} (e : getD2 ds k d = .ok r) :
    ∃ o, DGet H a y o ∧ Dp K G (o.getD z) r := by
  unfold getD2 at e
  cases hk : keyOf k with
  | none => rw [hk] at e; cases e
  | some kk =>
    rw [hk] at e
    cases e
    refine ⟨valV kvs kk, .inl ⟨kvs, kk, .inl hH, dp_key hy hk, rfl⟩, ?_⟩
    rcases look_rel (k := kk) h with ⟨h1, h2⟩ | ⟨v, d', h1, h2, h3⟩
    · rw [h1, h2]; exact hz
    · rw [h1, h2]; exact h3
theorem getD2_case {ds : List (PyData × PyData)} {k d : PyData} : (∃ r, getD2 ds k d = .ok r) ∨ getD2 ds k d = .bad := by
  unfold getD2
  cases keyOf k with
  | none => exact .inr rfl
  | some kk => exact .inl ⟨_, rfl⟩
/-- {..}.get(k, d) -/
theorem de_dget2 (hu : X.A.units + 1 < cLine) (ho : DD X ec Ef O o f) (he : DE X ec Ef O e fe) (hb : DE X ec Ef O b fb) (m : M2 X o "get" apos e b cpos) : DE X ec Ef O (.Call (.Attribute o "get" apos) [e, b] [] cpos) (fun ρ => (f ρ).bind fun ds => (fe ρ).bind fun k => (fb ρ).bind fun d => getD2 ds k d) :=
  ⟨(pe_dget2 hu ho.pe he.pe hb.pe m).imp fun σ H Q ⟨B, P, Z, ρ, hE, q⟩ => ⟨B, P, Z, ρ, hE, (Post.bind q).imp fun v H1 ⟨ds, _, s1, d1, p1⟩ => by
    obtain ⟨p, kvs, rfl, _, np, nS, hp, hk⟩ := d1
    refine ⟨p, rfl, .inl ⟨kvs, .inl hp⟩, B, P, Z, ρ, hE.same s1, (Post.bind p1).imp fun y H2 ⟨k, _, s2, d2, p2⟩ => ⟨B, P, Z, ρ, (hE.same s1).same s2, (Post.bind p2).imp fun z H3 ⟨d, _, s3, d3, p3⟩ => ?_⟩⟩
    have hp3 : H3 p = some (.dK kvs) := s3.fr p _ nS (s2.fr p _ nS hp)
    rcases getD2_case (ds := ds) (k := k) (d := d) with ⟨r, e⟩ | e
    · rw [e] at p3
      have hk1 : PrK X.K (hid (P ++ Z) H1) kvs ds := prk_mono (hid_sub fun a z => List.mem_cons_of_mem _ z) hk
      obtain ⟨o, g1, g2⟩ := get_rel hp3 (prk_mono s3.vis (prk_mono s2.vis hk1)) (d2.mono s3) d3 e
      exact ⟨o, g1, p3.ok g2⟩
    · rw [e] at p3; exact p3.elim⟩⟩
/-- a dict in a slot that owns it -/
def getO (ρ : Rho) (i : Nat) : R (List (PyData × PyData)) := match ρ[i]? with
  | some (some (.dict ds)) => .ok ds
  | _ => .bad
theorem getO_case {ρ : Rho} {i : Nat} : (∃ ds, ρ[i]? = some (some (.dict ds)) ∧ getO ρ i = .ok ds) ∨ getO ρ i = .bad := by
  unfold getO
  split
  · rename_i ds h; exact .inl ⟨ds, h, rfl⟩
  · exact .inr rfl
theorem own_dict {K : PySem.W.Frag} {B : BB tt lm} {H : Hp} {P Z : List Addr} {σ : L2.St} {ρ : Rho} (hE : EnvOk K B O P Z σ H ρ) {i : Nat} (hi : i ∈ O) {ds : List (PyData × PyData)} (h : ρ[i]? = some (some (.dict ds))) :
    ∃ p kvs, p ∈ P ∧ σ[i]? = some (some (.ref p)) ∧ H p = some (.dK kvs) ∧ PrK K (hid (P ++ Z) H) kvs ds := by
  obtain ⟨q, hq, x1, o, d', x2, x3, x4⟩ := paired_left hE.own i hi
  rw [h] at x2
  cases x2
  cases x4 with
  | dk x4 => exact ⟨q, _, hq, x1, x3, x4⟩
theorem de_dget2O {i : Nat} (hu : X.A.units + 1 < cLine) (ho : PE X o (tVar i)) (he : DE X ec Ef O e fe) (hb : DE X ec Ef O b fb) (m : M2 X o "get" apos e b cpos) (hi : i ∈ O := by decide) : DE X ec Ef O (.Call (.Attribute o "get" apos) [e, b] [] cpos) (fun ρ => (getO ρ i).bind fun ds => (fe ρ).bind fun k => (fb ρ).bind fun d => getD2 ds k d) :=
  ⟨(pe_dget2 hu ho he.pe hb.pe m).imp fun σ H Q ⟨B, P, Z, ρ, hE, q⟩ => by
    have q : Post B.S X.K ec (dV X.K (P ++ Z)) (P ++ Z) (Ef σ) H Q ((getO ρ i).bind fun ds => (fe ρ).bind fun k => (fb ρ).bind fun d => getD2 ds k d) := q
    rcases getO_case (ρ := ρ) (i := i) with ⟨ds, h1, h2⟩ | h2
    · rw [h2] at q
      have q : Post B.S X.K ec (dV X.K (P ++ Z)) (P ++ Z) (Ef σ) H Q ((fe ρ).bind fun k => (fb ρ).bind fun d => getD2 ds k d) := q
      obtain ⟨p, kvs, hpP, x1, hp, hk⟩ := own_dict hE hi h1
      refine ⟨.ref p, x1, p, rfl, .inl ⟨kvs, .inl hp⟩, B, P, Z, ρ, hE, (Post.bind (den := dV X.K (P ++ Z)) q).imp fun y H2 ⟨k, _, s2, d2, p2⟩ => ⟨B, P, Z, ρ, hE.same s2, (Post.bind (den := dV X.K (P ++ Z)) p2).imp fun z H3 ⟨d, _, s3, d3, p3⟩ => ?_⟩⟩
      have nS := hE.ps hpP
      have hp3 : H3 p = some (.dK kvs) := s3.fr p _ nS (s2.fr p _ nS hp)
      rcases getD2_case (ds := ds) (k := k) (d := d) with ⟨r, e⟩ | e
      · rw [e] at p3
        obtain ⟨o, g1, g2⟩ := get_rel hp3 (prk_mono s3.vis (prk_mono s2.vis hk)) (d2.mono s3) d3 e
        exact ⟨o, g1, p3.ok g2⟩
      · rw [e] at p3; exact p3.elim
    · rw [h2] at q; exact q.elim⟩
end
/-! ### a dict comes into a slot -/
theorem EnvOk.setFD {K : PySem.W.Frag} {B : BB tt lm} {H H' : Hp} {O : List Nat} {P Z : List Addr} {σ : L2.St} {ρ : Rho} (h : EnvOk K B O P Z σ H ρ) (s : Gr B.S (P ++ Z) H H') {i : Nat} {v : V} {ds : List (PyData × PyData)} (hi : i ∉ O) (hl : i < σ.length) (hv : dD K H B.S (P ++ Z) H' v ds) : ∃ p, EnvOk K B (i :: O) (p :: P) Z (σ.set i (some v)) H' (ρ.set i (some (.dict ds))) := by
  obtain ⟨p, kvs, rfl, hB, np, nS, hp, hk⟩ := hv
  exact ⟨p, h.setNew s hi hl hB np hp (.dk hk)⟩
section
variable {X : Cx} {ec : EC} {Ef : L2.St → XK} {io Ol O O' : List Nat} {e : Expr} {f : Rho → R (List (PyData × PyData))} {pos : Pos}
theorem ds_ownD {x : Str} {i : Nat} {pos' : Pos} (fl : Flat Ef) (hN : X.N.Nodup) (hi : X.N[i]? = some x) (hx : Loc X.env.scope x) (he : DD X ec Ef O e f) (hl : ∀ σ : L2.St, σ.length = X.N.length → i < σ.length) (hO : i ∉ O := by decide) (hs : swapsWith e (some (.Name x pos')) pos.line X.env = pure false := by rfl)
    (hf : X.fn x = true ∨ X.env.scope.names.lookup x = some .local := by first | exact .inl rfl | exact .inr rfl | assumption) : DS X ec Ef io Ol O (i :: O) (.Assign [.Name x pos'] e pos) (fun ρ => (f ρ).bind fun ds => .ok (.nx (ρ.set i (some (.dict ds))))) := by
  refine ⟨⟨fun pins s σ H D I hw => (ps_set (i := i) hN hi hx he.pe hs hf).run pins s σ H D I ?_⟩⟩
  obtain ⟨B, P, Z, ρ, hE, p⟩ := hw
  refine ⟨B, P, Z, ρ, hE, PostS.of fl hE p fun d v H1 _ s d1 hE1 p1 => ?_⟩
  obtain ⟨q, hq⟩ := hE.setFD s hO (hl σ I.len) d1
  exact p1 _ _ _ hq
end
end DL
set_option Elab.async false
set_option linter.all false
set_option maxRecDepth 100000
set_option maxHeartbeats 1000000
namespace DL
open PySem PySem.Spec PyProof.Rows L2
/-! ### targets: tuples -/
def DGso (K : PySem.W.Frag) (S : List Nat) (t : List PyData → Rho → Option Rho) (g : TGs) : Prop := ∀ {tt : TTab} {lm : LamD} (B : BB tt lm) O P Z σ H ρ ds vs (Q : L2.St → Hp → Prop), (∀ i, i ∈ S → i ∉ O) → EnvOk K B O P Z σ H ρ → DpAll K (hid (P ++ Z) H) vs ds →
    ∀ ρ', t ds ρ = some ρ' → (∀ σ', EnvOk K B O P Z σ' H ρ' → (∀ vs, (∀ i, i ∈ S → i ∈ vs) → wipe σ' vs = wipe σ vs) → Q σ' H) → g vs σ H Q
structure DGs (X : Cx) (S : List Nat) (es : List Expr) (t : List PyData → Rho → Option Rho) : Prop where
  ex : ∃ g, PGs X es g ∧ DGso X.K S t g
def tgNil : List PyData → Rho → Option Rho
  | [], ρ => some ρ
  | _, _ => none
def tgCons (t : PyData → Rho → Option Rho) (u : List PyData → Rho → Option Rho) : List PyData → Rho → Option Rho
  | d :: ds, ρ => (t d ρ).bind (u ds)
  | [], _ => none
def tgTup (n : Nat) (u : List PyData → Rho → Option Rho) : PyData → Rho → Option Rho
  | .tuple ds, ρ => if ds.length = n then u ds ρ else none
  | _, _ => none
section
variable {X : Cx} {S S' : List Nat} {e : Expr} {es : List Expr} {t : PyData → Rho → Option Rho} {u : List PyData → Rho → Option Rho} {pos : Pos} {k n : Nat}
theorem dgs_nil : DGs X [] [] tgNil := ⟨_, pgs_nil, fun B O P Z σ H ρ ds vs Q hS hE hv ρ' ht hq => by
  cases ds with
  | nil =>
    cases ht
    cases hv
    exact ⟨rfl, hq σ hE fun _ _ => rfl⟩
  | cons _ _ => cases ht⟩
theorem dgs_cons (h : DG X S e t) (r : DGs X S' es u) (hs : (assignEach (e :: es) X.env).map (·.2) = assign e X.env :: (assignEach es X.env).map (·.2) := by rfl) : DGs X (S ++ S') (e :: es) (tgCons t u) := by
  obtain ⟨g, h1, h2⟩ := h.ex
  obtain ⟨gs, h3, h4⟩ := r.ex
  refine ⟨_, pgs_cons h1 h3 hs, fun B O P Z σ H ρ ds vs Q hS hE hv ρ' ht hq => ?_⟩
  cases ds with
  | nil => cases ht
  | cons d ds =>
    cases hv with
    | cons r t' =>
      have ht : (t d ρ).bind (u ds) = some ρ' := ht
      cases h5 : t d ρ with
      | none => rw [h5] at ht; cases ht
      | some ρ1 =>
        rw [h5] at ht
        refine ⟨_, _, rfl, h2 B O P Z σ H ρ d _ _ (fun i hi => hS i (List.mem_append_left _ hi)) hE r ρ1 h5 fun σ1 hE1 hw1 => ?_⟩
        refine h4 B O P Z σ1 H ρ1 ds _ _ (fun i hi => hS i (List.mem_append_right _ hi)) hE1 t' ρ' ht fun σ2 hE2 hw2 => hq σ2 hE2 fun ws hws => ?_
        rw [hw2 ws fun i hi => hws i (List.mem_append_right _ hi), hw1 ws fun i hi => hws i (List.mem_append_left _ hi)]
theorem dg_tup (hc : X.calm = true) (h : DGs X S es u) (hn : (assignEach es X.env).length = n := by rfl) (hst : (assignEach es X.env).findIdx? (·.1) = none := by rfl) : DG X S (.Tuple es k pos) (tgTup n u) := by
  obtain ⟨gs, h3, h4⟩ := h.ex
  refine ⟨_, pg_tup hc h3 hn hst, fun B O P Z σ H ρ d v Q hS hE hv ρ' ht hq => ?_⟩
  cases d with
  | tuple ds =>
    have ht : (if ds.length = n then u ds ρ else none) = some ρ' := ht
    by_cases hl : ds.length = n
    · rw [if_pos hl] at ht
      cases hv with
      | tup hs ha => exact ⟨_, _, rfl, same_seqT hid_le hs, by rw [dpa_len ha]; exact hl, h4 B O P Z σ H ρ ds _ Q hS hE ha ρ' ht hq⟩
    · rw [if_neg hl] at ht; cases ht
  | _ => cases ht
end
theorem dgo_name {K : PySem.W.Frag} (i : Nat) : DGo K [i] (tg1 i) (gName i) := fun B O P Z σ H ρ d v Q hS hE hv ρ' ht hq => by
  cases ht
  exact hq _ (hE.setV (hS i (by simp)) hv) fun vs hvs => wipe_set (hvs i (by simp))
theorem dgo_nil {K : PySem.W.Frag} : DGso K [] tgNil gNil := fun B O P Z σ H ρ ds vs Q hS hE hv ρ' ht hq => by
  cases ds with
  | nil =>
    cases ht
    cases hv
    exact ⟨rfl, hq σ hE fun _ _ => rfl⟩
  | cons _ _ => cases ht
theorem dgo_cons {K : PySem.W.Frag} {S S' : List Nat} {t : PyData → Rho → Option Rho} {u : List PyData → Rho → Option Rho} {g : TG} {gs : TGs} (h2 : DGo K S t g) (h4 : DGso K S' u gs) : DGso K (S ++ S') (tgCons t u) (gCons g gs) := fun B O P Z σ H ρ ds vs Q hS hE hv ρ' ht hq => by
  cases ds with
  | nil => cases ht
  | cons d ds =>
    cases hv with
    | cons r t' =>
      have ht : (t d ρ).bind (u ds) = some ρ' := ht
      cases h5 : t d ρ with
      | none => rw [h5] at ht; cases ht
      | some ρ1 =>
        rw [h5] at ht
        refine ⟨_, _, rfl, h2 B O P Z σ H ρ d _ _ (fun i hi => hS i (List.mem_append_left _ hi)) hE r ρ1 h5 fun σ1 hE1 hw1 => ?_⟩
        refine h4 B O P Z σ1 H ρ1 ds _ _ (fun i hi => hS i (List.mem_append_right _ hi)) hE1 t' ρ' ht fun σ2 hE2 hw2 => hq σ2 hE2 fun ws hws => ?_
        rw [hw2 ws fun i hi => hws i (List.mem_append_right _ hi), hw1 ws fun i hi => hws i (List.mem_append_left _ hi)]
theorem dgo_tup {K : PySem.W.Frag} {S : List Nat} {u : List PyData → Rho → Option Rho} {gs : TGs} {n : Nat} (h4 : DGso K S u gs) : DGo K S (tgTup n u) (gTup K n gs) := fun B O P Z σ H ρ d v Q hS hE hv ρ' ht hq => by
  cases d with
  | tuple ds =>
    have ht : (if ds.length = n then u ds ρ else none) = some ρ' := ht
    by_cases hl : ds.length = n
    · rw [if_pos hl] at ht
      cases hv with
      | tup hs ha => exact ⟨_, _, rfl, same_seqT hid_le hs, by rw [dpa_len ha]; exact hl, h4 B O P Z σ H ρ ds _ Q hS hE ha ρ' ht hq⟩
    · rw [if_neg hl] at ht; cases ht
  | _ => cases ht
section
variable {X : Cx} {ec : EC} {Ef : L2.St → XK} {io Ol O S : List Nat} {tg e a b c : Expr} {t : PyData → Rho → Option Rho} {f : Rho → R PyData} {fa : Rho → R (List PyData)} {pos : Pos}
def asgT (t : PyData → Rho → Option Rho) (f : Rho → R PyData) : Rho → R Fl := fun ρ => (f ρ).bind fun d => (R.ofO (t d ρ)).bind fun ρ' => .ok (.nx ρ')
/-- a, b = e -/
theorem ds_asgT (fl : Flat Ef) (he : DE X ec Ef O e f) (hg : DG X S tg t) (hS : ∀ i, i ∈ S → i ∉ O := by decide) (hs : swapsWithSole [tg] e pos.line X.env = pure false := by rfl) (hw : swappedStores [tg] e X.env = pure none := by rfl)
    (h1 : (assignEach [tg] X.env).map (·.2) = [assign tg X.env] := by rfl) : DS X ec Ef io Ol O O (.Assign [tg] e pos) (asgT t f) := by
  obtain ⟨g, h2, h3⟩ := hg.ex
  refine ⟨(ps_asg he.pe h2 hs hw h1).imp fun D σ H ⟨B, P, Z, ρ, hE, p⟩ => ⟨B, P, Z, ρ, hE, PostS.of fl hE p fun d v H1 _ s d1 hE1 p1 => ?_⟩⟩
  cases ht : t d ρ with
  | none => rw [ht] at p1; exact p1.elim
  | some ρ' =>
    rw [ht] at p1
    exact h3 B O P Z σ H1 ρ d v _ hS hE1 d1 ρ' ht fun σ' hE' _ => p1 _ _ _ hE'
def par2 (i j : Nat) (fa : Rho → R (List PyData)) : Rho → R Fl := fun ρ => (fa ρ).bind fun ds => match ds with
  | [x, y] => .ok (.nx ((ρ.set i (some (.d x))).set j (some (.d y))))
  | _ => .bad
def par3 (i j l : Nat) (fa : Rho → R (List PyData)) : Rho → R Fl := fun ρ => (fa ρ).bind fun ds => match ds with
  | [x, y, z] => .ok (.nx (((ρ.set i (some (.d x))).set j (some (.d y))).set l (some (.d z))))
  | _ => .bad
theorem ds_par2 {i j : Nat} {x y : Str} {px py pt : Pos} {kt k2 pt2} (fl : Flat Ef) (hc : X.calm = true) (hN : X.N.Nodup) (hi : X.N[i]? = some x) (hj : X.N[j]? = some y) (ha : DA X ec Ef O [a, b] fa) (hij : i ≠ j := by decide) (hiO : i ∉ O := by decide) (hjO : j ∉ O := by decide)
    (hx : X.env.scope.names.lookup x = some .local := by rfl) (hy : X.env.scope.names.lookup y = some .local := by rfl)
    (hw : swappedStores [.Tuple [.Name x px, .Name y py] kt pt] (.Tuple [a, b] k2 pt2) X.env = pure (some [x, y]) := by rfl)
    (hs : swapsWithSole [.Tuple [.Name x px, .Name y py] kt pt] (.Tuple [a, b] k2 pt2) pos.line X.env = pure false := by rfl) :
    DS X ec Ef io Ol O O (.Assign [.Tuple [.Name x px, .Name y py] kt pt] (.Tuple [a, b] k2 pt2) pos) (par2 i j fa) :=
  ⟨(ps_par hc hN hi hj hij hx hy ha.pa hw hs).imp fun D σ H ⟨B, P, Z, ρ, hE, p⟩ => ⟨B, P, Z, ρ, hE, PostS.of fl hE p fun ds vs H1 _ s d1 hE1 p1 => by
    match ds, p1 with
    | [dx, dy], p1 =>
      cases d1 with
      | cons r1 t =>
        cases t with
        | cons r2 t =>
          cases t
          exact ⟨_, _, rfl, p1 _ _ _ ((hE1.setV hiO r1).setV hjO r2)⟩
    | [], p1 => exact p1.elim
    | [_], p1 => exact p1.elim
    | _ :: _ :: _ :: _, p1 => exact p1.elim⟩⟩
theorem ds_par3 {i j l : Nat} {x y z : Str} {px py pz pt : Pos} {kt k2 pt2} (fl : Flat Ef) (hc : X.calm = true) (hN : X.N.Nodup) (hi : X.N[i]? = some x) (hj : X.N[j]? = some y) (hl : X.N[l]? = some z) (ha : DA X ec Ef O [a, b, c] fa) (hij : i ≠ j := by decide) (hil : i ≠ l := by decide) (hjl : j ≠ l := by decide) (hiO : i ∉ O := by decide) (hjO : j ∉ O := by decide) (hlO : l ∉ O := by decide)
    (hx : X.env.scope.names.lookup x = some .local := by rfl) (hy : X.env.scope.names.lookup y = some .local := by rfl) (hz : X.env.scope.names.lookup z = some .local := by rfl)
    (hw : swappedStores [.Tuple [.Name x px, .Name y py, .Name z pz] kt pt] (.Tuple [a, b, c] k2 pt2) X.env = pure (some [x, y, z]) := by rfl)
    (hs : swapsWithSole [.Tuple [.Name x px, .Name y py, .Name z pz] kt pt] (.Tuple [a, b, c] k2 pt2) pos.line X.env = pure false := by rfl) :
    DS X ec Ef io Ol O O (.Assign [.Tuple [.Name x px, .Name y py, .Name z pz] kt pt] (.Tuple [a, b, c] k2 pt2) pos) (par3 i j l fa) :=
  ⟨(ps_par3 hc hN hi hj hl hij hil hjl hx hy hz ha.pa hw hs).imp fun D σ H ⟨B, P, Z, ρ, hE, p⟩ => ⟨B, P, Z, ρ, hE, PostS.of fl hE p fun ds vs H1 _ s d1 hE1 p1 => by
    match ds, p1 with
    | [dx, dy, dz], p1 =>
      cases d1 with
      | cons r1 t =>
        cases t with
        | cons r2 t =>
          cases t with
          | cons r3 t =>
            cases t
            exact ⟨_, _, _, rfl, p1 _ _ _ (((hE1.setV hiO r1).setV hjO r2).setV hlO r3)⟩
    | [], p1 => exact p1.elim
    | [_], p1 => exact p1.elim
    | [_, _], p1 => exact p1.elim
    | _ :: _ :: _ :: _ :: _, p1 => exact p1.elim⟩⟩
/-- name = [..]: on one line the name is stored within the block -/
theorem ds_setLc {elt tgc iter : Expr} {ifs : List Expr} {scope : Scope} {own : List (Str × Nat)} {i : Nat} {y : Str} {py spos : Pos} {fi : Rho → R (List PyData)} {tc : PyData → Rho → Option Rho} {ft : Rho → R Bool} {fe : Rho → R PyData} (fl : Flat Ef) (hc : X.calm = true) (hN : X.N.Nodup) (hy : X.N[i]? = some y) (hi : DJ X ec Ef O tgc iter fi) (ok : BlkOk X.N X.env.scope scope own) (hg : ∃ gg, (∀ s H C cl fp, PG (blkX X scope s H C cl fp) tgc gg) ∧ DGo X.K S tc gg)
    (ht : ∀ s H C cl fp, DTs (blkX X scope s H C cl fp) ec (fun _ => E0) O ifs ft) (he : ∀ s H C cl fp, DE (blkX X scope s H C cl fp) ec (fun _ => E0) O elt fe) (hsw : swapsWith (.ListComp elt [⟨tgc, iter, ifs, 0⟩] scope pos) (some (.Name y py)) spos.line X.env = pure true) (hyl : X.env.scope.names.lookup y = some .local := by rfl) (hiO : i ∉ O := by decide) (hv : ∀ i, i ∈ own.map (·.2) → i ∉ O := by decide) (hSv : ∀ i, i ∈ S → i ∈ own.map (·.2) := by decide)
    (hs : ∀ x, foldedSetIterable iter X.env x = pure x := by intro _; rfl) : DS X ec Ef io Ol O O (.Assign [.Name y py] (.ListComp elt [⟨tgc, iter, ifs, 0⟩] scope pos) spos) (setE i (fComp (own.map (·.2)) fi tc ft fe)) := by
  obtain ⟨gg, h1, h2⟩ := hg
  refine ⟨(ps_setLc hc hN hy hyl hsw hi.pi ok h1 (fun s H C cl fp => (ht s H C cl fp).pt) (fun s H C cl fp => (he s H C cl fp).pe) hs).imp fun D σ H ⟨B, P, Z, ρ, hE, p⟩ => comp_imp (ec := ec) (Ef := Ef) hv hSv h2 σ H _ ⟨B, P, Z, ρ, hE, PostS.of fl hE p fun d v H1 _ s d1 hE1 p1 => p1 _ _ _ (hE1.setV hiO d1.toV)⟩⟩
theorem ds_ownLc {elt tgc iter : Expr} {ifs : List Expr} {scope : Scope} {own : List (Str × Nat)} {i : Nat} {y : Str} {py spos : Pos} {fi : Rho → R (List PyData)} {tc : PyData → Rho → Option Rho} {ft : Rho → R Bool} {fe : Rho → R PyData} (fl : Flat Ef) (hc : X.calm = true) (hN : X.N.Nodup) (hy : X.N[i]? = some y) (hi : DJ X ec Ef O tgc iter fi) (ok : BlkOk X.N X.env.scope scope own) (hg : ∃ gg, (∀ s H C cl fp, PG (blkX X scope s H C cl fp) tgc gg) ∧ DGo X.K S tc gg)
    (ht : ∀ s H C cl fp, DTs (blkX X scope s H C cl fp) ec (fun _ => E0) O ifs ft) (he : ∀ s H C cl fp, DE (blkX X scope s H C cl fp) ec (fun _ => E0) O elt fe) (hsw : swapsWith (.ListComp elt [⟨tgc, iter, ifs, 0⟩] scope pos) (some (.Name y py)) spos.line X.env = pure true) (hl : ∀ σ : L2.St, σ.length = X.N.length → i < σ.length) (hyl : X.env.scope.names.lookup y = some .local := by rfl) (hiO : i ∉ O := by decide) (hv : ∀ i, i ∈ own.map (·.2) → i ∉ O := by decide) (hSv : ∀ i, i ∈ S → i ∈ own.map (·.2) := by decide)
    (hs : ∀ x, foldedSetIterable iter X.env x = pure x := by intro _; rfl) : DS X ec Ef io Ol O (i :: O) (.Assign [.Name y py] (.ListComp elt [⟨tgc, iter, ifs, 0⟩] scope pos) spos) (setE i (fComp (own.map (·.2)) fi tc ft fe)) := by
  obtain ⟨gg, h1, h2⟩ := hg
  refine ⟨⟨fun pins s σ H D I hw => (ps_setLc (tt := tG X.K ec (fun _ => E0) O (fun _ _ _ => dT) ft) (te := tG X.K ec (fun _ => E0) O (fun _ _ => dV X.K) fe) hc hN hy hyl hsw hi.pi ok h1 (fun s H C cl fp => (ht s H C cl fp).pt) (fun s H C cl fp => (he s H C cl fp).pe) hs).run pins s σ H D I ?_⟩⟩
  obtain ⟨B, P, Z, ρ, hE, p⟩ := hw
  refine comp_imp (ec := ec) (Ef := Ef) hv hSv h2 σ H _ ⟨B, P, Z, ρ, hE, PostS.of fl hE p fun d v H1 _ s d1 hE1 p1 => ?_⟩
  obtain ⟨q, hq⟩ := hE.setF s hiO (hl σ I.len) d1
  exact p1 _ _ _ hq
end
end DL
set_option Elab.async false
set_option linter.all false
set_option maxRecDepth 100000
set_option maxHeartbeats 1000000
namespace DL
open PySem PySem.Spec PyProof.Rows L2
/-! ### the Hook: no lists, no tables, tuples by name -/
/-- an empty table of code objects -/
def tabB (o : Obj) : Bool := match o with
  | ⟨.none, none, .fields vs, sl⟩ => (vs.size == 0) && (sl.size == 0)
  | _ => false
theorem tabB_ok {o : Obj} (h : tabB o = true) : o = { cls := .none, data := .fields #[] } := by
  unfold tabB at h
  split at h
  · rename_i vs sl
    simp only [Bool.and_eq_true, beq_iff_eq] at h
    rw [Array.eq_empty_of_size_eq_zero h.1, Array.eq_empty_of_size_eq_zero h.2] <;> rfl
  · cases h
/-- the tables of the defs that make lambdas: (code object, table, name) -/
def tabL (fs : List (Str × Str)) (K : PySem.W.Frag) : List (Addr × Addr × Str) := fs.filterMap fun f => (PySem.W.tabIn K f.1).map fun cp => (cp.1, cp.2, f.2)
def tabsOf (fs : List (Str × Str)) (K : PySem.W.Frag) : TTab := (tabL fs K).map fun t => (t.2.1, t.2.2)
def distA : List Addr → Bool
  | [] => true
  | a :: r => !r.contains a && distA r
def noL (g : Addr → Option Obj) (a : Addr) : Option Obj := match g a with
  | some o => if (decide (o.cls = .type "list") || tabB o) = true then none else some o
  | none => none
theorem noL_some {g : Addr → Option Obj} {a : Addr} {o : Obj} (h : noL g a = some o) : g a = some o ∧ o.cls ≠ .type "list" := by
  unfold noL at h
  cases e : g a with
  | none => rw [e] at h; cases h
  | some o' =>
    rw [e] at h
    have h : (if (decide (o'.cls = .type "list") || tabB o') = true then none else some o') = some o := h
    split at h
    · cases h
    · rename_i hn
      cases h
      exact ⟨rfl, fun z => hn (by rw [decide_eq_true z]; rfl)⟩
theorem noL_tab {g : Addr → Option Obj} {a : Addr} {o : Obj} (h : noL g a = some o) : tabB o = false := by
  unfold noL at h
  cases e : g a with
  | none => rw [e] at h; cases h
  | some o' =>
    rw [e] at h
    have h : (if (decide (o'.cls = .type "list") || tabB o') = true then none else some o') = some o := h
    split at h
    · cases h
    · rename_i hn
      cases h
      cases q : tabB o with
      | false => rfl
      | true => exact absurd (by rw [q]; exact Bool.or_true _) hn
abbrev Tup : Type := Str × List He.Dv
abbrev Chk : Type := PySem.W.Frag → Bool
abbrev Lms : Type := List (Str × Str)
def obsX (ta : List Tup) (xs : List Chk) (fa : List He.Fa) (fn : List He.DefD) (K : PySem.W.Frag) : He.AlD := (((ta.all fun q => He.tupB K q.1 q.2) && xs.all fun f => f K) && ((fa.all fun f => f.ok K) && fn.all fun d => d.ok K), fn.map fun d => He.fnW K d.at_)
def tabsB (fs : Lms) (g : Addr → Option Obj) (K : PySem.W.Frag) : Bool := ((tabL fs K).all fun t => (match g t.2.1 with
  | some o => tabB o
  | none => false) && PySem.W.codeHdIn K t.1 t.2.1) && (distA ((tabL fs K).map (·.2.1)) && ((tabL fs K).length == fs.length))
def obsXG (n : Nat) (ta : List Tup) (xs : List Chk) (fs : Lms) (fa : List He.Fa) (fn : List He.DefD) (g : Addr → Option Obj) : He.AlD :=
  ((obsX ta xs fa fn (He.frG (noL g) (He.asD g n))).1 && tabsB fs g (He.frG (noL g) (He.asD g n)), (obsX ta xs fa fn (He.frG (noL g) (He.asD g n))).2)
structure SaysX (ta : List Tup) (xs : List Chk) (fs : Lms) (fa : List He.Fa) (fn : List He.DefD) (K : PySem.W.Frag) : Prop where
  says : He.SaysD fa fn K
  tup : ∀ q, q ∈ ta → He.tupB K q.1 q.2 = true
  chk : ∀ f, f ∈ xs → f K = true
  nl : NoList K
  tcode : ∀ t, t ∈ tabL fs K → PySem.W.codeHdIn K t.1 t.2.1 = true
  tnone : ∀ t, t ∈ tabL fs K → K.lookup t.2.1 = none
  tdist : distA ((tabL fs K).map (·.2.1)) = true
  tlen : (tabL fs K).length = fs.length
theorem saysX_of {ta : List Tup} {xs : List Chk} {fs : Lms} {fa : List He.Fa} {fn : List He.DefD} {g : Addr → Option Obj} {n : Nat} (h : obsXG n ta xs fs fa fn g = He.valD fn) :
    SaysX ta xs fs fa fn (He.frG (noL g) (He.asD g n)) ∧ ∀ t, t ∈ tabL fs (He.frG (noL g) (He.asD g n)) → g t.2.1 = some { cls := .none, data := .fields #[] } := by
  unfold obsXG obsX He.valD at h
  obtain ⟨h0, h2⟩ := Prod.mk.inj h
  obtain ⟨h1, hT⟩ := Bool.and_eq_true_iff.mp h0
  obtain ⟨h3, h4⟩ := Bool.and_eq_true_iff.mp h1
  obtain ⟨h5, h6⟩ := Bool.and_eq_true_iff.mp h3
  unfold tabsB at hT
  obtain ⟨t1, t2⟩ := Bool.and_eq_true_iff.mp hT
  obtain ⟨t3, t4⟩ := Bool.and_eq_true_iff.mp t2
  have gt : ∀ t, t ∈ tabL fs (He.frG (noL g) (He.asD g n)) → (∃ o, g t.2.1 = some o ∧ tabB o = true) ∧ PySem.W.codeHdIn (He.frG (noL g) (He.asD g n)) t.1 t.2.1 = true := fun t ht => by
    obtain ⟨a, b⟩ := Bool.and_eq_true_iff.mp (List.all_eq_true.mp t1 t ht)
    refine ⟨?_, b⟩
    cases e : g t.2.1 with
    | none => rw [e] at a; cases a
    | some o => rw [e] at a; exact ⟨o, rfl, a⟩
  refine ⟨⟨Prod.ext h4 h2, fun q hq => List.all_eq_true.mp h5 q hq, fun f hf => List.all_eq_true.mp h6 f hf, fun a o e => (noL_some (He.frG_at _ e)).2, fun t ht => (gt t ht).2, fun t ht => ?_, t3, eq_of_beq t4⟩, fun t ht => ?_⟩
  · obtain ⟨⟨o, e, q⟩, _⟩ := gt t ht
    cases z : (He.frG (noL g) (He.asD g n)).lookup t.2.1 with
    | none => rfl
    | some o' =>
      have z1 := He.frG_at _ z
      have z2 := (noL_some z1).1
      have z3 := noL_tab z1
      rw [e] at z2
      cases z2
      rw [q] at z3
      cases z3
  · obtain ⟨⟨o, e, q⟩, _⟩ := gt t ht
    rw [e, tabB_ok q]
def hookX (n : Nat) (ta : List Tup) (xs : List Chk) (fs : Lms) (fa : List He.Fa) (fn : List He.DefD) : PySem.W.Hook where
  α := He.AlD
  obs := fun s => obsXG n ta xs fs fa fn s.heap.get?
  val := fun _ => He.valD fn
  says := fun _ h => ∃ K : PySem.W.Frag, K.In h ∧ SaysX ta xs fs fa fn K ∧ ∀ t, t ∈ tabL fs K → h.get? t.2.1 = some { cls := .none, data := .fields #[] }
  of := fun _ s e => ⟨_, fun a o q => (noL_some (He.frG_at _ q)).1, (saysX_of e).1, (saysX_of e).2⟩
  keeps := fun _ _ _ ⟨K, hK, c, t⟩ k => ⟨K, PySem.W.Frag.In.keeps hK k, c, fun q hq => k _ _ (t q hq)⟩
theorem obsXG_eq {n : Nat} {ta : List Tup} {xs : List Chk} {fs : Lms} {fa : List He.Fa} {fn : List He.DefD} {g : Addr → Option Obj} {s : Shared} (h : ∀ a, g a = s.heap.get? a) : obsXG n ta xs fs fa fn g = (hookX n ta xs fs fa fn).obs s := by
  have e : g = s.heap.get? := funext h
  rw [e] <;> rfl
theorem u65 {k : Nat} {A : Around} (r : Room k A) : A.units + 65 < cLine := by have := r.un; omega
theorem u1 {k : Nat} {A : Around} (r : Room k A) : A.units + 1 < cLine := by have := r.un; omega
/-! ### what is not reached -/
section
variable {X : Cx} {ec : EC} {Ef : L2.St → XK} {io Ol O O' : List Nat} {st : Stmt} {sts : List Stmt} {e : Expr}
theorem ds_bad : DS X ec Ef io Ol O O' st (fun _ => .bad) := ⟨⟨fun pins s σ H D I ⟨_, _, _, _, _, p⟩ => p.elim⟩⟩
theorem dss_bad : DSs X ec Ef io Ol O O' sts (fun _ => .bad) := ⟨⟨fun pins s σ H D I ⟨_, _, _, _, _, p⟩ => p.elim⟩⟩
theorem de_bad : DE X ec Ef O e (fun _ => .bad) := ⟨⟨fun pins s σ H Q I ⟨_, _, _, _, _, p⟩ => p.elim⟩⟩
end
/-! ### a module's constants -/
section
variable {X : Cx} {ec : EC} {Ef : L2.St → XK} {O : List Nat}
/-- a tuple of plain values -/
theorem de_globT {x : Str} {vs : List He.Dv} {ds : List PyData} {pos : Pos} (hg : Gl X x) (hm : X.mg x = some (.ref (He.ga X.K x))) (ht : He.tupB X.K x vs = true) (hd : ∀ H, DpAll X.K H (vs.map (He.Dv.v X.K)) ds) (hdb : (x == ("__debug__" : Str)) = false := by decide) : DE X ec Ef O (.Name x pos) (fC (.tuple ds)) :=
  de_glob (v := .ref (He.ga X.K x)) hg ⟨_, hm, rfl⟩ (fun H => .tup (He.tupB_ok ht H) (hd H)) hdb
end
end DL
set_option Elab.async false
set_option linter.all false
set_option maxRecDepth 100000
set_option maxHeartbeats 400000
namespace DL
open PySem PySem.Spec PyProof.Rows L2
/-! ### reckoning with the plain functions -/
theorem R.ite_bind {α β : Type} {c : Prop} [Decidable c] (a b : R α) (k : α → R β) : (if c then a else b).bind k = if c then a.bind k else b.bind k := by split <;> rfl
theorem R.ite_wp {α : Type} {c : Prop} [Decidable c] (a b : R α) (Q : α → Prop) (E : Nat → Option PyData → Prop) : (if c then a else b).wp Q E = if c then a.wp Q E else b.wp Q E := by split <;> rfl
theorem R.noX_ite {α : Type} {c : Prop} [Decidable c] (a b : R α) : (if c then a else b).noX = if c then a.noX else b.noX := by split <;> rfl
/-- [h d for d in ds] -/
theorem compL_map {t : PyData → Rho → Option Rho} {fe : Rho → R PyData} {ρ : Rho} (h : PyData → PyData) : ∀ {ds : List PyData}, (∀ d, d ∈ ds → (R.ofO (t d ρ)).bind fe = .ok (h d)) → compL t (fun _ => .ok true) fe ρ ds = .ok (ds.map h)
  | [], _ => rfl
  | d :: ds, H => by
    have h1 := H d List.mem_cons_self
    have h2 := compL_map (t := t) (fe := fe) (ρ := ρ) h (ds := ds) fun x hx => H x (List.mem_cons_of_mem _ hx)
    unfold compL
    cases ht : t d ρ with
    | none => rw [ht] at h1; cases h1
    | some ρ1 =>
      rw [ht] at h1
      have h1 : fe ρ1 = .ok (h d) := h1
      simp only [R.ofO_some, R.ok_bind, if_true, h1, h2, List.map_cons]
/-- [d for d in ds if p d] -/
theorem compL_filter {t : PyData → Rho → Option Rho} {ft : Rho → R Bool} {fe : Rho → R PyData} {ρ : Rho} (p : PyData → Bool) (h : PyData → PyData) : ∀ {ds : List PyData}, (∀ d, d ∈ ds → (R.ofO (t d ρ)).bind ft = .ok (p d)) → (∀ d, d ∈ ds → p d = true → (R.ofO (t d ρ)).bind fe = .ok (h d)) →
    compL t ft fe ρ ds = .ok ((ds.filter p).map h)
  | [], _, _ => rfl
  | d :: ds, H, H2 => by
    have h1 := H d List.mem_cons_self
    have h3 := H2 d List.mem_cons_self
    have h2 := compL_filter (t := t) (ft := ft) (fe := fe) (ρ := ρ) p h (ds := ds) (fun x hx => H x (List.mem_cons_of_mem _ hx)) fun x hx => H2 x (List.mem_cons_of_mem _ hx)
    unfold compL
    cases ht : t d ρ with
    | none => rw [ht] at h1; cases h1
    | some ρ1 =>
      rw [ht] at h1 h3
      have h1 : ft ρ1 = .ok (p d) := h1
      simp only [R.ofO_some, R.ok_bind, h1, h2]
      cases hp : p d with
      | false => simp [hp]
      | true =>
        have h4 : fe ρ1 = .ok (h d) := h3 hp
        simp [hp, h4]
theorem compL_len {t : PyData → Rho → Option Rho} {ft : Rho → R Bool} {fe : Rho → R PyData} {ρ : Rho} : ∀ {ds : List PyData} {ys : List PyData}, compL t ft fe ρ ds = .ok ys → True := fun _ => trivial
/-- a comprehension of which one knows what each item fulfils -/
theorem compL_wp {t : PyData → Rho → Option Rho} {fe : Rho → R PyData} {ρ : Rho} {E : Nat → Option PyData → Prop} (T : PyData → Prop) : ∀ {ds : List PyData}, (∀ d, d ∈ ds → ((R.ofO (t d ρ)).bind fe).wp T E) → (compL t (fun _ => .ok true) fe ρ ds).wp (fun ys => ys.length = ds.length ∧ ∀ y, y ∈ ys → T y) E
  | [], _ => ⟨rfl, fun y hy => by cases hy⟩
  | d :: ds, H => by
    have h1 := H d List.mem_cons_self
    have h2 := compL_wp (t := t) (fe := fe) (ρ := ρ) (E := E) T (ds := ds) fun x hx => H x (List.mem_cons_of_mem _ hx)
    unfold compL
    rw [R.wp_bind] at h1 ⊢
    refine R.wp_imp h1 (fun ρ1 h1 => ?_) (fun _ _ z => z)
    simp only [R.ok_bind, if_true, R.wp_bind]
    refine R.wp_imp h1 (fun y hy => ?_) (fun _ _ z => z)
    refine R.wp_imp h2 (fun ys hys => ?_) (fun _ _ z => z)
    exact ⟨by simp only [List.length_cons, hys.1], fun z hz => by
      rcases List.mem_cons.mp hz with rfl | hz
      · exact hy
      · exact hys.2 z hz⟩
theorem boolsOf_map {α : Type} (p : α → Bool) : ∀ ds : List α, boolsOf (ds.map fun d => .bool (p d)) = some (ds.map p)
  | [] => rfl
  | d :: ds => by
    show (boolsOf (ds.map fun d => .bool (p d))).map (p d :: ·) = _
    rw [boolsOf_map p ds]; rfl
theorem gAll_map {α : Type} (p : α → Bool) (ds : List α) : gAll (.list (ds.map fun d => .bool (p d))) = some (.bool (ds.all p)) := by
  show (boolsOf _).map _ = _
  rw [boolsOf_map]
  show some (PyData.bool ((ds.map p).all id)) = _
  rw [List.all_map]; rfl
theorem intsOf_map {α : Type} (p : α → Int) : ∀ ds : List α, intsOf (ds.map fun d => .int (p d)) = some (ds.map p)
  | [] => rfl
  | d :: ds => by
    show (intsOf (ds.map fun d => .int (p d))).map (p d :: ·) = _
    rw [intsOf_map p ds]; rfl
/-- a loop by an invariant -/
theorem forL_wp {b : PyData → Rho → R Fl} {Q : Fl → Prop} {E : Nat → Option PyData → Prop} (I : List PyData → Rho → Prop)
    (h : ∀ d ds ρ, I (d :: ds) ρ → (b d ρ).wp (fun f => match f with
      | .nx ρ' => I ds ρ'
      | .ct ρ' => I ds ρ'
      | .bk ρ' => Q (.nx ρ')
      | .rt e ρ' => Q (.rt e ρ')
      | .rf e ρ' => Q (.rf e ρ')) E) (hn : ∀ ρ, I [] ρ → Q (.nx ρ)) : ∀ {ds : List PyData} {ρ : Rho}, I ds ρ → (forL b ds ρ).wp Q E
  | [], ρ, hi => hn ρ hi
  | d :: ds, ρ, hi => by
    unfold forL
    rw [R.wp_bind]
    refine R.wp_imp (h d ds ρ hi) (fun f hf => ?_) (fun _ _ z => z)
    cases f with
    | nx ρ' => exact forL_wp I h hn hf
    | ct ρ' => exact forL_wp I h hn hf
    | bk ρ' => exact hf
    | rt e ρ' => exact hf
    | rf e ρ' => exact hf
/-- a loop with its target -/
def forG (tt : PyData → Rho → Option Rho) (u : Rho → R Fl) (ds : List PyData) (ρ : Rho) : R Fl := forL (fun d ρ => (R.ofO (tt d ρ)).bind u) ds ρ
theorem forG_nil {tt : PyData → Rho → Option Rho} {u : Rho → R Fl} {ρ : Rho} : forG tt u [] ρ = .ok (.nx ρ) := rfl
theorem forG_cons {tt : PyData → Rho → Option Rho} {u : Rho → R Fl} {d : PyData} {ds : List PyData} {ρ : Rho} : forG tt u (d :: ds) ρ = ((R.ofO (tt d ρ)).bind u).bind fun f => match f with
    | .nx ρ' => forG tt u ds ρ'
    | .ct ρ' => forG tt u ds ρ'
    | .bk ρ' => .ok (.nx ρ')
    | .rt e ρ' => .ok (.rt e ρ')
    | .rf e ρ' => .ok (.rf e ρ') := rfl
theorem eq_of_wp {α : Type} {r : R α} {a : α} : r = .ok a → r.wp (fun x => x = a) (fun _ _ => False) := fun h => by rw [h]; exact rfl
@[simp] theorem R.ofO_ite {α : Type} {c : Prop} [Decidable c] (a b : Option α) : R.ofO (if c then a else b) = if c then R.ofO a else R.ofO b := by split <;> rfl
@[simp] theorem gMul_i {a b : Int} : gMul (.int a) (.int b) = if CMul a b then some (.int (a * b)) else none := rfl
@[simp] theorem gMul_t {ds : List PyData} {a : Int} : gMul (.tuple ds) (.int a) = if -(2 ^ 63) ≤ a ∧ a < 2 ^ 63 ∧ ds.length * a.toNat ≤ sizeLine then some (.tuple (List.replicate a.toNat ds).flatten) else none := rfl
@[simp] theorem gTuple_l {ds : List PyData} : gTuple (.list ds) = some (.tuple ds) := rfl
@[simp] theorem gTuple_t {ds : List PyData} : gTuple (.tuple ds) = some (.tuple ds) := rfl
@[simp] theorem gList_l {ds : List PyData} : gList (.list ds) = some (.list ds) := rfl
@[simp] theorem gList_t {ds : List PyData} : gList (.tuple ds) = some (.list ds) := rfl
@[simp] theorem eqv_ss {x y : Str} : PyData.eqv (.str x) (.str y) = decide (x = y) := by
  unfold PyData.eqv
  by_cases h : x = y
  · subst h; simp
  · rw [decide_eq_false h]; exact beq_eq_false_iff_ne.mpr h
@[simp] theorem eqv_ii {x y : Int} : PyData.eqv (.int x) (.int y) = decide (x = y) := by
  unfold PyData.eqv
  by_cases h : x = y
  · subst h; simp
  · rw [decide_eq_false h]; exact beq_eq_false_iff_ne.mpr h
@[simp] theorem gEq_ss {x y : Str} : gEq (.str x) (.str y) = some (.bool (decide (x = y))) := by simp [gEq, eqOk, scalD]
@[simp] theorem gNe_ss {x y : Str} : gNe (.str x) (.str y) = some (.bool (!decide (x = y))) := by simp [gNe, eqOk, scalD]
@[simp] theorem gEq_ii {x y : Int} : gEq (.int x) (.int y) = some (.bool (decide (x = y))) := by simp [gEq, eqOk, scalD]
@[simp] theorem gNe_ii {x y : Int} : gNe (.int x) (.int y) = some (.bool (!decide (x = y))) := by simp [gNe, eqOk, scalD]
@[simp] theorem isi_int_dict {m : List (PyData × PyData)} : isiD "int" (.dict m) = false := rfl
@[simp] theorem isi_bool_dict {m : List (PyData × PyData)} : isiD "bool" (.dict m) = false := rfl
@[simp] theorem isi_str_dict {m : List (PyData × PyData)} : isiD "str" (.dict m) = false := rfl
@[simp] theorem isi_list_dict {m : List (PyData × PyData)} : isiD "list" (.dict m) = false := rfl
@[simp] theorem isi_tuple_dict {m : List (PyData × PyData)} : isiD "tuple" (.dict m) = false := rfl
theorem cut_from (ds : List PyData) (n : Nat) : cutD ds (some (n : Int)) none = ds.drop n := by
  unfold cutD
  have h : HT.sIx ds.length 0 (some (n : Int)) = min n ds.length := by simp [HT.sIx]; try omega
  have h2 : HT.sIx ds.length ds.length none = ds.length := rfl
  rw [h, h2]
  by_cases hn : n ≤ ds.length
  · rw [Nat.min_eq_left hn, List.take_of_length_le (by rw [List.length_drop]; exact Nat.le_refl _)]
  · rw [Nat.min_eq_right (by omega), Nat.sub_self, List.take_zero, List.drop_of_length_le (by omega)]
theorem cut_to (ds : List PyData) (n : Nat) : cutD ds none (some (n : Int)) = ds.take n := by
  unfold cutD
  have h : HT.sIx ds.length ds.length (some (n : Int)) = min n ds.length := by simp [HT.sIx]; try omega
  have h2 : HT.sIx ds.length 0 none = 0 := rfl
  rw [h, h2, List.drop_zero, Nat.sub_zero]
  by_cases hn : n ≤ ds.length
  · rw [Nat.min_eq_left hn]
  · rw [Nat.min_eq_right (by omega), List.take_of_length_le (Nat.le_refl _), List.take_of_length_le (by omega)]
@[simp] theorem cut_1 (ds : List PyData) : cutD ds (some 1) none = ds.drop 1 := cut_from ds 1
@[simp] theorem cut_2 (ds : List PyData) : cutD ds (some 2) none = ds.drop 2 := cut_from ds 2
@[simp] theorem cut_t1 (ds : List PyData) : cutD ds none (some 1) = ds.take 1 := cut_to ds 1
@[simp] theorem cut_t2 (ds : List PyData) : cutD ds none (some 2) = ds.take 2 := cut_to ds 2
theorem atI_nat {α : Type} (xs : List α) (n : Nat) : atI xs (n : Int) = xs[n]? := by
  unfold atI ixN
  by_cases h : n < xs.length
  · simp [h]
  · simp [h]
@[simp] theorem atI_0 {α : Type} (xs : List α) : atI xs 0 = xs[0]? := atI_nat xs 0
@[simp] theorem atI_1 {α : Type} (xs : List α) : atI xs 1 = xs[1]? := atI_nat xs 1
@[simp] theorem atI_2 {α : Type} (xs : List α) : atI xs 2 = xs[2]? := atI_nat xs 2
@[simp] theorem atI_3 {α : Type} (xs : List α) : atI xs 3 = xs[3]? := atI_nat xs 3
theorem cut_last (ds : List PyData) (n : Nat) (hn : n ≤ ds.length) (h0 : 0 < n) : cutD ds (some (-(n : Int))) none = ds.drop (ds.length - n) := by
  unfold cutD
  have h : HT.sIx ds.length 0 (some (-(n : Int))) = ds.length - n := by
    show (if -(n : Int) < 0 then (-(n : Int) + (ds.length : Int)).toNat else _) = _
    rw [if_pos (by omega)]
    omega
  have h2 : HT.sIx ds.length ds.length none = ds.length := rfl
  rw [h, h2, List.take_of_length_le (by rw [List.length_drop]; exact Nat.le_refl _)]
theorem atI_last {α : Type} (xs : List α) (n : Nat) (hn : n ≤ xs.length) (h0 : 0 < n) : atI xs (-(n : Int)) = xs[xs.length - n]? := by
  unfold atI ixN
  rw [if_neg (by omega), if_pos (by omega)]
  have : (-(n : Int) + (xs.length : Int)).toNat = xs.length - n := by omega
  simp [this]
/-! ### the size line -/
@[simp] theorem sl_0 : 0 ≤ sizeLine := by decide
@[simp] theorem sk_0 : 0 < sizeLine := by decide
@[simp] theorem sl_1 : 1 ≤ sizeLine := by decide
@[simp] theorem sk_1 : 1 < sizeLine := by decide
@[simp] theorem sl_2 : 2 ≤ sizeLine := by decide
@[simp] theorem sk_2 : 2 < sizeLine := by decide
@[simp] theorem sl_3 : 3 ≤ sizeLine := by decide
@[simp] theorem sk_3 : 3 < sizeLine := by decide
@[simp] theorem sl_4 : 4 ≤ sizeLine := by decide
@[simp] theorem sk_4 : 4 < sizeLine := by decide
@[simp] theorem sl_5 : 5 ≤ sizeLine := by decide
@[simp] theorem sk_5 : 5 < sizeLine := by decide
@[simp] theorem sl_6 : 6 ≤ sizeLine := by decide
@[simp] theorem sk_6 : 6 < sizeLine := by decide
@[simp] theorem sl_7 : 7 ≤ sizeLine := by decide
@[simp] theorem sk_7 : 7 < sizeLine := by decide
@[simp] theorem sl_8 : 8 ≤ sizeLine := by decide
@[simp] theorem sk_8 : 8 < sizeLine := by decide
@[simp] theorem sl_9 : 9 ≤ sizeLine := by decide
@[simp] theorem sk_9 : 9 < sizeLine := by decide
@[simp] theorem sl_10 : 10 ≤ sizeLine := by decide
@[simp] theorem sk_10 : 10 < sizeLine := by decide
@[simp] theorem sl_11 : 11 ≤ sizeLine := by decide
@[simp] theorem sk_11 : 11 < sizeLine := by decide
@[simp] theorem sl_12 : 12 ≤ sizeLine := by decide
@[simp] theorem sk_12 : 12 < sizeLine := by decide
@[simp] theorem sl_13 : 13 ≤ sizeLine := by decide
@[simp] theorem sk_13 : 13 < sizeLine := by decide
@[simp] theorem sl_14 : 14 ≤ sizeLine := by decide
@[simp] theorem sk_14 : 14 < sizeLine := by decide
@[simp] theorem sl_15 : 15 ≤ sizeLine := by decide
@[simp] theorem sk_15 : 15 < sizeLine := by decide
@[simp] theorem sl_16 : 16 ≤ sizeLine := by decide
@[simp] theorem sk_16 : 16 < sizeLine := by decide
@[simp] theorem sl_17 : 17 ≤ sizeLine := by decide
@[simp] theorem sk_17 : 17 < sizeLine := by decide
@[simp] theorem sl_18 : 18 ≤ sizeLine := by decide
@[simp] theorem sk_18 : 18 < sizeLine := by decide
@[simp] theorem sl_19 : 19 ≤ sizeLine := by decide
@[simp] theorem sk_19 : 19 < sizeLine := by decide
@[simp] theorem sl_20 : 20 ≤ sizeLine := by decide
@[simp] theorem sk_20 : 20 < sizeLine := by decide
@[simp] theorem sl_21 : 21 ≤ sizeLine := by decide
@[simp] theorem sk_21 : 21 < sizeLine := by decide
@[simp] theorem sl_22 : 22 ≤ sizeLine := by decide
@[simp] theorem sk_22 : 22 < sizeLine := by decide
@[simp] theorem sl_23 : 23 ≤ sizeLine := by decide
@[simp] theorem sk_23 : 23 < sizeLine := by decide
@[simp] theorem sl_24 : 24 ≤ sizeLine := by decide
@[simp] theorem sk_24 : 24 < sizeLine := by decide
@[simp] theorem sl_25 : 25 ≤ sizeLine := by decide
@[simp] theorem sk_25 : 25 < sizeLine := by decide
@[simp] theorem sl_26 : 26 ≤ sizeLine := by decide
@[simp] theorem sk_26 : 26 < sizeLine := by decide
@[simp] theorem sl_27 : 27 ≤ sizeLine := by decide
@[simp] theorem sk_27 : 27 < sizeLine := by decide
@[simp] theorem sl_28 : 28 ≤ sizeLine := by decide
@[simp] theorem sk_28 : 28 < sizeLine := by decide
@[simp] theorem sl_29 : 29 ≤ sizeLine := by decide
@[simp] theorem sk_29 : 29 < sizeLine := by decide
@[simp] theorem sl_30 : 30 ≤ sizeLine := by decide
@[simp] theorem sk_30 : 30 < sizeLine := by decide
@[simp] theorem sl_31 : 31 ≤ sizeLine := by decide
@[simp] theorem sk_31 : 31 < sizeLine := by decide
@[simp] theorem sl_32 : 32 ≤ sizeLine := by decide
@[simp] theorem sk_32 : 32 < sizeLine := by decide
@[simp] theorem sl_33 : 33 ≤ sizeLine := by decide
@[simp] theorem sk_33 : 33 < sizeLine := by decide
@[simp] theorem sl_34 : 34 ≤ sizeLine := by decide
@[simp] theorem sk_34 : 34 < sizeLine := by decide
@[simp] theorem sl_35 : 35 ≤ sizeLine := by decide
@[simp] theorem sk_35 : 35 < sizeLine := by decide
@[simp] theorem sl_36 : 36 ≤ sizeLine := by decide
@[simp] theorem sk_36 : 36 < sizeLine := by decide
@[simp] theorem sl_37 : 37 ≤ sizeLine := by decide
@[simp] theorem sk_37 : 37 < sizeLine := by decide
@[simp] theorem sl_38 : 38 ≤ sizeLine := by decide
@[simp] theorem sk_38 : 38 < sizeLine := by decide
@[simp] theorem sl_39 : 39 ≤ sizeLine := by decide
@[simp] theorem sk_39 : 39 < sizeLine := by decide
@[simp] theorem sl_40 : 40 ≤ sizeLine := by decide
@[simp] theorem sk_40 : 40 < sizeLine := by decide
@[simp] theorem sl_41 : 41 ≤ sizeLine := by decide
@[simp] theorem sk_41 : 41 < sizeLine := by decide
/-! ### slots of a written list -/
section
variable {a : Option SV} {r : Rho} {x : PyData} {m : List (PyData × PyData)}
@[simp] theorem getV_z : getV (some (.d x) :: r) 0 = .ok x := rfl
@[simp] theorem getS_z : getS (some .src :: r) 0 = .ok () := rfl
@[simp] theorem getO_z : getO (some (.dict m) :: r) 0 = .ok m := rfl
@[simp] theorem getV_1 : getV (a :: r) 1 = getV r 0 := rfl
@[simp] theorem getO_1 : getO (a :: r) 1 = getO r 0 := rfl
@[simp] theorem getV_2 : getV (a :: r) 2 = getV r 1 := rfl
@[simp] theorem getO_2 : getO (a :: r) 2 = getO r 1 := rfl
@[simp] theorem getV_3 : getV (a :: r) 3 = getV r 2 := rfl
@[simp] theorem getO_3 : getO (a :: r) 3 = getO r 2 := rfl
@[simp] theorem getV_4 : getV (a :: r) 4 = getV r 3 := rfl
@[simp] theorem getO_4 : getO (a :: r) 4 = getO r 3 := rfl
@[simp] theorem getV_5 : getV (a :: r) 5 = getV r 4 := rfl
@[simp] theorem getO_5 : getO (a :: r) 5 = getO r 4 := rfl
@[simp] theorem getV_6 : getV (a :: r) 6 = getV r 5 := rfl
@[simp] theorem getO_6 : getO (a :: r) 6 = getO r 5 := rfl
@[simp] theorem getV_7 : getV (a :: r) 7 = getV r 6 := rfl
@[simp] theorem getO_7 : getO (a :: r) 7 = getO r 6 := rfl
@[simp] theorem getV_8 : getV (a :: r) 8 = getV r 7 := rfl
@[simp] theorem getO_8 : getO (a :: r) 8 = getO r 7 := rfl
@[simp] theorem getV_9 : getV (a :: r) 9 = getV r 8 := rfl
@[simp] theorem getO_9 : getO (a :: r) 9 = getO r 8 := rfl
@[simp] theorem getV_10 : getV (a :: r) 10 = getV r 9 := rfl
@[simp] theorem getO_10 : getO (a :: r) 10 = getO r 9 := rfl
@[simp] theorem getV_11 : getV (a :: r) 11 = getV r 10 := rfl
@[simp] theorem getO_11 : getO (a :: r) 11 = getO r 10 := rfl
@[simp] theorem getV_12 : getV (a :: r) 12 = getV r 11 := rfl
@[simp] theorem getO_12 : getO (a :: r) 12 = getO r 11 := rfl
@[simp] theorem getV_13 : getV (a :: r) 13 = getV r 12 := rfl
@[simp] theorem getO_13 : getO (a :: r) 13 = getO r 12 := rfl
@[simp] theorem getV_14 : getV (a :: r) 14 = getV r 13 := rfl
@[simp] theorem getO_14 : getO (a :: r) 14 = getO r 13 := rfl
@[simp] theorem getV_15 : getV (a :: r) 15 = getV r 14 := rfl
@[simp] theorem getO_15 : getO (a :: r) 15 = getO r 14 := rfl
@[simp] theorem getV_16 : getV (a :: r) 16 = getV r 15 := rfl
@[simp] theorem getO_16 : getO (a :: r) 16 = getO r 15 := rfl
@[simp] theorem getV_17 : getV (a :: r) 17 = getV r 16 := rfl
@[simp] theorem getO_17 : getO (a :: r) 17 = getO r 16 := rfl
@[simp] theorem getV_18 : getV (a :: r) 18 = getV r 17 := rfl
@[simp] theorem getO_18 : getO (a :: r) 18 = getO r 17 := rfl
@[simp] theorem getV_19 : getV (a :: r) 19 = getV r 18 := rfl
@[simp] theorem getO_19 : getO (a :: r) 19 = getO r 18 := rfl
@[simp] theorem getV_20 : getV (a :: r) 20 = getV r 19 := rfl
@[simp] theorem getO_20 : getO (a :: r) 20 = getO r 19 := rfl
@[simp] theorem getV_21 : getV (a :: r) 21 = getV r 20 := rfl
@[simp] theorem getO_21 : getO (a :: r) 21 = getO r 20 := rfl
@[simp] theorem getV_22 : getV (a :: r) 22 = getV r 21 := rfl
@[simp] theorem getO_22 : getO (a :: r) 22 = getO r 21 := rfl
@[simp] theorem getV_23 : getV (a :: r) 23 = getV r 22 := rfl
@[simp] theorem getO_23 : getO (a :: r) 23 = getO r 22 := rfl
@[simp] theorem getV_24 : getV (a :: r) 24 = getV r 23 := rfl
@[simp] theorem getO_24 : getO (a :: r) 24 = getO r 23 := rfl
@[simp] theorem getV_25 : getV (a :: r) 25 = getV r 24 := rfl
@[simp] theorem getO_25 : getO (a :: r) 25 = getO r 24 := rfl
@[simp] theorem getV_26 : getV (a :: r) 26 = getV r 25 := rfl
@[simp] theorem getO_26 : getO (a :: r) 26 = getO r 25 := rfl
@[simp] theorem getV_27 : getV (a :: r) 27 = getV r 26 := rfl
@[simp] theorem getO_27 : getO (a :: r) 27 = getO r 26 := rfl
@[simp] theorem getV_28 : getV (a :: r) 28 = getV r 27 := rfl
@[simp] theorem getO_28 : getO (a :: r) 28 = getO r 27 := rfl
@[simp] theorem getV_29 : getV (a :: r) 29 = getV r 28 := rfl
@[simp] theorem getO_29 : getO (a :: r) 29 = getO r 28 := rfl
@[simp] theorem getV_30 : getV (a :: r) 30 = getV r 29 := rfl
@[simp] theorem getO_30 : getO (a :: r) 30 = getO r 29 := rfl
@[simp] theorem getV_31 : getV (a :: r) 31 = getV r 30 := rfl
@[simp] theorem getO_31 : getO (a :: r) 31 = getO r 30 := rfl
@[simp] theorem getV_32 : getV (a :: r) 32 = getV r 31 := rfl
@[simp] theorem getO_32 : getO (a :: r) 32 = getO r 31 := rfl
@[simp] theorem getV_33 : getV (a :: r) 33 = getV r 32 := rfl
@[simp] theorem getO_33 : getO (a :: r) 33 = getO r 32 := rfl
@[simp] theorem getV_34 : getV (a :: r) 34 = getV r 33 := rfl
@[simp] theorem getO_34 : getO (a :: r) 34 = getO r 33 := rfl
@[simp] theorem getV_35 : getV (a :: r) 35 = getV r 34 := rfl
@[simp] theorem getO_35 : getO (a :: r) 35 = getO r 34 := rfl
@[simp] theorem getV_36 : getV (a :: r) 36 = getV r 35 := rfl
@[simp] theorem getO_36 : getO (a :: r) 36 = getO r 35 := rfl
@[simp] theorem getV_37 : getV (a :: r) 37 = getV r 36 := rfl
@[simp] theorem getO_37 : getO (a :: r) 37 = getO r 36 := rfl
@[simp] theorem getV_38 : getV (a :: r) 38 = getV r 37 := rfl
@[simp] theorem getO_38 : getO (a :: r) 38 = getO r 37 := rfl
@[simp] theorem getV_39 : getV (a :: r) 39 = getV r 38 := rfl
@[simp] theorem getO_39 : getO (a :: r) 39 = getO r 38 := rfl
@[simp] theorem getV_40 : getV (a :: r) 40 = getV r 39 := rfl
@[simp] theorem getO_40 : getO (a :: r) 40 = getO r 39 := rfl
@[simp] theorem getS_1 : getS (a :: r) 1 = getS r 0 := rfl
@[simp] theorem getS_2 : getS (a :: r) 2 = getS r 1 := rfl
@[simp] theorem getS_3 : getS (a :: r) 3 = getS r 2 := rfl
@[simp] theorem getS_4 : getS (a :: r) 4 = getS r 3 := rfl
@[simp] theorem getS_5 : getS (a :: r) 5 = getS r 4 := rfl
@[simp] theorem getS_6 : getS (a :: r) 6 = getS r 5 := rfl
@[simp] theorem getS_7 : getS (a :: r) 7 = getS r 6 := rfl
@[simp] theorem getS_8 : getS (a :: r) 8 = getS r 7 := rfl
@[simp] theorem getS_9 : getS (a :: r) 9 = getS r 8 := rfl
@[simp] theorem getS_10 : getS (a :: r) 10 = getS r 9 := rfl
@[simp] theorem getS_11 : getS (a :: r) 11 = getS r 10 := rfl
@[simp] theorem getS_12 : getS (a :: r) 12 = getS r 11 := rfl
@[simp] theorem getS_13 : getS (a :: r) 13 = getS r 12 := rfl
@[simp] theorem getS_14 : getS (a :: r) 14 = getS r 13 := rfl
@[simp] theorem getS_15 : getS (a :: r) 15 = getS r 14 := rfl
@[simp] theorem getS_16 : getS (a :: r) 16 = getS r 15 := rfl
@[simp] theorem getS_17 : getS (a :: r) 17 = getS r 16 := rfl
@[simp] theorem getS_18 : getS (a :: r) 18 = getS r 17 := rfl
@[simp] theorem getS_19 : getS (a :: r) 19 = getS r 18 := rfl
@[simp] theorem getS_20 : getS (a :: r) 20 = getS r 19 := rfl
@[simp] theorem getS_21 : getS (a :: r) 21 = getS r 20 := rfl
@[simp] theorem getS_22 : getS (a :: r) 22 = getS r 21 := rfl
@[simp] theorem getS_23 : getS (a :: r) 23 = getS r 22 := rfl
@[simp] theorem getS_24 : getS (a :: r) 24 = getS r 23 := rfl
@[simp] theorem getS_25 : getS (a :: r) 25 = getS r 24 := rfl
@[simp] theorem getS_26 : getS (a :: r) 26 = getS r 25 := rfl
@[simp] theorem getS_27 : getS (a :: r) 27 = getS r 26 := rfl
@[simp] theorem getS_28 : getS (a :: r) 28 = getS r 27 := rfl
@[simp] theorem getS_29 : getS (a :: r) 29 = getS r 28 := rfl
@[simp] theorem getS_30 : getS (a :: r) 30 = getS r 29 := rfl
end
/-! ### the plain functions, case by case -/
section
variable {f g h : Rho → R PyData} {u v : Rho → R Fl} {ρ : Rho} {d e : PyData} {ds es : List PyData} {i j : Nat} {a b : Int} {p q : Bool} {s z : Str} {k : Key} {gb gb2 : PyData → PyData → Option PyData} {g1 : PyData → Option PyData} {F : List PyData → R PyData}
@[simp] theorem ap_retE : retE f ρ = (f ρ).bind fun d => .ok (.rt d ρ) := rfl
@[simp] theorem ap_retF : retF f ρ = (f ρ).bind fun d => .ok (.rf d ρ) := rfl
@[simp] theorem ap_setE : setE i f ρ = (f ρ).bind fun d => .ok (.nx (ρ.set i (some (.d d)))) := rfl
@[simp] theorem ap_fSeq : fSeq u v ρ = (u ρ).bind fun f => match f with
  | .nx ρ' => v ρ'
  | x => .ok x := rfl
@[simp] theorem ap_appE : appE i f ρ = (getV ρ i).bind fun l => (f ρ).bind fun d => (appD l d).bind fun l' => .ok (.nx (ρ.set i (some (.d l')))) := rfl
@[simp] theorem ap_fC : fC d ρ = .ok d := rfl
@[simp] theorem ap_fC1 : fC1 g1 f ρ = (f ρ).bind fun x => R.ofO (g1 x) := rfl
@[simp] theorem ap_fBin : fBin gb f g ρ = (f ρ).bind fun x => (g ρ).bind fun y => R.ofO (gb x y) := rfl
@[simp] theorem ap_fIsi {T : String} : fIsi T f ρ = (f ρ).bind fun d => .ok (.bool (isiD T d)) := rfl
@[simp] theorem ap_fChain : fChain gb gb2 f g h ρ = (f ρ).bind fun x => (g ρ).bind fun y => (R.ofO (gb x y)).bind fun z => (tr z).bind fun k =>
  if k = true then (h ρ).bind fun w => R.ofO (gb2 y w) else .ok (.bool false) := rfl
@[simp] theorem ap_fSl {gs : PyData → Option Int → Option Int → Option PyData} {fl fh : Rho → R (Option Int)} : fSl gs f fl fh ρ = (f ρ).bind fun x => (fl ρ).bind fun lo => (fh ρ).bind fun hi => R.ofO (gs x lo hi) := rfl
@[simp] theorem ap_fFor {fi : Rho → R (List PyData)} {tt : PyData → Rho → Option Rho} : fFor fi tt u ρ = (fi ρ).bind fun ds => forG tt u ds ρ := rfl
@[simp] theorem ap_fComp {vs : List Nat} {fi : Rho → R (List PyData)} {tt : PyData → Rho → Option Rho} {ft : Rho → R Bool} : fComp vs fi tt ft f ρ = (fi ρ).bind fun ds => if ds.length ≤ sizeLine then (compL tt ft f (wipeR ρ vs) ds).noX.bind fun ys => .ok (.list ys) else .bad := rfl
@[simp] theorem ap_par2 {fa : Rho → R (List PyData)} : par2 i j fa ρ = (fa ρ).bind fun ds => match ds with
  | [x, y] => .ok (.nx ((ρ.set i (some (.d x))).set j (some (.d y))))
  | _ => .bad := rfl
@[simp] theorem ap_par3 {l : Nat} {fa : Rho → R (List PyData)} : par3 i j l fa ρ = (fa ρ).bind fun ds => match ds with
  | [x, y, z] => .ok (.nx (((ρ.set i (some (.d x))).set j (some (.d y))).set l (some (.d z))))
  | _ => .bad := rfl
@[simp] theorem ap_asgT {tt : PyData → Rho → Option Rho} : asgT tt f ρ = (f ρ).bind fun d => (R.ofO (tt d ρ)).bind fun ρ' => .ok (.nx ρ') := rfl
@[simp] theorem wipeR_nil : wipeR ρ [] = ρ := rfl
@[simp] theorem wipeR_cons {l : List Nat} : wipeR ρ (i :: l) = (wipeR ρ l).set i none := rfl
@[simp] theorem tg1_ap : tg1 i d ρ = some (ρ.set i (some (.d d))) := rfl
@[simp] theorem tgTup_ap {n : Nat} {us : List PyData → Rho → Option Rho} : tgTup n us (.tuple ds) ρ = if ds.length = n then us ds ρ else none := rfl
@[simp] theorem tgCons_ap {tt : PyData → Rho → Option Rho} {us : List PyData → Rho → Option Rho} : tgCons tt us (d :: ds) ρ = (tt d ρ).bind (us ds) := rfl
@[simp] theorem tgNil_ap : tgNil [] ρ = some ρ := rfl
@[simp] theorem tru_1 : tru .none = .ok false := rfl
@[simp] theorem tru_2 : tru (.bool p) = .ok p := rfl
@[simp] theorem tru_3 : tru (.int a) = .ok (a != 0) := rfl
@[simp] theorem tru_4 : tru (.list ds) = .ok (!ds.isEmpty) := rfl
@[simp] theorem tru_5 : tru (.tuple ds) = .ok (!ds.isEmpty) := rfl
@[simp] theorem tr_1 : tr (.bool p) = .ok p := rfl
@[simp] theorem toI_1 : toI (.int a) = .ok (some a) := rfl
@[simp] theorem gLe_i : gLe (.int a) (.int b) = some (.bool (decide (a ≤ b))) := rfl
@[simp] theorem gLt_i : gLt (.int a) (.int b) = some (.bool (decide (a < b))) := rfl
@[simp] theorem gGe_i : gGe (.int a) (.int b) = some (.bool (decide (b ≤ a))) := rfl
@[simp] theorem gGt_i : gGt (.int a) (.int b) = some (.bool (decide (b < a))) := rfl
@[simp] theorem gSub_i : gSub (.int a) (.int b) = some (.int (a - b)) := rfl
@[simp] theorem gAdd_i : gAdd (.int a) (.int b) = some (.int (a + b)) := rfl
@[simp] theorem gMin_i : gMin (.int a) (.int b) = some (.int (if b < a then b else a)) := rfl
@[simp] theorem gMax_i : gMax (.int a) (.int b) = some (.int (if b > a then b else a)) := rfl
@[simp] theorem gAdd_t : gAdd (.tuple ds) (.tuple es) = if ds.length + es.length ≤ sizeLine then some (.tuple (ds ++ es)) else none := rfl
@[simp] theorem gAdd_s : gAdd (.str s) (.str z) = if s.length + z.length ≤ sizeLine then some (.str (s ++ z)) else none := rfl
@[simp] theorem gCat_l : gCat (.list ds) (.list es) = if ds.length + es.length ≤ sizeLine then some (.list (ds ++ es)) else none := rfl
@[simp] theorem gMod_i : gMod (.int a) (.int b) = if 0 < b then some (.int (a % b)) else none := rfl
@[simp] theorem gFdiv_i : gFdiv (.int a) (.int b) = if CDiv a b then some (.int (a / b)) else none := rfl
@[simp] theorem gPow_i : gPow (.int a) (.int b) = if CPow a b then some (.int (a ^ b.toNat)) else none := rfl
@[simp] theorem gRep_l : gRep (.list ds) (.int a) = if -(2 ^ 63) ≤ a ∧ a < 2 ^ 63 ∧ ds.length * a.toNat ≤ sizeLine then some (.list (List.replicate a.toNat ds).flatten) else none := rfl
@[simp] theorem gLen_l : gLen (.list ds) = some (.int ds.length) := rfl
@[simp] theorem gLen_t : gLen (.tuple ds) = some (.int ds.length) := rfl
@[simp] theorem gInt_i : gInt (.int a) = some (.int a) := rfl
@[simp] theorem gInt_b : gInt (.bool p) = some (.int (if p then 1 else 0)) := rfl
@[simp] theorem gAbs_i : gAbs (.int a) = some (.int (if a < 0 then -a else a)) := rfl
@[simp] theorem gIx_l : gIx (.list ds) (.int a) = atI ds a := rfl
@[simp] theorem gIx_t : gIx (.tuple ds) (.int a) = atI ds a := rfl
@[simp] theorem seqOf_l : seqOf (.list ds) = .ok ds := rfl
@[simp] theorem seqOf_t : seqOf (.tuple ds) = .ok ds := rfl
@[simp] theorem rgOf_i : rgOf (.int a) = if -(2 ^ 62) ≤ a ∧ a < 2 ^ 62 then .ok (rgD 0 a) else .bad := rfl
@[simp] theorem gNeg_i : gNeg (.int a) = .ok (.int (-a)) := rfl
@[simp] theorem gSl_t : gSl (.tuple ds) = fun lo hi => some (.tuple (cutD ds lo hi)) := rfl
@[simp] theorem gSlL_l : gSlL (.list ds) = fun lo hi => some (.list (cutD ds lo hi)) := rfl
@[simp] theorem appD_l : appD (.list ds) d = if ds.length < sizeLine then .ok (.list (ds ++ [d])) else .bad := rfl
@[simp] theorem mkTup_d : mkTup ds = if ds.length ≤ sizeLine then .ok (.tuple ds) else .bad := rfl
@[simp] theorem mkLst_d : mkLst ds = if ds.length ≤ sizeLine then .ok (.list ds) else .bad := rfl
@[simp] theorem keyOf_i : keyOf (.int a) = some (.inl a) := rfl
@[simp] theorem keyOf_s : keyOf (.str s) = some (.inr s) := rfl
@[simp] theorem keyD_l {a : Int} : keyD (.inl a) = .int a := rfl
@[simp] theorem keyD_r {s : Str} : keyD (.inr s) = .str s := rfl
@[simp] theorem lookD_nil : lookD [] k = none := rfl
@[simp] theorem lookD_cons {m : List (PyData × PyData)} : lookD ((d, e) :: m) k = if keyOf d = some k then some e else lookD m k := by
  unfold lookD
  rw [List.find?_cons]
  by_cases h : keyOf d = some k
  · rw [decide_eq_true h, if_pos h]; rfl
  · rw [decide_eq_false h, if_neg h]
@[simp] theorem getD2_i {m : List (PyData × PyData)} : getD2 m (.int a) d = .ok ((lookD m (.inl a)).getD d) := rfl
@[simp] theorem getD2_s {m : List (PyData × PyData)} : getD2 m (.str s) d = .ok ((lookD m (.inr s)).getD d) := rfl
@[simp] theorem chk_1 {x0 : PyData} : chk 1 F [x0] = F [x0] := rfl
@[simp] theorem chkN_2 {x0 : PyData} : chkN 2 F [x0] = F [x0] := rfl
@[simp] theorem chk_2 {x0 x1 : PyData} : chk 2 F [x0, x1] = F [x0, x1] := rfl
@[simp] theorem chkN_3 {x0 x1 : PyData} : chkN 3 F [x0, x1] = F [x0, x1] := rfl
@[simp] theorem chk_3 {x0 x1 x2 : PyData} : chk 3 F [x0, x1, x2] = F [x0, x1, x2] := rfl
@[simp] theorem chkN_4 {x0 x1 x2 : PyData} : chkN 4 F [x0, x1, x2] = F [x0, x1, x2] := rfl
@[simp] theorem chk_4 {x0 x1 x2 x3 : PyData} : chk 4 F [x0, x1, x2, x3] = F [x0, x1, x2, x3] := rfl
@[simp] theorem chkN_5 {x0 x1 x2 x3 : PyData} : chkN 5 F [x0, x1, x2, x3] = F [x0, x1, x2, x3] := rfl
@[simp] theorem chk_5 {x0 x1 x2 x3 x4 : PyData} : chk 5 F [x0, x1, x2, x3, x4] = F [x0, x1, x2, x3, x4] := rfl
@[simp] theorem chkN_6 {x0 x1 x2 x3 x4 : PyData} : chkN 6 F [x0, x1, x2, x3, x4] = F [x0, x1, x2, x3, x4] := rfl
@[simp] theorem chk_6 {x0 x1 x2 x3 x4 x5 : PyData} : chk 6 F [x0, x1, x2, x3, x4, x5] = F [x0, x1, x2, x3, x4, x5] := rfl
@[simp] theorem chkN_7 {x0 x1 x2 x3 x4 x5 : PyData} : chkN 7 F [x0, x1, x2, x3, x4, x5] = F [x0, x1, x2, x3, x4, x5] := rfl
@[simp] theorem chk_7 {x0 x1 x2 x3 x4 x5 x6 : PyData} : chk 7 F [x0, x1, x2, x3, x4, x5, x6] = F [x0, x1, x2, x3, x4, x5, x6] := rfl
@[simp] theorem chkN_8 {x0 x1 x2 x3 x4 x5 x6 : PyData} : chkN 8 F [x0, x1, x2, x3, x4, x5, x6] = F [x0, x1, x2, x3, x4, x5, x6] := rfl
@[simp] theorem chkN_1 : chkN 1 F [] = F [] := rfl
@[simp] theorem isi_int_NoneType : isiD "int" (.none) = false := rfl
@[simp] theorem isi_int_bool : isiD "int" (.bool p) = true := rfl
@[simp] theorem isi_int_int : isiD "int" (.int a) = true := rfl
@[simp] theorem isi_int_str : isiD "int" (.str s) = false := rfl
@[simp] theorem isi_int_list : isiD "int" (.list ds) = false := rfl
@[simp] theorem isi_int_tuple : isiD "int" (.tuple ds) = false := rfl
@[simp] theorem isi_bool_NoneType : isiD "bool" (.none) = false := rfl
@[simp] theorem isi_bool_bool : isiD "bool" (.bool p) = true := rfl
@[simp] theorem isi_bool_int : isiD "bool" (.int a) = false := rfl
@[simp] theorem isi_bool_str : isiD "bool" (.str s) = false := rfl
@[simp] theorem isi_bool_list : isiD "bool" (.list ds) = false := rfl
@[simp] theorem isi_bool_tuple : isiD "bool" (.tuple ds) = false := rfl
@[simp] theorem isi_str_NoneType : isiD "str" (.none) = false := rfl
@[simp] theorem isi_str_bool : isiD "str" (.bool p) = false := rfl
@[simp] theorem isi_str_int : isiD "str" (.int a) = false := rfl
@[simp] theorem isi_str_str : isiD "str" (.str s) = true := rfl
@[simp] theorem isi_str_list : isiD "str" (.list ds) = false := rfl
@[simp] theorem isi_str_tuple : isiD "str" (.tuple ds) = false := rfl
@[simp] theorem isi_list_NoneType : isiD "list" (.none) = false := rfl
@[simp] theorem isi_list_bool : isiD "list" (.bool p) = false := rfl
@[simp] theorem isi_list_int : isiD "list" (.int a) = false := rfl
@[simp] theorem isi_list_str : isiD "list" (.str s) = false := rfl
@[simp] theorem isi_list_list : isiD "list" (.list ds) = true := rfl
@[simp] theorem isi_list_tuple : isiD "list" (.tuple ds) = false := rfl
@[simp] theorem isi_tuple_NoneType : isiD "tuple" (.none) = false := rfl
@[simp] theorem isi_tuple_bool : isiD "tuple" (.bool p) = false := rfl
@[simp] theorem isi_tuple_int : isiD "tuple" (.int a) = false := rfl
@[simp] theorem isi_tuple_str : isiD "tuple" (.str s) = false := rfl
@[simp] theorem isi_tuple_list : isiD "tuple" (.list ds) = false := rfl
@[simp] theorem isi_tuple_tuple : isiD "tuple" (.tuple ds) = true := rfl
end
/-! ### what may be compared -/
def small (L : Nat) : Nat → PyData → Bool
  | _, .none => true
  | _, .bool _ => true
  | _, .int _ => true
  | _, .str s => PyData.canLay0 (.str s)
  | D + 1, .tuple xs => decide (xs.length ≤ L) && xs.all (small L D)
  | D + 1, .list xs => decide (xs.length ≤ L) && xs.all (small L D)
  | _, _ => false
theorem small_mono {L L' : Nat} (hL : L ≤ L') : ∀ {D D' : Nat} {d : PyData}, D ≤ D' → small L D d = true → small L' D' d = true := by
  intro D
  induction D with
  | zero =>
    intro D' d hD h
    cases d with
    | tuple xs => cases h
    | list xs => cases h
    | dict xs => cases h
    | str s => cases D' <;> exact h
    | _ => cases D' <;> rfl
  | succ D ih =>
    intro D' d hD h
    obtain ⟨E, rfl⟩ : ∃ E, D' = E + 1 := ⟨D' - 1, by omega⟩
    cases d with
    | tuple xs =>
      have h : (decide (xs.length ≤ L) && xs.all (small L D)) = true := h
      show (decide (xs.length ≤ L') && xs.all (small L' E)) = true
      simp only [Bool.and_eq_true, decide_eq_true_eq, List.all_eq_true] at h ⊢
      exact ⟨by omega, fun x hx => ih (by omega) (h.2 x hx)⟩
    | list xs =>
      have h : (decide (xs.length ≤ L) && xs.all (small L D)) = true := h
      show (decide (xs.length ≤ L') && xs.all (small L' E)) = true
      simp only [Bool.and_eq_true, decide_eq_true_eq, List.all_eq_true] at h ⊢
      exact ⟨by omega, fun x hx => ih (by omega) (h.2 x hx)⟩
    | dict xs => cases h
    | str s => exact h
    | _ => rfl
theorem small_ok {L : Nat} : ∀ {D : Nat} {d : PyData}, small L D d = true → d.canLay0 = true ∧ d.depth ≤ D + 1 := by
  have all : ∀ {D : Nat}, (∀ {d : PyData}, small L D d = true → d.canLay0 = true ∧ d.depth ≤ D + 1) → ∀ xs : List PyData, xs.all (small L D) = true → PyData.canLayAll0 xs = true ∧ PyData.depthAll xs ≤ D + 1 := by
    intro D ih xs
    induction xs with
    | nil => intro _; exact ⟨by simp [PyData.canLayAll0], by simp [PyData.depthAll]⟩
    | cons x xs ihx =>
      intro h
      rw [List.all_cons, Bool.and_eq_true] at h
      obtain ⟨h1, h2⟩ := ih h.1
      obtain ⟨h3, h4⟩ := ihx h.2
      exact ⟨by simp [PyData.canLayAll0, h1, h3], by simp only [PyData.depthAll]; omega⟩
  intro D
  induction D with
  | zero =>
    intro d h
    cases d with
    | tuple xs => cases h
    | list xs => cases h
    | dict xs => cases h
    | str s => exact ⟨h, by simp [PyData.depth]⟩
    | _ => exact ⟨by simp [PyData.canLay0], by simp [PyData.depth]⟩
  | succ D ih =>
    intro d h
    cases d with
    | tuple xs =>
      have h : (decide (xs.length ≤ L) && xs.all (small L D)) = true := h
      obtain ⟨h1, h2⟩ := all ih xs (Bool.and_eq_true_iff.mp h).2
      exact ⟨by simp [PyData.canLay0, h1], by simp only [PyData.depth]; omega⟩
    | list xs =>
      have h : (decide (xs.length ≤ L) && xs.all (small L D)) = true := h
      obtain ⟨h1, h2⟩ := all ih xs (Bool.and_eq_true_iff.mp h).2
      exact ⟨by simp [PyData.canLay0, h1], by simp only [PyData.depth]; omega⟩
    | dict xs => cases h
    | str s => exact ⟨h, by simp [PyData.depth]⟩
    | _ => exact ⟨by simp [PyData.canLay0], by simp [PyData.depth]⟩
theorem small_shp {L D : Nat} {d : PyData} (h : small L D d = true) (hD : D ≤ 63) : shp d = true := by
  obtain ⟨h1, h2⟩ := small_ok h
  unfold shp SeqAt.shaped
  rw [h1, Bool.true_and, decide_eq_true_eq]
  omega
theorem small_list {L D : Nat} {xs : List PyData} (h : ∀ x, x ∈ xs → small L D x = true) (hl : xs.length ≤ L) : small L (D + 1) (.list xs) = true := by
  show (decide (xs.length ≤ L) && xs.all (small L D)) = true
  rw [Bool.and_eq_true, decide_eq_true_eq, List.all_eq_true]
  exact ⟨hl, h⟩
theorem small_tuple {L D : Nat} {xs : List PyData} (h : ∀ x, x ∈ xs → small L D x = true) (hl : xs.length ≤ L) : small L (D + 1) (.tuple xs) = true := by
  show (decide (xs.length ≤ L) && xs.all (small L D)) = true
  rw [Bool.and_eq_true, decide_eq_true_eq, List.all_eq_true]
  exact ⟨hl, h⟩
theorem small_items {L D : Nat} {xs : List PyData} (h : small L D (.tuple xs) = true) : xs.length ≤ L ∧ ∀ x, x ∈ xs → small L (D - 1) x = true := by
  cases D with
  | zero => cases h
  | succ D =>
    have h : (decide (xs.length ≤ L) && xs.all (small L D)) = true := h
    rw [Bool.and_eq_true, decide_eq_true_eq, List.all_eq_true] at h
    exact h
theorem shp_nil : shp (.list []) = true := by decide +kernel
theorem shp_nilT : shp (.tuple []) = true := by decide +kernel
/-- [..] == [] -/
theorem gEq_nil {xs : List PyData} (h : shp (.list xs) = true) : gEq (.list xs) (.list []) = some (.bool xs.isEmpty) := by
  unfold gEq eqOk
  rw [h, shp_nil, Bool.and_true, Bool.or_true, if_pos rfl]
  cases xs <;> simp [PyData.eqv, PyData.eqvAll]
theorem gNe_nil {xs : List PyData} (h : shp (.list xs) = true) : gNe (.list xs) (.list []) = some (.bool (!xs.isEmpty)) := by
  unfold gNe eqOk
  rw [h, shp_nil, Bool.and_true, Bool.or_true, if_pos rfl]
  cases xs <;> simp [PyData.eqv, PyData.eqvAll]
theorem filter_not_empty {α : Type} (p : α → Bool) (xs : List α) : (xs.filter fun x => !p x).isEmpty = xs.all p := by
  induction xs with
  | nil => rfl
  | cons x xs ih =>
    rw [List.filter_cons, List.all_cons, ← ih]
    cases p x <;> simp
end DL
set_option Elab.async false
set_option linter.all false
set_option maxRecDepth 100000
set_option maxHeartbeats 1000000
namespace DL
open PySem PySem.Spec PyProof.Rows L2
/-! ### try .. except -/
/-- what follows, and what an exception brings -/
def R.tryc {α β : Type} (r : R α) (k : α → R β) (h : Nat → Option PyData → R β) : R β := match r with
  | .ok a => k a
  | .exc c x => h c x
  | .bad => .bad
  | .pick P f => .pick P fun d => (f d).tryc k h
@[simp] theorem R.tryc_ok {α β : Type} (a : α) (k : α → R β) (h : Nat → Option PyData → R β) : (R.ok a).tryc k h = k a := id rfl
@[simp] theorem R.tryc_exc {α β : Type} (c : Nat) (x : Option PyData) (k : α → R β) (h : Nat → Option PyData → R β) : (R.exc c x).tryc k h = h c x := id rfl
@[simp] theorem R.tryc_bad {α β : Type} (k : α → R β) (h : Nat → Option PyData → R β) : (R.bad).tryc k h = .bad := id rfl
@[simp] theorem R.tryc_pick {α β : Type} (P : PyData → Prop) (f : PyData → R α) (k : α → R β) (h : Nat → Option PyData → R β) : (R.pick P f).tryc k h = .pick P fun d => (f d).tryc k h := id rfl
theorem R.wp_tryc {α β : Type} (r : R α) (k : α → R β) (h : Nat → Option PyData → R β) (Q : β → Prop) (E : Nat → Option PyData → Prop) : (r.tryc k h).wp Q E = r.wp (fun a => (k a).wp Q E) (fun c x => (h c x).wp Q E) := by
  induction r with
  | pick P f ih => simp only [tryc_pick, wp_pick]; exact forall_congr fun d => by rw [ih d]
  | _ => rfl
/-- the clauses, one after the other; what none takes goes on -/
structure DHs (X : Cx) (ec : EC) (Ef : L2.St → XK) (io Ol O O' : List Nat) (hds : List ExceptHandler) (hf : Nat → Option PyData → Rho → R Fl) : Prop where
  ex : ∃ l, HdsOk X hds l ∧ ∀ (B : BB ec.tabs ec.lam) P Z ρ σ H D c y dx, EnvOk X.K B O P Z σ H ρ → ExOk X.K (P ++ Z) ec H c dx y → PostS X.K ec Ef B Z io Ol O' D (hf c y ρ) → wMany X.K (fun cls d σ H => Ef σ cls d H) D l (ec.cls c) dx σ H
section
variable {X : Cx} {ec : EC} {Ef : L2.St → XK} {io Ol O O' : List Nat} {hds : List ExceptHandler} {hf : Nat → Option PyData → Rho → R Fl}
theorem dhs_nil : DHs X ec Ef io Ol O O' [] (fun c y _ => .exc c y) := ⟨[], .nil, fun B P Z ρ σ H D c y dx hE e q => (show PostS X.K ec Ef B Z io Ol O' D (.exc c y) from q) σ H dx hE.bs hE.so (exOk_sub (fun a z => List.mem_append_right _ z) e)⟩
theorem dhs_cons {x : Str} {C : Value} {j : Nat} {b₀ : Stmt} {suite : List Stmt} {np pos' : Pos} {g : Rho → R Fl} (hc : Names X x C) (hm : ∀ c, PySem.W.exmOne X.K (ec.cls c) C = some (decide (c = j)))
    (hsu : ∀ (a : Addr) (pn : List (Addr × Obj)), DSs (X.suite a pn) ec Ef io Ol O O' (b₀ :: suite) g) (r : DHs X ec Ef io Ol O O' hds hf) :
    DHs X ec Ef io Ol O O' (.ExceptHandler (some (.Name x np)) none (b₀ :: suite) pos' :: hds) (fun c y ρ => if c = j then g ρ else hf c y ρ) := by
  obtain ⟨l, hl, hq⟩ := r.ex
  refine ⟨(C, fun _ _ _ => tS X.K ec Ef io Ol O O' g) :: l, .cons hc (fun a oe cls d pn _ _ => (hsu a ((a, oe) :: pn)).ps) hl, fun B P Z ρ σ H D c y dx hE e q => ⟨decide (c = j), hm c, fun hb a _ => ?_, fun hb => ?_⟩⟩
  · have q : PostS X.K ec Ef B Z io Ol O' D (if c = j then g ρ else hf c y ρ) := q
    rw [if_pos (of_decide_eq_true hb)] at q
    exact ⟨B, P, Z, ρ, hE, q⟩
  · have q : PostS X.K ec Ef B Z io Ol O' D (if c = j then g ρ else hf c y ρ) := q
    rw [if_neg (of_decide_eq_false hb)] at q
    exact hq B P Z ρ σ H D c y dx hE e q
/-- the body is one statement over one expression -/
theorem try_core {K : PySem.W.Frag} {B : BB ec.tabs ec.lam} {P Z : List Addr} {ρ : Rho} {σ : L2.St} {H : Hp} {D : Ends} {l : List (Value × (Addr → Value → Option Addr → TS))} {r : R PyData} {k : PyData → R Fl} {hf : Nat → Option PyData → Rho → R Fl} {Q : V → Hp → Prop} (hE : EnvOk K B O P Z σ H ρ)
    (hq : ∀ (B : BB ec.tabs ec.lam) P Z ρ σ H D c y dx, EnvOk K B O P Z σ H ρ → ExOk K (P ++ Z) ec H c dx y → PostS K ec Ef B Z io Ol O' D (hf c y ρ) → wMany K (fun cls d σ H => Ef σ cls d H) D l (ec.cls c) dx σ H)
    (p : PostS K ec Ef B Z io Ol O' D (r.tryc k fun c y => hf c y ρ)) (hk : ∀ a v H1, Gr B.S (P ++ Z) H H1 → dV K (P ++ Z) H1 v a → EnvOk K B O P Z σ H1 ρ → PostS K ec Ef B Z io Ol O' D (k a) → Q v H1) :
    Post B.S K ec (dV K (P ++ Z)) (P ++ Z) (fun cls d H => wMany K (fun cls d σ H => Ef σ cls d H) D l cls d σ H) H Q r := by
  unfold PostS at p
  rw [R.wp_tryc] at p
  exact R.wp_imp p (fun a p v H1 s d => hk a v H1 s d (hE.same s) p) (fun c y p H1 dx s e => hq B P Z ρ σ H1 D c y dx (hE.same s) e p)
variable {e : Expr} {f : Rho → R PyData} {pos : Pos}
def fTryE (f : Rho → R PyData) (hf : Nat → Option PyData → Rho → R Fl) : Rho → R Fl := fun ρ => (f ρ).tryc (fun _ => .ok (.nx ρ)) fun c y => hf c y ρ
/-- try: e except .. -/
theorem ds_tryE {h₀ : ExceptHandler} {epos : Pos} (hs : X.stack = X.env :: X.outer) (hfr : X.env.frame = some X.env.locals) (tk : Takes X (fun cls d σ H => Ef σ cls d H))
    (he : ∀ (W : WX) (pn : List (Addr × Obj)) (xe : Value → Shared → Prop), Takes (X.tr pn xe) W → PassesOwn (model X.prog X.w) X.A X.env xe → DE (X.tr pn xe) ec (WE W) O e f) (hh : DHs X ec Ef io Ol O O (h₀ :: hds) hf)
    (hsw : swapsWith e none epos.line X.env = pure false := by rfl) : DS X ec Ef io Ol O O (.Try [.Expr e epos] (h₀ :: hds) [] [] pos) (fTryE f hf) := by
  obtain ⟨l, hl, hq⟩ := hh.ex
  refine ⟨(ps_try_many hs hfr tk (tb := fun W D σ H => tG X.K ec (WE W) O (fun _ _ => dV X.K) f σ H fun v H1 => D.nx σ H1) (fun W pn xe tk2 pw => ?_) hl).imp fun D σ H ⟨B, P, Z, ρ, hE, p⟩ => ⟨B, P, Z, ρ, hE, ?_⟩⟩
  · exact pss_one (ps_expr (X := X.tr pn xe) (he W pn xe tk2 pw).pe hsw)
  · exact try_core hE hq p fun a v H1 s d hE1 p1 => (show PostS X.K ec Ef B Z io Ol O D (.ok (.nx ρ)) from p1) _ _ _ hE1
def fTryA (i : Nat) (f : Rho → R PyData) (hf : Nat → Option PyData → Rho → R Fl) : Rho → R Fl := fun ρ => (f ρ).tryc (fun d => .ok (.nx (ρ.set i (some (.d d))))) fun c y => hf c y ρ
/-- try: x = e except .. -/
theorem ds_tryA {h₀ : ExceptHandler} {x : Str} {i : Nat} {pos' apos : Pos} (hs : X.stack = X.env :: X.outer) (hfr : X.env.frame = some X.env.locals) (tk : Takes X (fun cls d σ H => Ef σ cls d H)) (hN : X.N.Nodup) (hi : X.N[i]? = some x) (hx : Loc X.env.scope x)
    (he : ∀ (W : WX) (pn : List (Addr × Obj)) (xe : Value → Shared → Prop), Takes (X.tr pn xe) W → PassesOwn (model X.prog X.w) X.A X.env xe → DE (X.tr pn xe) ec (WE W) O e f) (hh : DHs X ec Ef io Ol O O (h₀ :: hds) hf) (hO : i ∉ O := by decide)
    (hsw : swapsWith e (some (.Name x pos')) apos.line X.env = pure false := by rfl) (hff : X.fn x = true ∨ X.env.scope.names.lookup x = some .local := by first | exact .inl rfl | exact .inr rfl | assumption) :
    DS X ec Ef io Ol O O (.Try [.Assign [.Name x pos'] e apos] (h₀ :: hds) [] [] pos) (fTryA i f hf) := by
  obtain ⟨l, hl, hq⟩ := hh.ex
  refine ⟨(ps_try_many hs hfr tk (tb := fun W D σ H => tG X.K ec (WE W) O (fun _ _ => dV X.K) f σ H fun v H1 => D.nx (σ.set i (some v)) H1) (fun W pn xe tk2 pw => ?_) hl).imp fun D σ H ⟨B, P, Z, ρ, hE, p⟩ => ⟨B, P, Z, ρ, hE, ?_⟩⟩
  · exact pss_one (ps_set (X := X.tr pn xe) (i := i) hN hi hx (he W pn xe tk2 pw).pe hsw hff)
  · exact try_core hE hq p fun a v H1 s d hE1 p1 => (show PostS X.K ec Ef B Z io Ol O D (.ok (.nx (ρ.set i (some (.d a))))) from p1) _ _ _ (hE1.setV hO d)
def fTryR (f : Rho → R PyData) (hf : Nat → Option PyData → Rho → R Fl) : Rho → R Fl := fun ρ => (f ρ).tryc (fun d => .ok (.rt d ρ)) fun c y => hf c y ρ
/-- try: return e except .. -/
theorem ds_tryR {h₀ : ExceptHandler} {rpos : Pos} (hs : X.stack = X.env :: X.outer) (hfr : X.env.frame = some X.env.locals) (tk : Takes X (fun cls d σ H => Ef σ cls d H))
    (he : ∀ (W : WX) (pn : List (Addr × Obj)) (xe : Value → Shared → Prop), Takes (X.tr pn xe) W → PassesOwn (model X.prog X.w) X.A X.env xe → DE (X.tr pn xe) ec (WE W) O e f) (hh : DHs X ec Ef io Ol O O' (h₀ :: hds) hf) (hsub : List.Sublist io O := by decide) :
    DS X ec Ef io Ol O O' (.Try [.Return (some e) rpos] (h₀ :: hds) [] [] pos) (fTryR f hf) := by
  obtain ⟨l, hl, hq⟩ := hh.ex
  refine ⟨(ps_try_many hs hfr tk (tb := fun W D σ H => tG X.K ec (WE W) O (fun _ _ => dV X.K) f σ H fun v H1 => D.rt v H1) (fun W pn xe tk2 pw => ?_) hl).imp fun D σ H ⟨B, P, Z, ρ, hE, p⟩ => ⟨B, P, Z, ρ, hE, ?_⟩⟩
  · exact pss_one (ps_ret (X := X.tr pn xe) (he W pn xe tk2 pw).pe)
  · exact try_core hE hq p fun a v H1 s d hE1 p1 => by
      obtain ⟨P', h1, hE'⟩ := hE1.release hsub
      exact (show PostS X.K ec Ef B Z io Ol O' D (.ok (.rt a ρ)) from p1) _ _ _ _ hE' (dp_mono (hid_sub (mask_sub h1)) a v d)
end
/-! ### defs in slots -/
def getF (ρ : Rho) (i : Nat) : R Str := match ρ[i]? with
  | some (some (.fn x)) => .ok x
  | _ => .bad
theorem getF_case {ρ : Rho} {i : Nat} : (∃ x, ρ[i]? = some (some (.fn x)) ∧ getF ρ i = .ok x) ∨ getF ρ i = .bad := by
  unfold getF
  split
  · rename_i x h; exact .inl ⟨x, h, rfl⟩
  · exact .inr rfl
abbrev FTab := List (Str × Nat × (List PyData → R PyData))
def findT : FTab → Str → Option (Nat × (List PyData → R PyData))
  | [], _ => none
  | q :: T, x => if q.1 = x then some q.2 else findT T x
/-- the defs of a table, at their addresses -/
def TabOk (P : Program) (w : World) (K : PySem.W.Frag) (mg : Str → Option Value) (base : Heap) (ec : EC) (k : Nat) (T : FTab) : Prop := ∀ q, q ∈ T → FnD P w K mg base ec k q.2.1 q.1 q.2.2 ∧ mg q.1 = some (.ref (He.ga K q.1))
section
variable {X : Cx} {ec : EC} {Ef : L2.St → XK} {io Ol O O' : List Nat} {e : Expr} {es : List Expr} {fa : Rho → R (List PyData)} {k i : Nat} {x : Str} {p pos : Pos} {T : FTab}
/-- a local name's def called -/
theorem pe_callLS {E : L2.St → XK} {S : Addr → Sp → Prop} {t : TA} (A : ∀ f s, S f s → ∃ (fd : FuncData) (ps : List Str), FnOk X.prog X.w X.K X.mg X.base (L2.CX X.prog X.w) k f fd ps s ∧ PySem.W.keepIn X.K (.ref f) = true ∧ Binds X.K fd ps []) (hr : Room k X.A) (hN : X.N[i]? = some x) (hv : Vis X.env.scope x) (hx : ∀ σ, PassesAt (L2.CX X.prog X.w) X σ (E σ)) (ha : PA X (e :: es) t)
    (hdb : (x == ("__debug__" : Str)) = false := by decide) (hcd : (x == ("__classdict__" : Str)) = false := by decide)
    (he : starEach (e :: es) X.env = (false, eval e X.env) :: starEach es X.env := by rfl) (hpl : (backTo pos (starEach es X.env)).any (·.1) = false := by rfl) :
    PE X (.Call (.Name x p) (e :: es) [] pos) (fun σ H Q => ∃ f s, σ[i]? = some (some (.ref f)) ∧ S f s ∧ t σ H fun vs H1 => s vs H1 Q (E σ)) := by
  refine ⟨fun pins s σ H Q I h => ?_⟩
  obtain ⟨f, sq, hs, hS, ht⟩ := h
  obtain ⟨fd, ps, F, hk, hb⟩ := A f sq hS
  refine wpAny_Call_Name_kw (thn ((pe_var (pos := p) hN hv hdb hcd).run pins s σ H (fun v H1 => v = .ref f ∧ H1 = H) I ⟨.ref f, hs, rfl, rfl⟩) fun u s1 ⟨v, H1, I1, r1, q1⟩ => ?_)
  obtain ⟨rfl, rfl⟩ := q1
  cases r1
  refine PySem.W.callWith_K (h₀ := X.base) I.ok.mod.kin hk (thn (ha.run pos pins s1 σ _ _ I1 ht) fun us s2 ⟨vs, H2, I2, r, q⟩ => ⟨I2.kIn, ?_⟩) he hpl
  exact run_fnS F hr hb (hx σ) I2 r q
theorem findT_mem : ∀ {T : FTab} {y : Str} {q : Nat × (List PyData → R PyData)}, findT T y = some q → (y, q) ∈ T
  | [], _, _, h => by cases h
  | a :: T, y, q, h => by
    unfold findT at h
    split at h
    · rename_i e
      cases h
      rw [← e]
      exact List.mem_cons_self
    · exact List.mem_cons_of_mem _ (findT_mem h)
def callF (T : FTab) (i : Nat) (fa : Rho → R (List PyData)) : Rho → R PyData := fun ρ => (getF ρ i).bind fun y => match findT T y with
  | some q => (fa ρ).bind (chk q.1 q.2)
  | none => .bad
theorem de_callF (A : TabOk X.prog X.w X.K X.mg X.base ec k T) (hr : Room k X.A) (hp : PassE X Ef) (hN : X.N[i]? = some x) (hv : Vis X.env.scope x) (ha : DA X ec Ef O (e :: es) fa) (hi : i ∉ O := by decide)
    (hdb : (x == ("__debug__" : Str)) = false := by decide) (hcd : (x == ("__classdict__" : Str)) = false := by decide)
    (he : starEach (e :: es) X.env = (false, eval e X.env) :: starEach es X.env := by rfl) (hpl : (backTo pos (starEach es X.env)).any (·.1) = false := by rfl) :
    DE X ec Ef O (.Call (.Name x p) (e :: es) [] pos) (callF T i fa) :=
  ⟨(pe_callLS (S := fun f s => ∃ q, q ∈ T ∧ f = He.ga X.K q.1 ∧ s = spD X.K ec q.2.1 q.2.2) (fun f s ⟨q, hq, ef, es⟩ => by
      subst ef
      subst es
      obtain ⟨⟨f, fd, ps, h1, h2, h3, h4, h5⟩, hm⟩ := A q hq
      rw [hm] at h2
      cases h2
      exact ⟨fd, ps, h5, h3, h4⟩) hr hN hv hp ha.pa hdb hcd he hpl).imp fun σ H Q ⟨B, P, Z, ρ, hE, q⟩ => by
    have q : Post B.S X.K ec (dV X.K (P ++ Z)) (P ++ Z) (Ef σ) H Q ((getF ρ i).bind fun y => match findT T y with
      | some q => (fa ρ).bind (chk q.1 q.2)
      | none => .bad) := q
    rcases getF_case (ρ := ρ) (i := i) with ⟨y, h1, h2⟩ | h2
    · rw [h2, R.ok_bind] at q
      cases hf : findT T y with
      | none => rw [hf] at q; exact q.elim
      | some z =>
        rw [hf] at q
        have q : Post B.S X.K ec (dV X.K (P ++ Z)) (P ++ Z) (Ef σ) H Q ((fa ρ).bind (chk z.1 z.2)) := q
        refine ⟨He.ga X.K y, spD X.K ec z.1 z.2, hE.fns i y hi h1, ⟨(y, z), findT_mem hf, rfl, rfl⟩, B, P, Z, ρ, hE, (Post.bind q).imp fun vs H1 ⟨ds, _, s1, d1, p1⟩ => ?_⟩
        unfold chk at p1
        by_cases hn : ds.length = z.1
        · rw [if_pos hn] at p1
          exact ⟨(dpa_len d1).trans hn, B.S, P ++ Z, ds, d1, (hE.same s1).met, p1⟩
        · rw [if_neg hn] at p1; exact p1.elim
    · rw [h2] at q
      exact q.elim⟩
/-- names of defs, one after the other -/
structure DNs (X : Cx) (es : List Expr) (xs : List Str) : Prop where
  pa : PA X es (fun _ H Q => Q (xs.map fun x => V.ref (He.ga X.K x)) H)
theorem dn_nil : DNs X [] [] := ⟨pa_nil.imp fun _ _ _ h => h⟩
theorem dn_cons {xs : List Str} (hg : Gl X x) (hm : X.mg x = some (.ref (He.ga X.K x))) (r : DNs X es xs) (hdb : (x == ("__debug__" : Str)) = false := by decide) (hs : starEach (.Name x p :: es) X.env = (false, eval (.Name x p) X.env) :: starEach es X.env := by rfl) :
    DNs X (.Name x p :: es) (x :: xs) := ⟨(pa_cons (pe_glob (v := .ref (He.ga X.K x)) hg hm rfl hdb) r.pa hs).imp fun _ _ _ h => h⟩
def forN (i : Nat) (u : Rho → R Fl) : List Str → Rho → R Fl
  | [], ρ => .ok (.nx ρ)
  | x :: xs, ρ => (u (ρ.set i (some (.fn x)))).bind fun f => match f with
    | .nx ρ' => forN i u xs ρ'
    | .ct ρ' => forN i u xs ρ'
    | .bk ρ' => .ok (.nx ρ')
    | .rt e ρ' => .ok (.rt e ρ')
    | .rf e ρ' => .ok (.rf e ρ')
end
theorem EnvOk.setFn {K : PySem.W.Frag} {B : BB tt lm} {H : Hp} {O : List Nat} {P Z : List Addr} {σ : L2.St} {ρ : Rho} (h : EnvOk K B O P Z σ H ρ) {i : Nat} {x : Str} (hi : i ∉ O) : EnvOk K B O P Z (σ.set i (some (.ref (He.ga K x)))) H (ρ.set i (some (.fn x))) := by
  refine ⟨by rw [List.length_set, List.length_set]; exact h.len, h.bs, h.gs, ?_, h.nd, h.pb, h.zt, h.pz, h.sz, h.sb, h.so, fun j hj q => ?_, fun j y hj q => ?_, fun j hj q => ?_, fun j e hj hd q => ?_⟩
  · have key : ∀ {l : List Nat} {m : List Addr}, (∀ j, j ∈ l → j ∈ O) → Paired (Own1 K (P ++ Z) H σ ρ) l m → Paired (Own1 K (P ++ Z) H (σ.set i (some (.ref (He.ga K x)))) (ρ.set i (some (.fn x)))) l m := by
      intro l m hl p
      induction p with
      | nil => exact .nil
      | cons r t ih =>
        obtain ⟨x1, o, d', x2, x3, x4⟩ := r
        have ne : i ≠ _ := fun z => hi (z ▸ hl _ List.mem_cons_self)
        exact .cons ⟨by rw [List.getElem?_set_ne ne]; exact x1, o, d', by rw [List.getElem?_set_ne ne]; exact x2, x3, x4⟩ (ih fun j hj => hl j (List.mem_cons_of_mem _ hj))
    exact key (fun _ z => z) h.own
  · rcases set_get q with ⟨e1, e2⟩ | ⟨ne, q⟩
    · cases e2
    · obtain ⟨a, x1, x2⟩ := h.src j hj q
      exact ⟨a, x1, by rw [List.getElem?_set_ne ne]; exact x2⟩
  · have q0 := q
    rcases set_get q with ⟨e1, e2⟩ | ⟨ne, q⟩
    · subst e1
      cases e2
      have hl : i < σ.length := by
        rw [← h.len]
        have := (List.getElem?_eq_some_iff.mp q0).1
        rwa [List.length_set] at this
      exact List.getElem?_set_self hl
    · rw [List.getElem?_set_ne ne]; exact h.fns j y hj q
  · rcases set_get q with ⟨e1, e2⟩ | ⟨ne, q⟩
    · cases e2
    · rw [List.getElem?_set_ne ne]; exact h.lam j hj q
  · rcases set_get q with ⟨e1, e2⟩ | ⟨ne, q⟩
    · cases e2; cases hd
    · obtain ⟨w, x1, x2⟩ := h.oth j e hj hd q
      exact ⟨w, by rw [List.getElem?_set_ne ne]; exact x1, x2⟩
section
variable {X : Cx} {ec : EC} {Ef : L2.St → XK} {io Ol O O' : List Nat} {es : List Expr} {i : Nat} {x : Str} {pos tpos p1 : Pos} {kt} {xs : List Str} {g : Rho → R Fl} {body : List Stmt}
/-- for x in (f, g, h): .. -/
theorem ds_forN (fl : Flat Ef) (hp : PassesOwn (model X.prog X.w) X.A X.env X.xe) (hc : X.calm = true) (hn : DNs X es xs) (hz : xs.length ≤ sizeLine) (hg : PG X (.Name x p1) (gName i)) (hb : DSs X ec Ef io O O O body g) (hO : i ∉ O := by decide)
    (hs : ∀ x, foldedSetIterable (.Tuple es kt tpos) X.env x = pure x := by intro _; rfl) : DS X ec Ef io Ol O O (.For (.Name x p1) (.Tuple es kt tpos) body [] pos) (forN i g xs) := by
  refine ⟨(ps_for hp hc (pi_seq (pe_tup hn.pa)) hg hb.ps hs).imp fun D σ H ⟨B, P, Z, ρ, hE, q⟩ => ?_⟩
  refine ⟨by rw [List.length_map]; exact hz, fun a ha => ⟨a, rfl, .inr ⟨⟨_, .inl (.inl upd_same)⟩, ?_⟩⟩⟩
  have hE1 : EnvOk X.K B O P Z σ (upd H a (.tup (xs.map fun x => V.ref (He.ga X.K x)))) ρ := hE.same (.of (same_upd ha))
  have nS : a ∉ B.S := fun z => hE.trk a (List.mem_append_right _ (hE.sz a z)) ha
  have nM : a ∉ P ++ Z := fun z => hE.trk a z ha
  have hvis : Same B.2 (hid (P ++ Z) (upd H a (.tup (xs.map fun x => V.ref (He.ga X.K x))))) := hE1.gs
  have at_ : ∀ {P2 : List Addr} {σ2 : L2.St} {H2 : Hp} {ρ2 : Rho}, EnvOk X.K (B.re (hid (P ++ Z) (upd H a (.tup (xs.map fun x => V.ref (He.ga X.K x)))))) O P2 Z σ2 H2 ρ2 → SqT X.K H2 a (xs.map fun x => V.ref (He.ga X.K x)) := fun e => by
    have e2 := e.gs a _ (show hid (P ++ Z) (upd H a (.tup (xs.map fun x => V.ref (He.ga X.K x)))) a = some _ by rw [hid_out nM]; exact upd_same)
    exact .inl (.inl (hid_some e2).2)
  refine ⟨fun j m σ2 H2 => m = xs.length - j ∧ j ≤ xs.length ∧ ∃ P2 ρ2, EnvOk X.K (B.re (hid (P ++ Z) (upd H a (.tup (xs.map fun x => V.ref (He.ga X.K x)))))) O P2 Z σ2 H2 ρ2 ∧ PostS X.K ec Ef B Z io Ol O D (forN i g (xs.drop j) ρ2), ⟨xs.length, by omega, Nat.zero_le _, P, ρ, hE1.here, q⟩, ?_⟩
  rintro j m σ2 H2 ⟨rfl, hj, P2, ρ2, hE2, q2⟩
  by_cases hlt : j < xs.length
  · rw [List.drop_eq_getElem_cons hlt] at q2
    have hv : (xs.map fun x => V.ref (He.ga X.K x))[j]? = some (.ref (He.ga X.K xs[j])) := by simp [hlt]
    refine .inr ⟨⟨_, _, at_ hE2, hv⟩, fun σ' H' => ∃ P' ρ', EnvOk X.K (B.re (hid (P ++ Z) (upd H a (.tup (xs.map fun x => V.ref (He.ga X.K x)))))) O P' Z σ' H' ρ' ∧ PostS X.K ec Ef B Z io Ol O D (forN i g (xs.drop (j + 1)) ρ'), fun σ' H' ⟨P', ρ', hE', q'⟩ => ⟨xs.length - (j + 1), by omega, rfl, hlt, P', ρ', hE', q'⟩, fun y H3 yl => ?_⟩
    obtain ⟨e1, yl⟩ := yl
    subst e1
    have ey : y = .ref (He.ga X.K xs[j]) := by
      have := yl _ (at_ hE2)
      rw [hv] at this
      exact (Option.some.inj this).symm
    subst ey
    refine ⟨(B.re (hid (P ++ Z) (upd H a (.tup (xs.map fun x => V.ref (He.ga X.K x)))))), P2, Z, _, hE2.setFn hO, ?_⟩
    have q3 : PostS X.K ec Ef B Z io Ol O D ((g (ρ2.set i (some (.fn xs[j])))).bind fun f => match f with
      | .nx ρ' => forN i g (xs.drop (j + 1)) ρ'
      | .ct ρ' => forN i g (xs.drop (j + 1)) ρ'
      | .bk ρ' => .ok (.nx ρ')
      | .rt e ρ' => .ok (.rt e ρ')
      | .rf e ρ' => .ok (.rf e ρ')) := q2
    unfold PostS at q3
    rw [R.wp_bind] at q3
    refine R.wp_imp q3 (fun f q3 => ?_) (fun c z q3 => q3)
    cases f with
    | nx ρ' => exact fun σ' P' H' hE' => ⟨P', ρ', hE', q3⟩
    | ct ρ' => exact fun σ' P' H' hE' => ⟨P', ρ', hE', q3⟩
    | bk ρ' => exact fun σ' P' H' hE' => (show PostS X.K ec Ef B Z io Ol O D (.ok (.nx ρ')) from q3) _ _ _ (hE'.back hvis)
    | rf e ρ' => exact fun v σ' P' H' hE' hv => (show PostS X.K ec Ef B Z io Ol O D (.ok (.rf e ρ')) from q3) _ _ _ _ (hE'.back hvis) hv
    | rt e ρ' => exact fun v σ' P' H' hE' hv => (show PostS X.K ec Ef B Z io Ol O D (.ok (.rt e ρ')) from q3) _ _ _ _ (hE'.back hvis) hv
  · have e : j = xs.length := by omega
    subst e
    rw [List.drop_length] at q2
    exact .inl ⟨⟨_, at_ hE2, by rw [List.length_map]; exact Nat.le_refl _⟩, (show PostS X.K ec Ef B Z io Ol O D (.ok (.nx ρ2)) from q2) _ _ _ (hE2.back hvis)⟩
end
end DL
set_option Elab.async false
set_option linter.all false
set_option maxRecDepth 100000
set_option maxHeartbeats 1000000
namespace DL
open PySem PySem.Spec PyProof.Rows L2
/-! ### several values at once, some of them new objects -/
/-- news: the new objects, MM: what is hidden -/
inductive MRel (K : PySem.W.Frag) (MM : List Addr) (H : Hp) : List V → List SV → List Bool → List Addr → Prop
  | nil : MRel K MM H [] [] [] []
  | d {v : V} {d : PyData} {vs : List V} {xs : List SV} {fs : List Bool} {news : List Addr} (h : Dp K (hid MM H) v d) (t : MRel K MM H vs xs fs news) : MRel K MM H (v :: vs) (.d d :: xs) (false :: fs) news
  | o {p : Addr} {ob : HO} {x : SV} {vs : List V} {xs : List SV} {fs : List Bool} {news : List Addr} (hp : H p = some ob) (h : OwnV K MM H ob x) (t : MRel K MM H vs xs fs news) : MRel K MM H (.ref p :: vs) (x :: xs) (true :: fs) (p :: news)
theorem MRel.mono {K : PySem.W.Frag} {MM MM' : List Addr} {H H' : Hp} (s : Same (hid MM H) (hid MM' H')) : ∀ {vs : List V} {xs : List SV} {fs : List Bool} {news : List Addr}, (∀ p o, p ∈ news → H p = some o → H' p = some o) → MRel K MM H vs xs fs news → MRel K MM' H' vs xs fs news
  | _, _, _, _, _, .nil => .nil
  | _, _, _, _, hn, .d h t => .d (dp_mono s _ _ h) (MRel.mono s hn t)
  | _, _, _, _, hn, .o hp h t => .o (hn _ _ List.mem_cons_self hp) (h.mono s) (MRel.mono s (fun p o z => hn p o (List.mem_cons_of_mem _ z)) t)
theorem MRel.len {K : PySem.W.Frag} {MM : List Addr} {H : Hp} : ∀ {vs : List V} {xs : List SV} {fs : List Bool} {news : List Addr}, MRel K MM H vs xs fs news → vs.length = xs.length ∧ xs.length = fs.length
  | _, _, _, _, .nil => ⟨rfl, rfl⟩
  | _, _, _, _, .d _ t => by have := t.len; simp [this]
  | _, _, _, _, .o _ _ t => by have := t.len; simp [this]
def dM (K : PySem.W.Frag) (fs : List Bool) (B : Hp) (M : List Addr) (H : Hp) (vs : List V) (xs : List SV) : Prop :=
  ∃ news, news.Nodup ∧ (∀ p, p ∈ news → B p = none ∧ p ∉ M ∧ H p ≠ none) ∧ MRel K (news ++ M) H vs xs fs news
structure DM (X : Cx) (ec : EC) (Ef : L2.St → XK) (O : List Nat) (es : List Expr) (fs : List Bool) (f : Rho → R (List SV)) : Prop where
  pa : PA X es (tG X.K ec Ef O (fun H _ M => dM X.K fs H M) f)
section
variable {X : Cx} {ec : EC} {Ef : L2.St → XK} {O : List Nat} {e : Expr} {es : List Expr} {fs : List Bool} {f : Rho → R PyData} {g : Rho → R (List SV)}
theorem dm_nil : DM X ec Ef O [] [] (fun _ => .ok []) := ⟨pa_nil.imp fun σ H Q ⟨B, P, Z, ρ, hE, p⟩ => (show Post B.S X.K ec (dM X.K [] H (P ++ Z)) (P ++ Z) (Ef σ) H Q (.ok []) from p).ok ⟨[], List.nodup_nil, (fun p z => by cases z), .nil⟩⟩
theorem dm_d (h : DE X ec Ef O e f) (t : DM X ec Ef O es fs g) (hs : starEach (e :: es) X.env = (false, eval e X.env) :: starEach es X.env := by rfl) :
    DM X ec Ef O (e :: es) (false :: fs) (fun ρ => (f ρ).bind fun d => (g ρ).bind fun xs => .ok (.d d :: xs)) :=
  ⟨(pa_cons h.pe t.pa hs).imp fun σ H Q ⟨B, P, Z, ρ, hE, p⟩ => ⟨B, P, Z, ρ, hE, (Post.bind p).imp fun v H1 ⟨d, _, s1, d1, p1⟩ => ⟨B, P, Z, ρ, hE.same s1, (Post.bind p1).imp fun vs H2 ⟨xs, _, s2, ⟨news, hn, hd, hr⟩, p2⟩ => p2.ok ⟨news, hn, (fun p hp => ⟨s1.free hE.so p (hd p hp).1, (hd p hp).2⟩), .d (dp_mono (fun b o z => by
      obtain ⟨z1, z2⟩ := hid_some z
      have nb : b ∉ news := fun q => by rw [(hd b q).1] at z2; cases z2
      rw [hid_out (fun q => (List.mem_append.mp q).elim nb z1)]
      exact s2.fr b o (fun q => z1 (List.mem_append_right _ (hE.sz b q))) z2) d v d1) hr⟩⟩⟩⟩
end
section
variable {K : PySem.W.Frag} {B : BB tt lm} {H H' : Hp} {O : List Nat} {P Z : List Addr} {σ : L2.St} {ρ : Rho}
/-- new objects come into view, as others' -/
theorem EnvOk.newZ (h : EnvOk K B O P Z σ H ρ) (s : Gr B.S (P ++ Z) H H') {news : List Addr} (hp : ∀ p, p ∈ news → H p = none ∧ H' p ≠ none) : EnvOk K B O P (news ++ Z) σ H' ρ := by
  have vs' : Same (hid (P ++ Z) H) (hid (P ++ (news ++ Z)) H') := fun b o q => by
    obtain ⟨y1, y2⟩ := hid_some q
    rw [hid_out (fun z => by
      rcases List.mem_append.mp z with z | z
      · exact y1 (List.mem_append_left _ z)
      · rcases List.mem_append.mp z with z | z
        · rw [(hp b z).1] at y2; cases y2
        · exact y1 (List.mem_append_right _ z))]
    exact s.fr b o (fun z => y1 (List.mem_append_right _ (h.sz b z))) y2
  refine ⟨h.len, h.bs' s, h.gs.trans vs', Paired.mapPR h.own fun i p hb ⟨x1, o, d', x2, x3, x4⟩ => ⟨x1, o, d', x2, s.fr _ _ (h.ps hb) x3, x4.mono vs'⟩, h.nd, h.pb, fun z hz => ?_, fun q hq z => ?_, fun a ha => List.mem_append_right _ (h.sz a ha), h.sb, s.so h.so, h.src, h.fns, fun i hi e => ⟨(h.lam i hi e).1, (h.lam i hi e).2.gr s vs'⟩, fun i d hi hd e => ?_⟩
  · rcases List.mem_append.mp hz with hz | hz
    · exact (hp z hz).2
    · exact h.zt' s z hz
  · rcases List.mem_append.mp z with z | z
    · exact h.trk q (List.mem_append_left _ hq) (hp q z).1
    · exact h.pz q hq z
  · obtain ⟨w, x1, x2⟩ := h.oth i d hi hd e
    exact ⟨w, x1, svd_mono vs' d w x2⟩
/-- one of them comes into a slot -/
theorem EnvOk.takeZ {p : Addr} {ob : HO} {x : SV} {i : Nat} (h : EnvOk K B O P (p :: Z) σ H ρ) (npZ : p ∉ Z) (hB : B.1 p = none) (nS : p ∉ B.S) (hp : H p = some ob) (ho : OwnV K (P ++ p :: Z) H ob x) (hi : i ∉ O) (hl : i < σ.length) :
    EnvOk K B (i :: O) (p :: P) Z (σ.set i (some (.ref p))) H (ρ.set i (some x)) := by
  have hlr : i < ρ.length := by rw [h.len]; exact hl
  have np : p ∉ P := fun z => h.pz p z List.mem_cons_self
  have vs' : Same (hid (P ++ p :: Z) H) (hid (p :: P ++ Z) H) := hid_sub fun a z => by
    rcases List.mem_cons.mp (show a ∈ p :: (P ++ Z) from z) with z | z
    · exact z ▸ List.mem_append_right _ List.mem_cons_self
    · rcases List.mem_append.mp z with z | z
      · exact List.mem_append_left _ z
      · exact List.mem_append_right _ (List.mem_cons_of_mem _ z)
  refine ⟨by rw [List.length_set, List.length_set]; exact h.len, h.bs, h.gs.trans vs', .cons ⟨List.getElem?_set_self hl, _, _, List.getElem?_set_self hlr, hp, ho.mono vs'⟩ ?_, List.nodup_cons.mpr ⟨np, h.nd⟩, fun q hq => ?_, fun z hz => h.zt z (List.mem_cons_of_mem _ hz), fun q hq => ?_, fun a ha => ?_, h.sb, h.so, fun j hj q => ?_, fun j y hj q => ?_, fun j hj q => ?_, fun j e hj hd q => ?_⟩
  · have key : ∀ {l : List Nat} {m : List Addr}, (∀ j, j ∈ l → j ∈ O) → Paired (Own1 K (P ++ p :: Z) H σ ρ) l m → Paired (Own1 K (p :: P ++ Z) H (σ.set i (some (.ref p))) (ρ.set i (some x))) l m := by
      intro l m hl pr
      induction pr with
      | nil => exact .nil
      | cons r t ih =>
        obtain ⟨x1, o, d', x2, x3, x4⟩ := r
        have ne : i ≠ _ := fun z => hi (z ▸ hl _ List.mem_cons_self)
        exact .cons ⟨by rw [List.getElem?_set_ne ne]; exact x1, o, d', by rw [List.getElem?_set_ne ne]; exact x2, x3, x4.mono vs'⟩ (ih fun j hj => hl j (List.mem_cons_of_mem _ hj))
    exact key (fun _ z => z) h.own
  · rcases List.mem_cons.mp hq with rfl | hq
    · exact hB
    · exact h.pb q hq
  · rcases List.mem_cons.mp hq with rfl | hq
    · exact npZ
    · exact fun z => h.pz q hq (List.mem_cons_of_mem _ z)
  · rcases List.mem_cons.mp (h.sz a ha) with e | z
    · exact absurd (e ▸ ha) nS
    · exact z
  · have hj' : j ≠ i ∧ j ∉ O := by simpa only [List.mem_cons, not_or] using hj
    rcases set_get q with ⟨e1, _⟩ | ⟨ne, q⟩
    · exact absurd e1.symm hj'.1
    · obtain ⟨a, x1, x2⟩ := h.src j hj'.2 q
      exact ⟨a, x1, by rw [List.getElem?_set_ne ne]; exact x2⟩
  · have hj' : j ≠ i ∧ j ∉ O := by simpa only [List.mem_cons, not_or] using hj
    rcases set_get q with ⟨e1, _⟩ | ⟨ne, q⟩
    · exact absurd e1.symm hj'.1
    · rw [List.getElem?_set_ne ne]; exact h.fns j y hj'.2 q
  · have hj' : j ≠ i ∧ j ∉ O := by simpa only [List.mem_cons, not_or] using hj
    rcases set_get q with ⟨e1, _⟩ | ⟨ne, q⟩
    · exact absurd e1.symm hj'.1
    · rw [List.getElem?_set_ne ne]; exact ⟨(h.lam j hj'.2 q).1, (h.lam j hj'.2 q).2.mono (fun _ _ => rfl) vs'⟩
  · have hj' : j ≠ i ∧ j ∉ O := by simpa only [List.mem_cons, not_or] using hj
    rcases set_get q with ⟨e1, _⟩ | ⟨ne, q⟩
    · exact absurd e1.symm hj'.1
    · obtain ⟨w, x1, x2⟩ := h.oth j e hj'.2 hd q
      exact ⟨w, by rw [List.getElem?_set_ne ne]; exact x1, svd_mono vs' e w x2⟩
def setsV : List Nat → List V → L2.St → L2.St
  | i :: is, v :: vs, σ => setsV is vs (σ.set i (some v))
  | _, _, σ => σ
def setsR : List Nat → List SV → Rho → Rho
  | i :: is, x :: xs, ρ => setsR is xs (ρ.set i (some x))
  | _, _, ρ => ρ
def ownS : List Nat → List Bool → List Nat → List Nat
  | i :: is, true :: fs, O => ownS is fs (i :: O)
  | _ :: is, false :: fs, O => ownS is fs O
  | _, _, O => O
theorem EnvOk.setM {MM : List Addr} : ∀ {vs : List V} {xs : List SV} {fs : List Bool} {news : List Addr}, MRel K MM H vs xs fs news → ∀ (is : List Nat) (P : List Addr) (O : List Nat) (σ : L2.St) (ρ : Rho), EnvOk K B O P (news ++ Z) σ H ρ → (∀ a, a ∈ P ++ (news ++ Z) → a ∈ MM) → news.Nodup → (∀ p, p ∈ news → p ∉ Z ∧ B.1 p = none ∧ p ∉ B.S) →
    is.length = vs.length → is.Nodup → (∀ i, i ∈ is → i ∉ O ∧ i < σ.length) → ∃ P', EnvOk K B (ownS is fs O) P' Z (setsV is vs σ) H (setsR is xs ρ)
  | _, _, _, _, .nil, [], P, O, σ, ρ, h, _, _, _, _, _, _ => ⟨P, h⟩
  | _, _, _, _, .nil, _ :: _, _, _, _, _, _, _, _, _, hl, _, _ => by cases hl
  | _, _, _, _, .d _ _, [], _, _, _, _, _, _, _, _, hl, _, _ => by cases hl
  | _, _, _, _, .o _ _ _, [], _, _, _, _, _, _, _, _, hl, _, _ => by cases hl
  | _, _, _, _, .d (v := v) (d := d) hd t, i :: is, P, O, σ, ρ, h, sub, hn, hz, hl, hi, ho => by
    obtain ⟨n1, n2⟩ := List.nodup_cons.mp hi
    exact EnvOk.setM t is P O _ _ (h.setV (ho i List.mem_cons_self).1 (dp_mono (hid_sub sub) d v hd)) sub hn hz (Nat.succ.inj hl) n2 fun j hj => ⟨(ho j (List.mem_cons_of_mem _ hj)).1, by rw [List.length_set]; exact (ho j (List.mem_cons_of_mem _ hj)).2⟩
  | _, _, _, _, .o (p := p) (ob := ob) (x := x) hp ho' t, i :: is, P, O, σ, ρ, h, sub, hn, hz, hl, hi, ho => by
    obtain ⟨n1, n2⟩ := List.nodup_cons.mp hi
    obtain ⟨m1, m2⟩ := List.nodup_cons.mp hn
    obtain ⟨z1, z2, z3⟩ := hz p List.mem_cons_self
    refine EnvOk.setM t is (p :: P) (i :: O) _ _ (EnvOk.takeZ (Z := _ ++ Z) h (fun z => (List.mem_append.mp z).elim m1 z1) z2 z3 hp (ho'.mono (hid_sub sub)) (ho i List.mem_cons_self).1 (ho i List.mem_cons_self).2) (fun a z => sub a ?_) m2 (fun q hq => hz q (List.mem_cons_of_mem _ hq)) (Nat.succ.inj hl) n2 fun j hj => ⟨?_, by rw [List.length_set]; exact (ho j (List.mem_cons_of_mem _ hj)).2⟩
    · rcases List.mem_cons.mp (show a ∈ p :: (P ++ _) from z) with z | z
      · exact z ▸ List.mem_append_right _ (List.mem_append_left _ List.mem_cons_self)
      · rcases List.mem_append.mp z with z | z
        · exact List.mem_append_left _ z
        · rcases List.mem_append.mp z with z | z
          · exact List.mem_append_right _ (List.mem_append_left _ (List.mem_cons_of_mem _ z))
          · exact List.mem_append_right _ (List.mem_append_right _ z)
    · intro z
      rcases List.mem_cons.mp z with z | z
      · exact n1 (z ▸ hj)
      · exact (ho j (List.mem_cons_of_mem _ hj)).1 z
end
theorem Post.up {S : Srcs tt} {K : PySem.W.Frag} {ec : EC} {M M' : List Addr} {E : XK} {H : Hp} {ν α : Type} {den : Hp → ν → α → Prop} {Q : ν → Hp → Prop} {r : R α} (sub : ∀ a, a ∈ M → a ∈ M') (sm : ∀ a, a ∈ S → a ∈ M) (h : Post S K ec den M E H Q r) : Post S K ec den M' E H Q r := by
  have up : ∀ {H'}, Gr S M' H H' → Gr S M H H' := fun {H'} s => ⟨s.fr, fun b o e => by
    obtain ⟨e1, e2⟩ := hid_some e
    rw [hid_out e1]
    exact s.fr b o (fun z => e1 (sm b z)) e2, s.so⟩
  exact R.wp_imp h (fun a h v H' s d => h v H' (up s) d) (fun c x h H' dx s e => h H' dx (up s) (exOk_sub sub e))
section
variable {X : Cx} {ec : EC} {Ef : L2.St → XK} {io Ol O : List Nat} {e : Expr} {es : List Expr} {fs : List Bool} {f : Rho → R PyData} {g : Rho → R (List SV)}
/-- a new object at the head -/
theorem dm_new {α : Type} {fo : Rho → R α} {mk : α → SV}
    (h : PE X e (tG X.K ec Ef O (fun H _ M H1 v a => ∃ p ob, v = .ref p ∧ H p = none ∧ p ∉ M ∧ H1 p = some ob ∧ OwnV X.K (p :: M) H1 ob (mk a)) fo)) (t : DM X ec Ef O es fs g) (hs : starEach (e :: es) X.env = (false, eval e X.env) :: starEach es X.env := by rfl) :
    DM X ec Ef O (e :: es) (true :: fs) (fun ρ => (fo ρ).bind fun a => (g ρ).bind fun xs => .ok (mk a :: xs)) :=
  ⟨(pa_cons h t.pa hs).imp fun σ H Q ⟨B, P, Z, ρ, hE, p⟩ => ⟨B, P, Z, ρ, hE, (Post.bind p).imp fun v H1 ⟨a, _, s1, ⟨p, ob, ev, hp0, hpM, hp1, ho⟩, p1⟩ => by
    subst ev
    have hE1 : EnvOk X.K B O P (p :: Z) σ H1 ρ := hE.newZ (news := [p]) s1 fun q hq => by
      rw [List.mem_singleton.mp hq]
      exact ⟨hp0, by rw [hp1]; intro z; cases z⟩
    refine ⟨B, P, p :: Z, ρ, hE1, Post.up (fun a z => ?_) (fun a z => List.mem_append_right _ (hE.sz a z)) ((Post.bind p1).imp fun vs H2 ⟨xs, _, s2, ⟨news, hn, hd, hr⟩, p2⟩ => p2.ok ?_)⟩
    · rcases List.mem_append.mp z with z | z
      · exact List.mem_append_left _ z
      · exact List.mem_append_right _ (List.mem_cons_of_mem _ z)
    have hd' : ∀ q, q ∈ news → H1 q = none ∧ q ∉ P ++ p :: Z ∧ H2 q ≠ none := hd
    have npn : p ∉ news := fun q => by rw [(hd' p q).1] at hp1; cases hp1
    have nS : p ∉ B.S := fun q => hpM (List.mem_append_right _ (hE.sz p q))
    have hp2 : H2 p = some ob := s2.fr p ob nS hp1
    refine ⟨p :: news, List.nodup_cons.mpr ⟨npn, hn⟩, (fun q hq => ?_), .o hp2 (ho.mono fun b o z => ?_) (hr.mono (hid_sub fun b z => ?_) fun q o hq z => z)⟩
    · rcases List.mem_cons.mp hq with rfl | hq
      · exact ⟨hp0, hpM, by rw [hp2]; intro z; cases z⟩
      · refine ⟨s1.free hE.so q (hd' q hq).1, fun z => (hd' q hq).2.1 ?_, (hd' q hq).2.2⟩
        rcases List.mem_append.mp z with z | z
        · exact List.mem_append_left _ z
        · exact List.mem_append_right _ (List.mem_cons_of_mem _ z)
    · obtain ⟨z1, z2⟩ := hid_some z
      have nb : b ∉ news := fun q => by rw [(hd' b q).1] at z2; cases z2
      rw [hid_out (fun q => by
        rcases List.mem_cons.mp q with q | q
        · exact z1 (q ▸ List.mem_cons_self)
        · exact (List.mem_append.mp q).elim nb fun q => z1 (List.mem_cons_of_mem _ q))]
      exact s2.fr b o (fun q => z1 (List.mem_cons_of_mem _ (List.mem_append_right _ (hE.sz b q)))) z2
    · rcases List.mem_cons.mp (show b ∈ p :: (news ++ (P ++ Z)) from z) with z | z
      · exact z ▸ List.mem_append_right _ (List.mem_append_right _ List.mem_cons_self)
      · rcases List.mem_append.mp z with z | z
        · exact List.mem_append_left _ z
        · rcases List.mem_append.mp z with z | z
          · exact List.mem_append_right _ (List.mem_append_left _ z)
          · exact List.mem_append_right _ (List.mem_append_right _ (List.mem_cons_of_mem _ z))⟩⟩
theorem dm_f (h : DF X ec Ef O e f) (t : DM X ec Ef O es fs g) (hs : starEach (e :: es) X.env = (false, eval e X.env) :: starEach es X.env := by rfl) :
    DM X ec Ef O (e :: es) (true :: fs) (fun ρ => (f ρ).bind fun a => (g ρ).bind fun xs => .ok (.d a :: xs)) :=
  dm_new (mk := .d) (h.pe.imp fun σ H Q ⟨B, P, Z, ρ, hE, p⟩ => ⟨B, P, Z, ρ, hE, p.den fun H1 v a ⟨p, vs, ds, e1, e2, e3, e4, e5, e6⟩ => by
    subst e2
    exact ⟨p, _, e1, e3, e4, e5, .lst e6⟩⟩) t hs
theorem dm_dict {fd : Rho → R (List (PyData × PyData))} (h : DD X ec Ef O e fd) (t : DM X ec Ef O es fs g) (hs : starEach (e :: es) X.env = (false, eval e X.env) :: starEach es X.env := by rfl) :
    DM X ec Ef O (e :: es) (true :: fs) (fun ρ => (fd ρ).bind fun a => (g ρ).bind fun xs => .ok (.dict a :: xs)) :=
  dm_new (mk := .dict) (h.pe.imp fun σ H Q ⟨B, P, Z, ρ, hE, p⟩ => ⟨B, P, Z, ρ, hE, p.den fun H1 v a ⟨p, kvs, e1, e2, e3, e4, e5, e6⟩ => ⟨p, _, e1, e2, e3, e5, .dk e6⟩⟩) t hs
theorem EnvOk.par {K : PySem.W.Frag} {B : BB tt lm} {H H1 : Hp} {P Z : List Addr} {σ : L2.St} {ρ : Rho} (hE : EnvOk K B O P Z σ H ρ) (s : Gr B.S (P ++ Z) H H1) {vs : List V} {xs : List SV} (d : dM K fs H (P ++ Z) H1 vs xs) (is : List Nat) (hl : is.length = fs.length) (hn : is.Nodup) (ho : ∀ i, i ∈ is → i ∉ O ∧ i < σ.length) :
    ∃ P', EnvOk K B (ownS is fs O) P' Z (setsV is vs σ) H1 (setsR is xs ρ) := by
  obtain ⟨news, h1, h2, h3⟩ := d
  have hE1 := hE.newZ (news := news) s fun p hp => ⟨(h2 p hp).1, (h2 p hp).2.2⟩
  refine EnvOk.setM h3 is P O σ ρ hE1 (fun a z => ?_) h1 (fun p hp => ⟨fun z => (h2 p hp).2.1 (List.mem_append_right _ z), ?_, fun z => (h2 p hp).2.1 (List.mem_append_right _ (hE.sz p z))⟩) ?_ hn ho
  · rcases List.mem_append.mp z with z | z
    · exact List.mem_append_right _ (List.mem_append_left _ z)
    · rcases List.mem_append.mp z with z | z
      · exact List.mem_append_left _ z
      · exact List.mem_append_right _ (List.mem_append_right _ z)
  · cases q : B.1 p with
    | none => rfl
    | some o => have := hE.bs p o q; rw [(h2 p hp).1] at this; cases this
  · rw [h3.len.1, h3.len.2, hl]
def parM (is : List Nat) (fa : Rho → R (List SV)) : Rho → R Fl := fun ρ => (fa ρ).bind fun xs => .ok (.nx (setsR is xs ρ))
variable {a b c : Expr} {fa : Rho → R (List SV)} {pos : Pos}
theorem ds_parM2 {i j : Nat} {x y : Str} {px py pt : Pos} {kt k2 pt2} (fl : Flat Ef) (hc : X.calm = true) (hN : X.N.Nodup) (hi : X.N[i]? = some x) (hj : X.N[j]? = some y) (ha : DM X ec Ef O [a, b] fs fa) (hfs : fs.length = 2 := by decide) (hij : i ≠ j := by decide) (hiO : i ∉ O := by decide) (hjO : j ∉ O := by decide)
    (hlen : ∀ σ : L2.St, σ.length = X.N.length → i < σ.length ∧ j < σ.length) (hx : X.env.scope.names.lookup x = some .local := by rfl) (hy : X.env.scope.names.lookup y = some .local := by rfl)
    (hw : swappedStores [.Tuple [.Name x px, .Name y py] kt pt] (.Tuple [a, b] k2 pt2) X.env = pure (some [x, y]) := by rfl)
    (hs : swapsWithSole [.Tuple [.Name x px, .Name y py] kt pt] (.Tuple [a, b] k2 pt2) pos.line X.env = pure false := by rfl) :
    DS X ec Ef io Ol O (ownS [i, j] fs O) (.Assign [.Tuple [.Name x px, .Name y py] kt pt] (.Tuple [a, b] k2 pt2) pos) (parM [i, j] fa) := by
  refine ⟨⟨fun pins s σ H D I hw2 => (ps_par hc hN hi hj hij hx hy ha.pa hw hs).run pins s σ H D I ?_⟩⟩
  obtain ⟨B, P, Z, ρ, hE, p⟩ := hw2
  obtain ⟨l1, l2⟩ := hlen σ I.len
  refine ⟨B, P, Z, ρ, hE, PostS.of fl hE p fun xs vs H1 _ s d1 hE1 p1 => ?_⟩
  have hln : vs.length = 2 := by
    obtain ⟨_, _, _, h3⟩ := d1
    rw [h3.len.1, h3.len.2, hfs]
  obtain ⟨P', hP⟩ := hE.par s d1 [i, j] (by rw [hfs]; rfl) (by simp [hij]) fun m hm => by
    simp at hm
    rcases hm with rfl | rfl
    · exact ⟨hiO, l1⟩
    · exact ⟨hjO, l2⟩
  match vs, hln with
  | [v, w], _ => exact ⟨v, w, rfl, p1 _ _ _ hP⟩
theorem ds_parM3 {i j l : Nat} {x y z : Str} {px py pz pt : Pos} {kt k2 pt2} (fl : Flat Ef) (hc : X.calm = true) (hN : X.N.Nodup) (hi : X.N[i]? = some x) (hj : X.N[j]? = some y) (hl : X.N[l]? = some z) (ha : DM X ec Ef O [a, b, c] fs fa) (hfs : fs.length = 3 := by decide) (hij : i ≠ j := by decide) (hil : i ≠ l := by decide) (hjl : j ≠ l := by decide) (hiO : i ∉ O := by decide) (hjO : j ∉ O := by decide) (hlO : l ∉ O := by decide)
    (hlen : ∀ σ : L2.St, σ.length = X.N.length → i < σ.length ∧ j < σ.length ∧ l < σ.length) (hx : X.env.scope.names.lookup x = some .local := by rfl) (hy : X.env.scope.names.lookup y = some .local := by rfl) (hz : X.env.scope.names.lookup z = some .local := by rfl)
    (hw : swappedStores [.Tuple [.Name x px, .Name y py, .Name z pz] kt pt] (.Tuple [a, b, c] k2 pt2) X.env = pure (some [x, y, z]) := by rfl)
    (hs : swapsWithSole [.Tuple [.Name x px, .Name y py, .Name z pz] kt pt] (.Tuple [a, b, c] k2 pt2) pos.line X.env = pure false := by rfl) :
    DS X ec Ef io Ol O (ownS [i, j, l] fs O) (.Assign [.Tuple [.Name x px, .Name y py, .Name z pz] kt pt] (.Tuple [a, b, c] k2 pt2) pos) (parM [i, j, l] fa) := by
  refine ⟨⟨fun pins s σ H D I hw2 => (ps_par3 hc hN hi hj hl hij hil hjl hx hy hz ha.pa hw hs).run pins s σ H D I ?_⟩⟩
  obtain ⟨B, P, Z, ρ, hE, p⟩ := hw2
  obtain ⟨l1, l2, l3⟩ := hlen σ I.len
  refine ⟨B, P, Z, ρ, hE, PostS.of fl hE p fun xs vs H1 _ s d1 hE1 p1 => ?_⟩
  have hln : vs.length = 3 := by
    obtain ⟨_, _, _, h3⟩ := d1
    rw [h3.len.1, h3.len.2, hfs]
  obtain ⟨P', hP⟩ := hE.par s d1 [i, j, l] (by rw [hfs]; rfl) (by simp [hij, hil, hjl]) fun m hm => by
    simp at hm
    rcases hm with rfl | rfl | rfl
    · exact ⟨hiO, l1⟩
    · exact ⟨hjO, l2⟩
    · exact ⟨hlO, l3⟩
  match vs, hln with
  | [v, w, u], _ => exact ⟨v, w, u, rfl, p1 _ _ _ hP⟩
end
end DL
set_option Elab.async false
set_option linter.all false
set_option maxRecDepth 100000
set_option maxHeartbeats 1000000
namespace DL
open PySem PySem.Spec PyProof.Rows L2
/-! ### the text's own exceptions -/
def exCls (names : List Str) (K : PySem.W.Frag) (c : Nat) : Value := match names[c]? with
  | some n => .ref (He.ga K n)
  | none => .type "KeyError"
def ecOf (names : List Str) (att : Nat → Str) (fs : List (Str × Str)) (K : PySem.W.Frag) : EC := ⟨exCls names K, att, tabsOf fs K, ⟨0, [], [], []⟩⟩
abbrev veB : List Value := [.type "ValueError", .type "Exception", .type "BaseException", .type "object"]
/-- a class over ValueError without an own __init__ -/
def exB (n : Str) (K : PySem.W.Frag) : Bool := PySem.W.excIn K (He.ga K n) veB "ValueError.__new__" && (PySem.W.keepIn K (.ref (He.ga K n)) && ((PySem.W.subIn K (.ref (He.ga K n)) (.type "BaseException") == some true) && (PySem.W.typeIn K (.ref (He.ga K n)) == some (.type "type"))))
/-- which class takes which -/
def exmB (names : List Str) (K : PySem.W.Frag) : Bool := (List.range (names.length + 1)).all fun c => (List.range names.length).all fun j => match names[j]? with
  | some n => PySem.W.exmOne K (exCls names K c) (.ref (He.ga K n)) == some (decide (c = j))
  | none => true
theorem exm_ok {names : List Str} {att : Nat → Str} {fs : List (Str × Str)} {K : PySem.W.Frag} (h : exmB names K = true) {j : Nat} {n : Str} (hj : names[j]? = some n) : ∀ c, PySem.W.exmOne K ((ecOf names att fs K).cls c) (.ref (He.ga K n)) = some (decide (c = j)) := by
  intro c
  have hl := (List.getElem?_eq_some_iff.mp hj).1
  have key : ∀ c, c < names.length + 1 → PySem.W.exmOne K (exCls names K c) (.ref (He.ga K n)) = some (decide (c = j)) := fun c hc => by
    have h1 := List.all_eq_true.mp (List.all_eq_true.mp h c (List.mem_range.mpr hc)) j (List.mem_range.mpr hl)
    rw [hj] at h1
    exact eq_of_beq h1
  show PySem.W.exmOne K (exCls names K c) _ = _
  by_cases hc : c < names.length + 1
  · exact key c hc
  · have e : exCls names K c = exCls names K names.length := by
      unfold exCls
      rw [List.getElem?_eq_none (by omega), List.getElem?_eq_none (Nat.le_refl _)]
    rw [e, key _ (Nat.lt_succ_self _)]
    have n1 : ¬ names.length = j := by omega
    have n2 : ¬ c = j := by omega
    rw [decide_eq_false n1, decide_eq_false n2]
section
variable {X : Cx} {ec : EC} {Ef : L2.St → XK} {io Ol O O' : List Nat} {x m : Str} {j c : Nat} {p p2 pos rpos : Pos}
/-- raise X('..') -/
theorem ds_raiseX (hc : X.calm = true) (tk : Takes X (fun cls d σ H => Ef σ cls d H)) (hm : X.mg x = some (.ref (He.ga X.K x))) (hB : exB x X.K = true) (hcls : ec.cls c = .ref (He.ga X.K x)) (hg : Gl X x) (hdb : (x == ("__debug__" : Str)) = false := by decide) :
    DS X ec Ef io Ol O O' (.Raise (some (.Call (.Name x p) [.Constant (.str m) j p2] [] pos)) none rpos) (fun _ => .exc c none) := by
  unfold exB at hB
  simp only [Bool.and_eq_true, beq_iff_eq] at hB
  obtain ⟨h1, h2, h3, h4⟩ := hB
  exact ds_raise (W := fun _ _ _ _ => True) (t := fun _ _ _ => True) hc tk (by rw [hcls]; exact pmk_own PySem.F.excBase_ValueError h1 hm h2 (raises_own h3 h4) hg hdb)
end
end DL
set_option Elab.async false
set_option linter.all false
set_option maxRecDepth 100000
set_option maxHeartbeats 400000
namespace DL
open PySem PySem.Spec PyProof.Rows L2
/-! ### wp as a structure: it is not unfolded by accident -/
structure Wp {α : Type} (r : R α) (Q : α → Prop) (E : Nat → Option PyData → Prop) : Prop where
  h : r.wp Q E
section
variable {α β : Type} {Q Q' : α → Prop} {E E' : Nat → Option PyData → Prop}
@[simp] theorem Wp_ok (a : α) : Wp (R.ok a) Q E = Q a := propext ⟨fun h => h.h, fun h => ⟨h⟩⟩
@[simp] theorem Wp_bad : Wp (R.bad : R α) Q E = False := propext ⟨fun h => h.h, fun h => h.elim⟩
@[simp] theorem Wp_exc (c : Nat) (x : Option PyData) : Wp (R.exc c x : R α) Q E = E c x := propext ⟨fun h => h.h, fun h => ⟨h⟩⟩
@[simp] theorem Wp_pick (P : PyData → Prop) (f : PyData → R α) : Wp (R.pick P f) Q E = ∀ d, P d → Wp (f d) Q E := propext ⟨fun h d hd => ⟨h.h d hd⟩, fun h => ⟨fun d hd => (h d hd).h⟩⟩
@[simp] theorem Wp_bind (r : R α) (k : α → R β) (Q : β → Prop) : Wp (r.bind k) Q E = Wp r (fun a => Wp (k a) Q E) E := propext ⟨fun h => ⟨R.wp_imp ((R.wp_bind r k Q E).mp h.h) (fun a z => ⟨z⟩) fun _ _ z => z⟩, fun h => ⟨(R.wp_bind r k Q E).mpr (R.wp_imp h.h (fun a z => z.h) fun _ _ z => z)⟩⟩
theorem Wp_noX (r : R α) : Wp r.noX Q E = Wp r Q (fun _ _ => False) := propext ⟨fun h => ⟨(R.wp_noX r Q E).mp h.h⟩, fun h => ⟨(R.wp_noX r Q E).mpr h.h⟩⟩
theorem Wp.imp {r : R α} (h : Wp r Q E) (hq : ∀ a, Q a → Q' a) : Wp r Q' E := ⟨R.wp_imp h.h hq fun _ _ z => z⟩
theorem Wp.imp2 {r : R α} (h : Wp r Q E) (hq : ∀ a, Q a → Q' a) (he : ∀ c x, E c x → E' c x) : Wp r Q' E' := ⟨R.wp_imp h.h hq he⟩
theorem Wp.bind {r : R α} {k : α → R β} {Q : β → Prop} (h : Wp r (fun a => Wp (k a) Q E) E) : Wp (r.bind k) Q E := by rw [Wp_bind]; exact h
theorem Wp.eq {r : R α} {a : α} (e : r = .ok a) (h : Q a) : Wp r Q E := by rw [e, Wp_ok]; exact h
/-- a loop by an invariant -/
theorem forG_Wp {tt : PyData → Rho → Option Rho} {u : Rho → R Fl} {Q : Fl → Prop} (I : List PyData → Rho → Prop)
    (h : ∀ d ds ρ, I (d :: ds) ρ → Wp ((R.ofO (tt d ρ)).bind u) (fun f => match f with
      | .nx ρ' => I ds ρ'
      | .ct ρ' => I ds ρ'
      | .bk ρ' => Q (.nx ρ')
      | .rt e ρ' => Q (.rt e ρ')
      | .rf e ρ' => Q (.rf e ρ')) E) (hn : ∀ ρ, I [] ρ → Q (.nx ρ)) {ds : List PyData} {ρ : Rho} (hi : I ds ρ) : Wp (forG tt u ds ρ) Q E := ⟨forL_wp I (fun d ds ρ hi => (h d ds ρ hi).h) hn hi⟩
end
theorem ite_ok {α : Type} {c : Prop} [Decidable c] (a b : α) : (if c then R.ok a else R.ok b) = R.ok (if c then a else b) := by split <;> rfl
section
variable {a : Option SV} {r : Rho} {x : Str} {i : Nat} {u : Rho → R Fl} {f : Rho → R PyData} {fa : Rho → R (List PyData)} {hf : Nat → Option PyData → Rho → R Fl} {ρ : Rho} {T : FTab} {xs : List Str} {q : Nat × (List PyData → R PyData)} {sx : SV} {is : List Nat} {ss : List SV} {ds : List PyData}
@[simp] theorem getF_z : getF (some (.fn x) :: r) 0 = .ok x := rfl
@[simp] theorem getF_1 : getF (a :: r) 1 = getF r 0 := rfl
@[simp] theorem getF_2 : getF (a :: r) 2 = getF r 1 := rfl
@[simp] theorem getF_3 : getF (a :: r) 3 = getF r 2 := rfl
@[simp] theorem getF_4 : getF (a :: r) 4 = getF r 3 := rfl
@[simp] theorem getF_5 : getF (a :: r) 5 = getF r 4 := rfl
@[simp] theorem getF_6 : getF (a :: r) 6 = getF r 5 := rfl
@[simp] theorem getF_7 : getF (a :: r) 7 = getF r 6 := rfl
@[simp] theorem getF_8 : getF (a :: r) 8 = getF r 7 := rfl
@[simp] theorem getF_9 : getF (a :: r) 9 = getF r 8 := rfl
@[simp] theorem getF_10 : getF (a :: r) 10 = getF r 9 := rfl
@[simp] theorem getF_11 : getF (a :: r) 11 = getF r 10 := rfl
@[simp] theorem getF_12 : getF (a :: r) 12 = getF r 11 := rfl
@[simp] theorem getF_13 : getF (a :: r) 13 = getF r 12 := rfl
@[simp] theorem getF_14 : getF (a :: r) 14 = getF r 13 := rfl
@[simp] theorem getF_15 : getF (a :: r) 15 = getF r 14 := rfl
@[simp] theorem getF_16 : getF (a :: r) 16 = getF r 15 := rfl
@[simp] theorem getF_17 : getF (a :: r) 17 = getF r 16 := rfl
@[simp] theorem getF_18 : getF (a :: r) 18 = getF r 17 := rfl
@[simp] theorem getF_19 : getF (a :: r) 19 = getF r 18 := rfl
@[simp] theorem getF_20 : getF (a :: r) 20 = getF r 19 := rfl
@[simp] theorem getF_21 : getF (a :: r) 21 = getF r 20 := rfl
@[simp] theorem getF_22 : getF (a :: r) 22 = getF r 21 := rfl
@[simp] theorem getF_23 : getF (a :: r) 23 = getF r 22 := rfl
@[simp] theorem getF_24 : getF (a :: r) 24 = getF r 23 := rfl
@[simp] theorem getF_25 : getF (a :: r) 25 = getF r 24 := rfl
@[simp] theorem getF_26 : getF (a :: r) 26 = getF r 25 := rfl
@[simp] theorem getF_27 : getF (a :: r) 27 = getF r 26 := rfl
@[simp] theorem getF_28 : getF (a :: r) 28 = getF r 27 := rfl
@[simp] theorem getF_29 : getF (a :: r) 29 = getF r 28 := rfl
@[simp] theorem getF_30 : getF (a :: r) 30 = getF r 29 := rfl
@[simp] theorem ap_fTryE : fTryE f hf ρ = (f ρ).tryc (fun _ => .ok (.nx ρ)) fun c y => hf c y ρ := rfl
@[simp] theorem ap_fTryA : fTryA i f hf ρ = (f ρ).tryc (fun d => .ok (.nx (ρ.set i (some (.d d))))) fun c y => hf c y ρ := rfl
@[simp] theorem ap_fTryR : fTryR f hf ρ = (f ρ).tryc (fun d => .ok (.rt d ρ)) fun c y => hf c y ρ := rfl
@[simp] theorem forN_nil : forN i u [] ρ = .ok (.nx ρ) := rfl
@[simp] theorem forN_cons : forN i u (x :: xs) ρ = (u (ρ.set i (some (.fn x)))).bind fun f => match f with
    | .nx ρ' => forN i u xs ρ'
    | .ct ρ' => forN i u xs ρ'
    | .bk ρ' => .ok (.nx ρ')
    | .rt e ρ' => .ok (.rt e ρ')
    | .rf e ρ' => .ok (.rf e ρ') := rfl
@[simp] theorem ap_callF : callF T i fa ρ = (getF ρ i).bind fun y => match findT T y with
  | some q => (fa ρ).bind (chk q.1 q.2)
  | none => .bad := rfl
@[simp] theorem findT_cons {y : Str} : findT ((y, q) :: T) x = if y = x then some q else findT T x := rfl
@[simp] theorem ap_parM {fm : Rho → R (List SV)} : parM is fm ρ = (fm ρ).bind fun xs => .ok (.nx (setsR is xs ρ)) := rfl
@[simp] theorem setsR_nil : setsR [] ss ρ = ρ := by unfold setsR; rfl
@[simp] theorem setsR_cons : setsR (i :: is) (sx :: ss) ρ = setsR is ss (ρ.set i (some sx)) := rfl
@[simp] theorem revT_t : revT (.tuple ds) = .ok (.tuple ds.reverse) := rfl
@[simp] theorem revL_l : revL (.list ds) = .ok (.list ds.reverse) := rfl
end
end DL
set_option Elab.async false
set_option linter.all false
set_option maxRecDepth 100000
set_option maxHeartbeats 1000000
namespace G
/-! k12: claims in plain Lean -/
inductive Cl where
  | none (a : Int) | some (a : Int) | even (a : Int) | first (a : Int) | last (a : Int) | beside (a b : Int)
def gd (a s : Int) : Int := if s = a then 1 else 0
/-- the note behind one stand more -/
def stepC (c : Cl) (n s : Int) : Int := match c with
  | .none a => if gd a s = 1 then 1 else n
  | .some a => if gd a s = 1 then 1 else n
  | .even a => (n + gd a s) % 2
  | .first a => if n > 0 then n else 2 - gd a s
  | .last a => gd a s
  | .beside a b => if n = 2 ∨ (n = 1 ∧ s = b) then 2 else gd a s
def noteC (c : Cl) (w : List Int) : Int := w.foldl (stepC c) 0
def goodN (c : Cl) : Int := match c with
  | .none _ => 0 | .some _ => 1 | .even _ => 0 | .first _ => 1 | .last _ => 1 | .beside _ _ => 2
/-- what the law says -/
def soC (c : Cl) (w : List Int) : Bool := match c with
  | .none a => decide (w.count a = 0)
  | .some a => decide (w.count a > 0)
  | .even a => decide (w.count a % 2 = 0)
  | .first a => decide (w.head? = Option.some a)
  | .last a => decide (w.getLast? = Option.some a)
  | .beside a b => decide ((a, b) ∈ w.zip w.tail)
theorem gd_01 (a s : Int) : gd a s = 0 ∨ gd a s = 1 := by unfold gd; split <;> simp
theorem noteC_snoc (c : Cl) (w : List Int) (s : Int) : noteC c (w ++ [s]) = stepC c (noteC c w) s := by unfold noteC; rw [List.foldl_append]; rfl
theorem zip_tail_snoc {a b : Int} : ∀ (w : List Int) (s : Int), (a, b) ∈ (w ++ [s]).zip (w ++ [s]).tail ↔ (a, b) ∈ w.zip w.tail ∨ (w.getLast? = Option.some a ∧ s = b)
  | [], s => by simp
  | [x], s => by simp [eq_comm]
  | x :: y :: w, s => by
    have ih := zip_tail_snoc (a := a) (b := b) (y :: w) s
    simp only [List.cons_append, List.tail_cons, List.zip_cons_cons, List.mem_cons] at ih ⊢
    rw [ih, List.getLast?_cons_cons]
    constructor
    · rintro (h | h | h)
      · exact .inl (.inl h)
      · exact .inl (.inr h)
      · exact .inr h
    · rintro ((h | h) | h)
      · exact .inl h
      · exact .inr (.inl h)
      · exact .inr (.inr h)
theorem snocInd {P : List Int → Prop} (h0 : P []) (h1 : ∀ w s, P w → P (w ++ [s])) (w : List Int) : P w := by
  have h : ∀ v : List Int, P v.reverse := fun v => by
    induction v with
    | nil => exact h0
    | cons x v ih => rw [List.reverse_cons]; exact h1 _ _ ih
  have := h w.reverse
  rwa [List.reverse_reverse] at this
theorem count_snoc (a : Int) (w : List Int) (s : Int) : (w ++ [s]).count a = w.count a + (if s = a then 1 else 0) := by
  rw [List.count_append, List.count_cons, List.count_nil]
  by_cases h : s = a <;> simp [h]
theorem note_some (a : Int) : ∀ w, noteC (.some a) w = if w.count a = 0 then 0 else 1 := by
  refine snocInd rfl fun w s ih => ?_
  rw [noteC_snoc, ih, count_snoc]
  unfold stepC gd
  by_cases h : s = a <;> simp [h]
theorem note_none (a : Int) : ∀ w, noteC (.none a) w = if w.count a = 0 then 0 else 1 := by
  refine snocInd rfl fun w s ih => ?_
  rw [noteC_snoc, ih, count_snoc]
  unfold stepC gd
  by_cases h : s = a <;> simp [h]
theorem note_even (a : Int) : ∀ w, noteC (.even a) w = ((w.count a % 2 : Nat) : Int) := by
  refine snocInd rfl fun w s ih => ?_
  rw [noteC_snoc, ih, count_snoc]
  unfold stepC gd
  by_cases h : s = a
  · simp only [h, if_true]; omega
  · simp only [h, if_false]; omega
theorem note_first (a : Int) : ∀ w, noteC (.first a) w = match w.head? with | Option.none => 0 | Option.some x => if x = a then 1 else 2 := by
  refine snocInd rfl fun w s ih => ?_
  rw [noteC_snoc, ih]
  unfold stepC gd
  cases w with
  | nil =>
    simp only [List.nil_append, List.head?_cons, List.head?_nil]
    by_cases h : s = a <;> simp [h]
  | cons x w =>
    simp only [List.cons_append, List.head?_cons]
    by_cases h : x = a <;> simp [h]
theorem note_last (a : Int) : ∀ w, noteC (.last a) w = match w.getLast? with | Option.none => 0 | Option.some x => gd a x := by
  refine snocInd rfl fun w s ih => ?_
  rw [noteC_snoc]
  simp [stepC]
theorem step_beside (a b n s : Int) : stepC (.beside a b) n s = if n = 2 ∨ (n = 1 ∧ s = b) then 2 else gd a s := rfl
theorem note_beside (a b : Int) : ∀ w, noteC (.beside a b) w = if (a, b) ∈ w.zip w.tail then 2 else if w.getLast? = Option.some a then 1 else 0 := by
  refine snocInd (by simp [noteC]) fun w s ih => ?_
  have hl : (w ++ [s]).getLast? = Option.some s := by simp
  have hg : gd a s = if Option.some s = Option.some a then 1 else 0 := by unfold gd; by_cases h : s = a <;> simp [h]
  rw [noteC_snoc, ih, hl, step_beside, hg]
  have hz := zip_tail_snoc (a := a) (b := b) w s
  by_cases h1 : (a, b) ∈ w.zip w.tail
  · rw [if_pos h1, if_pos (hz.mpr (.inl h1)), if_pos (.inl rfl)]
  · rw [if_neg h1]
    by_cases h3 : w.getLast? = Option.some a
    · rw [if_pos h3]
      by_cases h4 : s = b
      · rw [if_pos (hz.mpr (.inr ⟨h3, h4⟩)), if_pos (.inr ⟨rfl, h4⟩)]
      · have h2 : (a, b) ∉ (w ++ [s]).zip (w ++ [s]).tail := fun z => (hz.mp z).elim h1 fun q => h4 q.2
        rw [if_neg h2, if_neg]
        rintro (z | z)
        · exact absurd z (by decide)
        · exact h4 z.2
    · rw [if_neg h3]
      have h2 : (a, b) ∉ (w ++ [s]).zip (w ++ [s]).tail := fun z => (hz.mp z).elim h1 fun q => h3 q.1
      rw [if_neg h2, if_neg]
      rintro (z | z)
      · exact absurd z (by decide)
      · exact absurd z.1 (by decide)
/-- THE PLAIN LAW: the note at the end tells what the law says -/
theorem good_so (c : Cl) (w : List Int) : decide (noteC c w = goodN c) = soC c w := by
  cases c with
  | none a => unfold goodN soC; rw [note_none]; split <;> simp_all
  | some a =>
    rw [note_some]
    show decide ((if w.count a = 0 then (0 : Int) else 1) = 1) = decide (w.count a > 0)
    by_cases h : w.count a = 0
    · rw [if_pos h, h]; rfl
    · rw [if_neg h, decide_eq_true (Nat.pos_of_ne_zero h)]; rfl
  | even a =>
    rw [note_even]
    show decide (((w.count a % 2 : Nat) : Int) = 0) = decide (w.count a % 2 = 0)
    exact decide_eq_decide.mpr ⟨fun h => Int.ofNat.inj h, fun h => by rw [h]; rfl⟩
  | first a =>
    unfold goodN soC
    rw [note_first]
    cases w with
    | nil => rfl
    | cons x w => by_cases h : x = a <;> simp [h]
  | last a =>
    unfold goodN soC
    rw [note_last]
    cases h : w.getLast? with
    | none => rfl
    | some x => by_cases h : x = a <;> simp [gd, h]
  | beside a b =>
    unfold goodN soC
    rw [note_beside]
    by_cases h : (a, b) ∈ w.zip w.tail
    · simp [h]
    · by_cases h2 : w.getLast? = Option.some a <;> simp [h, h2]
end G
set_option Elab.async false
set_option linter.all false
set_option maxRecDepth 100000
set_option maxHeartbeats 1000000
namespace DL
open PySem PySem.Spec PyProof.Rows L2
/-! ### lambdas handed to defs -/
/-- the object at f is the lambda F with the body e -/
def LamO (f : Addr) (F : NdefX.NF) (e : Expr) : HO := .ext fun h => ∃ (od : Option Addr) (sl : Array (Option Value)) (pm ctv : Value), h.get? f = some (⟨.type "function", od, .func (PySem.W.kla_fn F.name F.qual F.params e F.scope F.cl pm (.ref F.c) ctv), sl⟩ : Obj)
theorem lamO_at {P : Program} {w : World} {H : Hp} {h : Heap} {f : Addr} {F : NdefX.NF} {e : Expr} (hok : HOk P w H h) (q : H f = some (LamO f F e)) : ∃ (od : Option Addr) (sl : Array (Option Value)) (pm ctv : Value), h.get? f = some (⟨.type "function", od, .func (PySem.W.kla_fn F.name F.qual F.params e F.scope F.cl pm (.ref F.c) ctv), sl⟩ : Obj) := by
  obtain ⟨z, _, _⟩ := hok f _ q
  exact z
theorem lamO_fnAt {P : Program} {w : World} {H : Hp} {h : Heap} {f : Addr} {F : NdefX.NF} {e : Expr} (hok : HOk P w H h) (q : H f = some (LamO f F e)) : PySem.W.FnAt f h := by
  obtain ⟨od, sl, pm, ctv, ho⟩ := lamO_at hok q
  exact ⟨_, od, _, sl, ho⟩
section
variable {X : Cx} {pins : List (Addr × Obj)} {σ : L2.St} {H : Hp} {s : Shared}
theorem inv_lam {F : NdefX.NF} {e : Expr} {o : Obj} {t' : Nat} {pm ctv : Value} (I : Inv X pins σ H s) (ho : o = { cls := .type "function", data := .func (PySem.W.kla_fn F.name F.qual F.params e F.scope F.cl pm (.ref F.c) ctv) }) :
    Inv X pins σ (upd H s.heap.objs.size (LamO s.heap.objs.size F e)) { s with heap := s.heap.push o, toks := t' } := by
  subst ho
  refine I.laid (a := s.heap.objs.size) (fun b u e => Heap.get?_push_of_some _ e) (Nat.le_refl _) ?_
  have e1 : (s.heap.push ({ cls := .type "function", data := .func (PySem.W.kla_fn F.name F.qual F.params e F.scope F.cl pm (.ref F.c) ctv) } : Obj)).get? s.heap.objs.size = some ({ cls := .type "function", data := .func (PySem.W.kla_fn F.name F.qual F.params e F.scope F.cl pm (.ref F.c) ctv) } : Obj) := Heap.get?_push_size _ rfl
  exact ⟨⟨_, _, pm, ctv, e1⟩, ⟨_, e1⟩, fun h1 h2 ⟨od, sl, p, t, z⟩ st => ⟨od, sl, p, t, st _ z⟩⟩
/-- the lambda's words -/
def lamF (X : Cx) (params : Arguments) (scope : Scope) (c' : Addr) : NdefX.NF := ⟨"<lambda>", X.env.qual ++ "<lambda>", params, [], scope, cloFrom X.env.cells scope.names [], c'⟩
theorem lam_make3 {T : List (Addr × Str)} {c P : Addr} {params : Arguments} {body : Expr} {scope : Scope} {pos : Pos} {E : Value → Shared → Prop} {Q : Value → Shared → Prop} (I : Inv X pins σ H s) (TB : LamX.TabB X.base X.mg c P) (hcode : X.env.code = .ref c)
    (hm : (P, X.env.qual ++ "<lambda>") ∈ T) (hu : ∀ p ∈ T, p.1 = P → p.2 = X.env.qual ++ "<lambda>") (hT : LamX.Tabs T H) (hdef : defaultsOf params X.env = ([], [])) (hfree : ∀ y ∈ scope.names, y.2 = .free → ∃ c, X.env.cells.lookup y.1 = some c)
    (h : ∀ (f c' : Addr) (H1 : Hp) (s' : Shared), Inv X pins σ H1 s' → (∀ b o, b ≠ P → H b = some o → H1 b = some o) → LamX.Tabs T H1 → H f = none → H1 f = some (LamO f (lamF X params scope c') body) → H1 c' = some (LamX.CodeO c' (X.env.qual ++ "<lambda>")) → Q (.ref f) s') :
    wpAny (model X.prog X.w) X.A (eval (.Lambda params body scope pos) X.env) Q E s := by
  obtain ⟨ps, hP, ht, ha⟩ := hT _ hm
  refine PySem.W.kla_eval hdef ?_
  have bP : s.heap.BuiltinsAt X.mg P := TB.bm.keeps I.bk
  have hP' : s.heap.get? P = some { cls := .none, data := .fields ps } := I.hok P _ hP
  cases hc : codeAmong pos ps.toList with
  | none =>
    refine PySem.W.kla_makeFunction (mg := X.mg) (c := c) (P := P) (ps := ps) (closure_ok hfree) I.ok.glob (I.mod.glob.keeps I.bk) hcode (TB.code.keeps I.bk) hP' ht hc TB.gP bP fun c' ctv h' tk hx hge hlt hrec htb => ?_
    obtain ⟨c2, oc, vs, t, e2, hoc, hd, hv⟩ := hrec
    cases e2
    have hsz : s.heap.objs.size ≤ h'.objs.size := Nat.le_trans hge (Nat.le_of_lt hlt)
    have nC : H c' = none := I.hok.fresh hge
    have I1 := LamX.inv_table (t' := tk) (more := #[rawInt pos.line, rawInt pos.col, .ref c']) (h' := h') I hP (fun b o hb e => hx b o hb e) htb hge ⟨oc, vs, t, hoc, hd, hv⟩
    have hE : ∀ b o, b ≠ P → H b = some o → upd (upd H P (.tbl (ps ++ #[rawInt pos.line, rawInt pos.col, .ref c']))) c' (LamX.CodeO c' (X.env.qual ++ "<lambda>")) b = some o := fun b o n e => by
      rw [upd_ne (ne_of_none e nC), upd_ne n]
      exact e
    have eL : (ps ++ #[rawInt pos.line, rawInt pos.col, .ref c']).toList = ps.toList ++ [rawInt pos.line, rawInt pos.col, .ref c'] := by simp
    have nCP : ∀ c0 q, H c0 = some (LamX.CodeO c0 q) → c0 ≠ P := fun c0 q e z => by
      rw [z, hP] at e
      exact LamX.codeO_ne ps (Option.some.inj e).symm
    have T1 : LamX.Tabs T (upd (upd H P (.tbl (ps ++ #[rawInt pos.line, rawInt pos.col, .ref c']))) c' (LamX.CodeO c' (X.env.qual ++ "<lambda>"))) := fun p hp => by
      by_cases hb : p.1 = P
      · rw [hu p hp hb, hb]
        refine ⟨_, by rw [upd_ne (ne_of_none hP nC), upd_same], by rw [eL]; exact PySem.TriplesOk_snoc _ _ _ _ ht, fun p' cv hcv => ?_⟩
        rw [eL] at hcv
        rcases LamX.among_app _ ht hcv with z | z
        · obtain ⟨c0, e1, e2⟩ := ha p' cv z
          exact ⟨c0, e1, hE _ _ (nCP _ _ e2) e2⟩
        · exact ⟨c', z, upd_same⟩
      · obtain ⟨ps', a1, a2, a3⟩ := hT p hp
        refine ⟨ps', by rw [upd_ne (ne_of_none a1 nC), upd_ne hb]; exact a1, a2, fun p' cv hcv => ?_⟩
        obtain ⟨c0, e1, e2⟩ := a3 p' cv hcv
        exact ⟨c0, e1, hE _ _ (nCP _ _ e2) e2⟩
    have nF := I1.hok.fresh (Nat.le_refl _)
    have I2 := inv_lam (F := lamF X params scope c') (e := body) (t' := tk) (pm := (X.mg "__name__").getD .none) (ctv := ctv) I1 rfl
    refine h h'.objs.size c' _ _ I2 (fun b o n e => ?_) (T1.ext fun b o e => ?_) (I.hok.fresh hsz) upd_same ?_
    · have e1 := hE b o n e
      exact (upd_ne (ne_of_none e1 nF)).trans e1
    · exact (upd_ne (ne_of_none e nF)).trans e
    · exact (upd_ne (Nat.ne_of_lt hlt)).trans upd_same
  | some cv =>
    obtain ⟨c', e, hco⟩ := ha pos cv hc
    subst e
    refine PySem.W.kla_makeFunctionHit (mg := X.mg) (c := c) (P := P) (ps := ps) (closure_ok hfree) I.ok.glob (I.mod.glob.keeps I.bk) hcode (TB.code.keeps I.bk) hP' ht hc bP fun ctv h' tk hx hsz => ?_
    have I1 : Inv X pins σ H { s with heap := h', toks := tk } := I.kept hx
    have nF : H h'.objs.size = none := I1.hok.fresh (Nat.le_refl _)
    have I2 := inv_lam (F := lamF X params scope c') (e := body) (t' := tk) (pm := (X.mg "__name__").getD .none) (ctv := ctv) I1 rfl
    refine h h'.objs.size c' _ _ I2 (fun b o n e => ?_) (hT.ext fun b o e => ?_) nF upd_same ?_
    · exact (upd_ne (ne_of_none e nF)).trans e
    · exact (upd_ne (ne_of_none e nF)).trans e
    · exact (upd_ne (ne_of_none hco nF)).trans hco
end
/-! ### what a lambda promises to those whom it is handed to -/
/-- P outer s0 H0: the def that got it, its callers, its entry -/
structure LamC (P : Program) (w : World) (K : PySem.W.Frag) (mg : Str → Option Value) (base : Heap) (outer : List Env) (ex : List Addr) (s0 : Shared) (H0 : Hp) (ec : EC) (k : Nat) (lm : LamD) (n : Nat) (FL : List PyData → R PyData) : Prop where
  at_ : ∀ (s : Shared) (H : Hp), HOk P w H s.heap → (∀ p, p ∈ lm.obs → H p.1 = some p.2) → PySem.W.FnAt lm.fl s.heap
  run : ∀ (A : Around) (out : List Env) (s : Shared) (H : Hp) (us : List Value) (vs : List V) (Q : VK) (E : XK), Room k A → Env0 P w K mg base A out s H → Un (frs outer) ex H0 H s0.heap s.heap → Vals vs us → vs.length = n →
    (∃ (S : Srcs ec.tabs) (M : List Addr) (ds : List PyData), DpAll K (hid M H) vs ds ∧ LamAt K lm S M H ∧ Met S M H ∧ Post S K ec (dV K M) M E H Q (FL ds)) → codeAny (model P w) A (.call (.ref lm.fl) ⟨us, []⟩) (CR (L2.CX P w) out P w H s Q E) s
abbrev LamCX (X : Cx) (ec : EC) (k : Nat) (n : Nat) (FL : List PyData → R PyData) : Prop := LamC X.prog X.w X.K X.mg X.base X.outer X.ex X.s_0 X.H_0 ec k ec.lam n FL
def getL (ρ : Rho) (i : Nat) : R Unit := match ρ[i]? with
  | some (some .lam) => .ok ()
  | _ => .bad
theorem getL_case {ρ : Rho} {i : Nat} : (ρ[i]? = some (some .lam) ∧ getL ρ i = .ok ()) ∨ getL ρ i = .bad := by
  unfold getL
  split
  · rename_i h
    exact .inl ⟨h, rfl⟩
  · exact .inr rfl
def callL (i n : Nat) (FL : List PyData → R PyData) (fa : Rho → R (List PyData)) : Rho → R PyData := fun ρ => (getL ρ i).bind fun _ => (fa ρ).bind (chk n FL)
section
variable {X : Cx} {ec : EC} {Ef : L2.St → XK} {O : List Nat} {e : Expr} {es : List Expr} {fa : Rho → R (List PyData)} {FL : List PyData → R PyData} {k n i : Nat} {a : Str} {p pos : Pos}
theorem run_lam {pins : List (Addr × Obj)} {σ : L2.St} {H : Hp} {s : Shared} {Q : VK} {us : List Value} {vs : List V} (C : LamCX X ec k n FL) (hr : Room k X.A) (hx : PassesAt (L2.CX X.prog X.w) X σ (Ef σ)) (I : Inv X pins σ H s) (r : Vals vs us) (hl : vs.length = n)
    (q : ∃ (S : Srcs ec.tabs) (M : List Addr) (ds : List PyData), DpAll X.K (hid M H) vs ds ∧ LamAt X.K ec.lam S M H ∧ Met S M H ∧ Post S X.K ec (dV X.K M) M (Ef σ) H Q (FL ds)) :
    wpAny (model X.prog X.w) X.A (call (.ref ec.lam.fl) us) (EP X pins σ Q) X.xe s := by
  refine wpAny_call (codeAny_mono (C.run X.A X.stack s H us vs Q (Ef σ) hr I.env0 I.base r hl q) fun r s' hq => ?_)
  cases r with
  | error e => exact hx pins H s e s' I hq
  | ok fl =>
    cases fl with
    | ret u => exact I.after hq
    | next => exact False.elim hq
    | brk => exact False.elim hq
    | cont => exact False.elim hq
/-- a(..), a holds the lambda -/
theorem de_act (C : LamCX X ec k n FL) (hr : Room k X.A) (hp : PassE X Ef) (hN : X.N[i]? = some a) (hv : Vis X.env.scope a) (ha : DA X ec Ef O (e :: es) fa) (hi : i ∉ O := by decide)
    (hd : (a == ("__debug__" : Str)) = false := by decide) (hcd : (a == ("__classdict__" : Str)) = false := by decide)
    (he : starEach (e :: es) X.env = (false, eval e X.env) :: starEach es X.env := by rfl) (hpl : (backTo pos (starEach es X.env)).any (·.1) = false := by rfl) :
    DE X ec Ef O (.Call (.Name a p) (e :: es) [] pos) (callL i n FL fa) := by
  refine ⟨⟨fun pins s σ H Q I h => ?_⟩⟩
  obtain ⟨B, P, Z, ρ, hE, q⟩ := h
  have q : Post B.S X.K ec (dV X.K (P ++ Z)) (P ++ Z) (Ef σ) H Q ((getL ρ i).bind fun _ => (fa ρ).bind (chk n FL)) := q
  rcases getL_case (ρ := ρ) (i := i) with ⟨h1, h2⟩ | h2
  · rw [h2, R.ok_bind] at q
    obtain ⟨hs, la⟩ := hE.lam i hi h1
    refine wpAny_Call_Name_kw (thn ((pe_var (pos := p) hN hv hd hcd).run pins s σ H (fun v H1 => v = .ref ec.lam.fl ∧ H1 = H) I ⟨_, hs, rfl, rfl⟩) fun u s1 ⟨v, H1, I1, r1, q1⟩ => ?_)
    obtain ⟨rfl, rfl⟩ := q1
    obtain rfl : u = Value.ref ec.lam.fl := r1
    refine PySem.W.callWith_F (first := []) (C.at_ _ _ I1.hok la.obs) (thn (ha.pa.run pos pins s1 σ _ _ I1 ⟨B, P, Z, ρ, hE, Post.bind q⟩) fun us s2 ⟨vs, H2, I2, r, ds, _, s3, d3, q3⟩ => ?_) he hpl
    have la2 := la.gr s3 s3.vis
    refine ⟨C.at_ _ _ I2.hok la2.obs, ?_⟩
    show wpAny _ _ (call (.ref ec.lam.fl) us) _ _ _
    unfold chk at q3
    by_cases hn : ds.length = n
    · rw [if_pos hn] at q3
      exact run_lam C hr (hp σ) I2 r ((dpa_len d3).trans hn) ⟨B.S, P ++ Z, ds, d3, la2, (hE.same s3).met, q3⟩
    · rw [if_neg hn] at q3; exact q3.elim
  · rw [h2] at q
    exact q.elim
theorem de_act0 (C : LamCX X ec k 0 FL) (hr : Room k X.A) (hp : PassE X Ef) (hN : X.N[i]? = some a) (hv : Vis X.env.scope a) (hi : i ∉ O := by decide)
    (hd : (a == ("__debug__" : Str)) = false := by decide) (hcd : (a == ("__classdict__" : Str)) = false := by decide) :
    DE X ec Ef O (.Call (.Name a p) [] [] pos) (callL i 0 FL fun _ => .ok []) := by
  refine ⟨⟨fun pins s σ H Q I h => ?_⟩⟩
  obtain ⟨B, P, Z, ρ, hE, q⟩ := h
  have q : Post B.S X.K ec (dV X.K (P ++ Z)) (P ++ Z) (Ef σ) H Q ((getL ρ i).bind fun _ => FL []) := q
  rcases getL_case (ρ := ρ) (i := i) with ⟨h1, h2⟩ | h2
  · rw [h2, R.ok_bind] at q
    obtain ⟨hs, la⟩ := hE.lam i hi h1
    refine wpAny_Call_Name_kw (thn ((pe_var (pos := p) hN hv hd hcd).run pins s σ H (fun v H1 => v = .ref ec.lam.fl ∧ H1 = H) I ⟨_, hs, rfl, rfl⟩) fun u s1 ⟨v, H1, I1, r1, q1⟩ => ?_)
    obtain ⟨rfl, rfl⟩ := q1
    obtain rfl : u = Value.ref ec.lam.fl := r1
    refine PySem.W.callWith_F0 (first := []) (C.at_ _ _ I1.hok la.obs) ?_
    show wpAny _ _ (call (.ref ec.lam.fl) []) _ _ _
    exact run_lam C hr (hp σ) I1 .nil rfl ⟨B.S, P ++ Z, [], .nil, la, hE.met, q⟩
  · rw [h2] at q
    exact q.elim
end
/-! ### the maker's side -/
def capL (ρ : Rho) : List Nat → Option (List PyData)
  | [] => some []
  | j :: js => match ρ[j]? with
    | some (some (.d d)) => (capL ρ js).map (d :: ·)
    | _ => none
theorem cap_ok {K : PySem.W.Frag} {B : BB tt lm} {O : List Nat} {P Z : List Addr} {σ : L2.St} {H : Hp} {ρ : Rho} (hE : EnvOk K B O P Z σ H ρ) : ∀ {js : List Nat} {cs : List PyData}, (∀ j, j ∈ js → j ∉ O) → capL ρ js = some cs → ∃ cvs, js.map (NdefX.slotAt σ) = cvs.map some ∧ DpAll K (hid (P ++ Z) H) cvs cs
  | [], cs, _, h => by cases h; exact ⟨[], rfl, .nil⟩
  | j :: js, cs, hO, h => by
    unfold capL at h
    split at h
    · rename_i d e
      obtain ⟨cs', h1, rfl⟩ := Option.map_eq_some_iff.mp h
      obtain ⟨cvs, h2, h3⟩ := cap_ok hE (fun j hj => hO j (List.mem_cons_of_mem _ hj)) h1
      obtain ⟨v, h4, h5⟩ := hE.oth j (.d d) (hO j List.mem_cons_self) rfl e
      exact ⟨v :: cvs, by rw [List.map_cons, List.map_cons, h2, NdefX.slotAt_of h4], .cons h5 h3⟩
    · cases h
/-- what the lambda makes of its arguments -/
def lamR (n : Nat) (fb : Rho → R PyData) (cs ds : List PyData) : R PyData := fb (((ds ++ cs).map SV.d).map some ++ List.replicate (n - ((ds ++ cs).map SV.d).length) none)
theorem ext_ns {tt : TTab} {S : Srcs tt} {H : Hp} {a : Addr} {o : HO} (so : SrcOk S H) (h : H a = some o) (hl : ∀ xs, o ≠ .lst xs) (ht : ∀ ps, o ≠ .tbl ps) : a ∉ S := fun z => by
  rcases List.mem_append.mp z with z | z
  · obtain ⟨x, y, _, _, e⟩ := so.src a z
    rw [h] at e
    exact hl _ (Option.some.inj e)
  · obtain ⟨p, hp, rfl⟩ := List.mem_map.mp z
    obtain ⟨ps, e, _⟩ := so.tab p hp
    rw [h] at e
    exact ht _ (Option.some.inj e)
theorem lamO_nl {f : Addr} {F : NdefX.NF} {e : Expr} (xs : List V) : LamO f F e ≠ .lst xs := fun z => by
  unfold LamO at z
  cases z
theorem lamO_nt {f : Addr} {F : NdefX.NF} {e : Expr} (xs : Array Value) : LamO f F e ≠ .tbl xs := fun z => by
  unfold LamO at z
  cases z
theorem codeO_nl {c : Addr} {q : Str} (xs : List V) : LamX.CodeO c q ≠ .lst xs := fun z => by
  unfold LamX.CodeO at z
  cases z
theorem lamO_nc {f : Addr} {F : NdefX.NF} {e : Expr} : ¬ Chg (LamO f F e) := fun z => z
theorem codeO_nc {c : Addr} {q : Str} : ¬ Chg (LamX.CodeO c q) := fun z => z
theorem cellsAt_un {cl : List (Str × Addr)} {fr : List Str} {ws : List (Option V)} {fs : List Addr} {H H' : Hp} {h h' : Heap} (C : NdefX.CellsAt cl fr ws h H) (un : Un fs [] H H' h h') : NdefX.CellsAt cl fr ws h' H' := by
  have kp : ∀ y c, cl.lookup y = some c → ∀ v, h.IsCell c v → h'.IsCell c v := fun y c e v ⟨o, ho, hd⟩ => by
    obtain ⟨sl, q⟩ := un.any ho (C.all y c e).1 (by simp)
    exact ⟨_, q, hd⟩
  refine ⟨C.len, fun y c e => ?_, C.inj, fun i y e => ?_⟩
  · obtain ⟨n, v, z⟩ := C.all y c e
    refine ⟨?_, v, kp y c e v z⟩
    obtain ⟨o, ho, _⟩ := z
    exact un.free c o ho n (by simp)
  · obtain ⟨c, hc, hv⟩ := C.has i y e
    refine ⟨c, hc, fun v ev => ?_⟩
    obtain ⟨u, r, z⟩ := hv v ev
    exact ⟨u, r, kp y c hc _ z⟩
theorem startF_eq (N : List Str) (vs cvs : List V) : NdefX.startF N vs (cvs.map some) = L2.start N (vs ++ cvs) := by
  unfold NdefX.startF L2.start
  rw [List.map_append, List.append_assoc, List.length_append, List.length_map, Nat.sub_sub]
/-- the body's derivation -/
abbrev LamBody (P : Program) (w : World) (K : PySem.W.Frag) (mg : Str → Option Value) (base : Heap) (ec : EC) (N : List Str) (F : NdefX.NF) (f : Addr) (e : Expr) (k : Nat) (fb : Rho → R PyData) : Prop :=
  ∀ (A : Around) (outer : List Env) (s : Shared) (H : Hp) (E : XK), Room k (A.deeper (NdefX.envF F f s.heap.objs.size)) → PassE (NdefX.ncx (L2.CX P w) P w K mg base N F f A outer s H E) (fun _ => E) → DE (NdefX.ncx (L2.CX P w) P w K mg base N F f A outer s H E) ec (fun _ => E) [] e fb
/-- the objects of a lambda -/
def lamD (f : Addr) (F : NdefX.NF) (e : Expr) (cvs : List V) (cs : List PyData) : LamD := ⟨f, [(f, LamO f F e), (F.c, LamX.CodeO F.c F.qual)], cvs, cs⟩
theorem lamD_at {f : Addr} {F : NdefX.NF} {e : Expr} {cvs : List V} {cs : List PyData} {H : Hp} (h1 : H f = some (LamO f F e)) (h2 : H F.c = some (LamX.CodeO F.c F.qual)) : ∀ p, p ∈ (lamD f F e cvs cs).obs → H p.1 = some p.2 := fun p hp => by
  rcases List.mem_cons.mp hp with z | hp
  · rw [z]; exact h1
  · rcases List.mem_cons.mp hp with z | hp
    · rw [z]; exact h2
    · cases hp
section
variable {X : Cx} {ec : EC} {O : List Nat} {N ps fr : List Str} {params : Arguments} {scope : Scope} {e : Expr} {f c' : Addr} {js : List Nat} {k : Nat} {fb : Rho → R PyData} {pins : List (Addr × Obj)} {σ : L2.St} {H : Hp} {s : Shared} {B : BB ec.tabs ec.lam} {P Z : List Addr} {ρ : Rho} {cs : List PyData}
theorem lamC_of (S : NdefX.NScope N ps fr scope) (hb : ∀ (q : Str) (cl : List (Str × Addr)) (pm cv ctv : Value) (us : List Value), us.length = ps.length → bindArgs (PySem.W.kla_fn "<lambda>" q params e scope cl pm cv ctv) ⟨us, []⟩ = pure (ps.zip us))
    (hfree : ∀ y ∈ scope.names, y.2 = .free → X.env.scope.names.lookup y.1 = some .cell ∨ X.env.scope.names.lookup y.1 = some .free) (hfr : ∀ y ∈ fr, (y, NameKind.free) ∈ scope.names) (hjs : js.map (fun j => X.N[j]?) = fr.map some) (hO : ∀ j, j ∈ js → j ∉ O)
    (body : LamBody X.prog X.w X.K X.mg X.base ec N (lamF X params scope c') f e k fb) (I : Inv X pins σ H s) (hE : EnvOk X.K B O P Z σ H ρ) (hf : H f = some (LamO f (lamF X params scope c') e)) (hc : H c' = some (LamX.CodeO c' (X.env.qual ++ "<lambda>"))) (hcs : capL ρ js = some cs) :
    ∃ cvs, LamAt X.K (lamD f (lamF X params scope c') e cvs cs) B.S (P ++ Z) H ∧ ∀ l, LamC X.prog X.w X.K X.mg X.base X.stack [] s H { ec with lam := l } (k + 1) (lamD f (lamF X params scope c') e cvs cs) ps.length (lamR N.length fb cs) := by
  obtain ⟨cvs, hw, hcv⟩ := cap_ok hE hO hcs
  have ob : ∀ p, p ∈ (lamD f (lamF X params scope c') e cvs cs).obs → H p.1 = some p.2 := lamD_at hf hc
  refine ⟨cvs, ⟨ob, fun p hp => ?_, fun p hp => ?_, hcv⟩, fun l => ⟨fun s H hok h => lamO_fnAt hok (h _ List.mem_cons_self), fun A out s2 H2 us vs Q E hr e0 un r hl ⟨S2, M, ds, hd, la, m, p⟩ => ?_⟩⟩
  · rcases List.mem_cons.mp hp with z | hp
    · rw [z]; exact ext_ns hE.so hf lamO_nl lamO_nt
    · rcases List.mem_cons.mp hp with z | hp
      · rw [z]; exact ext_ns hE.so hc codeO_nl LamX.codeO_ne
      · cases hp
  · rcases List.mem_cons.mp hp with z | hp
    · rw [z]; exact lamO_nc
    · rcases List.mem_cons.mp hp with z | hp
      · rw [z]; exact codeO_nc
      · cases hp
  · have hf2 := la.obs _ List.mem_cons_self
    have hc2 : H2 c' = some (LamX.CodeO c' (X.env.qual ++ "<lambda>")) := la.obs _ (List.mem_cons_of_mem _ List.mem_cons_self)
    obtain ⟨od, sl, pm, ctv, ho⟩ := lamO_at e0.hok hf2
    have C0 : NdefX.CellsAt (cloFrom X.env.cells scope.names []) fr (cvs.map some) s2.heap H2 := by
      have q := NdefX.cells_of I (NdefX.Caps.made (scope := scope) I.ok hfree hfr hjs)
      rw [hw] at q
      exact cellsAt_un q un
    have lim : s2.heap.NoLimit := e0.mod.nolimit.keeps fun b o e => (e0.bs b o e).1
    refine PySem.W.kla_callFunE hr.depth ho rfl S.co S.gen rfl (NdefX.codeO_at e0.hok hc2) ?_
    have hb2 : bindArgs (PySem.W.kla_fn (lamF X params scope c').name (lamF X params scope c').qual (lamF X params scope c').params e (lamF X params scope c').scope (lamF X params scope c').cl pm (.ref (lamF X params scope c').c) ctv) ⟨us, []⟩ = pure (ps.zip us) := hb _ _ _ _ _ _ (by rw [← r.length]; exact hl)
    rw [hb2]
    refine wpAny_pure (wpAny_newFunctionEnv S.nocell (fun ⟨n, _⟩ hy => S.par n (List.of_mem_zip hy).1) (fun h₁ hns hsb => ⟨lim.fresh _ hsb, ?_⟩) S.kind)
    show codeAny _ _ (.expr e (NdefX.envF (lamF X params scope c') f s2.heap.objs.size)) _ _
    have kp : ∀ b o, s2.heap.get? b = some o → h₁.get? b = some o := fun b o e => hsb.extBut b o (Nat.ne_of_lt (Heap.lt_size e)) (Heap.get?_push_of_some _ e)
    have J : Inv (NdefX.ncx (L2.CX X.prog X.w) X.prog X.w X.K X.mg X.base N (lamF X params scope c') f A out s2 H2 E) [] (NdefX.startF N vs (cvs.map some)) H2 { s2 with heap := h₁, toks := s2.toks + (ps.zip us).length } := NdefX.inv_startN (F := lamF X params scope c') S hr.hd e0 hl r C0 hns kp
    rw [startF_eq] at J
    have tk : Takes (NdefX.ncx (L2.CX X.prog X.w) X.prog X.w X.K X.mg X.base N (lamF X params scope c') f A out s2 H2 E) (fun cls d _ H => E cls d H) := takes_of rfl rfl rfl rfl
    have hE2 : EnvOk X.K (⟨hid S2 H2, hid M H2, S2⟩ : BB ec.tabs ec.lam) [] [] M (L2.start N (vs ++ cvs)) H2 (((ds ++ cs).map SV.d).map some ++ List.replicate (N.length - ((ds ++ cs).map SV.d).length) none) := env_start (sall_of (dpa_append hd la.caps)) m fun z => by simp at z
    refine PySem.W.kla_codeExpr (wpAny_mono ((body A out s2 H2 E (hr.deeper _) (fun σ => passAt tk σ)).pe.run [] _ _ H2 Q J ⟨_, _, _, _, hE2, p⟩) (fun v s' hq => ?_) fun e s' hq => hq)
    obtain ⟨w', H', J', rv, q⟩ := hq
    exact ⟨w', H', J'.os, J'.bare, J'.base, J'.hok, rv, q⟩
end
/-! ### defs that take a lambda -/
structure FnH (P : Program) (w : World) (K : PySem.W.Frag) (mg : Str → Option Value) (base : Heap) (ec : EC) (kl k n : Nat) (x : Str) (nl : Nat) (G : (List PyData → R PyData) → List SV → R PyData) : Prop where
  ex : ∃ (f : Addr) (fd : FuncData) (ps : List Str), ps.length = n ∧ mg x = some (.ref f) ∧ PySem.W.keepIn K (.ref f) = true ∧ Binds K fd ps [] ∧
    ∀ (lm : LamD) (FL : List PyData → R PyData) (A : Around) (outer : List Env) (s : Shared) (H : Hp) (us : List Value) (vs : List V) (Q : VK) (E : XK), Room k A → Env0 P w K mg base A outer s H → BindsTo s fd ⟨us, []⟩ (ps.zip us) → Vals vs us → LamC P w K mg base outer [] s H { ec with lam := lm } kl lm nl FL → vs.length = n →
      (∃ (S : Srcs ec.tabs) (M : List Addr) (ss : List SV), SAll K lm S (hid M H) vs ss ∧ Met S M H ∧ LamAt K lm S M H ∧ Post S K ec (dV K M) M E H Q (G FL ss)) → codeAny (model P w) A (.call (.ref f) ⟨us, []⟩) (CR (L2.CX P w) outer P w H s Q E) s
/-- a body's derivation -/
abbrev BodyH (P : Program) (w : World) (K : PySem.W.Frag) (mg : Str → Option Value) (base : Heap) (ec : EC) (qual : Str) (st : Stmt) (f : Addr) (N : List Str) (kl k nl : Nat) (FL : List PyData → R PyData) (g : Rho → R Fl) : Prop :=
  ∀ (cdv : Value) (A : Around) (outer : List Env) (s : Shared) (H : Hp) (E : XK), Room k (A.deeper (envOfC qual (defScope st) s.heap.objs.size f cdv)) → PassE (cxOf (L2.CX P w) P w K mg base N qual (defScope st) f cdv A outer s H E) (fun _ => E) →
      Takes (cxOf (L2.CX P w) P w K mg base N qual (defScope st) f cdv A outer s H E) (fun cls d _ H => E cls d H) → LamC P w K mg base outer [] s H ec kl ec.lam nl FL →
      DSs (cxOf (L2.CX P w) P w K mg base N qual (defScope st) f cdv A outer s H E) ec (fun _ => E) [] [] [] [] (defBody st) g
section
variable {P : Program} {w : World} {K : PySem.W.Frag} {mg : Str → Option Value} {base : Heap}
theorem fnH_of {ec : EC} {x qual : Str} {st : Stmt} {f : Addr} {fd : FuncData} {N ps : List Str} {kl k n nl : Nat} {g : (List PyData → R PyData) → Rho → R Fl} {G : (List PyData → R PyData) → List SV → R PyData} (Fn : FunD K x qual (defArgs st) (defBody st) (defScope st) [] [] f fd) (S : FnScope N ps (defScope st)) (hb : Binds K fd ps []) (hg : mg x = some (.ref f)) (hn : ps.length = n)
    (body : ∀ lm FL, BodyH P w K mg base { ec with lam := lm } qual st f N kl k nl FL (g FL)) (mir : ∀ FL ss, ss.length = n → R.le (G FL ss) (runS N.length (g FL) ss)) (hq : x = qual := by rfl) : FnH P w K mg base ec kl (k + 1) n x nl G := by
  subst hq
  have kp := Fn.kp
  obtain ⟨oc, od, dV, kV, doc, pm, an, cdv, ct, osl, rfl, lk, hcd, _, _⟩ := Fn.ex
  refine ⟨f, _, ps, hn, hg, kp, hb, fun lm FL A outer s H us vs Q E hr e0 hbt r C hl ⟨S2, M, ss, hd, m, la, p⟩ => ?_⟩
  refine LamX.run_ofS (N := N) (ps := ps) lk hcd S hr e0 hbt r (hl.trans hn.symm) fun hr' => ?_
  have tk : Takes (cxOf (L2.CX P w) P w K mg base N x (defScope st) f cdv A outer s H E) (fun cls d _ H => E cls d H) := takes_of rfl rfl rfl rfl
  exact ⟨_, (body lm FL cdv A outer s H E hr' (fun σ => passAt tk σ) tk C).ps, ⟨hid S2 H, hid M H, S2⟩, [], M, _, env_start hd m (fun _ => la), mir_of (ec := { ec with lam := lm }) m (mir FL ss ((sall_len hd).symm.trans hl)) p⟩
theorem sall_fl {tt : TTab} {lm lm' : LamD} {S : Srcs tt} {G : Hp} (h : lm.fl = lm'.fl) : ∀ {vs : List V} {ss : List SV}, SAll K lm S G vs ss → SAll K lm' S G vs ss
  | _, _, .nil => .nil
  | _, _, .d r t => .d r (sall_fl h t)
  | _, _, .src a t => .src a (sall_fl h t)
  | _, _, .fn t => .fn (sall_fl h t)
  | _, _, .lam t => by rw [h]; exact .lam (sall_fl h t)
  | _, _, .tf q t => .tf q (sall_fl h t)
theorem sall_mono {tt : TTab} {lm : LamD} {S : Srcs tt} {G G' : Hp} (s : Same G G') : ∀ {vs : List V} {ss : List SV}, SAll K lm S G vs ss → SAll K lm S G' vs ss
  | _, _, .nil => .nil
  | _, _, .d r t => .d (dp_mono s _ _ r) (sall_mono s t)
  | _, _, .src a t => .src a (sall_mono s t)
  | _, _, .fn t => .fn (sall_mono s t)
  | _, _, .lam t => .lam (sall_mono s t)
  | _, _, .tf q t => .tf (q.mono s) (sall_mono s t)
end
/-! ### arguments with one lambda among them -/
def dLam (K : PySem.W.Frag) {tt : TTab} (mk : Addr → NdefX.NF) (e : Expr) (S : Srcs tt) (M : List Addr) (H : Hp) (vs : List V) (ss : List SV) : Prop :=
  ∃ f c', H f = some (LamO f (mk c') e) ∧ H (mk c').c = some (LamX.CodeO (mk c').c (mk c').qual) ∧ SAll K ⟨f, [], [], []⟩ S (hid M H) vs ss
structure DLam (X : Cx) (ec : EC) (Ef : L2.St → XK) (O : List Nat) (es : List Expr) (mk : Addr → NdefX.NF) (e : Expr) (fh : Rho → R (List SV)) : Prop where
  pa : PA X es (tG X.K ec Ef O (fun _ S M => dLam X.K mk e S M) fh)
section
variable {X : Cx} {ec : EC} {Ef : L2.St → XK} {O : List Nat} {params : Arguments} {scope : Scope} {body e : Expr} {es : List Expr} {fa : Rho → R (List PyData)} {fh : Rho → R (List SV)} {f : Rho → R PyData} {c P : Addr} {pos : Pos} {mk : Addr → NdefX.NF}
theorem pe_lam {T : List (Addr × Str)} (TB : LamX.TabB X.base X.mg c P) (hcode : X.env.code = .ref c) (hm : (P, X.env.qual ++ "<lambda>") ∈ T) (hu : ∀ p ∈ T, p.1 = P → p.2 = X.env.qual ++ "<lambda>") (hdef : defaultsOf params X.env = ([], []))
    (hfree : ∀ y ∈ scope.names, y.2 = .free → X.env.scope.names.lookup y.1 = some .cell ∨ X.env.scope.names.lookup y.1 = some .free) :
    PE X (.Lambda params body scope pos) (fun σ H Q => LamX.Tabs T H ∧ ∀ (f c' : Addr) (H1 : Hp), (∀ b o, b ≠ P → H b = some o → H1 b = some o) → LamX.Tabs T H1 → H f = none → H1 f = some (LamO f (lamF X params scope c') body) → H1 c' = some (LamX.CodeO c' (X.env.qual ++ "<lambda>")) → Q (.ref f) H1) := by
  refine ⟨fun pins s σ H Q I h => ?_⟩
  obtain ⟨hT, h⟩ := h
  exact lam_make3 I TB hcode hm hu hT hdef (fun y hy e => (hfree y hy e).elim (fun z => I.ok.has _ (.inl z)) fun z => I.ok.has _ (.inr z)) fun f c' H1 s' I1 k T1 f0 f1 c1 => ⟨.ref f, H1, I1, rfl, h f c' H1 k T1 f0 f1 c1⟩
theorem dlam_here (TB : LamX.TabB X.base X.mg c P) (hcode : X.env.code = .ref c) (hm : (P, X.env.qual ++ "<lambda>") ∈ ec.tabs) (hu : ∀ p ∈ ec.tabs, p.1 = P → p.2 = X.env.qual ++ "<lambda>") (ha : DA X ec Ef O es fa) (hdef : defaultsOf params X.env = ([], []) := by rfl)
    (hfree : ∀ y ∈ scope.names, y.2 = .free → X.env.scope.names.lookup y.1 = some .cell ∨ X.env.scope.names.lookup y.1 = some .free)
    (hs : starEach (.Lambda params body scope pos :: es) X.env = (false, eval (.Lambda params body scope pos) X.env) :: starEach es X.env := by rfl) :
    DLam X ec Ef O (.Lambda params body scope pos :: es) (lamF X params scope) body (fun ρ => (fa ρ).bind fun ds => .ok (.lam :: ds.map .d)) := by
  refine ⟨(pa_cons (pe_lam TB hcode hm hu hdef hfree) ha.pa hs).imp fun σ H Q ⟨B, P', Z, ρ, hE, p⟩ => ⟨hE.so.tab, fun f c' H1 kp T1 f0 f1 c1 => ?_⟩⟩
  have hPS : P ∈ B.S := List.mem_append_right _ (List.mem_map.mpr ⟨_, hm, rfl⟩)
  have g : Gr B.S (P' ++ Z) H H1 := ⟨fun b o n e => kp b o (fun z => n (z ▸ hPS)) e, fun b o e => by
    obtain ⟨h1, h2⟩ := hid_some e
    rw [hid_out h1]
    exact kp b o (fun z => h1 (z ▸ List.mem_append_right _ (hE.sz _ hPS))) h2, fun so => ⟨fun a ha => (by
      obtain ⟨x, y, h1, h2, h3⟩ := so.src a ha
      refine ⟨x, y, h1, h2, kp a _ (fun z => ?_) h3⟩
      obtain ⟨ps, q, _⟩ := so.tab _ hm
      rw [z, q] at h3
      cases h3), T1⟩⟩
  have so1 := (hE.same g).so
  have nf : f ∉ B.S := ext_ns so1 f1 lamO_nl lamO_nt
  have nc : c' ∉ B.S := ext_ns so1 c1 codeO_nl LamX.codeO_ne
  refine ⟨B, P', Z, ρ, hE.same g, (Post.bind (Post.move g p)).imp fun vs H2 ⟨ds, _, g2, d2, p2⟩ => p2.ok ⟨f, c', g2.fr _ _ nf f1, g2.fr _ _ nc c1, ?_⟩⟩
  exact .lam (lm := ⟨f, [], [], []⟩) (sall_of d2)
theorem dlam_cons (h : DE X ec Ef O e f) (t : DLam X ec Ef O es mk body fh) (hs : starEach (e :: es) X.env = (false, eval e X.env) :: starEach es X.env := by rfl) :
    DLam X ec Ef O (e :: es) mk body (fun ρ => (f ρ).bind fun d => (fh ρ).bind fun ss => .ok (.d d :: ss)) :=
  ⟨(pa_cons h.pe t.pa hs).imp fun σ H Q ⟨B, P, Z, ρ, hE, p⟩ => ⟨B, P, Z, ρ, hE, (Post.bind p).imp fun v H1 ⟨d, _, s1, d1, p1⟩ => ⟨B, P, Z, ρ, hE.same s1, (Post.bind p1).imp fun vs H2 ⟨ss, _, s2, ⟨f, c', q1, q2, q3⟩, p2⟩ => p2.ok ⟨f, c', q1, q2, .d (d1.mono s2) q3⟩⟩⟩⟩
/-- x(.., lambda .., ..) -/
def callH (n nN : Nat) (js : List Nat) (G : (List PyData → R PyData) → List SV → R PyData) (fb : Rho → R PyData) (fh : Rho → R (List SV)) : Rho → R PyData := fun ρ => (fh ρ).bind fun ss => match capL ρ js with
  | some cs => if ss.length = n then G (lamR nN fb cs) ss else .bad
  | none => .bad
theorem de_callH {x : Str} {k kl n : Nat} {G : (List PyData → R PyData) → List SV → R PyData} {N ps fr : List Str} {js : List Nat} {fb : Rho → R PyData} {p : Pos} (F : FnH X.prog X.w X.K X.mg X.base ec (kl + 1) k n x ps.length G) (hr : Room k X.A) (hp : PassE X Ef) (hg : Gl X x)
    (ha : DLam X ec Ef O (e :: es) (lamF X params scope) body fh) (S : NdefX.NScope N ps fr scope) (hb : ∀ (q : Str) (cl : List (Str × Addr)) (pm cv ctv : Value) (us : List Value), us.length = ps.length → bindArgs (PySem.W.kla_fn "<lambda>" q params body scope cl pm cv ctv) ⟨us, []⟩ = pure (ps.zip us))
    (hfree : ∀ y ∈ scope.names, y.2 = .free → X.env.scope.names.lookup y.1 = some .cell ∨ X.env.scope.names.lookup y.1 = some .free) (hfr : ∀ y ∈ fr, (y, NameKind.free) ∈ scope.names) (hjs : js.map (fun j => X.N[j]?) = fr.map some) (hO : ∀ j, j ∈ js → j ∉ O)
    (hbody : ∀ f c', LamBody X.prog X.w X.K X.mg X.base ec N (lamF X params scope c') f body kl fb) (hdb : (x == ("__debug__" : Str)) = false := by decide)
    (he : starEach (e :: es) X.env = (false, eval e X.env) :: starEach es X.env := by rfl) (hpl : (backTo pos (starEach es X.env)).any (·.1) = false := by rfl) :
    DE X ec Ef O (.Call (.Name x p) (e :: es) [] pos) (callH n N.length js G fb fh) := by
  obtain ⟨g, fd, qs, hn, hm, hk, hbd, run⟩ := F.ex
  refine ⟨⟨fun pins s σ H Q I h => ?_⟩⟩
  obtain ⟨B, P, Z, ρ, hE, q⟩ := h
  refine wpAny_Call_Name_kw (ld_glob I hg hm ?_ hdb)
  refine PySem.W.callWith_K (h₀ := X.base) I.ok.mod.kin hk (thn (ha.pa.run pos pins s σ H _ I ⟨B, P, Z, ρ, hE, Post.bind q⟩) fun us s1 ⟨vs, H1, I1, r, ss, _, g1, ⟨f, c', h1, h2, h3⟩, q1⟩ => ⟨I1.kIn, ?_⟩) he hpl
  cases hcs : capL ρ js with
  | none => rw [hcs] at q1; exact q1.elim
  | some cs =>
    rw [hcs] at q1
    have q1 : Post B.S X.K ec (dV X.K (P ++ Z)) (P ++ Z) (Ef σ) H1 Q (if ss.length = n then G (lamR N.length fb cs) ss else .bad) := q1
    by_cases hl : ss.length = n
    · rw [if_pos hl] at q1
      have hE1 := hE.same g1
      obtain ⟨cvs, la, C⟩ := lamC_of S hb hfree hfr hjs hO (hbody f c') I1 hE1 h1 h2 hcs
      have hv : vs.length = n := (sall_len h3).trans hl
      have hu : us.length = qs.length := by rw [← r.length]; exact hv.trans hn.symm
      have b := hbd s1 us I1.kIn (by rw [List.append_nil]; exact hu)
      rw [List.append_nil] at b
      refine wpAny_call (codeAny_mono (run _ _ X.A X.stack s1 H1 us vs Q (Ef σ) hr I1.env0 b r (C _) hv ⟨B.S, P ++ Z, ss, sall_fl (lm := ⟨f, [], [], []⟩) (lm' := lamD f (lamF X params scope c') body cvs cs) rfl h3, hE1.met, la, q1⟩) fun r s' hq => ?_)
      cases r with
      | error e => exact hp σ pins H1 s1 e s' I1 hq
      | ok fl =>
        cases fl with
        | ret u => exact I1.after hq
        | next => exact False.elim hq
        | brk => exact False.elim hq
        | cont => exact False.elim hq
    · rw [if_neg hl] at q1; exact q1.elim
end
/-! ### defs that make lambdas: their code objects -/
theorem distA_eq : ∀ {l : List Addr}, distA l = true → ∀ {i j : Nat} {a : Addr}, l[i]? = some a → l[j]? = some a → i = j
  | [], _, i, j, a, h, _ => by simp at h
  | b :: l, hd, i, j, a, h1, h2 => by
    unfold distA at hd
    obtain ⟨d1, d2⟩ := Bool.and_eq_true_iff.mp hd
    have nb : ∀ k, l[k]? ≠ some b := fun k e => by
      have m := List.mem_of_getElem? e
      simp [m] at d1
    match i, j, h1, h2 with
    | 0, 0, _, _ => rfl
    | 0, j + 1, h1, h2 => cases h1; exact absurd h2 (nb j)
    | i + 1, 0, h1, h2 => cases h2; exact absurd h1 (nb i)
    | i + 1, j + 1, h1, h2 => exact congrArg (· + 1) (distA_eq d2 (i := i) (j := j) h1 h2)
theorem filterMap_all {α β : Type} {g : α → Option β} : ∀ {l : List α}, (l.filterMap g).length = l.length → ∀ x, x ∈ l → ∃ y, g x = some y
  | [], _, x, h => by cases h
  | a :: l, e, x, h => by
    cases q : g a with
    | none =>
      rw [List.filterMap_cons_none q, List.length_cons] at e
      have := List.length_filterMap_le g l
      omega
    | some y =>
      rw [List.filterMap_cons_some q, List.length_cons, List.length_cons] at e
      rcases List.mem_cons.mp h with z | z
      · exact ⟨y, z ▸ q⟩
      · exact filterMap_all (Nat.succ.inj e) x z
/-- the table of a def that makes lambdas -/
theorem SaysX.tabAt {ta : List Tup} {xs : List Chk} {fs : Lms} {fa : List He.Fa} {fn : List He.DefD} {K : PySem.W.Frag} (c : SaysX ta xs fs fa fn K) {f : Str × Str} (hf : f ∈ fs) :
    ∃ ct Pt, PySem.W.tabIn K f.1 = some (ct, Pt) ∧ (ct, Pt, f.2) ∈ tabL fs K ∧ (Pt, f.2) ∈ tabsOf fs K ∧ ∀ p, p ∈ tabsOf fs K → p.1 = Pt → p.2 = f.2 := by
  obtain ⟨⟨c1, P1, q1⟩, e⟩ := filterMap_all (g := fun (f : Str × Str) => (PySem.W.tabIn K f.1).map fun (cp : Addr × Addr) => ((cp.1, cp.2, f.2) : Addr × Addr × Str)) (l := fs) c.tlen f hf
  obtain ⟨⟨c2, P2⟩, e2, e3⟩ := Option.map_eq_some_iff.mp e
  obtain ⟨rfl, rfl, rfl⟩ : c2 = c1 ∧ P2 = P1 ∧ f.2 = q1 := by cases e3; exact ⟨rfl, rfl, rfl⟩
  have m : (c2, P2, f.2) ∈ tabL fs K := List.mem_filterMap.mpr ⟨f, hf, e⟩
  refine ⟨c2, P2, e2, m, List.mem_map.mpr ⟨_, m, rfl⟩, fun p hp h1 => ?_⟩
  obtain ⟨t, ht, rfl⟩ := List.mem_map.mp hp
  obtain ⟨i, hi⟩ := List.mem_iff_getElem?.mp ht
  obtain ⟨j, hj⟩ := List.mem_iff_getElem?.mp m
  have e4 : i = j := distA_eq c.tdist (a := P2) (by rw [List.getElem?_map, hi, ← h1] <;> rfl) (by rw [List.getElem?_map, hj] <;> rfl)
  rw [e4, hj] at hi
  cases hi
  rfl
section
variable {P : Program} {w : World} {K : PySem.W.Frag} {mg : Str → Option Value} {base h : Heap}
theorem code_of {x qual : Str} {params : Arguments} {body : List Stmt} {scope : Scope} {f c Pt : Addr} {fd : FuncData} (Fd : FunD K x qual params body scope [] [] f fd) (X : K.In h) (G : h.Ns mainGlobals mg) (hg : mg x = some (.ref f)) (ht : PySem.W.tabIn K x = some (c, Pt)) : fd.code = .ref c := by
  obtain ⟨oc, od, _, _, _, _, _, _, _, osl, _, lk, _⟩ := Fd.ex
  exact PySem.W.law_code X G ht hg (X _ _ lk) rfl
/-- .. the code object being known -/
abbrev BodyOkC (P : Program) (w : World) (K : PySem.W.Frag) (mg : Str → Option Value) (base : Heap) (ec : EC) (qual : Str) (st : Stmt) (f ct : Addr) (N : List Str) (k : Nat) (g : Rho → R Fl) : Prop :=
  ∀ (A : Around) (outer : List Env) (s : Shared) (H : Hp) (E : XK), Room k (A.deeper (envOfC qual (defScope st) s.heap.objs.size f (.ref ct))) → PassE (cxOf (L2.CX P w) P w K mg base N qual (defScope st) f (.ref ct) A outer s H E) (fun _ => E) →
      Takes (cxOf (L2.CX P w) P w K mg base N qual (defScope st) f (.ref ct) A outer s H E) (fun cls d _ H => E cls d H) →
      DSs (cxOf (L2.CX P w) P w K mg base N qual (defScope st) f (.ref ct) A outer s H E) ec (fun _ => E) [] [] [] [] (defBody st) g
theorem okD_ofC {ec : EC} {x qual : Str} {st : Stmt} {f ct : Addr} {fd : FuncData} {N ps : List Str} {k n : Nat} {g : Rho → R Fl} {F : List PyData → R PyData} (Fn : FunD K x qual (defArgs st) (defBody st) (defScope st) [] [] f fd) (hc : fd.code = .ref ct) (S : FnScope N ps (defScope st)) (hn : ps.length = n)
    (body : BodyOkC P w K mg base ec qual st f ct N k g) (mir : ∀ ds, ds.length = n → R.le (F ds) (runB N.length g ds)) : FnOk P w K mg base (L2.CX P w) (k + 1) f fd ps (spD K ec n F) := by
  obtain ⟨oc, od, dV, kV, doc, pm, an, cdv, ctt, osl, rfl, lk, hcd, _, _⟩ := Fn.ex
  obtain rfl : cdv = .ref ct := hc
  refine fn_of lk hcd S (fun vs H Q E h => by rw [hn]; exact h.1) fun A outer s H vs Q E hr h => ?_
  obtain ⟨hl, S2, M, ds, hd, m, p⟩ := h
  have tk : Takes (cxOf (L2.CX P w) P w K mg base N qual (defScope st) f (.ref ct) A outer s H E) (fun cls d _ H => E cls d H) := takes_of rfl rfl rfl rfl
  exact ⟨_, (body A outer s H E hr (fun σ => passAt tk σ) tk).ps, ⟨hid S2 H, hid M H, S2⟩, [], M, _, env_start (sall_of hd) m (fun z => by simp at z), mir_of m (mir ds ((dpa_len hd).symm.trans hl)) p⟩
theorem fnD_ofC {ec : EC} {x qual : Str} {st : Stmt} {f ct : Addr} {fd : FuncData} {N ps : List Str} {k n : Nat} {g : Rho → R Fl} {F : List PyData → R PyData} (Fn : FunD K x qual (defArgs st) (defBody st) (defScope st) [] [] f fd) (hc : fd.code = .ref ct) (S : FnScope N ps (defScope st)) (hb : Binds K fd ps []) (hg : mg x = some (.ref f)) (hn : ps.length = n)
    (body : BodyOkC P w K mg base ec qual st f ct N k g) (mir : ∀ ds, ds.length = n → R.le (F ds) (runB N.length g ds)) : FnD P w K mg base ec (k + 1) n x F :=
  ⟨f, fd, ps, hn, hg, Fn.kp, hb, okD_ofC Fn hc S hn body mir⟩
end
end DL
set_option Elab.async false
set_option linter.all false
set_option maxRecDepth 100000
set_option maxHeartbeats 1000000
namespace DL
open PySem PySem.Spec PyProof.Rows L2
/-! ### zip -/
def zipD (as bs : List PyData) : List PyData := List.zipWith (fun a b => .tuple [a, b]) as bs
def zipOf (ds : List PyData) : R (List PyData) := match ds with
  | [.tuple as, .tuple bs] => .ok (zipD as bs)
  | [.list as, .list bs] => .ok (zipD as bs)
  | _ => .bad
theorem zipD_len (as bs : List PyData) : (zipD as bs).length = min as.length bs.length := by unfold zipD; rw [List.length_zipWith]
theorem zipD_get {as bs : List PyData} {i : Nat} {d : PyData} (h : (zipD as bs)[i]? = some d) : ∃ a b, as[i]? = some a ∧ bs[i]? = some b ∧ d = .tuple [a, b] := by
  unfold zipD at h
  rw [List.getElem?_zipWith] at h
  cases h1 : as[i]? with
  | none => rw [h1] at h; simp at h
  | some a =>
    cases h2 : bs[i]? with
    | none => rw [h1, h2] at h; simp at h
    | some b => rw [h1, h2] at h; simp at h; exact ⟨a, b, rfl, rfl, h.symm⟩
theorem it_zipT {K : PySem.W.Frag} {C : List Addr → Hp → Prop} {a b : Addr} {xs ys : List V} {as bs : List PyData} (ht : ∀ M H2, C M H2 → ∀ m, m ∈ M → H2 m ≠ none) (h : ∀ M H2, C M H2 → SqT K H2 a xs ∧ SqT K H2 b ys ∧ DpAll K (hid M H2) xs as ∧ DpAll K (hid M H2) ys bs) : ItD K C (RZ.ItzT K a b) (zipD as bs) := by
  refine ⟨fun i M H2 c hi => ?_, fun i M H2 c hi => ?_, fun i M H2 x H3 d c e y => ?_⟩
  · obtain ⟨h1, h2, h3, h4⟩ := h M H2 c
    rw [zipD_len] at hi
    have l1 : i < xs.length := by rw [dpa_len h3]; omega
    have l2 : i < ys.length := by rw [dpa_len h4]; omega
    exact ⟨xs, ys, xs[i], ys[i], h1, h2, by simp [l1], by simp [l2]⟩
  · obtain ⟨h1, h2, h3, h4⟩ := h M H2 c
    rw [zipD_len] at hi
    refine ⟨xs, ys, h1, h2, ?_⟩
    rw [dpa_len h3, dpa_len h4]
    omega
  · obtain ⟨h1, h2, h3, h4⟩ := h M H2 c
    obtain ⟨T, x', y', rfl, hT, rfl, f1, f2⟩ := y
    obtain ⟨p, q, e1, e2, rfl⟩ := zipD_get e
    obtain ⟨p', e3, d1⟩ := dpa_get h3 (f1 xs h1)
    obtain ⟨q', e4, d2⟩ := dpa_get h4 (f2 ys h2)
    rw [e1] at e3
    rw [e2] at e4
    cases e3
    cases e4
    exact ⟨same_upd hT, new_tup (ht M H2 c) hT (.cons d1 (.cons d2 .nil))⟩
theorem it_zipL {K : PySem.W.Frag} {C : List Addr → Hp → Prop} {a b : Addr} {xs ys : List V} {as bs : List PyData} (ht : ∀ M H2, C M H2 → ∀ m, m ∈ M → H2 m ≠ none) (h : ∀ M H2, C M H2 → SqL K H2 a xs ∧ SqL K H2 b ys ∧ DpAll K (hid M H2) xs as ∧ DpAll K (hid M H2) ys bs) : ItD K C (Itz K a b) (zipD as bs) := by
  refine ⟨fun i M H2 c hi => ?_, fun i M H2 c hi => ?_, fun i M H2 x H3 d c e y => ?_⟩
  · obtain ⟨h1, h2, h3, h4⟩ := h M H2 c
    rw [zipD_len] at hi
    have l1 : i < xs.length := by rw [dpa_len h3]; omega
    have l2 : i < ys.length := by rw [dpa_len h4]; omega
    exact ⟨xs, ys, xs[i], ys[i], h1, h2, by simp [l1], by simp [l2]⟩
  · obtain ⟨h1, h2, h3, h4⟩ := h M H2 c
    rw [zipD_len] at hi
    refine ⟨xs, ys, h1, h2, ?_⟩
    rw [dpa_len h3, dpa_len h4]
    omega
  · obtain ⟨h1, h2, h3, h4⟩ := h M H2 c
    obtain ⟨T, x', y', rfl, hT, rfl, f1, f2⟩ := y
    obtain ⟨p, q, e1, e2, rfl⟩ := zipD_get e
    obtain ⟨p', e3, d1⟩ := dpa_get h3 (f1 xs h1)
    obtain ⟨q', e4, d2⟩ := dpa_get h4 (f2 ys h2)
    rw [e1] at e3
    rw [e2] at e4
    cases e3
    cases e4
    exact ⟨same_upd hT, new_tup (ht M H2 c) hT (.cons d1 (.cons d2 .nil))⟩
section
variable {X : Cx} {ec : EC} {Ef : L2.St → XK} {O : List Nat} {e e2 : Expr} {fa : Rho → R (List PyData)} {p pos tpos : Pos} {elts : List Expr} {kk : Nat}
theorem di_zip (hg : Gl X "zip") (hm : X.mg "zip" = none) (ha : DA X ec Ef O [e, e2] fa)
    (hs : starEach [e, e2] X.env = (false, eval e X.env) :: starEach [e2] X.env := by rfl) (hpl : (backTo pos (starEach [e2] X.env)).any (·.1) = false := by rfl) :
    DI X ec Ef O (.Tuple elts kk tpos) (.Call (.Name "zip" p) [e, e2] [] pos) (fun ρ => (fa ρ).bind zipOf) := ⟨(RZ.pi_zipA hg hm ha.pa hs hpl).imp fun σ H Q ⟨B, P, Z, ρ, hE, q⟩ => ⟨B, P, Z, ρ, hE, (Post.bind q).imp fun vs H1 ⟨ds, _, s1, d1, p1⟩ => by
  have d1 : DpAll X.K (hid (P ++ Z) H1) vs ds := d1
  unfold zipOf at p1
  split at p1
  · cases d1 with
    | cons r1 t1 =>
      cases t1 with
      | cons r2 t2 =>
        cases t2
        cases r1 with
        | tup hs1 ha1 =>
          cases r2 with
          | tup hs2 ha2 =>
            exact ⟨_, _, _, _, rfl, .inr ⟨same_seqT hid_le hs1, same_seqT hid_le hs2, p1.ok (a := zipD _ _) (it_zipT (fun M H2 c => c.2) fun M H2 c => ⟨same_seqT hid_le (same_seqT c.1 hs1), same_seqT hid_le (same_seqT c.1 hs2), dpa_mono c.1 _ _ ha1, dpa_mono c.1 _ _ ha2⟩)⟩⟩
  · cases d1 with
    | cons r1 t1 =>
      cases t1 with
      | cons r2 t2 =>
        cases t2
        cases r1 with
        | lst hs1 ha1 =>
          cases r2 with
          | lst hs2 ha2 =>
            exact ⟨_, _, _, _, rfl, .inl ⟨hid_le.seq hs1, hid_le.seq hs2, p1.ok (a := zipD _ _) (it_zipL (fun M H2 c => c.2) fun M H2 c => ⟨hid_le.seq (c.1.seq hs1), hid_le.seq (c.1.seq hs2), dpa_mono c.1 _ _ ha1, dpa_mono c.1 _ _ ha2⟩)⟩⟩
  · exact p1.elim⟩⟩
end
end DL
set_option Elab.async false
set_option linter.all false
set_option maxRecDepth 100000
set_option maxHeartbeats 1000000
namespace DL
open PySem PySem.Spec PyProof.Rows L2
/-! ### tuples whose objects are known to bear no dict -/
section
variable {X : Cx}
theorem call_tuple_fz : CallR X (.type "tuple") (fun xs H Q => ∃ p ys, xs = [.ref p] ∧ SqL X.K H p ys ∧ ∀ l (o : Obj), H l = none → o.dict = none → Q (.ref l) (upd H l (.frz o (.tup ys)))) := by
  intro pins s σ H xs us Q I r h
  obtain ⟨p, ys, rfl, hq, q⟩ := h
  obtain ⟨u, rfl, rx⟩ := vals1 r
  cases rx
  obtain ⟨its, r', pl, hz⟩ := I.list hq
  have hlen := r'.length
  refine call_tuple_list pl.isList (fun h' kp => ?_) (by simp only [List.size_toArray] <;> omega)
  have I1 : Inv X pins σ H { s with heap := h' } := I.kept (t' := s.toks) kp
  have I2 : Inv X pins σ (upd H h'.objs.size (.frz { cls := .type "tuple", data := .seq its.toArray } (.tup ys))) { s with heap := h'.push { cls := .type "tuple", data := .seq its.toArray } } :=
    I1.laid (t' := s.toks) (fun b o e => Heap.get?_push_of_some _ e) (Nat.le_refl _) (show ObjOk X.prog X.w _ _ _ (.frz _ (.tup ys)) from ⟨Heap.get?_push_size _ rfl, hz, its, r', IsTup.new _ _⟩)
  exact ⟨.ref h'.objs.size, _, I2, rfl, q _ _ (I1.hok.fresh (Nat.le_refl _)) rfl⟩
end
structure DZ (X : Cx) (ec : EC) (Ef : L2.St → XK) (O : List Nat) (e : Expr) (f : Rho → R PyData) : Prop where
  pe : PE X e (tG X.K ec Ef O (fun _ _ => dZ X.K) f)
def tupL : PyData → R PyData
  | .list ds => .ok (.tuple ds)
  | _ => .bad
def setZ (i : Nat) (f : Rho → R PyData) : Rho → R Fl := fun ρ => (f ρ).bind fun d => match d with
  | .tuple ds => .ok (.nx (ρ.set i (some (.tf ds))))
  | _ => .bad
section
variable {X : Cx} {ec : EC} {Ef : L2.St → XK} {io Ol O O' : List Nat} {a e o : Expr} {es : List Expr} {f fa fe : Rho → R PyData} {p pos : Pos} {i : Nat}
theorem dz_tuple (hg : Gl X "tuple") (hm : X.mg "tuple" = none) (ha : DB X ec Ef O a fa) (hs : starEach [a] X.env = (false, eval a X.env) :: starEach [] X.env := by rfl) :
    DZ X ec Ef O (.Call (.Name "tuple" p) [a] [] pos) (fun ρ => (fa ρ).bind tupL) :=
  ⟨(pe_callTy call_tuple_fz hg hm (by rfl) (pa_cons ha.pe pa_nil hs) (by decide) (by decide) hs (by rfl)).imp fun σ H Q ⟨B, P, Z, ρ, hE, q⟩ => ⟨B, P, Z, ρ, hE, (Post.bind q).imp fun v H1 ⟨dx, _, s1, d1, p1⟩ => by
    cases dx with
    | list ds =>
      obtain ⟨p, ys, e1, q1, a1⟩ := d1.lst
      have hM := (hE.same s1).trk
      refine ⟨p, ys, by rw [e1], q1, fun l ob hl ho => (show Post B.S X.K ec (dZ X.K (P ++ Z)) (P ++ Z) (Ef σ) H1 Q (.ok (.tuple ds)) from p1) _ _ (.of (same_upd hl)) ⟨ds, rfl, l, ob, ys, rfl, ?_, ho, dpa_mono (hid_same (same_upd hl)) ds ys a1⟩⟩
      rw [hid_out fun z => hM l z hl, upd_same]
    | _ => exact p1.elim⟩⟩
theorem ds_retZ (fl : Flat Ef) (he : DZ X ec Ef io e f) (hs : List.Sublist io O := by decide) : DS X ec Ef io Ol O O' (.Return (some e) pos) (retF f) :=
  ⟨(ps_ret he.pe).imp fun D σ H ⟨B, P, Z, ρ, hE, p⟩ => by
    obtain ⟨P', _, hE'⟩ := hE.release hs
    exact ⟨B, P', Z, ρ, hE', PostS.of fl hE' p fun d v H1 _ s d1 hE1 p1 => p1 _ _ _ _ hE1 (.inl d1)⟩⟩
theorem ds_asgZ {x : Str} {pos' : Pos} (fl : Flat Ef) (hN : X.N.Nodup) (hi : X.N[i]? = some x) (hx : Loc X.env.scope x) (he : DZ X ec Ef O e f) (hO : i ∉ O := by decide) (hs : swapsWith e (some (.Name x pos')) pos.line X.env = pure false := by rfl)
    (hf : X.fn x = true ∨ X.env.scope.names.lookup x = some .local := by first | exact .inl rfl | exact .inr rfl | assumption) : DS X ec Ef io Ol O O (.Assign [.Name x pos'] e pos) (setZ i f) :=
  ⟨(ps_set (i := i) hN hi hx he.pe hs hf).imp fun D σ H ⟨B, P, Z, ρ, hE, p⟩ => ⟨B, P, Z, ρ, hE, PostS.of fl hE p fun d v H1 _ s d1 hE1 p1 => by
    obtain ⟨ds, rfl, d2⟩ := d1
    exact (show PostS X.K ec Ef B Z io Ol O D (.ok (.nx (ρ.set i (some (.tf ds))))) from p1) _ _ _ (hE1.setS rfl hO d2)⟩⟩
/-! the slot's items -/
def getT (ρ : Rho) (i : Nat) : R (List PyData) := match ρ[i]? with
  | some (some (.tf ds)) => .ok ds
  | _ => .bad
theorem getT_case {ρ : Rho} {i : Nat} : (∃ ds, ρ[i]? = some (some (.tf ds)) ∧ getT ρ i = .ok ds) ∨ getT ρ i = .bad := by
  unfold getT
  split
  · rename_i d h; exact .inl ⟨d, h, rfl⟩
  · exact .inr rfl
/-! arguments of which some are such tuples -/
structure DAs (X : Cx) (ec : EC) (Ef : L2.St → XK) (O : List Nat) (es : List Expr) (f : Rho → R (List SV)) : Prop where
  pa : PA X es (tG X.K ec Ef O (fun _ S M H vs ss => SAll X.K ec.lam S (hid M H) vs ss) f)
variable {fs : Rho → R (List SV)}
theorem das_nil : DAs X ec Ef O [] (fun _ => .ok []) := ⟨pa_nil.imp fun σ H Q ⟨B, P, Z, ρ, hE, p⟩ => (show Post B.S X.K ec (fun H vs ss => SAll X.K ec.lam B.S (hid (P ++ Z) H) vs ss) (P ++ Z) (Ef σ) H Q (.ok []) from p).ok .nil⟩
theorem das_d (h : DE X ec Ef O e f) (t : DAs X ec Ef O es fs) (hs : starEach (e :: es) X.env = (false, eval e X.env) :: starEach es X.env := by rfl) : DAs X ec Ef O (e :: es) (fun ρ => (f ρ).bind fun d => (fs ρ).bind fun ss => .ok (.d d :: ss)) :=
  ⟨(pa_cons h.pe t.pa hs).imp fun σ H Q ⟨B, P, Z, ρ, hE, p⟩ => ⟨B, P, Z, ρ, hE, (Post.bind p).imp fun v H1 ⟨d, _, s1, d1, p1⟩ => ⟨B, P, Z, ρ, hE.same s1, (Post.bind p1).imp fun vs H2 ⟨ss, _, s2, d2, p2⟩ => p2.ok (.d (d1.mono s2) d2)⟩⟩⟩
theorem das_tf (h : PE X e (tVar i)) (t : DAs X ec Ef O es fs) (hi : i ∉ O := by decide) (hs : starEach (e :: es) X.env = (false, eval e X.env) :: starEach es X.env := by rfl) : DAs X ec Ef O (e :: es) (fun ρ => (getT ρ i).bind fun d => (fs ρ).bind fun ss => .ok (.tf d :: ss)) :=
  ⟨(pa_cons h t.pa hs).imp fun σ H Q ⟨B, P, Z, ρ, hE, p⟩ => by
    have p : Post B.S X.K ec (fun H vs ss => SAll X.K ec.lam B.S (hid (P ++ Z) H) vs ss) (P ++ Z) (Ef σ) H Q ((getT ρ i).bind fun d => (fs ρ).bind fun ss => .ok (.tf d :: ss)) := p
    rcases getT_case (ρ := ρ) (i := i) with ⟨ds, h1, h2⟩ | h2
    · rw [h2, R.ok_bind] at p
      obtain ⟨v, h3, h4⟩ := hE.oth i (.tf ds) hi rfl h1
      exact ⟨v, h3, B, P, Z, ρ, hE, (Post.bind (den := fun H vs ss => SAll X.K ec.lam B.S (hid (P ++ Z) H) vs ss) p).imp fun vs H2 ⟨ss, _, s2, d2, p2⟩ => p2.ok (.tf (FzT.mono s2.vis h4) d2)⟩
    · rw [h2] at p
      exact p.elim⟩
def spS (K : PySem.W.Frag) (ec : EC) (n : Nat) (F : List SV → R PyData) : Sp := fun vs H Q E =>
  vs.length = n ∧ ∃ (S : Srcs ec.tabs) (M : List Addr) (ss : List SV), SAll K ec.lam S (hid M H) vs ss ∧ ss.all SV.isD = true ∧ Met S M H ∧ Post S K ec (dV K M) M E H Q (F ss)
/-- .. the first argument a source, the result a tuple that bears no dict -/
def spNZ (K : PySem.W.Frag) (ec : EC) (n : Nat) (F : List PyData → R PyData) : Sp := fun vs H Q E =>
  vs.length = n ∧ ∃ (S : Srcs ec.tabs) (M : List Addr) (a : Addr) (us : List V) (ds : List PyData), vs = .ref a :: us ∧ a ∈ S.l ∧ DpAll K (hid M H) us ds ∧ Met S M H ∧ Post S K ec (dZ K M) M E H Q (F ds)
abbrev FnV (P : Program) (w : World) (K : PySem.W.Frag) (mg : Str → Option Value) (base : Heap) (ec : EC) (k n : Nat) (x : Str) (F : List SV → R PyData) : Prop := FnS P w K mg base k n x (spS K ec n F)
abbrev FnNZ (P : Program) (w : World) (K : PySem.W.Frag) (mg : Str → Option Value) (base : Heap) (ec : EC) (k n : Nat) (x : Str) (F : List PyData → R PyData) : Prop := FnS P w K mg base k n x (spNZ K ec n F)
def chkV (n : Nat) (F : List SV → R PyData) (ss : List SV) : R PyData := if ss.length = n ∧ ss.all SV.isD = true then F ss else .bad
variable {F : List PyData → R PyData} {FV : List SV → R PyData} {k n : Nat} {x : Str} {fl : Rho → R (List PyData)}
theorem de_callV (G : FnV X.prog X.w X.K X.mg X.base ec k n x FV) (hr : Room k X.A) (hp : PassE X Ef) (hg : Gl X x) (ha : DAs X ec Ef O (e :: es) fs) (hdb : (x == ("__debug__" : Str)) = false := by decide)
    (he : starEach (e :: es) X.env = (false, eval e X.env) :: starEach es X.env := by rfl) (hpl : (backTo pos (starEach es X.env)).any (·.1) = false := by rfl) : DE X ec Ef O (.Call (.Name x p) (e :: es) [] pos) (fun ρ => (fs ρ).bind (chkV n FV)) := by
  obtain ⟨f, fd, ps, h1, h2, h3, h4, h5⟩ := G.ex
  exact ⟨(pe_callS (E := Ef) h5 hr hg h2 h3 h4 hp ha.pa hdb he hpl).imp fun σ H Q ⟨B, P, Z, ρ, hE, q⟩ => ⟨B, P, Z, ρ, hE, (Post.bind q).imp fun vs H1 ⟨ss, _, s1, d1, p1⟩ => by
    unfold chkV at p1
    by_cases hn : ss.length = n ∧ ss.all SV.isD = true
    · rw [if_pos hn] at p1
      exact ⟨(sall_len d1).trans hn.1, B.S, P ++ Z, ss, d1, hn.2, (hE.same s1).met, p1⟩
    · rw [if_neg hn] at p1; exact p1.elim⟩⟩
theorem dz_callN {s : Expr} (G : FnNZ X.prog X.w X.K X.mg X.base ec k n x F) (hr : Room k X.A) (hp : PassE X Ef) (hg : Gl X x) (hsrc : PE X s (tVar i)) (ha : DA X ec Ef O es fl) (hi : i ∉ O := by decide) (hdb : (x == ("__debug__" : Str)) = false := by decide)
    (he : starEach (s :: es) X.env = (false, eval s X.env) :: starEach es X.env := by rfl) (hpl : (backTo pos (starEach es X.env)).any (·.1) = false := by rfl) : DZ X ec Ef O (.Call (.Name x p) (s :: es) [] pos) (fun ρ => (getS ρ i).bind fun _ => (fl ρ).bind fun ds => chkN n F ds) := by
  obtain ⟨f, fd, ps, h1, h2, h3, h4, h5⟩ := G.ex
  exact ⟨(pe_callS (E := Ef) h5 hr hg h2 h3 h4 hp (pa_cons hsrc ha.pa he) hdb he hpl).imp fun σ H Q ⟨B, P, Z, ρ, hE, q⟩ => by
    have q : Post B.S X.K ec (dZ X.K (P ++ Z)) (P ++ Z) (Ef σ) H Q ((getS ρ i).bind fun _ => (fl ρ).bind fun ds => chkN n F ds) := q
    rcases getS_case (ρ := ρ) (i := i) with ⟨h1, h2⟩ | h2
    · rw [h2] at q
      obtain ⟨a, a1, a2⟩ := hE.src i hi h1
      refine ⟨.ref a, a2, B, P, Z, ρ, hE, (Post.bind (den := dA X.K (P ++ Z)) q).imp fun vs H1 ⟨ds, _, s1, d1, p1⟩ => ?_⟩
      unfold chkN at p1
      by_cases hn : ds.length + 1 = n
      · rw [if_pos hn] at p1
        exact ⟨by rw [← hn, List.length_cons, dpa_len d1], B.S, P ++ Z, a, vs, ds, rfl, a1, d1, (hE.same s1).met, p1⟩
      · rw [if_neg hn] at p1; exact p1.elim
    · rw [h2] at q
      exact q.elim⟩
/-! a.count(i) -/
def gCount (ds : List PyData) : PyData → Option PyData
  | .int n => (intsOf ds).map fun ns => .int ((ns.countP fun y => decide (y = n) : Nat) : Int)
  | _ => none
theorem mt_count (hu : X.A.units + 1 < cLine) {pins : List (Addr × Obj)} {s : Shared} {σ : L2.St} {H : Hp} {a : Addr} {ns : List Int} {n : Int} {us : List Value} {Q : VK} (I : Inv X pins σ H s) (ht : SqT X.K H a (ns.map V.int)) (rv : Vals [V.int n] us) (q : Q (.int ((ns.countP fun y => decide (y = n) : Nat) : Int)) H) :
    wpAny (model X.prog X.w) X.A (call (.builtin "tuple.count") (.ref a :: us)) (EP X pins σ Q) X.xe s := by
  obtain ⟨u, rfl, ru⟩ := rv.one
  obtain ⟨t, rfl⟩ := ru
  obtain ⟨its, r, pl, _⟩ := I.tuple ht
  refine PySem.W.count_tuple_datum (α := Int) (vs := its.toArray) (show s.heap.IsTuple a its.toArray from pl) (PySem.W.HoldAll.of_ints (RZ.intsAre_vals (by simpa using r))) (PySem.W.holds_int n t) (show X.A.units + 1 + 0 < cLine by omega) ?_
  exact ⟨.int _, H, I.kept (t' := s.toks + 1) (fun b o e => e), ⟨_, rfl⟩, q⟩
theorem de_count {apos : Pos} (hu : X.A.units + 1 < cLine) (ho : PE X o (tVar i)) (he : DE X ec Ef O e fe) (hi : i ∉ O := by decide)
    (hbase : attributeBase o "count" X.env (eval o X.env) = eval o X.env := by rfl)
    (hfew : ((backTo pos (starEach [e] X.env)).all (fun x => !x.1) && (backToKw pos (keywordEach [] X.env)).all (fun x => x.1.isSome)
      && decide (([e] : List Expr).length + ([] : List Keyword).length + (if ([] : List Keyword).isEmpty then 0 else 1) < 30)) = true := by rfl)
    (hline : (apos.endLine == pos.line) = true := by rfl) (hs : starEach [e] X.env = (false, eval e X.env) :: starEach [] X.env := by rfl) (hplain : (backTo pos (starEach [] X.env)).any (·.1) = false := by rfl) :
    DE X ec Ef O (.Call (.Attribute o "count" apos) [e] [] pos) (fun ρ => (getT ρ i).bind fun ds => (fe ρ).bind fun y => R.ofO (gCount ds y)) := by
  refine ⟨⟨fun pins s σ H Q I h => ?_⟩⟩
  obtain ⟨B, P, Z, ρ, hE, p⟩ := h
  have p : Post B.S X.K ec (dV X.K (P ++ Z)) (P ++ Z) (Ef σ) H Q ((getT ρ i).bind fun ds => (fe ρ).bind fun y => R.ofO (gCount ds y)) := p
  rcases getT_case (ρ := ρ) (i := i) with ⟨ds, h1, h2⟩ | h2
  · rw [h2, R.ok_bind] at p
    obtain ⟨v, h3, a, ob, vs, rfl, h5, h6, h7⟩ := hE.oth i (.tf ds) hi rfl h1
    refine wpAny_Call_method_late hbase hfew hline rfl (thn (ho.run pins s σ H (fun v H1 => v = .ref a ∧ H1 = H) I ⟨_, h3, rfl, rfl⟩) fun u s1 ⟨v, H1, I1, r1, q1⟩ => ?_)
    obtain ⟨rfl, rfl⟩ := q1
    obtain rfl : u = Value.ref a := r1
    obtain ⟨g1, g2, its, g3, g4⟩ := I1.hok a _ (hid_some h5).2
    obtain ⟨ob', g5, g6, _⟩ := g4
    rw [g1] at g5
    cases g5
    refine ⟨"tuple", "tuple.count", PySem.F.plainAttrs_tuple, PySem.F.slot_tuple_count, PySem.F.type_tuple_count, ⟨_, g1, g6⟩, fun b z => (by cases z; exact ⟨_, g1, h6⟩), ?_⟩
    have hA := (pa_cons he.pe pa_nil hs).run pos pins s1 σ _ (fun vs H2 => ∃ (n : Int) (ns : List Int), vs = [V.int n] ∧ SqT X.K H2 a (ns.map V.int) ∧ Q (.int ((ns.countP fun y => decide (y = n) : Nat) : Int)) H2) I1 ⟨B, P, Z, ρ, hE, (Post.bind p).imp fun v H2 ⟨y, _, s2, d2, p2⟩ => by
      cases y with
      | int n =>
        have p2 : Post B.S X.K ec (dV X.K (P ++ Z)) (P ++ Z) (Ef σ) H2 Q (R.ofO ((intsOf ds).map fun ns => .int ((ns.countP fun y => decide (y = n) : Nat) : Int))) := p2
        cases hi2 : intsOf ds with
        | none => rw [hi2] at p2; exact p2.elim
        | some ns =>
          rw [hi2] at p2
          have h7' := ints_rel h7 hi2
          subst h7'
          cases d2
          exact ⟨n, ns, rfl, .inl (.inr ⟨ob, (hid_some (s2.vis _ _ h5)).2⟩), (show Post B.S X.K ec (dV X.K (P ++ Z)) (P ++ Z) (Ef σ) H2 Q (.ok (.int _)) from p2).ok (.int _)⟩
      | _ => exact p2.elim⟩
    rw [hs] at hA ⊢
    refine Calls.callWith_builtin (by show (false || (backTo pos (starEach [] X.env)).any (·.1)) = false; rw [hplain] <;> rfl) (Calls.evalArgs_plain ?_)
    refine thn hA fun us s2 ⟨vs2, H2, I2, r2, n, ns, e1, e2, e3⟩ => ?_
    subst e1
    exact mt_count hu I2 e2 r2 e3
  · rw [h2] at p
    exact p.elim
end
/-! ### such defs by their bodies -/
abbrev runNZ (n : Nat) (g : Rho → R Fl) (ds : List PyData) : R PyData := runZ n g (.src :: ds.map .d)
section
variable {P : Program} {w : World} {K : PySem.W.Frag} {mg : Str → Option Value} {base : Heap}
theorem isD_lam {ss : List SV} (h : ss.all SV.isD = true) (z : SV.lam ∈ ss) : False := by
  have := List.all_eq_true.mp h _ z
  cases this
theorem fnV_of {ec : EC} {x qual : Str} {st : Stmt} {f : Addr} {fd : FuncData} {N ps : List Str} {k n : Nat} {g : Rho → R Fl} {F : List SV → R PyData} (Fn : FunD K x qual (defArgs st) (defBody st) (defScope st) [] [] f fd) (S : FnScope N ps (defScope st)) (hb : Binds K fd ps []) (hg : mg x = some (.ref f)) (hn : ps.length = n)
    (body : BodyOk P w K mg base ec qual st f N k g) (mir : ∀ ss, ss.length = n → R.le (F ss) (runS N.length g ss)) : FnV P w K mg base ec (k + 1) n x F := by
  refine ⟨f, fd, ps, hn, hg, Fn.kp, hb, Fn.ok S (fun vs H Q E h => by rw [hn]; exact h.1) fun cdv A outer s H vs Q E hr h => ?_⟩
  obtain ⟨hl, S2, M, ss, hd, hD, m, p⟩ := h
  have tk : Takes (cxOf (L2.CX P w) P w K mg base N qual (defScope st) f cdv A outer s H E) (fun cls d _ H => E cls d H) := takes_of rfl rfl rfl rfl
  exact ⟨_, (body cdv A outer s H E hr (fun σ => passAt tk σ) tk).ps, ⟨hid S2 H, hid M H, S2⟩, [], M, _, env_start hd m (fun z => (isD_lam hD z).elim), mir_of m (mir ss ((sall_len hd).symm.trans hl)) p⟩
theorem fnNZ_of {ec : EC} {x qual : Str} {st : Stmt} {f : Addr} {fd : FuncData} {N ps : List Str} {k n : Nat} {g : Rho → R Fl} {F : List PyData → R PyData} (Fn : FunD K x qual (defArgs st) (defBody st) (defScope st) [] [] f fd) (S : FnScope N ps (defScope st)) (hb : Binds K fd ps []) (hg : mg x = some (.ref f)) (hn : ps.length = n)
    (body : BodyOk P w K mg base ec qual st f N k g) (mir : ∀ ds, ds.length + 1 = n → R.le (F ds) (runNZ N.length g ds)) : FnNZ P w K mg base ec (k + 1) n x F := by
  refine ⟨f, fd, ps, hn, hg, Fn.kp, hb, Fn.ok S (fun vs H Q E h => by rw [hn]; exact h.1) fun cdv A outer s H vs Q E hr h => ?_⟩
  obtain ⟨hl, S2, M, a, us, ds, rfl, ha, hd, m, p⟩ := h
  have tk : Takes (cxOf (L2.CX P w) P w K mg base N qual (defScope st) f cdv A outer s H E) (fun cls d _ H => E cls d H) := takes_of rfl rfl rfl rfl
  exact ⟨_, (body cdv A outer s H E hr (fun σ => passAt tk σ) tk).ps, ⟨hid S2 H, hid M H, S2⟩, [], M, _, env_start (.src ha (sall_of hd)) m (fun z => by simp at z), mirZ_of m (mir ds (by rw [List.length_cons] at hl; rw [← dpa_len hd]; exact hl)) p⟩
theorem fn0V_of {ec : EC} {x qual : Str} {st : Stmt} {f : Addr} {fd : FuncData} {N ps : List Str} {k n : Nat} (Fn : FunD K x qual (defArgs st) (defBody st) (defScope st) [] [] f fd) (S : FnScope N ps (defScope st)) (hb : Binds K fd ps []) (hg : mg x = some (.ref f)) (hn : ps.length = n) :
    FnV P w K mg base ec (k + 1) n x (fun _ => .bad) := fnV_of Fn S hb hg hn (fun _ _ _ _ _ _ _ _ _ => dss_bad) fun ds _ Q E h => h.elim
end
end DL
set_option Elab.async false
set_option linter.all false
set_option maxRecDepth 100000
set_option maxHeartbeats 2000000
namespace DL
open PySem PySem.Spec PyProof.Rows L2
/-! ### a zip object of two tuples that has given out its tuple, which lives on -/
section
variable {prog : Program} {w : World} {A : Around} {E : Value → Shared → Prop} {s : Shared}
theorem wpAny_loadIfAlive {M : Model} {a : Addr} {o : Obj} {Q : Option Obj → Shared → Prop} (ho : s.heap.get? a = some o) (h : Q (some o) s) : wpAny M A (loadIfAlive a) Q E s := fun Γ p _ => by
  show Sem.wp M Γ (.loadIfAlive a .pure) _ _ p s
  rw [Sem.wp_loadIfAlive, ho]
  exact h
def IsZ2 (h : Heap) (z TI TO T : Addr) (b : Bool) : Prop := h.get? z = some { cls := .type "zip", dict := none, data := .fields #[rawInt T, .bool b, .bool false, .ref TI, .ref TO], slots := #[] }
theorem zip_notFree {z TI TO T : Addr} {b : Bool} {o : Obj} {Q : Bool → Shared → Prop} (hz : IsZ2 s.heap z TI TO T b) (hT : s.heap.get? T = some o)
    (hQ : ∀ h', IsZ2 h' z TI TO T true → h'.objs.size = s.heap.objs.size → (∀ c o, c ≠ z → s.heap.get? c = some o → h'.get? c = some o) → Q false { s with heap := h' }) :
    wpAny (model prog w) A (Builtin.SmallTypes.ownedTupleIsFree (.ref z)) Q E s := by
  unfold Builtin.SmallTypes.ownedTupleIsFree
  refine wpAny_bind (wpAny_field hz rfl (x := rawInt T) rfl ?_)
  refine wpAny_bind (wpAny_loadIfAlive (by simpa [rawInt] using hT) ?_)
  simp only [Option.isNone_some, Bool.false_eq_true, if_false]
  refine wpAny_bind (wpAny_field hz rfl (x := .bool b) rfl ?_)
  cases b with
  | true => exact wpAny_pure (hQ s.heap hz rfl fun c o _ e => e)
  | false =>
    exact wpAny_bind (wpAny_setField_rec hz (by simp) fun h' hz' hs' => wpAny_pure (hQ h' hz' hs'.1 fun c o n e => hs'.extBut _ _ n e))
theorem zipT2_item {z TI TO T i1 i2 l1 l2 : Addr} {f : Bool} {k1 k2 : Nat} {xs ys : Array Value} {x y : Value} {o : Obj} {Q : Value → Shared → Prop} (D : ZipApart z TI TO i1 i2 l1 l2)
    (hz : IsZ2 s.heap z TI TO T f) (hT : s.heap.get? T = some o) (hTI : IsPair s.heap TI (.ref i1) (.ref i2))
    (h1 : s.heap.IsTupleIter i1 l1 k1) (h2 : s.heap.IsTupleIter i2 l2 k2) (hl1 : s.heap.IsTuple l1 xs) (hl2 : s.heap.IsTuple l2 ys) (hx : xs[k1]? = some x) (hy : ys[k2]? = some y)
    (hQ : ∀ h', IsZ2 h' z TI TO T true → h'.IsTupleIter i1 l1 (k1 + 1) → h'.IsTupleIter i2 l2 (k2 + 1) → IsPair h' s.heap.objs.size x y → h'.objs.size = s.heap.objs.size + 1 →
      (∀ c o, c ≠ z → c ≠ i1 → c ≠ i2 → s.heap.get? c = some o → h'.get? c = some o) → Q (.ref s.heap.objs.size) { s with heap := h' }) :
    wpAny (model prog w) A (Builtin.«zip.__next__» ⟨[.ref z], []⟩) (fun fin s' => ∃ v, fin = .done (.ret v) ∧ Q v s') E s := by
  show wpAny _ _ (field (.ref z) 2 >>= _) _ _ _
  refine wpAny_bind (wpAny_field hz rfl (x := .bool false) rfl ?_)
  show wpAny _ _ (field (.ref z) 3 >>= _) _ _ _
  refine wpAny_bind (wpAny_field hz rfl (x := .ref TI) rfl ?_)
  refine wpAny_bind (wpAny_seqItems hTI rfl ?_)
  show wpAny _ _ (Builtin.SmallTypes.ownedTupleIsFree (.ref z) >>= _) _ _ _
  refine wpAny_bind (zip_notFree hz hT fun h₁ hz₁ sz₁ k₁ => ?_)
  simp only [Bool.false_eq_true, if_false]
  refine wpAny_bind ?_
  rw [← Array.forIn_toList]
  simp only [List.forIn_cons, List.forIn_nil]
  refine wpAny_bind (wpAny_bind (wpAny_holding ?_))
  show wpAny _ _ (Builtin.SmallTypes.nextOf (.ref i1) >>= _) _ _ _
  refine wpAny_bind (RZ.nextOf_tuple_item (h1.at fun o e => k₁ _ o D.i1z e) (let ⟨o, ho, r⟩ := hl1; ⟨o, k₁ _ o D.l1z ho, r⟩) hx fun h₂ h1₂ hs₂ => wpAny_pure (wpAny_pure ?_))
  refine wpAny_bind (wpAny_bind (wpAny_holding ?_))
  show wpAny _ _ (Builtin.SmallTypes.nextOf (.ref i2) >>= _) _ _ _
  refine wpAny_bind (RZ.nextOf_tuple_item ((h2.at fun o e => k₁ _ o D.i2z e).extBut hs₂.extBut D.i12.symm) (Heap.IsTuple.extBut (let ⟨o, ho, r⟩ := hl2; ⟨o, k₁ _ o D.l2z ho, r⟩) hs₂.extBut D.l2i1) hy fun h₃ h2₃ hs₃ => wpAny_pure (wpAny_pure (wpAny_pure ?_)))
  have hz₃ : IsZ2 h₃ z TI TO T true := hs₃.extBut _ _ D.i2z.symm (hs₂.extBut _ _ D.i1z.symm hz₁)
  have hsz : h₃.objs.size = s.heap.objs.size := by rw [hs₃.1, hs₂.1, sz₁]
  refine wpAny_bind (wpAny_newTuple ?_ (by show 2 ≤ sizeLine; decide))
  refine wpAny_pure ⟨_, rfl, ?_⟩
  show Q (.ref h₃.objs.size) _
  have h1₃ : h₃.IsTupleIter i1 l1 (k1 + 1) := h1₂.extBut hs₃.extBut D.i12
  have up : ∀ c o, h₃.get? c = some o → (h₃.push { cls := .type "tuple", data := .seq #[x, y] }).get? c = some o := fun c o e => Heap.get?_push_of_some _ e
  rw [hsz]
  refine hQ _ (up _ _ hz₃) (h1₃.at fun o e => up _ o e) (h2₃.at fun o e => up _ o e) ?_ (by rw [Heap.size_push, hsz]) fun c o c1 c3 c4 e => up _ _ (hs₃.extBut _ _ c4 (hs₂.extBut _ _ c3 (k₁ c o c1 e)))
  rw [← hsz]
  exact Heap.get?_push_size _ rfl
theorem zipT2_end {z TI TO T i1 i2 l1 l2 : Addr} {f : Bool} {k1 k2 : Nat} {xs ys : Array Value} {o : Obj} {Q : Fin → Shared → Prop} (hh : A.handled = none) (D : ZipApart z TI TO i1 i2 l1 l2)
    (hz : IsZ2 s.heap z TI TO T f) (hT : s.heap.get? T = some o) (hTI : IsPair s.heap TI (.ref i1) (.ref i2))
    (h1 : s.heap.IsTupleIter i1 l1 k1) (h2 : s.heap.IsTupleIter i2 l2 k2) (hl1 : s.heap.IsTuple l1 xs) (hl2 : s.heap.IsTuple l2 ys) (hend : xs[k1]? = none ∨ ys[k2]? = none)
    (hE : ∀ h' e, (∀ c o, c ≠ z → c ≠ i1 → c ≠ i2 → s.heap.get? c = some o → h'.get? c = some o) → (∃ o, h'.get? e = some o ∧ o.cls = .type "StopIteration") → E (.ref e) { s with heap := h' }) :
    wpAny (model prog w) A (Builtin.«zip.__next__» ⟨[.ref z], []⟩) Q E s := by
  show wpAny _ _ (field (.ref z) 2 >>= _) _ _ _
  refine wpAny_bind (wpAny_field hz rfl (x := .bool false) rfl ?_)
  show wpAny _ _ (field (.ref z) 3 >>= _) _ _ _
  refine wpAny_bind (wpAny_field hz rfl (x := .ref TI) rfl ?_)
  refine wpAny_bind (wpAny_seqItems hTI rfl ?_)
  show wpAny _ _ (Builtin.SmallTypes.ownedTupleIsFree (.ref z) >>= _) _ _ _
  refine wpAny_bind (zip_notFree hz hT fun h₁ hz₁ sz₁ k₁ => ?_)
  simp only [Bool.false_eq_true, if_false]
  refine wpAny_bind ?_
  rw [← Array.forIn_toList]
  simp only [List.forIn_cons, List.forIn_nil]
  refine wpAny_bind (wpAny_bind (wpAny_holding ?_))
  show wpAny _ _ (Builtin.SmallTypes.nextOf (.ref i1) >>= _) _ _ _
  cases hx : xs[k1]? with
  | none =>
    exact wpAny_bind (RZ.nextOf_tuple_end hh (h1.at fun o e => k₁ _ o D.i1z e) (let ⟨o, ho, r⟩ := hl1; ⟨o, k₁ _ o D.l1z ho, r⟩) hx fun h₂ e hs₂ he => hE h₂ e (fun c o c1 c3 c4 x => hs₂ _ _ c3 (k₁ c o c1 x)) he)
  | some x =>
    have hy : ys[k2]? = none := by rcases hend with h | h; rw [hx] at h; cases h; exact h
    refine wpAny_bind (RZ.nextOf_tuple_item (h1.at fun o e => k₁ _ o D.i1z e) (let ⟨o, ho, r⟩ := hl1; ⟨o, k₁ _ o D.l1z ho, r⟩) hx fun h₂ h1₂ hs₂ => wpAny_pure (wpAny_pure ?_))
    refine wpAny_bind (wpAny_bind (wpAny_holding ?_))
    show wpAny _ _ (Builtin.SmallTypes.nextOf (.ref i2) >>= _) _ _ _
    exact wpAny_bind (RZ.nextOf_tuple_end hh ((h2.at fun o e => k₁ _ o D.i2z e).extBut hs₂.extBut D.i12.symm) (Heap.IsTuple.extBut (let ⟨o, ho, r⟩ := hl2; ⟨o, k₁ _ o D.l2z ho, r⟩) hs₂.extBut D.l2i1) hy fun h₃ e hs₃ he => hE h₃ e (fun c o c1 c3 c4 x => hs₃ _ _ c4 (hs₂.extBut _ _ c3 (k₁ c o c1 x))) he)
/-- the state ahead of the i-th item; av: where the given-out tuple does not lie -/
structure ZSt (av : List Addr) (z TI TO i1 i2 l1 l2 : Addr) (xs ys : Array Value) (i : Nat) (h : Heap) : Prop where
  out : (IsZip h z TI TO .none ∧ ∃ a b, IsPair h TO a b) ∨ ∃ T f o, IsZ2 h z TI TO T f ∧ h.get? T = some o ∧ T ∉ av
  ti : IsPair h TI (.ref i1) (.ref i2)
  i1 : h.IsTupleIter i1 l1 i
  i2 : h.IsTupleIter i2 l2 i
  l1 : h.IsTuple l1 xs
  l2 : h.IsTuple l2 ys
variable {av : List Addr} {z TI TO i1 i2 l1 l2 S : Addr} {xs ys : Array Value} {i : Nat}
/-- kept by what leaves all but S as it is -/
theorem ZSt.keep {h h' : Heap} (st : ZSt av z TI TO i1 i2 l1 l2 xs ys i h) (hS : S ∈ av) (hn : z ≠ S ∧ TI ≠ S ∧ TO ≠ S ∧ i1 ≠ S ∧ i2 ≠ S ∧ l1 ≠ S ∧ l2 ≠ S) (k : ∀ b o, b ≠ S → h.get? b = some o → h'.get? b = some o) : ZSt av z TI TO i1 i2 l1 l2 xs ys i h' := by
  obtain ⟨n1, n2, n3, n4, n5, n6, n7⟩ := hn
  obtain ⟨c, h1, h2, h3, ⟨o4, e4, r4⟩, ⟨o5, e5, r5⟩⟩ := st
  refine ⟨?_, k _ _ n2 h1, h2.at fun o q => k _ o n4 q, h3.at fun o q => k _ o n5 q, ⟨o4, k _ _ n6 e4, r4⟩, ⟨o5, k _ _ n7 e5, r5⟩⟩
  rcases c with ⟨c1, a, b, c2⟩ | ⟨T, f, o, c1, c2, c3⟩
  · exact .inl ⟨k _ _ n1 c1, a, b, k _ _ n3 c2⟩
  · exact .inr ⟨T, f, o, k _ _ n1 c1, k _ _ (fun q => c3 (q ▸ hS)) c2, c3⟩
theorem ZSt.type (st : ZSt av z TI TO i1 i2 l1 l2 xs ys i s.heap) : s.TypeIs (.ref z) "zip" := by
  rcases st.out with ⟨c1, _⟩ | ⟨T, f, o, c1, _⟩
  · exact ⟨_, c1, rfl⟩
  · exact ⟨_, c1, rfl⟩
theorem pyNextZ_item {x y : Value} {Q : Option Value → Shared → Prop} (D : ZipApart z TI TO i1 i2 l1 l2) (st : ZSt av z TI TO i1 i2 l1 l2 xs ys i s.heap) (hav : ∀ a, a ∈ av → a < s.heap.objs.size) (hz : z ∈ av) (h1 : i1 ∈ av) (h2 : i2 ∈ av) (hx : xs[i]? = some x) (hy : ys[i]? = some y)
    (hQ : ∀ h', ZSt av z TI TO i1 i2 l1 l2 xs ys (i + 1) h' → IsPair h' s.heap.objs.size x y → h'.objs.size = s.heap.objs.size + 1 → (∀ c o, c ≠ z → c ≠ TO → c ≠ i1 → c ≠ i2 → s.heap.get? c = some o → h'.get? c = some o) → Q (some (.ref s.heap.objs.size)) { s with heap := h' }) :
    wpAny (model prog w) A (pyNext (.ref z)) Q E s := by
  have hT := st.type
  obtain ⟨c, hTI, hi1, hi2, hl1, hl2⟩ := st
  have tup : ∀ {l : Addr} {ws : Array Value} {h' : Heap}, l ≠ z → l ≠ TO → l ≠ i1 → l ≠ i2 → s.heap.IsTuple l ws → (∀ c o, c ≠ z → c ≠ TO → c ≠ i1 → c ≠ i2 → s.heap.get? c = some o → h'.get? c = some o) → h'.IsTuple l ws := fun a b c d ⟨o, e, r⟩ k => ⟨o, k _ _ a b c d e, r⟩
  have nS : s.heap.objs.size ∉ av := fun q => Nat.lt_irrefl _ (hav _ q)
  rcases c with ⟨c1, a, b, c2⟩ | ⟨T, f, o, c1, c2, c3⟩
  · refine RZ.pyNext_zipT_item D c1 hTI c2 hi1 hi2 hl1 hl2 hx hy fun h' a1 a2 a3 a4 a5 a6 a7 => hQ h' ⟨.inr ⟨_, false, _, a1, a5, nS⟩, a7 _ _ D.TIz D.TITO D.TIi1 D.TIi2 hTI, a3, a4, tup D.l1z D.l1TO D.l1i1 D.l1i2 hl1 a7, tup D.l2z D.l2TO D.l2i1 D.l2i2 hl2 a7⟩ a5 a6 a7
  · unfold pyNext
    refine wpAny_bind (wpAny_attempt (wpAny_callSpecial?_slot (name := Str.ofString "__next__") hT F.slot_zip_next
      (wpAny_call_entry F.slot_zip_next hT F.entry_zip_next
        (zipT2_item D c1 c2 hTI hi1 hi2 hl1 hl2 hx hy fun h' a1 a3 a4 a5 a6 a7 => wpAny_pure ?_) (F.args_zip_next_1 _))))
    have k : ∀ c o, c ≠ z → c ≠ TO → c ≠ i1 → c ≠ i2 → s.heap.get? c = some o → h'.get? c = some o := fun c o n1 _ n3 n4 e => a7 c o n1 n3 n4 e
    exact hQ h' ⟨.inr ⟨T, true, o, a1, a7 _ _ (fun q => c3 (q ▸ hz)) (fun q => c3 (q ▸ h1)) (fun q => c3 (q ▸ h2)) c2, c3⟩, k _ _ D.TIz D.TITO D.TIi1 D.TIi2 hTI, a3, a4, tup D.l1z D.l1TO D.l1i1 D.l1i2 hl1 k, tup D.l2z D.l2TO D.l2i1 D.l2i2 hl2 k⟩ a5 a6 k
theorem pyNextZ_end {Q : Option Value → Shared → Prop} (hh : A.handled = none) (D : ZipApart z TI TO i1 i2 l1 l2) (st : ZSt av z TI TO i1 i2 l1 l2 xs ys i s.heap) (hend : xs[i]? = none ∨ ys[i]? = none)
    (hQ : ∀ h', (∀ c o, c ≠ z → c ≠ TO → c ≠ i1 → c ≠ i2 → s.heap.get? c = some o → h'.get? c = some o) → Q none { s with heap := h' }) : wpAny (model prog w) A (pyNext (.ref z)) Q E s := by
  have hT := st.type
  obtain ⟨c, hTI, hi1, hi2, hl1, hl2⟩ := st
  rcases c with ⟨c1, a, b, c2⟩ | ⟨T, f, o, c1, c2, c3⟩
  · exact RZ.pyNext_zipT_end hh D c1 hTI c2 hi1 hi2 hl1 hl2 hend hQ
  · unfold pyNext
    refine wpAny_bind (wpAny_attempt (wpAny_callSpecial?_slot (name := Str.ofString "__next__") hT F.slot_zip_next
      (wpAny_call_entry F.slot_zip_next hT F.entry_zip_next (zipT2_end hh D c1 c2 hTI hi1 hi2 hl1 hl2 hend fun h' e hk he => ?_) (F.args_zip_next_1 _))))
    obtain ⟨o, ho, hc⟩ := he
    refine wpAny_bind (wpAny_isInstance (T := "StopIteration") (b := true) ⟨o, ho, hc⟩ isSubtype_stop ?_)
    exact wpAny_pure (hQ _ fun c o n1 _ n3 n4 e => hk c o n1 n3 n4 e)
/-- the list of pairs so far -/
def ZAcc (S : Addr) (av : List Addr) (xs ys acc : Array Value) (h : Heap) : Prop := ∀ (j : Nat) (v : Value), acc[j]? = some v → ∃ (T : Addr) (x y : Value), v = .ref T ∧ xs[j]? = some x ∧ ys[j]? = some y ∧ IsPair h T x y ∧ T ∉ av ∧ T = S + 1 + j
abbrev lstO (acc : Array Value) (c : Nat) : Obj := { cls := .type "list", dict := none, data := .seq acc c, slots := #[] }
variable {R : Result → Shared → Prop}
theorem extend_loopZ (hh : A.handled = none) (D : ZipApart z TI TO i1 i2 l1 l2) (hav : av = [S, z, TO, i1, i2]) (hn : z ≠ S ∧ TI ≠ S ∧ TO ≠ S ∧ i1 ≠ S ∧ i2 ≠ S ∧ l1 ≠ S ∧ l2 ≠ S) (res : Value) {n : Nat} (hN : n = min xs.size ys.size) (hsz : n ≤ sizeLine) :
    ∀ (k i : Nat) (s : Shared) (acc : Array Value) (c : Nat), n - i = k → i ≤ n → ZSt av z TI TO i1 i2 l1 l2 xs ys i s.heap → s.heap.get? S = some (lstO acc c) → (∀ a, a ∈ av → a < s.heap.objs.size) → acc.size = i → s.heap.objs.size = S + 1 + i → ZAcc S av xs ys acc s.heap →
    (∀ h' acc' c', (∀ b o, b ∉ av → s.heap.get? b = some o → h'.get? b = some o) → h'.get? S = some (lstO acc' c') → acc'.size = n → ZAcc S av xs ys acc' h' → R (.ok (.ret res)) { s with heap := h' }) →
    codeAny (model prog w) A (.builtin "list.extend.loop" ⟨[.ref S, .ref z, res], []⟩) R s := by
  subst hav
  have kAv : ∀ {h h' : Heap}, (∀ c o, c ≠ z → c ≠ TO → c ≠ i1 → c ≠ i2 → h.get? c = some o → h'.get? c = some o) → ∀ b o, b ∉ [S, z, TO, i1, i2] → h.get? b = some o → h'.get? b = some o := fun k b o nb e => by
    simp only [List.mem_cons, List.not_mem_nil, or_false, not_or] at nb
    exact k b o nb.2.1 nb.2.2.1 nb.2.2.2.1 nb.2.2.2.2 e
  have aK : ∀ {acc : Array Value} {h h' : Heap}, (∀ b o, b ∉ [S, z, TO, i1, i2] → h.get? b = some o → h'.get? b = some o) → ZAcc S [S, z, TO, i1, i2] xs ys acc h → ZAcc S [S, z, TO, i1, i2] xs ys acc h' := fun k a j v e => by
    obtain ⟨T, x, y, e1, e2, e3, e4, e5, e6⟩ := a j v e
    exact ⟨T, x, y, e1, e2, e3, k _ _ e5 e4, e5, e6⟩
  intro k
  induction k with
  | zero =>
    intro i s acc c hk hi hst hS hav hsi hs0 hacc hR
    have hin : i = n := by omega
    refine codeAny_builtin F.entry_extend_loop ?_
    rw [Around.under_plainId F.plain_extend_loop _]
    show wpAny _ A.in1 (pyNext (.ref z) >>= _) _ _ s
    refine wpAny_bind (pyNextZ_end (A := A.in1) hh D hst ?_ fun h' hk' => ?_)
    · rw [hin, hN]
      by_cases q : xs.size ≤ ys.size
      · exact .inl (by rw [Nat.min_eq_left q]; simp)
      · exact .inr (by rw [Nat.min_eq_right (by omega)]; simp)
    · exact wpAny_pure (hR h' acc c (kAv hk') (hk' S _ (Ne.symm hn.1) (Ne.symm hn.2.2.1) (Ne.symm hn.2.2.2.1) (Ne.symm hn.2.2.2.2.1) hS) (hsi.trans hin) (aK (kAv hk') hacc))
  | succ k ih =>
    intro i s acc c hk hi hst hS hav hsi hs0 hacc hR
    have hlt : i < n := by omega
    have hx : i < xs.size := by omega
    have hy : i < ys.size := by omega
    refine codeAny_builtin F.entry_extend_loop ?_
    rw [Around.under_plainId F.plain_extend_loop _]
    show wpAny _ A.in1 (pyNext (.ref z) >>= _) _ _ s
    refine wpAny_bind (pyNextZ_item (x := xs[i]) (y := ys[i]) D hst hav (by simp) (by simp) (by simp) (by simp [hx]) (by simp [hy]) fun h' st' hp' hz' hk' => ?_)
    have hS' := hk' S _ (Ne.symm hn.1) (Ne.symm hn.2.2.1) (Ne.symm hn.2.2.2.1) (Ne.symm hn.2.2.2.2.1) hS
    have nT : s.heap.objs.size ∉ [S, z, TO, i1, i2] := fun q => Nat.lt_irrefl _ (hav _ q)
    show wpAny _ A.in1 (updateSeq S (·.push (Value.ref s.heap.objs.size)) >>= _) _ _ _
    refine wpAny_bind ?_
    refine wpAny_updateSeq hS' rfl (wpAny_pure ⟨plainId_quiet F.plain_extend_loop _, ih (i + 1) _ (acc.push (Value.ref s.heap.objs.size)) _ (by omega) hlt (st'.keep (by simp) hn fun b o nb e => (Heap.get?_update_other _ _ (Ne.symm nb)).trans e) (Heap.get?_update_self _ hS' rfl) (fun a ha => ?_) (by rw [Array.size_push, hsi]) ?_ (fun j v e => ?_) fun h'' acc' c' kk e1 e2 e3 => ?_⟩)
      (by rw [hsi]; omega) (by show (acc.push _).size ≤ sizeLine + 1; rw [Array.size_push, hsi]; omega)
    · have := hav a ha
      have e1 : ∀ f, (h'.update S f).objs.size = h'.objs.size := fun f => (Heap.SameBut.update h' S f).1
      show a < (h'.update S _).objs.size
      rw [e1, hz']
      exact Nat.lt_succ_of_lt this
    · have e1 : ∀ f, (h'.update S f).objs.size = h'.objs.size := fun f => (Heap.SameBut.update h' S f).1
      show (h'.update S _).objs.size = _
      rw [e1, hz', hs0]
      omega
    · have upd : ∀ b o, b ≠ S → h'.get? b = some o → (h'.update S (Obj.mapSeq (·.push (Value.ref s.heap.objs.size)))).get? b = some o := fun b o nb e => (Heap.get?_update_other _ _ (Ne.symm nb)).trans e
      rw [Array.getElem?_push] at e
      split at e
      · rename_i q
        cases e
        have q : j = i := q.trans hsi
        exact ⟨_, _, _, rfl, by rw [q]; simp [hx], by rw [q]; simp [hy], upd _ _ (fun q => nT (by rw [q]; simp)) hp', nT, by rw [hs0, q]⟩
      · obtain ⟨T, x, y, e1, e2, e3, e4, e5, e6⟩ := aK (kAv hk') hacc j v e
        exact ⟨T, x, y, e1, e2, e3, upd _ _ (fun q => e5 (by rw [q]; simp)) e4, e5, e6⟩
    · refine hR h'' acc' c' (fun b o nb e => ?_) e1 e2 e3
      refine kk b o nb ((Heap.get?_update_other _ _ (fun q : S = b => nb (by rw [← q]; simp))).trans (kAv hk' b o nb e))
theorem zip_no_len : typeLookup (.type "zip") "__len__" = pure none := by rw [typeLookup_type, builtinLookup_eq_fast]; kernel_rfl
theorem zip_no_hint : typeLookup (.type "zip") "__length_hint__" = pure none := by rw [typeLookup_type, builtinLookup_eq_fast]; kernel_rfl
theorem wpAny_extend_zip (hh : A.handled = none) (D : ZipApart z TI TO i1 i2 l1 l2) (hav : av = [S, z, TO, i1, i2]) (hn : z ≠ S ∧ TI ≠ S ∧ TO ≠ S ∧ i1 ≠ S ∧ i2 ≠ S ∧ l1 ≠ S ∧ l2 ≠ S) (res : Value) {n : Nat} (hN : n = min xs.size ys.size) (hsz : n ≤ sizeLine) (c₀ : Nat)
    (hst : ZSt av z TI TO i1 i2 l1 l2 xs ys 0 s.heap) (hz0 : IsZip s.heap z TI TO .none) (hS : s.heap.get? S = some { cls := .type "list", data := .seq #[] c₀ }) (hs0 : s.heap.objs.size = S + 1) (hsa : ∀ a, a ∈ av → a < s.heap.objs.size)
    (hR : ∀ h' acc' c', (∀ b o, b ∉ av → s.heap.get? b = some o → h'.get? b = some o) → h'.get? S = some (lstO acc' c') → acc'.size = n → ZAcc S av xs ys acc' h' → R (.ok (.ret res)) { s with heap := h' }) :
    wpAny (model prog w) A.in1 (Builtin.List.listExtendWith (.ref S) (.ref z) res)
      (fun fin s' => match fin with | .done f => R (.ok f) s' | .again c' => c'.quiet = true ∧ codeAny (model prog w) A c' R s') (fun e s' => R (.error e) s') s := by
  have hSI : S ≠ z := Ne.symm hn.1
  have hT := hst.type
  unfold Builtin.List.listExtendWith
  refine wpAny_bind (wpAny_typeOf hT ?_)
  have h1 : Builtin.List.listSameRef (.ref S) (.ref z) = false := by simp [Builtin.List.listSameRef, hSI]
  have h2 : (Value.type "zip" == Value.type "list") = false := by decide
  have h3 : (Value.type "zip" == Value.type "tuple") = false := by decide
  simp only [h1, h2, h3, Bool.or_false, Bool.false_eq_true, if_false]
  refine wpAny_bind (wpAny_pyIter_zip hz0 ?_)
  refine wpAny_bind (wpAny_holding ?_)
  unfold Builtin.List.listLengthHint
  refine wpAny_bind (wpAny_specialOf hT zip_no_len ?_)
  show wpAny _ A.in1 (specialOf (Value.ref z) (Str.ofString "__length_hint__") >>= _) _ _ _
  refine wpAny_bind (wpAny_specialOf hT zip_no_hint ?_)
  refine wpAny_pure ?_
  show wpAny _ A.in1 (rule "list.extend.makes-room" >>= fun _ => Builtin.List.listTouch (.ref S) >>= fun _ =>
    again (.builtin "list.extend.loop" ⟨[.ref S, .ref z, res], []⟩)) _ _ _
  refine wpAny_bind (wpAny_rule ?_)
  refine wpAny_bind ?_
  show wpAny _ A.in1 (updateSeq S (·.push .none) >>= fun _ => updateSeq S (·.pop)) _ _ _
  refine wpAny_bind (wpAny_updateSeq hS rfl ?_)
  have hS₂ := Heap.get?_update_self (Obj.mapSeq (·.push Value.none)) hS rfl
  refine wpAny_updateSeq (hz := by seq_fits) hS₂ rfl ?_
  have hS₃ := Heap.get?_update_self (Obj.mapSeq (·.pop)) hS₂ rfl
  have oth : ∀ b o, b ≠ S → s.heap.get? b = some o → ((s.heap.update S (Obj.mapSeq (·.push Value.none))).update S (Obj.mapSeq (·.pop))).get? b = some o :=
    fun b o hb e => (Heap.get?_update_other _ _ (Ne.symm hb)).trans ((Heap.get?_update_other _ _ (Ne.symm hb)).trans e)
  have sz1 : ((s.heap.update S (Obj.mapSeq (·.push Value.none))).update S (Obj.mapSeq (·.pop))).objs.size = s.heap.objs.size := by
    have e1 : ∀ (h : Heap) f, (h.update S f).objs.size = h.objs.size := fun h f => (Heap.SameBut.update h S f).1
    rw [e1, e1]
  have hSav : S ∈ av := by rw [hav]; simp
  refine wpAny_pure ⟨plainId_quiet F.plain_extend_loop _, extend_loopZ hh D hav hn res hN hsz n 0 _ _ _ rfl (Nat.zero_le _)
    (hst.keep hSav hn oth) hS₃ (fun a ha => (by rw [sz1]; exact hsa a ha)) rfl (sz1.trans hs0) (fun j v e => by simp at e) fun h' acc' c' k e1 e2 e3 => ?_⟩
  exact hR h' acc' c' (fun b o nb e => k b o nb (oth b o (fun q => nb (q ▸ hSav)) e)) e1 e2 e3
theorem wpAny_list_init_zip (hh : A.handled = none) (D : ZipApart z TI TO i1 i2 l1 l2) (hav : av = [S, z, TO, i1, i2]) (hn : z ≠ S ∧ TI ≠ S ∧ TO ≠ S ∧ i1 ≠ S ∧ i2 ≠ S ∧ l1 ≠ S ∧ l2 ≠ S) {n : Nat} (hN : n = min xs.size ys.size) (hsz : n ≤ sizeLine)
    (hst : ZSt av z TI TO i1 i2 l1 l2 xs ys 0 s.heap) (hz0 : IsZip s.heap z TI TO .none) (hS : s.heap.get? S = some { cls := .type "list", data := .seq #[] }) (hs0 : s.heap.objs.size = S + 1) (hsa : ∀ a, a ∈ av → a < s.heap.objs.size)
    (hR : ∀ h' acc' c', (∀ b o, b ∉ av → s.heap.get? b = some o → h'.get? b = some o) → h'.get? S = some (lstO acc' c') → acc'.size = n → ZAcc S av xs ys acc' h' → R (.ok (.ret .none)) { s with heap := h' }) :
    wpAny (model prog w) A.in1 (Builtin.«list.__init__» ⟨[.ref S, .ref z], []⟩)
      (fun fin s' => match fin with | .done f => R (.ok f) s' | .again c' => c'.quiet = true ∧ codeAny (model prog w) A c' R s') (fun e s' => R (.error e) s') s := by
  show wpAny _ A.in1 (do let old ← Builtin.List.listItems (.ref S); Builtin.List.listUpdate (.ref S) (fun _ => #[]); letGo old.toList.reverse; Builtin.List.listExtendWith (.ref S) (.ref z) .none) _ _ s
  refine wpAny_bind ?_
  unfold Builtin.List.listItems
  refine wpAny_bind (wpAny_seqItems hS rfl (wpAny_pure ?_))
  show wpAny _ A.in1 (updateSeq S (fun _ => #[]) >>= fun _ => letGo (#[] : Array Value).toList.reverse >>= fun _ => Builtin.List.listExtendWith (.ref S) (.ref z) .none) _ _ s
  refine wpAny_bind (wpAny_updateSeq hS rfl ?_)
  have hS₂ := Heap.get?_update_self (Obj.mapSeq (fun _ => (#[] : Array Value))) hS rfl
  have oth : ∀ b o, b ≠ S → s.heap.get? b = some o → (s.heap.update S (Obj.mapSeq (fun _ => (#[] : Array Value)))).get? b = some o :=
    fun b o hb e => (Heap.get?_update_other _ _ (Ne.symm hb)).trans e
  have sz1 : (s.heap.update S (Obj.mapSeq (fun _ => (#[] : Array Value)))).objs.size = s.heap.objs.size := (Heap.SameBut.update s.heap S _).1
  have hSav : S ∈ av := by rw [hav]; simp
  refine wpAny_bind (wpAny_letGo ?_)
  refine wpAny_extend_zip hh D hav hn .none hN hsz _ (hst.keep hSav hn oth) (oth _ _ hn.1 hz0) hS₂ (sz1.trans hs0) (fun a ha => (by rw [sz1]; exact hsa a ha)) fun h' acc' c' k e1 e2 e3 => ?_
  exact hR h' acc' c' (fun b o nb e => k b o nb (oth b o (fun q => nb (q ▸ hSav)) e)) e1 e2 e3
/-- list(z), z a new zip object -/
theorem call_list_zip {Q : Value → Shared → Prop} (hh : A.handled = none) (D : ZipApart z TI TO i1 i2 l1 l2) {n : Nat} (hN : n = min xs.size ys.size) (hsz : n ≤ sizeLine)
    (hst : ZSt [s.heap.objs.size, z, TO, i1, i2] z TI TO i1 i2 l1 l2 xs ys 0 s.heap) (hz0 : IsZip s.heap z TI TO .none) (hlt : ∀ a, a ∈ [z, TI, TO, i1, i2, l1, l2] → a < s.heap.objs.size)
    (hQ : ∀ h' acc' c', (∀ b o, b ∉ [s.heap.objs.size, z, TO, i1, i2] → s.heap.get? b = some o → h'.get? b = some o) → h'.get? s.heap.objs.size = some (lstO acc' c') → acc'.size = n → ZAcc s.heap.objs.size [s.heap.objs.size, z, TO, i1, i2] xs ys acc' h' → Q (.ref s.heap.objs.size) { s with heap := h' }) :
    wpAny (model prog w) A (call (.type "list") [.ref z]) Q E s := by
  have hne : ∀ a, a ∈ [z, TI, TO, i1, i2, l1, l2] → a ≠ s.heap.objs.size := fun a ha => Nat.ne_of_lt (hlt a ha)
  have hn : z ≠ s.heap.objs.size ∧ TI ≠ s.heap.objs.size ∧ TO ≠ s.heap.objs.size ∧ i1 ≠ s.heap.objs.size ∧ i2 ≠ s.heap.objs.size ∧ l1 ≠ s.heap.objs.size ∧ l2 ≠ s.heap.objs.size := ⟨hne _ (by simp), hne _ (by simp), hne _ (by simp), hne _ (by simp), hne _ (by simp), hne _ (by simp), hne _ (by simp)⟩
  refine callType_codes (Q₁ := fun obj s₁ => obj = .ref s.heap.objs.size ∧ s₁ = { s with heap := s.heap.push { cls := .type "list", data := .seq #[] } }) F.called_list (F.typeCall_list_1 _) F.entry_list_init
    (code_list_new _ ⟨rfl, rfl⟩) fun obj s₁ h₁ => ?_
  obtain ⟨rfl, rfl⟩ := h₁
  have hS : (s.heap.push { cls := .type "list", data := .seq #[] }).get? s.heap.objs.size = some { cls := .type "list", data := .seq #[] } := Heap.get?_push_size _ rfl
  have up : ∀ b o, s.heap.get? b = some o → (s.heap.push { cls := .type "list", data := .seq #[] }).get? b = some o := fun b o e => Heap.get?_push_of_some _ e
  refine ⟨⟨_, hS, rfl⟩, F.args_list_init_2 _ _, wpAny_list_init_zip (A := A.in1) hh D rfl hn hN hsz (hst.keep (by simp) hn fun b o _ e => up b o e) (up _ _ hz0) hS (Heap.size_push ..) (fun a ha => ?_) fun h' acc' c' k e1 e2 e3 => ?_⟩
  · show a < (s.heap.push _).objs.size
    rw [Heap.size_push]
    rcases List.mem_cons.mp ha with q | q
    · rw [q]; exact Nat.lt_succ_self _
    · refine Nat.lt_succ_of_lt (hlt a ?_)
      simp only [List.mem_cons, List.not_mem_nil, or_false] at q ⊢
      rcases q with q | q | q | q <;> simp [q]
  · exact ⟨rfl, hQ h' acc' c' (fun b o nb e => k b o nb (up b o e)) e1 e2 e3⟩
end
/-! ### list(zip(a, b)), a and b tuples -/
def zlH (H1 : Hp) (S n : Nat) (xs ys : List V) : Hp := fun b => if b = S then some (.lst ((List.range n).map fun j => V.ref (S + 1 + j))) else if S < b ∧ b ≤ S + n then some (.tup [xs.getD (b - (S + 1)) .non, ys.getD (b - (S + 1)) .non]) else H1 b
theorem zlH_old {H1 : Hp} {S n b : Nat} {xs ys : List V} (h : b < S) : zlH H1 S n xs ys b = H1 b := by
  unfold zlH
  rw [if_neg (Nat.ne_of_lt h), if_neg fun z => Nat.lt_asymm h z.1]
theorem zlH_list {H1 : Hp} {S n : Nat} {xs ys : List V} : zlH H1 S n xs ys S = some (.lst ((List.range n).map fun j => V.ref (S + 1 + j))) := by
  unfold zlH
  rw [if_pos rfl]
theorem zlH_tup {H1 : Hp} {S n j : Nat} {xs ys : List V} {x y : V} (h : j < n) (hx : xs[j]? = some x) (hy : ys[j]? = some y) : zlH H1 S n xs ys (S + 1 + j) = some (.tup [x, y]) := by
  unfold zlH
  have g1 : S < S + 1 + j := by omega
  have g2 : S + 1 + j ≤ S + n := by omega
  rw [if_neg (Nat.ne_of_gt g1), if_pos ⟨g1, g2⟩]
  have e : S + 1 + j - (S + 1) = j := by omega
  rw [e, List.getD_eq_getElem?_getD, List.getD_eq_getElem?_getD, hx, hy]
  rfl
section
variable {X : Cx} {e e2 : Expr} {ta : TA} {p p2 pos pos2 : Pos}
theorem pe_listZip (hc : X.calm = true) (hgl : Gl X "list") (hml : X.mg "list" = none) (hg : Gl X "zip") (hm : X.mg "zip" = none) (ha : PA X [e, e2] ta)
    (hs : starEach [e, e2] X.env = (false, eval e X.env) :: starEach [e2] X.env := by rfl) (hpl : (backTo pos2 (starEach [e2] X.env)).any (·.1) = false := by rfl)
    (na : starEach [.Call (.Name "zip" p2) [e, e2] [] pos2] X.env = (false, eval (.Call (.Name "zip" p2) [e, e2] [] pos2) X.env) :: starEach [] X.env := by rfl) :
    PE X (.Call (.Name "list" p) [.Call (.Name "zip" p2) [e, e2] [] pos2] [] pos) (fun σ H Q => ta σ H fun vs H1 => ∃ a b xs ys, vs = [.ref a, .ref b] ∧ SqT X.K H1 a xs ∧ SqT X.K H1 b ys ∧
      ∀ S H2, H1 S = none → Same H1 H2 → H2 S = some (.lst ((List.range (min xs.length ys.length)).map fun j => V.ref (S + 1 + j))) → (∀ j x y, xs[j]? = some x → ys[j]? = some y → H2 (S + 1 + j) = some (.tup [x, y]) ∧ H1 (S + 1 + j) = none) → Q (.ref S) H2) := by
  refine ⟨fun pins s σ H Q I h => ?_⟩
  refine Call_ (ld_blt I hgl hml boot_list (PyProof.Rows.callWith_type1 (args_cons ?_ na) na))
  refine Call_ (ld_blt I hg hm PyProof.Rows.boot_zip (PyProof.Rows.callWith_type1 (thn (ha.run pos2 pins s σ H _ I h) fun us s1 ⟨vs, H1, I1, r1, q1⟩ => ?_) hs hpl))
  obtain ⟨a, b, xs, ys, ex, hqx, hqy, q⟩ := q1
  subst ex
  cases r1 with
  | cons r rr =>
    cases rr with
    | cons r' rr =>
      cases rr
      cases r
      cases r'
      obtain ⟨its, rv, p1, z1⟩ := I1.tuple hqx
      obtain ⟨its2, rv2, p2, z2⟩ := I1.tuple hqy
      have l1 := rv.length
      have l2 := rv2.length
      obtain ⟨o1, ho1, _⟩ := id p1
      obtain ⟨o2, ho2, _⟩ := id p2
      have la := Heap.lt_size ho1
      have lb := Heap.lt_size ho2
      refine RZ.call_zipT (show s1.heap.IsTuple a its.toArray from p1) (show s1.heap.IsTuple b its2.toArray from p2) fun h' hz hTI hTO h1 h2 hsz hk => args_nil ?_
      have D := PySem.W.ktu_apart s1.heap.objs.size a b la lb
      have hav : s1.heap.objs.size + 4 ∉ [h'.objs.size, s1.heap.objs.size + 4, s1.heap.objs.size + 3, s1.heap.objs.size, s1.heap.objs.size + 1] → False := fun z => z (by simp)
      refine call_list_zip (xs := its.toArray) (ys := its2.toArray) (s := { s1 with heap := h' }) (I1.ok.hd hc) D rfl (by simp only [List.size_toArray]; omega)
        ⟨.inl ⟨hz, _, _, hTO⟩, hTI, h1, h2, p1.keeps hk, p2.keeps hk⟩ hz (fun c hcm => ?_) fun h'' acc' c' k e1 e2 e3 => ?_
      · show c < h'.objs.size
        simp only [List.mem_cons, List.not_mem_nil, or_false] at hcm
        have hs5 : h'.objs.size = s1.heap.objs.size + 5 := hsz
        have g : ∀ k : Nat, k < 5 → s1.heap.objs.size + k < h'.objs.size := fun k hk => by omega
        rcases hcm with z | z | z | z | z | z | z
        · rw [z]; exact g 4 (by decide)
        · rw [z]; exact g 2 (by decide)
        · rw [z]; exact g 3 (by decide)
        · rw [z]; exact g 0 (by decide)
        · rw [z]; exact g 1 (by decide)
        · rw [z]; exact Nat.lt_of_lt_of_le la (by omega)
        · rw [z]; exact Nat.lt_of_lt_of_le lb (by omega)
      · have e1 : h''.get? h'.objs.size = some (lstO acc' c') := e1
        have e3 : ZAcc h'.objs.size [h'.objs.size, s1.heap.objs.size + 4, s1.heap.objs.size + 3, s1.heap.objs.size, s1.heap.objs.size + 1] its.toArray its2.toArray acc' h'' := e3
        have e2 : acc'.size = min xs.length ys.length := by rw [e2, List.size_toArray, List.size_toArray, l1, l2]
        generalize hS : h'.objs.size = S at *
        have hSlt : s1.heap.objs.size < S := by omega
        have l3 : acc'.toList.length = min xs.length ys.length := by rw [← e2]; simp
        have k1 : ∀ b o, s1.heap.get? b = some o → h''.get? b = some o := fun b o q => k b o (fun z => by
          have hb := Heap.lt_size q
          have g : ∀ k : Nat, b ≠ s1.heap.objs.size + k := fun k e => by
            rw [e] at hb
            exact absurd hb (Nat.not_lt.mpr (Nat.le_add_right _ _))
          simp only [List.mem_cons, List.not_mem_nil, or_false] at z
          rcases z with z | z | z | z | z
          · exact absurd (Nat.lt_trans hb hSlt) (by rw [z]; exact Nat.lt_irrefl _)
          · exact g 4 z
          · exact g 3 z
          · exact g 0 z
          · exact g 1 z) (hk b o q)
        have lo : ∀ b o, H1 b = some o → b < s1.heap.objs.size := fun b o q => Nat.lt_of_not_le fun z => by
          rw [I1.hok.fresh z] at q
          cases q
        have same : Same H1 (zlH H1 S (min xs.length ys.length) xs ys) := fun b o q => by
          rw [zlH_old (Nat.lt_trans (lo b o q) hSlt)]
          exact q
        have hok : HOk X.prog X.w (zlH H1 S (min xs.length ys.length) xs ys) h'' := fun b o q => by
          unfold zlH at q
          split at q
          · rename_i eb
            cases q
            subst eb
            refine ⟨by rw [List.length_map, List.length_range]; omega, acc'.toList, c', vals_of_at (by rw [List.length_map, List.length_range, l3]) fun j x u h3 h4 => ?_, by rw [Array.toArray_toList]; exact e1⟩
            rw [Array.getElem?_toList] at h4
            obtain ⟨T, x', y', g1, g2, g3, g4, g5, g6⟩ := e3 j u h4
            rw [List.getElem?_map] at h3
            obtain ⟨j', h5, h6⟩ := Option.map_eq_some_iff.mp h3
            have h7 := (List.getElem?_eq_some_iff.mp h5).2
            rw [List.getElem_range] at h7
            subst h7 h6
            show u = _
            rw [g1, g6]
          · split at q
            · rename_i hb
              cases q
              obtain ⟨j, rfl⟩ := Nat.le.dest (show S + 1 ≤ b from hb.1)
              have hb2 : S + 1 + j ≤ S + min xs.length ys.length := hb.2
              have hj : j < acc'.size := by rw [e2]; omega
              have hj1 : j < xs.length := by omega
              have hj2 : j < ys.length := by omega
              obtain ⟨T, x', y', g1, g2, g3, g4, g5, g6⟩ := e3 j acc'[j] (by simp [hj])
              rw [g6] at g4
              have ej : S + 1 + j - (S + 1) = j := Nat.add_sub_cancel_left ..
              obtain ⟨u1, w1, w2⟩ := rv.get (i := j) (x := xs[j]) (by simp [hj1])
              obtain ⟨u2, w3, w4⟩ := rv2.get (i := j) (x := ys[j]) (by simp [hj2])
              have g2 : its[j]? = some x' := by simpa using g2
              have g3 : its2[j]? = some y' := by simpa using g3
              rw [g2] at w1
              rw [g3] at w3
              cases w1
              cases w3
              rw [ej, List.getD_eq_getElem?_getD, List.getD_eq_getElem?_getD, show xs[j]? = some xs[j] by simp [hj1], show ys[j]? = some ys[j] by simp [hj2]]
              exact ⟨by show 2 ≤ sizeLine; decide, [x', y'], .cons w2 (.cons w4 .nil), ⟨_, g4, rfl, _, rfl⟩⟩
            · exact (I1.hok b o q).stay (fun d v _ z => k1 d v z) (fun d z => same _ _ z) fun d ws z => same _ _ z
        have un : Un X.fs [] H1 (zlH H1 S (min xs.length ys.length) xs ys) s1.heap h'' := ⟨fun b o q _ _ _ => k1 b o q, fun b o q _ _ _ => ⟨o.slots, k1 b o q⟩, fun b o q n _ => (zlH_old (Nat.lt_trans (Heap.lt_size q) hSlt)).trans n, fun b o q _ => ⟨o, k1 b o q⟩, fun b ws q => same _ _ q, fun b o u q => same _ _ q, fun b ps q => ⟨#[], by rw [same _ _ q]; simp⟩⟩
        have nS : ∀ m, S ≤ m → H1 m = none := fun m hm => I1.hok.fresh (by omega)
        exact ⟨.ref S, _, I1.un (t' := s1.toks) un hok, rfl, q S _ (nS S (Nat.le_refl _)) same zlH_list fun j x y hx hy => ⟨zlH_tup (by
          have := (List.getElem?_eq_some_iff.mp hx).1
          have := (List.getElem?_eq_some_iff.mp hy).1
          omega) hx hy, nS _ (by omega)⟩⟩
end
theorem dpa_ix {K : PySem.W.Frag} {G : Hp} : ∀ {vs : List V} {ds : List PyData}, vs.length = ds.length → (∀ (j : Nat) (v : V) (d : PyData), vs[j]? = some v → ds[j]? = some d → Dp K G v d) → DpAll K G vs ds
  | [], [], _, _ => .nil
  | [], _ :: _, h, _ => by simp at h
  | _ :: _, [], h, _ => by simp at h
  | v :: vs, d :: ds, h, k => .cons (k 0 v d rfl rfl) (dpa_ix (Nat.succ.inj h) fun j v d e1 e2 => k (j + 1) v d e1 e2)
def zipT (ds : List PyData) : R PyData := match ds with
  | [.tuple as, .tuple bs] => .ok (.list (zipD as bs))
  | _ => .bad
section
variable {X : Cx} {ec : EC} {Ef : L2.St → XK} {O : List Nat} {e e2 : Expr} {fa : Rho → R (List PyData)} {p p2 pos pos2 : Pos}
theorem df_listZip (hc : X.calm = true) (hgl : Gl X "list") (hml : X.mg "list" = none) (hg : Gl X "zip") (hm : X.mg "zip" = none) (ha : DA X ec Ef O [e, e2] fa)
    (hs : starEach [e, e2] X.env = (false, eval e X.env) :: starEach [e2] X.env := by rfl) (hpl : (backTo pos2 (starEach [e2] X.env)).any (·.1) = false := by rfl)
    (na : starEach [.Call (.Name "zip" p2) [e, e2] [] pos2] X.env = (false, eval (.Call (.Name "zip" p2) [e, e2] [] pos2) X.env) :: starEach [] X.env := by rfl) :
    DF X ec Ef O (.Call (.Name "list" p) [.Call (.Name "zip" p2) [e, e2] [] pos2] [] pos) (fun ρ => (fa ρ).bind zipT) :=
  ⟨(pe_listZip hc hgl hml hg hm ha.pa hs hpl na).imp fun σ H Q ⟨B, P, Z, ρ, hE, q⟩ => ⟨B, P, Z, ρ, hE, (Post.bind q).imp fun vs H1 ⟨ds, _, s1, d1, p1⟩ => by
    have d1 : DpAll X.K (hid (P ++ Z) H1) vs ds := d1
    unfold zipT at p1
    split at p1
    · cases d1 with
      | cons r1 t1 =>
        cases t1 with
        | cons r2 t2 =>
          cases t2
          cases r1 with
          | tup hs1 ha1 =>
            cases r2 with
            | tup hs2 ha2 =>
              have hM := (hE.same s1).trk
              refine ⟨_, _, _, _, rfl, same_seqT hid_le hs1, same_seqT hid_le hs2, fun S H2 n1 sm hl ht => (show Post B.S X.K ec (dF X.K H (P ++ Z)) (P ++ Z) (Ef σ) H1 Q (.ok (.list (zipD _ _))) from p1) _ _ (.of sm) ⟨S, _, _, rfl, rfl, s1.free hE.so S n1, fun z => hM S z n1, hl, dpa_ix ?_ fun j v d h1 h2 => ?_⟩⟩
              · rw [List.length_map, List.length_range, zipD_len, dpa_len ha1, dpa_len ha2]
              · obtain ⟨a, b, g1, g2, rfl⟩ := zipD_get h2
                obtain ⟨x, w1, w2⟩ := dpa_get' ha1 g1
                obtain ⟨y, w3, w4⟩ := dpa_get' ha2 g2
                obtain ⟨t1, t2⟩ := ht j x y w1 w3
                rw [List.getElem?_map] at h1
                obtain ⟨j', h5, h6⟩ := Option.map_eq_some_iff.mp h1
                have h7 := (List.getElem?_eq_some_iff.mp h5).2
                rw [List.getElem_range] at h7
                subst h7 h6
                have vis : Same (hid (P ++ Z) H1) (hid (S :: (P ++ Z)) H2) := fun b o e => by
                  obtain ⟨e1, e2⟩ := hid_some e
                  have nb : b ≠ S := ne_of_none e2 n1
                  rw [hid_out (by simp only [List.mem_cons, not_or]; exact ⟨nb, e1⟩)]
                  exact sm b o e2
                refine .tup (.inl (.inl ?_)) (.cons (dp_mono vis _ _ w2) (.cons (dp_mono vis _ _ w4) .nil))
                rw [hid_out]
                · exact t1
                · intro z
                  rcases List.mem_cons.mp z with z | z
                  · exact absurd z (Nat.ne_of_gt (Nat.lt_of_lt_of_le (Nat.lt_succ_self S) (Nat.le_add_right _ _)))
                  · exact hM _ z t2
    · exact p1.elim⟩⟩
end
end DL
set_option Elab.async false
set_option linter.all false
set_option maxRecDepth 100000
set_option maxHeartbeats 0
namespace G
open PySem PySem.Spec PyProof.Rows L2 DL
def top (i : Nat) : Stmt := PySem.Challenge.pw_longcorridor_k12_claims_about_corridors.main.body.getD i (.Pass ⟨0, 0, 0, 0⟩)
def V_SIDES : List He.Dv := [.str "left", .str "right"]
def D_SIDES : List PyData := [.str "left", .str "right"]
theorem d_SIDES {K : PySem.W.Frag} (H : Hp) : DpAll K H (V_SIDES.map (He.Dv.v K)) D_SIDES := .cons (.str _) (.cons (.str _) .nil)
def V_SINGLE : List He.Dv := [.str "even", .str "first", .str "last", .str "none", .str "some"]
def D_SINGLE : List PyData := [.str "even", .str "first", .str "last", .str "none", .str "some"]
theorem d_SINGLE {K : PySem.W.Frag} (H : Hp) : DpAll K H (V_SINGLE.map (He.Dv.v K)) D_SINGLE := .cons (.str _) (.cons (.str _) (.cons (.str _) (.cons (.str _) (.cons (.str _) .nil))))
def N_is_from : List Str := ["value", "low", "high"]
theorem sc_is_from : FnScope N_is_from ["value", "low", "high"] (defScope (top 10)) := ⟨rfl, rfl, rfl, by decide +kernel, rfl, by decide +kernel, by decide +kernel⟩
def g_is_from : Rho → R Fl := (retE (fun ρ => ((fIsi "int" (fun ρ => getV ρ 0)) ρ).bind fun x => (tru x).bind fun k => if k = true then (fun ρ => ((fun ρ => ((fIsi "bool" (fun ρ => getV ρ 0)) ρ).bind fun x => (tru x).bind fun b => R.ok (.bool (!b))) ρ).bind fun x => (tru x).bind fun k => if k = true then (fChain gLe gLe (fun ρ => getV ρ 1) (fun ρ => getV ρ 0) (fun ρ => getV ρ 2)) ρ else R.ok x) ρ else R.ok x))
theorem b_is_from {P : Program} {w : World} {K : PySem.W.Frag} {mg : Str → Option Value} {base : Heap} {ec : EC} {f : Addr}  (n_bool : mg "bool" = none) (n_int : mg "int" = none) (n_isinstance : mg "isinstance" = none) : BodyOk P w K mg base ec "is_from" (top 10) f N_is_from 0 (g_is_from) := by
  intro cdv A outer s H E hr hp tk
  have nd := sc_is_from.nd
  exact (dss_one (ds_ret flatE (de_and (de_isi (T := "int") (by decide) (by rfl) n_isinstance (by rfl) n_int (by decide +kernel) (db_name (pv 0))) (de_and (de_not (DE.b (de_isi (T := "bool") (by decide) (by rfl) n_isinstance (by rfl) n_bool (by decide +kernel) (db_name (pv 0))))) (de_one (de_chain od_le od_le (db_name (pv 1)) (db_name (pv 0)) (db_name (pv 2))))))))
def F_is_from : List PyData → R PyData := fun ds => runB N_is_from.length (g_is_from) ds
def N_is_tuple : List Str := ["value", "low", "high"]
theorem sc_is_tuple : FnScope N_is_tuple ["value", "low", "high"] (defScope (top 11)) := ⟨rfl, rfl, rfl, by decide +kernel, rfl, by decide +kernel, by decide +kernel⟩
def g_is_tuple : Rho → R Fl := (retE (fun ρ => ((fIsi "tuple" (fun ρ => getV ρ 0)) ρ).bind fun x => (tru x).bind fun k => if k = true then (fChain gLe gLe (fun ρ => getV ρ 1) (fC1 gLen (fun ρ => getV ρ 0)) (fun ρ => getV ρ 2)) ρ else R.ok x))
theorem b_is_tuple {P : Program} {w : World} {K : PySem.W.Frag} {mg : Str → Option Value} {base : Heap} {ec : EC} {f : Addr}  (n_isinstance : mg "isinstance" = none) (n_len : mg "len" = none) (n_tuple : mg "tuple" = none) : BodyOk P w K mg base ec "is_tuple" (top 11) f N_is_tuple 0 (g_is_tuple) := by
  intro cdv A outer s H E hr hp tk
  have nd := sc_is_tuple.nd
  exact (dss_one (ds_ret flatE (de_and (de_isi (T := "tuple") (by decide) (by rfl) n_isinstance (by rfl) n_tuple (by decide +kernel) (db_name (pv 0))) (de_one (de_chain od_le od_le (db_name (pv 1)) (DE.b (de_b1 c_len (by rfl) n_len (by decide +kernel) (db_name (pv 0)))) (db_name (pv 2)))))))
def F_is_tuple : List PyData → R PyData := fun ds => runB N_is_tuple.length (g_is_tuple) ds
def N_is_side : List Str := ["value"]
theorem sc_is_side : FnScope N_is_side ["value"] (defScope (top 12)) := ⟨rfl, rfl, rfl, by decide +kernel, rfl, by decide +kernel, by decide +kernel⟩
def g_is_side : Rho → R Fl := (retE (fun ρ => ((fIsi "str" (fun ρ => getV ρ 0)) ρ).bind fun x => (tru x).bind fun k => if k = true then (fBin gIn (fun ρ => getV ρ 0) (fC (.tuple D_SIDES))) ρ else R.ok x))
theorem b_is_side {P : Program} {w : World} {K : PySem.W.Frag} {mg : Str → Option Value} {base : Heap} {ec : EC} {f : Addr}  (n_isinstance : mg "isinstance" = none) (n_str : mg "str" = none) (m_SIDES : mg "SIDES" = some (.ref (He.ga K "SIDES"))) (t_SIDES : He.tupB K "SIDES" V_SIDES = true) : BodyOk P w K mg base ec "is_side" (top 12) f N_is_side 0 (g_is_side) := by
  intro cdv A outer s H E hr hp tk
  have nd := sc_is_side.nd
  exact (dss_one (ds_ret flatE (de_and (de_isi (T := "str") (by decide) (by rfl) n_isinstance (by rfl) n_str (by decide +kernel) (db_name (pv 0))) (de_one (de_cmp (od_in (u65 hr)) (db_name (pv 0)) (DE.b (de_globT (by rfl) m_SIDES t_SIDES d_SIDES)) (by rfl))))))
def F_is_side : List PyData → R PyData := fun ds => runB N_is_side.length (g_is_side) ds
def N_is_line : List Str := ["many", "notes", "value", "stand", "note", "pair"]
theorem sc_is_line : FnScope N_is_line ["many", "notes", "value"] (defScope (top 13)) := ⟨rfl, rfl, rfl, by decide +kernel, rfl, by decide +kernel, by decide +kernel⟩
def g_is_line (F_is_tuple : List PyData → R PyData) (F_is_from : List PyData → R PyData) : Rho → R Fl := (fSeq (fun ρ => ((fun ρ => ((fun ρ => ((fun ρ => ((fun ρ => ((fun ρ => ((fun ρ => getV ρ 2) ρ).bind fun d => ((fun ρ => ((fun ρ => getV ρ 0) ρ).bind fun d => ((fun ρ => ((fun ρ => getV ρ 0) ρ).bind fun d => ((fun _ => R.ok []) ρ).bind fun ds => R.ok (d :: ds)) ρ).bind fun ds => R.ok (d :: ds)) ρ).bind fun ds => R.ok (d :: ds)) ρ).bind (chk 3 F_is_tuple)) ρ).bind tru) ρ).bind fun b => R.ok (!b)) ρ).bind fun k => if k = true then R.ok true else (fun ρ => ((fun ρ => ((fC1 gAll (fComp [5] (fun ρ => ((fun ρ => getV ρ 2) ρ).bind seqOf) (tg1 5) (fun _ => R.ok true) (fun ρ => ((fun ρ => ((fun ρ => getV ρ 5) ρ).bind fun d => ((fun ρ => ((fC (.int 2)) ρ).bind fun d => ((fun ρ => ((fC (.int 2)) ρ).bind fun d => ((fun _ => R.ok []) ρ).bind fun ds => R.ok (d :: ds)) ρ).bind fun ds => R.ok (d :: ds)) ρ).bind fun ds => R.ok (d :: ds)) ρ).bind (chk 3 F_is_tuple)))) ρ).bind tru) ρ).bind fun b => R.ok (!b)) ρ) ρ).bind fun k => if k = true then (retE (fC (.bool false))) ρ else (fun ρ => R.ok (.nx ρ)) ρ) (retE (fC1 gAll (fComp [3, 4] (fun ρ => ((fun ρ => getV ρ 2) ρ).bind seqOf) (tgTup 2 (tgCons (tg1 3) (tgCons (tg1 4) tgNil))) (fun _ => R.ok true) (fun ρ => ((fun ρ => ((fun ρ => ((fun ρ => getV ρ 3) ρ).bind fun d => ((fun ρ => ((fC (.int 0)) ρ).bind fun d => ((fun ρ => ((fBin gSub (fun ρ => getV ρ 0) (fC (.int 1))) ρ).bind fun d => ((fun _ => R.ok []) ρ).bind fun ds => R.ok (d :: ds)) ρ).bind fun ds => R.ok (d :: ds)) ρ).bind fun ds => R.ok (d :: ds)) ρ).bind (chk 3 F_is_from)) ρ).bind fun x => (tru x).bind fun k => if k = true then (fun ρ => ((fun ρ => ((fun ρ => getV ρ 4) ρ).bind fun d => ((fun ρ => ((fC (.int 0)) ρ).bind fun d => ((fun ρ => ((fBin gSub (fun ρ => getV ρ 1) (fC (.int 1))) ρ).bind fun d => ((fun _ => R.ok []) ρ).bind fun ds => R.ok (d :: ds)) ρ).bind fun ds => R.ok (d :: ds)) ρ).bind fun ds => R.ok (d :: ds)) ρ).bind (chk 3 F_is_from)) ρ else R.ok x)))))
theorem b_is_line {P : Program} {w : World} {K : PySem.W.Frag} {mg : Str → Option Value} {base : Heap} {ec : EC} {f : Addr} {F_is_tuple : List PyData → R PyData} {F_is_from : List PyData → R PyData}  (G_is_tuple : FnD P w K mg base ec 1 3 "is_tuple" F_is_tuple) (G_is_from : FnD P w K mg base ec 1 3 "is_from" F_is_from) (n_all : mg "all" = none) : BodyOk P w K mg base ec "is_line" (top 13) f N_is_line 1 (g_is_line F_is_tuple F_is_from) := by
  intro cdv A outer s H E hr hp tk
  have nd := sc_is_line.nd
  exact (dss_cons (ds_if (O' := []) flatE (DW.t (dw_or (dt_not (dt_of (DE.b (de_call G_is_tuple (hr.mono (by decide)) hp (by rfl) (da_cons (de_name (pv 2)) (da_cons (de_name (pv 0)) (da_cons (de_name (pv 0)) da_nil))))))) (dw_or1 (dt_not (dt_of (DE.b (de_b1 (c_all (by rfl)) (by rfl) n_all (by decide +kernel) (DF.b (df_comp (own := [("pair", 5)]) (by rfl) nd (dj_seq (db_name (pv 2))) (blkOk_by (N := N_is_line) (sc := defScope (top 13)) (own := [("pair", 5)]) (by decide +kernel)) ⟨_, fun _ _ _ _ _ => pg_name (i := 5) nd (by rfl) (by first | exact Or.inl rfl | exact Or.inr rfl), dgo_name 5⟩ (fun _ _ _ _ _ => dts_nil) (fun _ _ _ _ _ => (de_call G_is_tuple (hr.mono (by decide)) passE0 (by rfl) (da_cons (de_name (pv 5)) (da_cons de_int (da_cons de_int da_nil)))))))))))))) (dss_one (ds_ret flatE de_bl)) dss_nil) (dss_one (ds_ret flatE (de_b1 (c_all (by rfl)) (by rfl) n_all (by decide +kernel) (DF.b (df_comp (own := [("stand", 3), ("note", 4)]) (by rfl) nd (dj_seq (db_name (pv 2))) (blkOk_by (N := N_is_line) (sc := defScope (top 13)) (own := [("stand", 3), ("note", 4)]) (by decide +kernel)) ⟨_, fun _ _ _ _ _ => pg_tup (n := 2) (by rfl) (pgs_cons (pg_name (i := 3) nd (by rfl) (by first | exact Or.inl rfl | exact Or.inr rfl)) (pgs_cons (pg_name (i := 4) nd (by rfl) (by first | exact Or.inl rfl | exact Or.inr rfl)) pgs_nil)), dgo_tup (dgo_cons (dgo_name 3) (dgo_cons (dgo_name 4) dgo_nil))⟩ (fun _ _ _ _ _ => dts_nil) (fun _ _ _ _ _ => (de_and (de_call G_is_from (hr.mono (by decide)) passE0 (by rfl) (da_cons (de_name (pv 3)) (da_cons de_int (da_cons (de_bin od_sub (db_name (pv 0)) (DE.b de_int)) da_nil)))) (de_one (de_call G_is_from (hr.mono (by decide)) passE0 (by rfl) (da_cons (de_name (pv 4)) (da_cons de_int (da_cons (de_bin od_sub (db_name (pv 1)) (DE.b de_int)) da_nil)))))))))))))
def F_is_line : List PyData → R PyData := fun ds => runB N_is_line.length (g_is_line F_is_tuple F_is_from) ds
def N_is_table : List Str := ["many", "value", "line"]
theorem sc_is_table : FnScope N_is_table ["many", "value"] (defScope (top 14)) := ⟨rfl, rfl, rfl, by decide +kernel, rfl, by decide +kernel, by decide +kernel⟩
def g_is_table (F_is_tuple : List PyData → R PyData) (F_is_line : List PyData → R PyData) : Rho → R Fl := (retE (fun ρ => ((fun ρ => ((fun ρ => ((fun ρ => getV ρ 1) ρ).bind fun d => ((fun ρ => ((fC (.int 1)) ρ).bind fun d => ((fun ρ => ((fC (.int 3)) ρ).bind fun d => ((fun _ => R.ok []) ρ).bind fun ds => R.ok (d :: ds)) ρ).bind fun ds => R.ok (d :: ds)) ρ).bind fun ds => R.ok (d :: ds)) ρ).bind (chk 3 F_is_tuple)) ρ).bind fun x => (tru x).bind fun k => if k = true then (fC1 gAll (fComp [2] (fun ρ => ((fun ρ => getV ρ 1) ρ).bind seqOf) (tg1 2) (fun _ => R.ok true) (fun ρ => ((fun ρ => ((fun ρ => getV ρ 0) ρ).bind fun d => ((fun ρ => ((fC1 gLen (fun ρ => getV ρ 1)) ρ).bind fun d => ((fun ρ => ((fun ρ => getV ρ 2) ρ).bind fun d => ((fun _ => R.ok []) ρ).bind fun ds => R.ok (d :: ds)) ρ).bind fun ds => R.ok (d :: ds)) ρ).bind fun ds => R.ok (d :: ds)) ρ).bind (chk 3 F_is_line)))) ρ else R.ok x))
theorem b_is_table {P : Program} {w : World} {K : PySem.W.Frag} {mg : Str → Option Value} {base : Heap} {ec : EC} {f : Addr} {F_is_tuple : List PyData → R PyData} {F_is_line : List PyData → R PyData}  (G_is_tuple : FnD P w K mg base ec 1 3 "is_tuple" F_is_tuple) (G_is_line : FnD P w K mg base ec 2 3 "is_line" F_is_line) (n_all : mg "all" = none) (n_len : mg "len" = none) : BodyOk P w K mg base ec "is_table" (top 14) f N_is_table 2 (g_is_table F_is_tuple F_is_line) := by
  intro cdv A outer s H E hr hp tk
  have nd := sc_is_table.nd
  exact (dss_one (ds_ret flatE (de_and (de_call G_is_tuple (hr.mono (by decide)) hp (by rfl) (da_cons (de_name (pv 1)) (da_cons de_int (da_cons de_int da_nil)))) (de_one (de_b1 (c_all (by rfl)) (by rfl) n_all (by decide +kernel) (DF.b (df_comp (own := [("line", 2)]) (by rfl) nd (dj_seq (db_name (pv 1))) (blkOk_by (N := N_is_table) (sc := defScope (top 14)) (own := [("line", 2)]) (by decide +kernel)) ⟨_, fun _ _ _ _ _ => pg_name (i := 2) nd (by rfl) (by first | exact Or.inl rfl | exact Or.inr rfl), dgo_name 2⟩ (fun _ _ _ _ _ => dts_nil) (fun _ _ _ _ _ => (de_call G_is_line (hr.mono (by decide)) passE0 (by rfl) (da_cons (de_name (pv 0)) (da_cons (de_b1 c_len (by rfl) n_len (by decide +kernel) (db_name (pv 1))) (da_cons (de_name (pv 2)) da_nil))))))))))))
def F_is_table : List PyData → R PyData := fun ds => runB N_is_table.length (g_is_table F_is_tuple F_is_line) ds
def N_is_plain : List Str := ["many", "value", "wanted", "stand"]
theorem sc_is_plain : FnScope N_is_plain ["many", "value"] (defScope (top 15)) := ⟨rfl, rfl, rfl, by decide +kernel, rfl, by decide +kernel, by decide +kernel⟩
def g_is_plain (F_is_tuple : List PyData → R PyData) (F_is_from : List PyData → R PyData) (F_is_side : List PyData → R PyData) (F_is_table : List PyData → R PyData) : Rho → R Fl := (fSeq (fun ρ => ((fun ρ => ((fun ρ => ((fun ρ => ((fun ρ => ((fun ρ => ((fun ρ => getV ρ 1) ρ).bind fun d => ((fun ρ => ((fC (.int 3)) ρ).bind fun d => ((fun ρ => ((fC (.int 5)) ρ).bind fun d => ((fun _ => R.ok []) ρ).bind fun ds => R.ok (d :: ds)) ρ).bind fun ds => R.ok (d :: ds)) ρ).bind fun ds => R.ok (d :: ds)) ρ).bind (chk 3 F_is_tuple)) ρ).bind tru) ρ).bind fun b => R.ok (!b)) ρ).bind fun k => if k = true then R.ok true else (fun ρ => ((fun ρ => ((fIsi "str" (fBin gIx (fun ρ => getV ρ 1) (fC (.int 0)))) ρ).bind tru) ρ).bind fun b => R.ok (!b)) ρ) ρ).bind fun k => if k = true then (retE (fC (.bool false))) ρ else (fun ρ => R.ok (.nx ρ)) ρ) (fSeq (fun ρ => ((fun ρ => (fBin gEq (fBin gIx (fun ρ => getV ρ 1) (fC (.int 0))) (fC (.str "each")) ρ).bind tr) ρ).bind fun k => if k = true then (retE (fun ρ => ((fBin gEq (fC1 gLen (fun ρ => getV ρ 1)) (fC (.int 3))) ρ).bind fun x => (tru x).bind fun k => if k = true then (fC1 gAll (fComp [3] (fun ρ => ((fSl gSl (fun ρ => getV ρ 1) (fun ρ => ((fC (.int 1)) ρ).bind toI) (fun _ => R.ok none)) ρ).bind seqOf) (tg1 3) (fun _ => R.ok true) (fun ρ => ((fun ρ => ((fun ρ => getV ρ 3) ρ).bind fun d => ((fun ρ => ((fC (.int 0)) ρ).bind fun d => ((fun ρ => ((fBin gSub (fun ρ => getV ρ 0) (fC (.int 1))) ρ).bind fun d => ((fun _ => R.ok []) ρ).bind fun ds => R.ok (d :: ds)) ρ).bind fun ds => R.ok (d :: ds)) ρ).bind fun ds => R.ok (d :: ds)) ρ).bind (chk 3 F_is_from)))) ρ else R.ok x)) ρ else (fun ρ => R.ok (.nx ρ)) ρ) (fSeq (fun ρ => ((fun ρ => ((fun ρ => ((fun ρ => ((fun ρ => ((fBin gIx (fun ρ => getV ρ 1) (fC (.int 1))) ρ).bind fun d => ((fun _ => R.ok []) ρ).bind fun ds => R.ok (d :: ds)) ρ).bind (chk 1 F_is_side)) ρ).bind tru) ρ).bind fun b => R.ok (!b)) ρ).bind fun k => if k = true then (retE (fC (.bool false))) ρ else (fun ρ => R.ok (.nx ρ)) ρ) (fSeq (fun ρ => ((fun ρ => (fBin gEq (fBin gIx (fun ρ => getV ρ 1) (fC (.int 0))) (fC (.str "walk")) ρ).bind tr) ρ).bind fun k => if k = true then (retE (fun ρ => ((fBin gEq (fC1 gLen (fun ρ => getV ρ 1)) (fC (.int 3))) ρ).bind fun x => (tru x).bind fun k => if k = true then (fun ρ => ((fun ρ => ((fun ρ => getV ρ 0) ρ).bind fun d => ((fun ρ => ((fBin gIx (fun ρ => getV ρ 1) (fC (.int 2))) ρ).bind fun d => ((fun _ => R.ok []) ρ).bind fun ds => R.ok (d :: ds)) ρ).bind fun ds => R.ok (d :: ds)) ρ).bind (chk 2 F_is_table)) ρ else R.ok x)) ρ else (fun ρ => R.ok (.nx ρ)) ρ) (fSeq (setE 2 (fun ρ => ((fun ρ => ((fun ρ => ((fC (.int 4)) ρ).bind fun d => ((fun ρ => ((fC (.int 4)) ρ).bind fun d => ((fun ρ => ((fC (.int 5)) ρ).bind fun d => ((fun ρ => ((fC (.int 5)) ρ).bind fun d => ((fun _ => R.ok []) ρ).bind fun ds => R.ok ((keyD (.inr "behind"), d) :: ds)) ρ).bind fun ds => R.ok ((keyD (.inr "until"), d) :: ds)) ρ).bind fun ds => R.ok ((keyD (.inr "second"), d) :: ds)) ρ).bind fun ds => R.ok ((keyD (.inr "first"), d) :: ds)) ρ).bind mkDict) ρ).bind fun ds => ((fBin gIx (fun ρ => getV ρ 1) (fC (.int 0))) ρ).bind fun k => ((fC (.int 0)) ρ).bind fun d => getD2 ds k d)) (retE (fun ρ => ((fBin gEq (fC1 gLen (fun ρ => getV ρ 1)) (fun ρ => getV ρ 2)) ρ).bind fun x => (tru x).bind fun k => if k = true then (fC1 gAll (fComp [3] (fun ρ => ((fSl gSl (fun ρ => getV ρ 1) (fun ρ => ((fC (.int 2)) ρ).bind toI) (fun _ => R.ok none)) ρ).bind seqOf) (tg1 3) (fun _ => R.ok true) (fun ρ => ((fun ρ => ((fun ρ => getV ρ 3) ρ).bind fun d => ((fun ρ => ((fC (.int 0)) ρ).bind fun d => ((fun ρ => ((fBin gSub (fun ρ => getV ρ 0) (fC (.int 1))) ρ).bind fun d => ((fun _ => R.ok []) ρ).bind fun ds => R.ok (d :: ds)) ρ).bind fun ds => R.ok (d :: ds)) ρ).bind fun ds => R.ok (d :: ds)) ρ).bind (chk 3 F_is_from)))) ρ else R.ok x)))))))
theorem b_is_plain {P : Program} {w : World} {K : PySem.W.Frag} {mg : Str → Option Value} {base : Heap} {ec : EC} {f : Addr} {F_is_tuple : List PyData → R PyData} {F_is_from : List PyData → R PyData} {F_is_side : List PyData → R PyData} {F_is_table : List PyData → R PyData}  (G_is_tuple : FnD P w K mg base ec 1 3 "is_tuple" F_is_tuple) (G_is_from : FnD P w K mg base ec 1 3 "is_from" F_is_from) (G_is_side : FnD P w K mg base ec 1 1 "is_side" F_is_side) (G_is_table : FnD P w K mg base ec 3 2 "is_table" F_is_table) (n_all : mg "all" = none) (n_isinstance : mg "isinstance" = none) (n_len : mg "len" = none) (n_str : mg "str" = none) : BodyOk P w K mg base ec "is_plain" (top 15) f N_is_plain 3 (g_is_plain F_is_tuple F_is_from F_is_side F_is_table) := by
  intro cdv A outer s H E hr hp tk
  have nd := sc_is_plain.nd
  exact (dss_cons (ds_if (O' := []) flatE (DW.t (dw_or (dt_not (dt_of (DE.b (de_call G_is_tuple (hr.mono (by decide)) hp (by rfl) (da_cons (de_name (pv 1)) (da_cons de_int (da_cons de_int da_nil))))))) (dw_or1 (dt_not (dt_of (DE.b (de_isi (T := "str") (by decide) (by rfl) n_isinstance (by rfl) n_str (by decide +kernel) (DE.b (de_ix (db_name (pv 1)) (DE.b de_int) (fun _ _ => rfl)))))))))) (dss_one (ds_ret flatE de_bl)) dss_nil) (dss_cons (ds_if (O' := []) flatE (dt_cmp (od_eq hr.units) (DE.b (de_ix (db_name (pv 1)) (DE.b de_int) (fun _ _ => rfl))) (DE.b de_str) (nomark _)) (dss_one (ds_ret flatE (de_and (de_cmp (od_eq hr.units) (DE.b (de_b1 c_len (by rfl) n_len (by decide +kernel) (db_name (pv 1)))) (DE.b de_int) (nomark _)) (de_one (de_b1 (c_all (by rfl)) (by rfl) n_all (by decide +kernel) (DF.b (df_comp (own := [("stand", 3)]) (by rfl) nd (dj_seq (DE.b (de_sl (db_name (pv 1)) (dp_some (DE.b de_int)) dp_none))) (blkOk_by (N := N_is_plain) (sc := defScope (top 15)) (own := [("stand", 3)]) (by decide +kernel)) ⟨_, fun _ _ _ _ _ => pg_name (i := 3) nd (by rfl) (by first | exact Or.inl rfl | exact Or.inr rfl), dgo_name 3⟩ (fun _ _ _ _ _ => dts_nil) (fun _ _ _ _ _ => (de_call G_is_from (hr.mono (by decide)) passE0 (by rfl) (da_cons (de_name (pv 3)) (da_cons de_int (da_cons (de_bin od_sub (db_name (pv 0)) (DE.b de_int)) da_nil)))))))))))) dss_nil) (dss_cons (ds_if (O' := []) flatE (dt_not (dt_of (DE.b (de_call G_is_side (hr.mono (by decide)) hp (by rfl) (da_cons (de_ix (db_name (pv 1)) (DE.b de_int) (fun _ _ => rfl)) da_nil))))) (dss_one (ds_ret flatE de_bl)) dss_nil) (dss_cons (ds_if (O' := []) flatE (dt_cmp (od_eq hr.units) (DE.b (de_ix (db_name (pv 1)) (DE.b de_int) (fun _ _ => rfl))) (DE.b de_str) (nomark _)) (dss_one (ds_ret flatE (de_and (de_cmp (od_eq hr.units) (DE.b (de_b1 c_len (by rfl) n_len (by decide +kernel) (db_name (pv 1)))) (DE.b de_int) (nomark _)) (de_one (de_call G_is_table (hr.mono (by decide)) hp (by rfl) (da_cons (de_name (pv 0)) (da_cons (de_ix (db_name (pv 1)) (DE.b de_int) (fun _ _ => rfl)) da_nil))))))) dss_nil) (dss_cons (ds_asg flatE nd (by rfl) (by first | exact Or.inl rfl | exact Or.inr rfl) (de_dget2 (u1 hr) (dd_disp (dks_cons (.inr "first") pe_str de_int (dks_cons (.inr "second") pe_str de_int (dks_cons (.inr "until") pe_str de_int (dks_cons (.inr "behind") pe_str de_int dks_nil))))) (de_ix (db_name (pv 1)) (DE.b de_int) (fun _ _ => rfl)) de_int ⟨rfl, rfl, rfl, rfl⟩)) (dss_one (ds_ret flatE (de_and (de_cmp (od_eq hr.units) (DE.b (de_b1 c_len (by rfl) n_len (by decide +kernel) (db_name (pv 1)))) (db_name (pv 2)) (nomark _)) (de_one (de_b1 (c_all (by rfl)) (by rfl) n_all (by decide +kernel) (DF.b (df_comp (own := [("stand", 3)]) (by rfl) nd (dj_seq (DE.b (de_sl (db_name (pv 1)) (dp_some (DE.b de_int)) dp_none))) (blkOk_by (N := N_is_plain) (sc := defScope (top 15)) (own := [("stand", 3)]) (by decide +kernel)) ⟨_, fun _ _ _ _ _ => pg_name (i := 3) nd (by rfl) (by first | exact Or.inl rfl | exact Or.inr rfl), dgo_name 3⟩ (fun _ _ _ _ _ => dts_nil) (fun _ _ _ _ _ => (de_call G_is_from (hr.mono (by decide)) passE0 (by rfl) (da_cons (de_name (pv 3)) (da_cons de_int (da_cons (de_bin od_sub (db_name (pv 0)) (DE.b de_int)) da_nil)))))))))))))))))
def F_is_plain : List PyData → R PyData := fun ds => runB N_is_plain.length (g_is_plain F_is_tuple F_is_from F_is_side F_is_table) ds
def N_has_step : List Str := ["many", "value", "part"]
theorem sc_has_step : FnScope N_has_step ["many", "value"] (defScope (top 16)) := ⟨rfl, rfl, rfl, by decide +kernel, rfl, by decide +kernel, by decide +kernel⟩
def g_has_step (F_is_tuple : List PyData → R PyData) (F_is_from : List PyData → R PyData) (F_is_plain : List PyData → R PyData) : Rho → R Fl := (fSeq (fun ρ => ((fun ρ => ((fun ρ => ((fun ρ => ((fun ρ => ((fun ρ => getV ρ 1) ρ).bind fun d => ((fun ρ => ((fC (.int 3)) ρ).bind fun d => ((fun ρ => ((fC (.int 3)) ρ).bind fun d => ((fun _ => R.ok []) ρ).bind fun ds => R.ok (d :: ds)) ρ).bind fun ds => R.ok (d :: ds)) ρ).bind fun ds => R.ok (d :: ds)) ρ).bind (chk 3 F_is_tuple)) ρ).bind tru) ρ).bind fun k => if k = true then (fun ρ => ((fun ρ => ((fIsi "str" (fBin gIx (fun ρ => getV ρ 1) (fC (.int 0)))) ρ).bind tru) ρ).bind fun k => if k = true then (fun ρ => (fBin gEq (fBin gIx (fun ρ => getV ρ 1) (fC (.int 0))) (fC (.str "again")) ρ).bind tr) ρ else R.ok false) ρ else R.ok false) ρ).bind fun k => if k = true then (retE (fun ρ => ((fun ρ => ((fun ρ => ((fBin gIx (fun ρ => getV ρ 1) (fC (.int 1))) ρ).bind fun d => ((fun ρ => ((fC (.int 2)) ρ).bind fun d => ((fun ρ => ((fC (.int 4)) ρ).bind fun d => ((fun _ => R.ok []) ρ).bind fun ds => R.ok (d :: ds)) ρ).bind fun ds => R.ok (d :: ds)) ρ).bind fun ds => R.ok (d :: ds)) ρ).bind (chk 3 F_is_from)) ρ).bind fun x => (tru x).bind fun k => if k = true then (fun ρ => ((fun ρ => ((fun ρ => ((fBin gIx (fun ρ => getV ρ 1) (fC (.int 2))) ρ).bind fun d => ((fun ρ => ((fC (.int 1)) ρ).bind fun d => ((fun ρ => ((fC (.int 3)) ρ).bind fun d => ((fun _ => R.ok []) ρ).bind fun ds => R.ok (d :: ds)) ρ).bind fun ds => R.ok (d :: ds)) ρ).bind fun ds => R.ok (d :: ds)) ρ).bind (chk 3 F_is_tuple)) ρ).bind fun x => (tru x).bind fun k => if k = true then (fC1 gAll (fComp [2] (fun ρ => ((fBin gIx (fun ρ => getV ρ 1) (fC (.int 2))) ρ).bind seqOf) (tg1 2) (fun _ => R.ok true) (fun ρ => ((fun ρ => ((fun ρ => getV ρ 0) ρ).bind fun d => ((fun ρ => ((fun ρ => getV ρ 2) ρ).bind fun d => ((fun _ => R.ok []) ρ).bind fun ds => R.ok (d :: ds)) ρ).bind fun ds => R.ok (d :: ds)) ρ).bind (chk 2 F_is_plain)))) ρ else R.ok x) ρ else R.ok x)) ρ else (fun ρ => R.ok (.nx ρ)) ρ) (retE (fun ρ => ((fun ρ => ((fun ρ => getV ρ 0) ρ).bind fun d => ((fun ρ => ((fun ρ => getV ρ 1) ρ).bind fun d => ((fun _ => R.ok []) ρ).bind fun ds => R.ok (d :: ds)) ρ).bind fun ds => R.ok (d :: ds)) ρ).bind (chk 2 F_is_plain))))
theorem b_has_step {P : Program} {w : World} {K : PySem.W.Frag} {mg : Str → Option Value} {base : Heap} {ec : EC} {f : Addr} {F_is_tuple : List PyData → R PyData} {F_is_from : List PyData → R PyData} {F_is_plain : List PyData → R PyData}  (G_is_tuple : FnD P w K mg base ec 1 3 "is_tuple" F_is_tuple) (G_is_from : FnD P w K mg base ec 1 3 "is_from" F_is_from) (G_is_plain : FnD P w K mg base ec 4 2 "is_plain" F_is_plain) (n_all : mg "all" = none) (n_isinstance : mg "isinstance" = none) (n_str : mg "str" = none) : BodyOk P w K mg base ec "has_step" (top 16) f N_has_step 4 (g_has_step F_is_tuple F_is_from F_is_plain) := by
  intro cdv A outer s H E hr hp tk
  have nd := sc_has_step.nd
  exact (dss_cons (ds_if (O' := []) flatE (DW.t (dw_and (dt_of (DE.b (de_call G_is_tuple (hr.mono (by decide)) hp (by rfl) (da_cons (de_name (pv 1)) (da_cons de_int (da_cons de_int da_nil)))))) (dw_and (dt_of (DE.b (de_isi (T := "str") (by decide) (by rfl) n_isinstance (by rfl) n_str (by decide +kernel) (DE.b (de_ix (db_name (pv 1)) (DE.b de_int) (fun _ _ => rfl)))))) (dw_and1 (dt_cmp (od_eq hr.units) (DE.b (de_ix (db_name (pv 1)) (DE.b de_int) (fun _ _ => rfl))) (DE.b de_str) (nomark _)))))) (dss_one (ds_ret flatE (de_and (de_call G_is_from (hr.mono (by decide)) hp (by rfl) (da_cons (de_ix (db_name (pv 1)) (DE.b de_int) (fun _ _ => rfl)) (da_cons de_int (da_cons de_int da_nil)))) (de_and (de_call G_is_tuple (hr.mono (by decide)) hp (by rfl) (da_cons (de_ix (db_name (pv 1)) (DE.b de_int) (fun _ _ => rfl)) (da_cons de_int (da_cons de_int da_nil)))) (de_one (de_b1 (c_all (by rfl)) (by rfl) n_all (by decide +kernel) (DF.b (df_comp (own := [("part", 2)]) (by rfl) nd (dj_seq (DE.b (de_ix (db_name (pv 1)) (DE.b de_int) (fun _ _ => rfl)))) (blkOk_by (N := N_has_step) (sc := defScope (top 16)) (own := [("part", 2)]) (by decide +kernel)) ⟨_, fun _ _ _ _ _ => pg_name (i := 2) nd (by rfl) (by first | exact Or.inl rfl | exact Or.inr rfl), dgo_name 2⟩ (fun _ _ _ _ _ => dts_nil) (fun _ _ _ _ _ => (de_call G_is_plain (hr.mono (by decide)) passE0 (by rfl) (da_cons (de_name (pv 0)) (da_cons (de_name (pv 2)) da_nil)))))))))))) dss_nil) (dss_one (ds_ret flatE (de_call G_is_plain (hr.mono (by decide)) hp (by rfl) (da_cons (de_name (pv 0)) (da_cons (de_name (pv 1)) da_nil))))))
def F_has_step : List PyData → R PyData := fun ds => runB N_has_step.length (g_has_step F_is_tuple F_is_from F_is_plain) ds
def N_table_of : List Str := ["many", "step", "stands", "old", "new", "stay", "first", "later", "going", "stand"]
theorem sc_table_of : FnScope N_table_of ["many", "step"] (defScope (top 17)) := ⟨rfl, rfl, rfl, by decide +kernel, rfl, by decide +kernel, by decide +kernel⟩
def g_table_of : Rho → R Fl := (fSeq (setE 2 (fC1 gRange (fun ρ => getV ρ 0))) (fSeq (fun ρ => ((fun ρ => (fBin gEq (fBin gIx (fun ρ => getV ρ 1) (fC (.int 0))) (fC (.str "walk")) ρ).bind tr) ρ).bind fun k => if k = true then (retE (fBin gIx (fun ρ => getV ρ 1) (fC (.int 2)))) ρ else (fun ρ => R.ok (.nx ρ)) ρ) (fSeq (fun ρ => ((fun ρ => (fBin gEq (fBin gIx (fun ρ => getV ρ 1) (fC (.int 0))) (fC (.str "each")) ρ).bind tr) ρ).bind fun k => if k = true then (retE (fun ρ => ((fun ρ => ((fC1 gTuple (fComp [9] (fun ρ => ((fun ρ => getV ρ 2) ρ).bind seqOf) (tg1 9) (fun _ => R.ok true) (fun ρ => ((fun ρ => ((fun ρ => ((fun ρ => (fBin gEq (fun ρ => getV ρ 9) (fBin gIx (fun ρ => getV ρ 1) (fC (.int 1))) ρ).bind tr) ρ).bind fun k => if k = true then (fBin gIx (fun ρ => getV ρ 1) (fC (.int 2))) ρ else (fun ρ => getV ρ 9) ρ) ρ).bind fun d => ((fun ρ => ((fC (.int 0)) ρ).bind fun d => ((fun _ => R.ok []) ρ).bind fun ds => R.ok (d :: ds)) ρ).bind fun ds => R.ok (d :: ds)) ρ).bind mkTup))) ρ).bind fun d => ((fun _ => R.ok []) ρ).bind fun ds => R.ok (d :: ds)) ρ).bind mkTup)) ρ else (fun ρ => R.ok (.nx ρ)) ρ) (fSeq (asgT (tgTup 2 (tgCons (tg1 3) (tgCons (tg1 4) tgNil))) (fSl gSl (fun ρ => getV ρ 1) (fun ρ => ((fun ρ => ((fC (.int 2)) ρ).bind gNeg) ρ).bind toI) (fun _ => R.ok none))) (fSeq (setE 5 (fC1 gTuple (fComp [9] (fun ρ => ((fun ρ => getV ρ 2) ρ).bind seqOf) (tg1 9) (fun _ => R.ok true) (fun ρ => ((fun ρ => ((fun ρ => getV ρ 9) ρ).bind fun d => ((fun ρ => ((fC (.int 1)) ρ).bind fun d => ((fun _ => R.ok []) ρ).bind fun ds => R.ok (d :: ds)) ρ).bind fun ds => R.ok (d :: ds)) ρ).bind mkTup)))) (fSeq (fun ρ => ((fun ρ => (fBin gEq (fBin gIx (fun ρ => getV ρ 1) (fC (.int 0))) (fC (.str "first")) ρ).bind tr) ρ).bind fun k => if k = true then (retE (fun ρ => ((fun ρ => ((fC1 gTuple (fComp [9] (fun ρ => ((fun ρ => getV ρ 2) ρ).bind seqOf) (tg1 9) (fun _ => R.ok true) (fun ρ => ((fun ρ => (fBin gEq (fun ρ => getV ρ 9) (fun ρ => getV ρ 3) ρ).bind tr) ρ).bind fun k => if k = true then (fun ρ => ((fun ρ => ((fun ρ => getV ρ 4) ρ).bind fun d => ((fun ρ => ((fC (.int 1)) ρ).bind fun d => ((fun _ => R.ok []) ρ).bind fun ds => R.ok (d :: ds)) ρ).bind fun ds => R.ok (d :: ds)) ρ).bind mkTup) ρ else (fun ρ => ((fun ρ => ((fun ρ => getV ρ 9) ρ).bind fun d => ((fun ρ => ((fC (.int 0)) ρ).bind fun d => ((fun _ => R.ok []) ρ).bind fun ds => R.ok (d :: ds)) ρ).bind fun ds => R.ok (d :: ds)) ρ).bind mkTup) ρ))) ρ).bind fun d => ((fun ρ => ((fun ρ => getV ρ 5) ρ).bind fun d => ((fun _ => R.ok []) ρ).bind fun ds => R.ok (d :: ds)) ρ).bind fun ds => R.ok (d :: ds)) ρ).bind mkTup)) ρ else (fun ρ => R.ok (.nx ρ)) ρ) (fSeq (fun ρ => ((fun ρ => (fBin gEq (fBin gIx (fun ρ => getV ρ 1) (fC (.int 0))) (fC (.str "second")) ρ).bind tr) ρ).bind fun k => if k = true then (fSeq (setE 7 (fC1 gTuple (fComp [9] (fun ρ => ((fun ρ => getV ρ 2) ρ).bind seqOf) (tg1 9) (fun _ => R.ok true) (fun ρ => ((fun ρ => (fBin gEq (fun ρ => getV ρ 9) (fun ρ => getV ρ 3) ρ).bind tr) ρ).bind fun k => if k = true then (fun ρ => ((fun ρ => ((fun ρ => getV ρ 4) ρ).bind fun d => ((fun ρ => ((fC (.int 0)) ρ).bind fun d => ((fun _ => R.ok []) ρ).bind fun ds => R.ok (d :: ds)) ρ).bind fun ds => R.ok (d :: ds)) ρ).bind mkTup) ρ else (fun ρ => ((fun ρ => ((fun ρ => getV ρ 9) ρ).bind fun d => ((fun ρ => ((fC (.int 1)) ρ).bind fun d => ((fun _ => R.ok []) ρ).bind fun ds => R.ok (d :: ds)) ρ).bind fun ds => R.ok (d :: ds)) ρ).bind mkTup) ρ)))) (retE (fun ρ => ((fun ρ => ((fC1 gTuple (fComp [9] (fun ρ => ((fun ρ => getV ρ 2) ρ).bind seqOf) (tg1 9) (fun _ => R.ok true) (fun ρ => ((fun ρ => ((fun ρ => getV ρ 9) ρ).bind fun d => ((fun ρ => ((fC1 gInt (fBin gEq (fun ρ => getV ρ 9) (fun ρ => getV ρ 3))) ρ).bind fun d => ((fun _ => R.ok []) ρ).bind fun ds => R.ok (d :: ds)) ρ).bind fun ds => R.ok (d :: ds)) ρ).bind mkTup))) ρ).bind fun d => ((fun ρ => ((fun ρ => getV ρ 7) ρ).bind fun d => ((fun _ => R.ok []) ρ).bind fun ds => R.ok (d :: ds)) ρ).bind fun ds => R.ok (d :: ds)) ρ).bind mkTup))) ρ else (fun ρ => R.ok (.nx ρ)) ρ) (fSeq (fun ρ => ((fun ρ => (fBin gEq (fBin gIx (fun ρ => getV ρ 1) (fC (.int 0))) (fC (.str "until")) ρ).bind tr) ρ).bind fun k => if k = true then (fSeq (setE 8 (fComp [9] (fun ρ => ((fun ρ => getV ρ 2) ρ).bind seqOf) (tg1 9) (fun _ => R.ok true) (fun ρ => ((fun ρ => (fBin gEq (fun ρ => getV ρ 9) (fBin gIx (fun ρ => getV ρ 1) (fC (.int 2))) ρ).bind tr) ρ).bind fun k => if k = true then (fun ρ => ((fun ρ => ((fun ρ => getV ρ 9) ρ).bind fun d => ((fun ρ => ((fC (.int 1)) ρ).bind fun d => ((fun _ => R.ok []) ρ).bind fun ds => R.ok (d :: ds)) ρ).bind fun ds => R.ok (d :: ds)) ρ).bind mkTup) ρ else (fun ρ => ((fun ρ => ((fun ρ => ((fun ρ => (fBin gEq (fun ρ => getV ρ 9) (fun ρ => getV ρ 3) ρ).bind tr) ρ).bind fun k => if k = true then (fun ρ => getV ρ 4) ρ else (fun ρ => getV ρ 9) ρ) ρ).bind fun d => ((fun ρ => ((fC (.int 0)) ρ).bind fun d => ((fun _ => R.ok []) ρ).bind fun ds => R.ok (d :: ds)) ρ).bind fun ds => R.ok (d :: ds)) ρ).bind mkTup) ρ))) (retE (fun ρ => ((fun ρ => ((fC1 gTuple (fun ρ => getV ρ 8)) ρ).bind fun d => ((fun ρ => ((fun ρ => getV ρ 5) ρ).bind fun d => ((fun _ => R.ok []) ρ).bind fun ds => R.ok (d :: ds)) ρ).bind fun ds => R.ok (d :: ds)) ρ).bind mkTup))) ρ else (fun ρ => R.ok (.nx ρ)) ρ) (fSeq (setE 6 (fC1 gTuple (fComp [9] (fun ρ => ((fun ρ => getV ρ 2) ρ).bind seqOf) (tg1 9) (fun _ => R.ok true) (fun ρ => ((fun ρ => ((fun ρ => getV ρ 9) ρ).bind fun d => ((fun ρ => ((fC1 gInt (fBin gEq (fun ρ => getV ρ 9) (fBin gIx (fun ρ => getV ρ 1) (fC (.int 2))))) ρ).bind fun d => ((fun _ => R.ok []) ρ).bind fun ds => R.ok (d :: ds)) ρ).bind fun ds => R.ok (d :: ds)) ρ).bind mkTup)))) (retE (fun ρ => ((fun ρ => ((fun ρ => getV ρ 6) ρ).bind fun d => ((fun ρ => ((fC1 gTuple (fComp [9] (fun ρ => ((fun ρ => getV ρ 2) ρ).bind seqOf) (tg1 9) (fun _ => R.ok true) (fun ρ => ((fun ρ => ((fun ρ => ((fun ρ => (fBin gEq (fun ρ => getV ρ 9) (fun ρ => getV ρ 3) ρ).bind tr) ρ).bind fun k => if k = true then (fun ρ => getV ρ 4) ρ else (fun ρ => getV ρ 9) ρ) ρ).bind fun d => ((fun ρ => ((fC1 gInt (fBin gEq (fun ρ => getV ρ 9) (fBin gIx (fun ρ => getV ρ 1) (fC (.int 2))))) ρ).bind fun d => ((fun _ => R.ok []) ρ).bind fun ds => R.ok (d :: ds)) ρ).bind fun ds => R.ok (d :: ds)) ρ).bind mkTup))) ρ).bind fun d => ((fun _ => R.ok []) ρ).bind fun ds => R.ok (d :: ds)) ρ).bind fun ds => R.ok (d :: ds)) ρ).bind mkTup)))))))))))
theorem b_table_of {P : Program} {w : World} {K : PySem.W.Frag} {mg : Str → Option Value} {base : Heap} {ec : EC} {f : Addr}  (n_int : mg "int" = none) (n_list : mg "list" = none) (n_range : mg "range" = none) (n_tuple : mg "tuple" = none) : BodyOk P w K mg base ec "table_of" (top 17) f N_table_of 0 (g_table_of) := by
  intro cdv A outer s H E hr hp tk
  have nd := sc_table_of.nd
  exact (dss_cons (ds_asg flatE nd (by rfl) (by first | exact Or.inl rfl | exact Or.inr rfl) (DF.toE (df_range (by rfl) (by rfl) n_list (by rfl) n_range (db_name (pv 0))))) (dss_cons (ds_if (O' := []) flatE (dt_cmp (od_eq hr.units) (DE.b (de_ix (db_name (pv 1)) (DE.b de_int) (fun _ _ => rfl))) (DE.b de_str) (nomark _)) (dss_one (ds_ret flatE (de_ix (db_name (pv 1)) (DE.b de_int) (fun _ _ => rfl)))) dss_nil) (dss_cons (ds_if (O' := []) flatE (dt_cmp (od_eq hr.units) (DE.b (de_ix (db_name (pv 1)) (DE.b de_int) (fun _ _ => rfl))) (DE.b de_str) (nomark _)) (dss_one (ds_ret flatE (de_tup (da_cons (de_t1 c_tuple (by rfl) n_tuple (by decide +kernel) (DF.b (df_comp (own := [("stand", 9)]) (by rfl) nd (dj_seq (db_name (pv 2))) (blkOk_by (N := N_table_of) (sc := defScope (top 17)) (own := [("stand", 9)]) (by decide +kernel)) ⟨_, fun _ _ _ _ _ => pg_name (i := 9) nd (by rfl) (by first | exact Or.inl rfl | exact Or.inr rfl), dgo_name 9⟩ (fun _ _ _ _ _ => dts_nil) (fun _ _ _ _ _ => (de_tup (da_cons (de_if (dt_cmp (od_eq hr.units) (db_name (pv 9)) (DE.b (de_ix (db_name (pv 1)) (DE.b de_int) (fun _ _ => rfl))) (nomark _)) (de_ix (db_name (pv 1)) (DE.b de_int) (fun _ _ => rfl)) (de_name (pv 9))) (da_cons de_int da_nil))))))) da_nil)))) dss_nil) (dss_cons (ds_asgT flatE (de_sl (db_name (pv 1)) (dp_some (DE.b (de_neg (DE.b de_int)))) dp_none) (dg_tup (by rfl) (dgs_cons (dg_name (pg_name (i := 3) nd (by rfl) (by first | exact Or.inl rfl | exact Or.inr rfl))) (dgs_cons (dg_name (pg_name (i := 4) nd (by rfl) (by first | exact Or.inl rfl | exact Or.inr rfl))) dgs_nil)))) (dss_cons (ds_asg flatE nd (by rfl) (by first | exact Or.inl rfl | exact Or.inr rfl) (de_t1 c_tuple (by rfl) n_tuple (by decide +kernel) (DF.b (df_comp (own := [("stand", 9)]) (by rfl) nd (dj_seq (db_name (pv 2))) (blkOk_by (N := N_table_of) (sc := defScope (top 17)) (own := [("stand", 9)]) (by decide +kernel)) ⟨_, fun _ _ _ _ _ => pg_name (i := 9) nd (by rfl) (by first | exact Or.inl rfl | exact Or.inr rfl), dgo_name 9⟩ (fun _ _ _ _ _ => dts_nil) (fun _ _ _ _ _ => (de_tup (da_cons (de_name (pv 9)) (da_cons de_int da_nil)))))))) (dss_cons (ds_if (O' := []) flatE (dt_cmp (od_eq hr.units) (DE.b (de_ix (db_name (pv 1)) (DE.b de_int) (fun _ _ => rfl))) (DE.b de_str) (nomark _)) (dss_one (ds_ret flatE (de_tup (da_cons (de_t1 c_tuple (by rfl) n_tuple (by decide +kernel) (DF.b (df_comp (own := [("stand", 9)]) (by rfl) nd (dj_seq (db_name (pv 2))) (blkOk_by (N := N_table_of) (sc := defScope (top 17)) (own := [("stand", 9)]) (by decide +kernel)) ⟨_, fun _ _ _ _ _ => pg_name (i := 9) nd (by rfl) (by first | exact Or.inl rfl | exact Or.inr rfl), dgo_name 9⟩ (fun _ _ _ _ _ => dts_nil) (fun _ _ _ _ _ => (de_if (dt_cmp (od_eq hr.units) (db_name (pv 9)) (db_name (pv 3)) (nomark _)) (de_tup (da_cons (de_name (pv 4)) (da_cons de_int da_nil))) (de_tup (da_cons (de_name (pv 9)) (da_cons de_int da_nil)))))))) (da_cons (de_name (pv 5)) da_nil))))) dss_nil) (dss_cons (ds_if (O' := []) flatE (dt_cmp (od_eq hr.units) (DE.b (de_ix (db_name (pv 1)) (DE.b de_int) (fun _ _ => rfl))) (DE.b de_str) (nomark _)) (dss_cons (ds_asg flatE nd (by rfl) (by first | exact Or.inl rfl | exact Or.inr rfl) (de_t1 c_tuple (by rfl) n_tuple (by decide +kernel) (DF.b (df_comp (own := [("stand", 9)]) (by rfl) nd (dj_seq (db_name (pv 2))) (blkOk_by (N := N_table_of) (sc := defScope (top 17)) (own := [("stand", 9)]) (by decide +kernel)) ⟨_, fun _ _ _ _ _ => pg_name (i := 9) nd (by rfl) (by first | exact Or.inl rfl | exact Or.inr rfl), dgo_name 9⟩ (fun _ _ _ _ _ => dts_nil) (fun _ _ _ _ _ => (de_if (dt_cmp (od_eq hr.units) (db_name (pv 9)) (db_name (pv 3)) (nomark _)) (de_tup (da_cons (de_name (pv 4)) (da_cons de_int da_nil))) (de_tup (da_cons (de_name (pv 9)) (da_cons de_int da_nil))))))))) (dss_one (ds_ret flatE (de_tup (da_cons (de_t1 c_tuple (by rfl) n_tuple (by decide +kernel) (DF.b (df_comp (own := [("stand", 9)]) (by rfl) nd (dj_seq (db_name (pv 2))) (blkOk_by (N := N_table_of) (sc := defScope (top 17)) (own := [("stand", 9)]) (by decide +kernel)) ⟨_, fun _ _ _ _ _ => pg_name (i := 9) nd (by rfl) (by first | exact Or.inl rfl | exact Or.inr rfl), dgo_name 9⟩ (fun _ _ _ _ _ => dts_nil) (fun _ _ _ _ _ => (de_tup (da_cons (de_name (pv 9)) (da_cons (de_t1 c_int (by rfl) n_int (by decide +kernel) (DE.b (de_cmp (od_eq hr.units) (db_name (pv 9)) (db_name (pv 3)) (nomark _)))) da_nil))))))) (da_cons (de_name (pv 7)) da_nil)))))) dss_nil) (dss_cons (ds_if (O' := []) flatE (dt_cmp (od_eq hr.units) (DE.b (de_ix (db_name (pv 1)) (DE.b de_int) (fun _ _ => rfl))) (DE.b de_str) (nomark _)) (dss_cons (ds_setLc flatE (own := [("stand", 9)]) (by rfl) nd (by rfl) (dj_seq (db_name (pv 2))) (blkOk_by (N := N_table_of) (sc := defScope (top 17)) (own := [("stand", 9)]) (by decide +kernel)) ⟨_, fun _ _ _ _ _ => pg_name (i := 9) nd (by rfl) (by first | exact Or.inl rfl | exact Or.inr rfl), dgo_name 9⟩ (fun _ _ _ _ _ => dts_nil) (fun _ _ _ _ _ => (de_if (dt_cmp (od_eq hr.units) (db_name (pv 9)) (DE.b (de_ix (db_name (pv 1)) (DE.b de_int) (fun _ _ => rfl))) (nomark _)) (de_tup (da_cons (de_name (pv 9)) (da_cons de_int da_nil))) (de_tup (da_cons (de_if (dt_cmp (od_eq hr.units) (db_name (pv 9)) (db_name (pv 3)) (nomark _)) (de_name (pv 4)) (de_name (pv 9))) (da_cons de_int da_nil))))) (sw_true rfl rfl rfl (by decide +kernel))) (dss_one (ds_ret flatE (de_tup (da_cons (de_t1 c_tuple (by rfl) n_tuple (by decide +kernel) (db_name (pv 8))) (da_cons (de_name (pv 5)) da_nil)))))) dss_nil) (dss_cons (ds_asg flatE nd (by rfl) (by first | exact Or.inl rfl | exact Or.inr rfl) (de_t1 c_tuple (by rfl) n_tuple (by decide +kernel) (DF.b (df_comp (own := [("stand", 9)]) (by rfl) nd (dj_seq (db_name (pv 2))) (blkOk_by (N := N_table_of) (sc := defScope (top 17)) (own := [("stand", 9)]) (by decide +kernel)) ⟨_, fun _ _ _ _ _ => pg_name (i := 9) nd (by rfl) (by first | exact Or.inl rfl | exact Or.inr rfl), dgo_name 9⟩ (fun _ _ _ _ _ => dts_nil) (fun _ _ _ _ _ => (de_tup (da_cons (de_name (pv 9)) (da_cons (de_t1 c_int (by rfl) n_int (by decide +kernel) (DE.b (de_cmp (od_eq hr.units) (db_name (pv 9)) (DE.b (de_ix (db_name (pv 1)) (DE.b de_int) (fun _ _ => rfl))) (nomark _)))) da_nil)))))))) (dss_one (ds_ret flatE (de_tup (da_cons (de_name (pv 6)) (da_cons (de_t1 c_tuple (by rfl) n_tuple (by decide +kernel) (DF.b (df_comp (own := [("stand", 9)]) (by rfl) nd (dj_seq (db_name (pv 2))) (blkOk_by (N := N_table_of) (sc := defScope (top 17)) (own := [("stand", 9)]) (by decide +kernel)) ⟨_, fun _ _ _ _ _ => pg_name (i := 9) nd (by rfl) (by first | exact Or.inl rfl | exact Or.inr rfl), dgo_name 9⟩ (fun _ _ _ _ _ => dts_nil) (fun _ _ _ _ _ => (de_tup (da_cons (de_if (dt_cmp (od_eq hr.units) (db_name (pv 9)) (db_name (pv 3)) (nomark _)) (de_name (pv 4)) (de_name (pv 9))) (da_cons (de_t1 c_int (by rfl) n_int (by decide +kernel) (DE.b (de_cmp (od_eq hr.units) (db_name (pv 9)) (DE.b (de_ix (db_name (pv 1)) (DE.b de_int) (fun _ _ => rfl))) (nomark _)))) da_nil))))))) da_nil))))))))))))))
def F_table_of : List PyData → R PyData := fun ds => runB N_table_of.length (g_table_of) ds
def N_walk_of : List Str := ["many", "step"]
theorem sc_walk_of : FnScope N_walk_of ["many", "step"] (defScope (top 18)) := ⟨rfl, rfl, rfl, by decide +kernel, rfl, by decide +kernel, by decide +kernel⟩
def g_walk_of (F_table_of : List PyData → R PyData) : Rho → R Fl := (retE (fun ρ => ((fun ρ => ((fun ρ => ((fun ρ => (fBin gEq (fBin gIx (fun ρ => getV ρ 1) (fC (.int 0))) (fC (.str "each")) ρ).bind tr) ρ).bind fun k => if k = true then (fC (.str "left")) ρ else (fBin gIx (fun ρ => getV ρ 1) (fC (.int 1))) ρ) ρ).bind fun d => ((fun ρ => ((fun ρ => ((fun ρ => ((fun ρ => getV ρ 0) ρ).bind fun d => ((fun ρ => ((fun ρ => getV ρ 1) ρ).bind fun d => ((fun _ => R.ok []) ρ).bind fun ds => R.ok (d :: ds)) ρ).bind fun ds => R.ok (d :: ds)) ρ).bind (chk 2 F_table_of)) ρ).bind fun d => ((fun _ => R.ok []) ρ).bind fun ds => R.ok (d :: ds)) ρ).bind fun ds => R.ok (d :: ds)) ρ).bind mkTup))
theorem b_walk_of {P : Program} {w : World} {K : PySem.W.Frag} {mg : Str → Option Value} {base : Heap} {ec : EC} {f : Addr} {F_table_of : List PyData → R PyData}  (G_table_of : FnD P w K mg base ec 1 2 "table_of" F_table_of) : BodyOk P w K mg base ec "walk_of" (top 18) f N_walk_of 1 (g_walk_of F_table_of) := by
  intro cdv A outer s H E hr hp tk
  have nd := sc_walk_of.nd
  exact (dss_one (ds_ret flatE (de_tup (da_cons (de_if (dt_cmp (od_eq hr.units) (DE.b (de_ix (db_name (pv 1)) (DE.b de_int) (fun _ _ => rfl))) (DE.b de_str) (nomark _)) de_str (de_ix (db_name (pv 1)) (DE.b de_int) (fun _ _ => rfl))) (da_cons (de_call G_table_of (hr.mono (by decide)) hp (by rfl) (da_cons (de_name (pv 0)) (da_cons (de_name (pv 1)) da_nil))) da_nil)))))
def F_walk_of : List PyData → R PyData := fun ds => runB N_walk_of.length (g_walk_of F_table_of) ds
def N_spread : List Str := ["many", "steps", "found", "step"]
theorem sc_spread : FnScope N_spread ["many", "steps"] (defScope (top 19)) := ⟨rfl, rfl, rfl, by decide +kernel, rfl, by decide +kernel, by decide +kernel⟩
def l_spread_1 (F_spread : List PyData → R PyData) (F_walk_of : List PyData → R PyData) : Rho → R Fl := (fSeq (fun ρ => ((fun ρ => (fBin gEq (fBin gIx (fun ρ => getV ρ 3) (fC (.int 0))) (fC (.str "again")) ρ).bind tr) ρ).bind fun k => if k = true then (fSeq (setE 2 (fBin gCat (fun ρ => getV ρ 2) (fBin gRep (fun ρ => ((fun ρ => ((fun ρ => getV ρ 0) ρ).bind fun d => ((fun ρ => ((fBin gIx (fun ρ => getV ρ 3) (fC (.int 2))) ρ).bind fun d => ((fun _ => R.ok []) ρ).bind fun ds => R.ok (d :: ds)) ρ).bind fun ds => R.ok (d :: ds)) ρ).bind (chk 2 F_spread)) (fBin gIx (fun ρ => getV ρ 3) (fC (.int 1)))))) (fun ρ => R.ok (.nx ρ))) ρ else (fSeq (setE 2 (fBin gCat (fun ρ => getV ρ 2) (fun ρ => ((fun ρ => ((fun ρ => ((fun ρ => ((fun ρ => getV ρ 0) ρ).bind fun d => ((fun ρ => ((fun ρ => getV ρ 3) ρ).bind fun d => ((fun _ => R.ok []) ρ).bind fun ds => R.ok (d :: ds)) ρ).bind fun ds => R.ok (d :: ds)) ρ).bind (chk 2 F_walk_of)) ρ).bind fun d => ((fun _ => R.ok []) ρ).bind fun ds => R.ok (d :: ds)) ρ).bind mkLst))) (fun ρ => R.ok (.nx ρ))) ρ) (fun ρ => R.ok (.nx ρ)))
def g_spread (F_spread : List PyData → R PyData) (F_walk_of : List PyData → R PyData) : Rho → R Fl := (fSeq (setE 2 (fun ρ => ((fun _ => R.ok []) ρ).bind mkLst)) (fSeq (fFor (fun ρ => ((fun ρ => getV ρ 1) ρ).bind seqOf) (tg1 3) (l_spread_1 F_spread F_walk_of)) (retE (fun ρ => getV ρ 2))))
theorem b_spread {P : Program} {w : World} {K : PySem.W.Frag} {mg : Str → Option Value} {base : Heap} {ec : EC} {f : Addr} {F_spread : List PyData → R PyData} {F_walk_of : List PyData → R PyData}  {k : Nat} (hk : 2 ≤ k) (G_spread : FnD P w K mg base ec k 2 "spread" F_spread) (G_walk_of : FnD P w K mg base ec 2 2 "walk_of" F_walk_of) (kl : NoList K) : BodyOk P w K mg base ec "spread" (top 19) f N_spread k (g_spread F_spread F_walk_of) := by
  intro cdv A outer s H E hr hp tk
  have nd := sc_spread.nd
  exact (dss_cons (ds_asg flatE nd (by rfl) (by first | exact Or.inl rfl | exact Or.inr rfl) (DF.toE (df_lst da_nil))) (dss_cons (ds_for flatE (passes_of rfl) (by rfl) (di_seq (de_name (pv 1))) (dg_name (pg_name (i := 3) nd (by rfl) (by first | exact Or.inl rfl | exact Or.inr rfl))) (dss_cons (ds_if (O' := []) flatE (dt_cmp (od_eq hr.units) (DE.b (de_ix (db_name (pv 3)) (DE.b de_int) (fun _ _ => rfl))) (DE.b de_str) (nomark _)) (dss_cons (ds_asg flatE nd (by rfl) (by first | exact Or.inl rfl | exact Or.inr rfl) (DF.toE (df_bin (of_cat kl) (db_name (pv 2)) (DF.b (df_bin (of_rep kl) (DE.b (de_call G_spread (hr.mono (by omega)) hp (by rfl) (da_cons (de_name (pv 0)) (da_cons (de_ix (db_name (pv 3)) (DE.b de_int) (fun _ _ => rfl)) da_nil)))) (DE.b (de_ix (db_name (pv 3)) (DE.b de_int) (fun _ _ => rfl)))))))) dss_nil) (dss_cons (ds_asg flatE nd (by rfl) (by first | exact Or.inl rfl | exact Or.inr rfl) (DF.toE (df_bin (of_cat kl) (db_name (pv 2)) (DF.b (df_lst (da_cons (de_call G_walk_of (hr.mono (by omega)) hp (by rfl) (da_cons (de_name (pv 0)) (da_cons (de_name (pv 3)) da_nil))) da_nil)))))) dss_nil)) dss_nil)) (dss_one (ds_ret flatE (de_name (pv 2))))))
def F_spread : Nat → List PyData → R PyData
  | 0, _ => .bad
  | k + 1, ds => runB N_spread.length (g_spread (F_spread k) F_walk_of) ds
def N_notes_of : List Str := ["found", "product", "side", "table"]
theorem sc_notes_of : FnScope N_notes_of ["found"] (defScope (top 20)) := ⟨rfl, rfl, rfl, by decide +kernel, rfl, by decide +kernel, by decide +kernel⟩
def l_notes_of_1 : Rho → R Fl := (fSeq (setE 1 (fBin gMul (fun ρ => getV ρ 1) (fC1 gLen (fun ρ => getV ρ 3)))) (fun ρ => R.ok (.nx ρ)))
def g_notes_of : Rho → R Fl := (fSeq (setE 1 (fC (.int 1))) (fSeq (fFor (fun ρ => ((fun ρ => getV ρ 0) ρ).bind seqOf) (tgTup 2 (tgCons (tg1 2) (tgCons (tg1 3) tgNil))) (l_notes_of_1)) (retE (fun ρ => getV ρ 1))))
theorem b_notes_of {P : Program} {w : World} {K : PySem.W.Frag} {mg : Str → Option Value} {base : Heap} {ec : EC} {f : Addr}  (n_len : mg "len" = none) : BodyOk P w K mg base ec "notes_of" (top 20) f N_notes_of 0 (g_notes_of) := by
  intro cdv A outer s H E hr hp tk
  have nd := sc_notes_of.nd
  exact (dss_cons (ds_asg flatE nd (by rfl) (by first | exact Or.inl rfl | exact Or.inr rfl) de_int) (dss_cons (ds_for flatE (passes_of rfl) (by rfl) (di_seq (de_name (pv 0))) (dg_tup (by rfl) (dgs_cons (dg_name (pg_name (i := 2) nd (by rfl) (by first | exact Or.inl rfl | exact Or.inr rfl))) (dgs_cons (dg_name (pg_name (i := 3) nd (by rfl) (by first | exact Or.inl rfl | exact Or.inr rfl))) dgs_nil))) (dss_cons (ds_asg flatE nd (by rfl) (by first | exact Or.inl rfl | exact Or.inr rfl) (de_bin od_mul (db_name (pv 1)) (DE.b (de_b1 c_len (by rfl) n_len (by decide +kernel) (db_name (pv 3)))))) dss_nil)) (dss_one (ds_ret flatE (de_name (pv 1))))))
def F_notes_of : List PyData → R PyData := fun ds => runB N_notes_of.length (g_notes_of) ds
def N_has_script : List Str := ["value", "found", "step"]
theorem sc_has_script : FnScope N_has_script ["value"] (defScope (top 21)) := ⟨rfl, rfl, rfl, by decide +kernel, rfl, by decide +kernel, by decide +kernel⟩
def g_has_script (F_is_tuple : List PyData → R PyData) (F_is_from : List PyData → R PyData) (F_has_step : List PyData → R PyData) (F_spread : List PyData → R PyData) (F_notes_of : List PyData → R PyData) : Rho → R Fl := (fSeq (fun ρ => ((fun ρ => ((fun ρ => ((fun ρ => ((fun ρ => ((fun ρ => ((fun ρ => getV ρ 0) ρ).bind fun d => ((fun ρ => ((fC (.int 2)) ρ).bind fun d => ((fun ρ => ((fC (.int 2)) ρ).bind fun d => ((fun _ => R.ok []) ρ).bind fun ds => R.ok (d :: ds)) ρ).bind fun ds => R.ok (d :: ds)) ρ).bind fun ds => R.ok (d :: ds)) ρ).bind (chk 3 F_is_tuple)) ρ).bind tru) ρ).bind fun b => R.ok (!b)) ρ).bind fun k => if k = true then R.ok true else (fun ρ => ((fun ρ => ((fun ρ => ((fun ρ => ((fun ρ => ((fBin gIx (fun ρ => getV ρ 0) (fC (.int 0))) ρ).bind fun d => ((fun ρ => ((fC (.int 2)) ρ).bind fun d => ((fun ρ => ((fC (.int 3)) ρ).bind fun d => ((fun _ => R.ok []) ρ).bind fun ds => R.ok (d :: ds)) ρ).bind fun ds => R.ok (d :: ds)) ρ).bind fun ds => R.ok (d :: ds)) ρ).bind (chk 3 F_is_from)) ρ).bind tru) ρ).bind fun b => R.ok (!b)) ρ).bind fun k => if k = true then R.ok true else (fun ρ => ((fun ρ => ((fun ρ => ((fun ρ => ((fBin gIx (fun ρ => getV ρ 0) (fC (.int 1))) ρ).bind fun d => ((fun ρ => ((fC (.int 0)) ρ).bind fun d => ((fun ρ => ((fC (.int 6)) ρ).bind fun d => ((fun _ => R.ok []) ρ).bind fun ds => R.ok (d :: ds)) ρ).bind fun ds => R.ok (d :: ds)) ρ).bind fun ds => R.ok (d :: ds)) ρ).bind (chk 3 F_is_tuple)) ρ).bind tru) ρ).bind fun b => R.ok (!b)) ρ) ρ) ρ).bind fun k => if k = true then (retE (fC (.bool false))) ρ else (fun ρ => R.ok (.nx ρ)) ρ) (fSeq (fun ρ => ((fun ρ => ((fun ρ => ((fC1 gAll (fComp [2] (fun ρ => ((fBin gIx (fun ρ => getV ρ 0) (fC (.int 1))) ρ).bind seqOf) (tg1 2) (fun _ => R.ok true) (fun ρ => ((fun ρ => ((fBin gIx (fun ρ => getV ρ 0) (fC (.int 0))) ρ).bind fun d => ((fun ρ => ((fun ρ => getV ρ 2) ρ).bind fun d => ((fun _ => R.ok []) ρ).bind fun ds => R.ok (d :: ds)) ρ).bind fun ds => R.ok (d :: ds)) ρ).bind (chk 2 F_has_step)))) ρ).bind tru) ρ).bind fun b => R.ok (!b)) ρ).bind fun k => if k = true then (retE (fC (.bool false))) ρ else (fun ρ => R.ok (.nx ρ)) ρ) (fSeq (setE 1 (fun ρ => ((fun ρ => ((fBin gIx (fun ρ => getV ρ 0) (fC (.int 0))) ρ).bind fun d => ((fun ρ => ((fBin gIx (fun ρ => getV ρ 0) (fC (.int 1))) ρ).bind fun d => ((fun _ => R.ok []) ρ).bind fun ds => R.ok (d :: ds)) ρ).bind fun ds => R.ok (d :: ds)) ρ).bind (chk 2 F_spread))) (retE (fun ρ => ((fBin gLe (fC1 gLen (fun ρ => getV ρ 1)) (fC (.int 8))) ρ).bind fun x => (tru x).bind fun k => if k = true then (fBin gLe (fun ρ => ((fun ρ => ((fun ρ => getV ρ 1) ρ).bind fun d => ((fun _ => R.ok []) ρ).bind fun ds => R.ok (d :: ds)) ρ).bind (chk 1 F_notes_of)) (fC (.int 16))) ρ else R.ok x)))))
theorem b_has_script {P : Program} {w : World} {K : PySem.W.Frag} {mg : Str → Option Value} {base : Heap} {ec : EC} {f : Addr} {F_is_tuple : List PyData → R PyData} {F_is_from : List PyData → R PyData} {F_has_step : List PyData → R PyData} {F_spread : List PyData → R PyData} {F_notes_of : List PyData → R PyData}  (G_is_tuple : FnD P w K mg base ec 1 3 "is_tuple" F_is_tuple) (G_is_from : FnD P w K mg base ec 1 3 "is_from" F_is_from) (G_has_step : FnD P w K mg base ec 5 2 "has_step" F_has_step) (G_spread : FnD P w K mg base ec 6 2 "spread" F_spread) (G_notes_of : FnD P w K mg base ec 1 1 "notes_of" F_notes_of) (n_all : mg "all" = none) (n_len : mg "len" = none) (i_MOST_NOTES : ∃ u, mg "MOST_NOTES" = some u ∧ RelV (.int 16) u) (i_MOST_STEPS : ∃ u, mg "MOST_STEPS" = some u ∧ RelV (.int 6) u) (i_MOST_WALKS : ∃ u, mg "MOST_WALKS" = some u ∧ RelV (.int 8) u) : BodyOk P w K mg base ec "has_script" (top 21) f N_has_script 6 (g_has_script F_is_tuple F_is_from F_has_step F_spread F_notes_of) := by
  intro cdv A outer s H E hr hp tk
  have nd := sc_has_script.nd
  exact (dss_cons (ds_if (O' := []) flatE (DW.t (dw_or (dt_not (dt_of (DE.b (de_call G_is_tuple (hr.mono (by decide)) hp (by rfl) (da_cons (de_name (pv 0)) (da_cons de_int (da_cons de_int da_nil))))))) (dw_or (dt_not (dt_of (DE.b (de_call G_is_from (hr.mono (by decide)) hp (by rfl) (da_cons (de_ix (db_name (pv 0)) (DE.b de_int) (fun _ _ => rfl)) (da_cons de_int (da_cons de_int da_nil))))))) (dw_or1 (dt_not (dt_of (DE.b (de_call G_is_tuple (hr.mono (by decide)) hp (by rfl) (da_cons (de_ix (db_name (pv 0)) (DE.b de_int) (fun _ _ => rfl)) (da_cons de_int (da_cons (de_glob (v := .int 6) (d := .int 6) (by rfl) i_MOST_STEPS (fun _ => .int _)) da_nil))))))))))) (dss_one (ds_ret flatE de_bl)) dss_nil) (dss_cons (ds_if (O' := []) flatE (dt_not (dt_of (DE.b (de_b1 (c_all (by rfl)) (by rfl) n_all (by decide +kernel) (DF.b (df_comp (own := [("step", 2)]) (by rfl) nd (dj_seq (DE.b (de_ix (db_name (pv 0)) (DE.b de_int) (fun _ _ => rfl)))) (blkOk_by (N := N_has_script) (sc := defScope (top 21)) (own := [("step", 2)]) (by decide +kernel)) ⟨_, fun _ _ _ _ _ => pg_name (i := 2) nd (by rfl) (by first | exact Or.inl rfl | exact Or.inr rfl), dgo_name 2⟩ (fun _ _ _ _ _ => dts_nil) (fun _ _ _ _ _ => (de_call G_has_step (hr.mono (by decide)) passE0 (by rfl) (da_cons (de_ix (db_name (pv 0)) (DE.b de_int) (fun _ _ => rfl)) (da_cons (de_name (pv 2)) da_nil)))))))))) (dss_one (ds_ret flatE de_bl)) dss_nil) (dss_cons (ds_asg flatE nd (by rfl) (by first | exact Or.inl rfl | exact Or.inr rfl) (de_call G_spread (hr.mono (by decide)) hp (by rfl) (da_cons (de_ix (db_name (pv 0)) (DE.b de_int) (fun _ _ => rfl)) (da_cons (de_ix (db_name (pv 0)) (DE.b de_int) (fun _ _ => rfl)) da_nil)))) (dss_one (ds_ret flatE (de_and (de_cmp od_le (DE.b (de_b1 c_len (by rfl) n_len (by decide +kernel) (db_name (pv 1)))) (DE.b (de_glob (v := .int 8) (d := .int 8) (by rfl) i_MOST_WALKS (fun _ => .int _))) (nomark _)) (de_one (de_cmp od_le (DE.b (de_call G_notes_of (hr.mono (by decide)) hp (by rfl) (da_cons (de_name (pv 1)) da_nil))) (DE.b (de_glob (v := .int 16) (d := .int 16) (by rfl) i_MOST_NOTES (fun _ => .int _))) (nomark _)))))))))
def F_has_script : List PyData → R PyData := fun ds => runB N_has_script.length (g_has_script F_is_tuple F_is_from F_has_step (F_spread 3) F_notes_of) ds
def N_need_script : List Str := ["value"]
theorem sc_need_script : FnScope N_need_script ["value"] (defScope (top 22)) := ⟨rfl, rfl, rfl, by decide +kernel, rfl, by decide +kernel, by decide +kernel⟩
def g_need_script (F_has_script : List PyData → R PyData) : Rho → R Fl := (fSeq (fun ρ => ((fun ρ => ((fun ρ => ((fun ρ => ((fun ρ => ((fun ρ => getV ρ 0) ρ).bind fun d => ((fun _ => R.ok []) ρ).bind fun ds => R.ok (d :: ds)) ρ).bind (chk 1 F_has_script)) ρ).bind tru) ρ).bind fun b => R.ok (!b)) ρ).bind fun k => if k = true then (fun _ => .exc 0 none) ρ else (fun ρ => R.ok (.nx ρ)) ρ) (fun ρ => R.ok (.nx ρ)))
theorem b_need_script {P : Program} {w : World} {K : PySem.W.Frag} {mg : Str → Option Value} {base : Heap} {ec : EC} {f : Addr} {F_has_script : List PyData → R PyData}  (G_has_script : FnD P w K mg base ec 7 1 "has_script" F_has_script) (m_InvalidScript : mg "InvalidScript" = some (.ref (He.ga K "InvalidScript"))) (r_InvalidScript : exB "InvalidScript" K = true) (c_InvalidScript : ec.cls 0 = .ref (He.ga K "InvalidScript")) : BodyOk P w K mg base ec "need_script" (top 22) f N_need_script 7 (g_need_script F_has_script) := by
  intro cdv A outer s H E hr hp tk
  have nd := sc_need_script.nd
  exact (dss_cons (ds_if (O' := []) flatE (dt_not (dt_of (DE.b (de_call G_has_script (hr.mono (by decide)) hp (by rfl) (da_cons (de_name (pv 0)) da_nil))))) (dss_one (ds_raiseX (by rfl) tk m_InvalidScript r_InvalidScript c_InvalidScript (by rfl))) dss_nil) dss_nil)
def F_need_script : List PyData → R PyData := fun ds => runB N_need_script.length (g_need_script F_has_script) ds
def N_has_corridor : List Str := ["many", "value", "stand"]
theorem sc_has_corridor : FnScope N_has_corridor ["many", "value"] (defScope (top 23)) := ⟨rfl, rfl, rfl, by decide +kernel, rfl, by decide +kernel, by decide +kernel⟩
def g_has_corridor (F_is_tuple : List PyData → R PyData) (F_is_from : List PyData → R PyData) : Rho → R Fl := (retE (fun ρ => ((fun ρ => ((fun ρ => ((fun ρ => getV ρ 1) ρ).bind fun d => ((fun ρ => ((fC (.int 0)) ρ).bind fun d => ((fun ρ => ((fC (.int 60)) ρ).bind fun d => ((fun _ => R.ok []) ρ).bind fun ds => R.ok (d :: ds)) ρ).bind fun ds => R.ok (d :: ds)) ρ).bind fun ds => R.ok (d :: ds)) ρ).bind (chk 3 F_is_tuple)) ρ).bind fun x => (tru x).bind fun k => if k = true then (fC1 gAll (fComp [2] (fun ρ => ((fun ρ => getV ρ 1) ρ).bind seqOf) (tg1 2) (fun _ => R.ok true) (fun ρ => ((fun ρ => ((fun ρ => getV ρ 2) ρ).bind fun d => ((fun ρ => ((fC (.int 0)) ρ).bind fun d => ((fun ρ => ((fBin gSub (fun ρ => getV ρ 0) (fC (.int 1))) ρ).bind fun d => ((fun _ => R.ok []) ρ).bind fun ds => R.ok (d :: ds)) ρ).bind fun ds => R.ok (d :: ds)) ρ).bind fun ds => R.ok (d :: ds)) ρ).bind (chk 3 F_is_from)))) ρ else R.ok x))
theorem b_has_corridor {P : Program} {w : World} {K : PySem.W.Frag} {mg : Str → Option Value} {base : Heap} {ec : EC} {f : Addr} {F_is_tuple : List PyData → R PyData} {F_is_from : List PyData → R PyData}  (G_is_tuple : FnD P w K mg base ec 1 3 "is_tuple" F_is_tuple) (G_is_from : FnD P w K mg base ec 1 3 "is_from" F_is_from) (n_all : mg "all" = none) : BodyOk P w K mg base ec "has_corridor" (top 23) f N_has_corridor 1 (g_has_corridor F_is_tuple F_is_from) := by
  intro cdv A outer s H E hr hp tk
  have nd := sc_has_corridor.nd
  exact (dss_one (ds_ret flatE (de_and (de_call G_is_tuple (hr.mono (by decide)) hp (by rfl) (da_cons (de_name (pv 1)) (da_cons de_int (da_cons de_int da_nil)))) (de_one (de_b1 (c_all (by rfl)) (by rfl) n_all (by decide +kernel) (DF.b (df_comp (own := [("stand", 2)]) (by rfl) nd (dj_seq (db_name (pv 1))) (blkOk_by (N := N_has_corridor) (sc := defScope (top 23)) (own := [("stand", 2)]) (by decide +kernel)) ⟨_, fun _ _ _ _ _ => pg_name (i := 2) nd (by rfl) (by first | exact Or.inl rfl | exact Or.inr rfl), dgo_name 2⟩ (fun _ _ _ _ _ => dts_nil) (fun _ _ _ _ _ => (de_call G_is_from (hr.mono (by decide)) passE0 (by rfl) (da_cons (de_name (pv 2)) (da_cons de_int (da_cons (de_bin od_sub (db_name (pv 0)) (DE.b de_int)) da_nil))))))))))))
def F_has_corridor : List PyData → R PyData := fun ds => runB N_has_corridor.length (g_has_corridor F_is_tuple F_is_from) ds
def N_need_corridor : List Str := ["many", "value"]
theorem sc_need_corridor : FnScope N_need_corridor ["many", "value"] (defScope (top 24)) := ⟨rfl, rfl, rfl, by decide +kernel, rfl, by decide +kernel, by decide +kernel⟩
def g_need_corridor (F_has_corridor : List PyData → R PyData) : Rho → R Fl := (fSeq (fun ρ => ((fun ρ => ((fun ρ => ((fun ρ => ((fun ρ => ((fun ρ => getV ρ 0) ρ).bind fun d => ((fun ρ => ((fun ρ => getV ρ 1) ρ).bind fun d => ((fun _ => R.ok []) ρ).bind fun ds => R.ok (d :: ds)) ρ).bind fun ds => R.ok (d :: ds)) ρ).bind (chk 2 F_has_corridor)) ρ).bind tru) ρ).bind fun b => R.ok (!b)) ρ).bind fun k => if k = true then (fun _ => .exc 1 none) ρ else (fun ρ => R.ok (.nx ρ)) ρ) (fun ρ => R.ok (.nx ρ)))
theorem b_need_corridor {P : Program} {w : World} {K : PySem.W.Frag} {mg : Str → Option Value} {base : Heap} {ec : EC} {f : Addr} {F_has_corridor : List PyData → R PyData}  (G_has_corridor : FnD P w K mg base ec 2 2 "has_corridor" F_has_corridor) (m_InvalidCorridor : mg "InvalidCorridor" = some (.ref (He.ga K "InvalidCorridor"))) (r_InvalidCorridor : exB "InvalidCorridor" K = true) (c_InvalidCorridor : ec.cls 1 = .ref (He.ga K "InvalidCorridor")) : BodyOk P w K mg base ec "need_corridor" (top 24) f N_need_corridor 2 (g_need_corridor F_has_corridor) := by
  intro cdv A outer s H E hr hp tk
  have nd := sc_need_corridor.nd
  exact (dss_cons (ds_if (O' := []) flatE (dt_not (dt_of (DE.b (de_call G_has_corridor (hr.mono (by decide)) hp (by rfl) (da_cons (de_name (pv 0)) (da_cons (de_name (pv 1)) da_nil)))))) (dss_one (ds_raiseX (by rfl) tk m_InvalidCorridor r_InvalidCorridor c_InvalidCorridor (by rfl))) dss_nil) dss_nil)
def F_need_corridor : List PyData → R PyData := fun ds => runB N_need_corridor.length (g_need_corridor F_has_corridor) ds
def N_is_plain_claim : List Str := ["many", "value", "stand"]
theorem sc_is_plain_claim : FnScope N_is_plain_claim ["many", "value"] (defScope (top 27)) := ⟨rfl, rfl, rfl, by decide +kernel, rfl, by decide +kernel, by decide +kernel⟩
def g_is_plain_claim (F_is_tuple : List PyData → R PyData) (F_is_from : List PyData → R PyData) : Rho → R Fl := (fSeq (fun ρ => ((fun ρ => ((fun ρ => ((fun ρ => ((fun ρ => ((fun ρ => ((fun ρ => getV ρ 1) ρ).bind fun d => ((fun ρ => ((fC (.int 2)) ρ).bind fun d => ((fun ρ => ((fC (.int 3)) ρ).bind fun d => ((fun _ => R.ok []) ρ).bind fun ds => R.ok (d :: ds)) ρ).bind fun ds => R.ok (d :: ds)) ρ).bind fun ds => R.ok (d :: ds)) ρ).bind (chk 3 F_is_tuple)) ρ).bind tru) ρ).bind fun b => R.ok (!b)) ρ).bind fun k => if k = true then R.ok true else (fun ρ => ((fun ρ => ((fIsi "str" (fBin gIx (fun ρ => getV ρ 1) (fC (.int 0)))) ρ).bind tru) ρ).bind fun b => R.ok (!b)) ρ) ρ).bind fun k => if k = true then (retE (fC (.bool false))) ρ else (fun ρ => R.ok (.nx ρ)) ρ) (fSeq (fun ρ => ((fun ρ => ((fun ρ => ((fC1 gAll (fComp [2] (fun ρ => ((fSl gSl (fun ρ => getV ρ 1) (fun ρ => ((fC (.int 1)) ρ).bind toI) (fun _ => R.ok none)) ρ).bind seqOf) (tg1 2) (fun _ => R.ok true) (fun ρ => ((fun ρ => ((fun ρ => getV ρ 2) ρ).bind fun d => ((fun ρ => ((fC (.int 0)) ρ).bind fun d => ((fun ρ => ((fBin gSub (fun ρ => getV ρ 0) (fC (.int 1))) ρ).bind fun d => ((fun _ => R.ok []) ρ).bind fun ds => R.ok (d :: ds)) ρ).bind fun ds => R.ok (d :: ds)) ρ).bind fun ds => R.ok (d :: ds)) ρ).bind (chk 3 F_is_from)))) ρ).bind tru) ρ).bind fun b => R.ok (!b)) ρ).bind fun k => if k = true then (retE (fC (.bool false))) ρ else (fun ρ => R.ok (.nx ρ)) ρ) (retE (fun ρ => ((fun ρ => (fBin gEq (fC1 gLen (fun ρ => getV ρ 1)) (fC (.int 2)) ρ).bind tr) ρ).bind fun k => if k = true then (fBin gIn (fBin gIx (fun ρ => getV ρ 1) (fC (.int 0))) (fC (.tuple D_SINGLE))) ρ else (fBin gEq (fBin gIx (fun ρ => getV ρ 1) (fC (.int 0))) (fC (.str "beside"))) ρ))))
theorem b_is_plain_claim {P : Program} {w : World} {K : PySem.W.Frag} {mg : Str → Option Value} {base : Heap} {ec : EC} {f : Addr} {F_is_tuple : List PyData → R PyData} {F_is_from : List PyData → R PyData}  (G_is_tuple : FnD P w K mg base ec 1 3 "is_tuple" F_is_tuple) (G_is_from : FnD P w K mg base ec 1 3 "is_from" F_is_from) (n_all : mg "all" = none) (n_isinstance : mg "isinstance" = none) (n_len : mg "len" = none) (n_str : mg "str" = none) (m_SINGLE : mg "SINGLE" = some (.ref (He.ga K "SINGLE"))) (t_SINGLE : He.tupB K "SINGLE" V_SINGLE = true) : BodyOk P w K mg base ec "is_plain_claim" (top 27) f N_is_plain_claim 1 (g_is_plain_claim F_is_tuple F_is_from) := by
  intro cdv A outer s H E hr hp tk
  have nd := sc_is_plain_claim.nd
  exact (dss_cons (ds_if (O' := []) flatE (DW.t (dw_or (dt_not (dt_of (DE.b (de_call G_is_tuple (hr.mono (by decide)) hp (by rfl) (da_cons (de_name (pv 1)) (da_cons de_int (da_cons de_int da_nil))))))) (dw_or1 (dt_not (dt_of (DE.b (de_isi (T := "str") (by decide) (by rfl) n_isinstance (by rfl) n_str (by decide +kernel) (DE.b (de_ix (db_name (pv 1)) (DE.b de_int) (fun _ _ => rfl)))))))))) (dss_one (ds_ret flatE de_bl)) dss_nil) (dss_cons (ds_if (O' := []) flatE (dt_not (dt_of (DE.b (de_b1 (c_all (by rfl)) (by rfl) n_all (by decide +kernel) (DF.b (df_comp (own := [("stand", 2)]) (by rfl) nd (dj_seq (DE.b (de_sl (db_name (pv 1)) (dp_some (DE.b de_int)) dp_none))) (blkOk_by (N := N_is_plain_claim) (sc := defScope (top 27)) (own := [("stand", 2)]) (by decide +kernel)) ⟨_, fun _ _ _ _ _ => pg_name (i := 2) nd (by rfl) (by first | exact Or.inl rfl | exact Or.inr rfl), dgo_name 2⟩ (fun _ _ _ _ _ => dts_nil) (fun _ _ _ _ _ => (de_call G_is_from (hr.mono (by decide)) passE0 (by rfl) (da_cons (de_name (pv 2)) (da_cons de_int (da_cons (de_bin od_sub (db_name (pv 0)) (DE.b de_int)) da_nil))))))))))) (dss_one (ds_ret flatE de_bl)) dss_nil) (dss_one (ds_ret flatE (de_if (dt_cmp (od_eq hr.units) (DE.b (de_b1 c_len (by rfl) n_len (by decide +kernel) (db_name (pv 1)))) (DE.b de_int) (nomark _)) (de_cmp (od_in (u65 hr)) (DE.b (de_ix (db_name (pv 1)) (DE.b de_int) (fun _ _ => rfl))) (DE.b (de_globT (by rfl) m_SINGLE t_SINGLE d_SINGLE)) (by rfl)) (de_cmp (od_eq hr.units) (DE.b (de_ix (db_name (pv 1)) (DE.b de_int) (fun _ _ => rfl))) (DE.b de_str) (nomark _)))))))
def F_is_plain_claim : List PyData → R PyData := fun ds => runB N_is_plain_claim.length (g_is_plain_claim F_is_tuple F_is_from) ds
def N_has_claims : List Str := ["many", "value", "claim", "inner"]
theorem sc_has_claims : FnScope N_has_claims ["many", "value"] (defScope (top 28)) := ⟨rfl, rfl, rfl, by decide +kernel, rfl, by decide +kernel, by decide +kernel⟩
def l_has_claims_1 (F_is_tuple : List PyData → R PyData) (F_is_plain_claim : List PyData → R PyData) : Rho → R Fl := (fSeq (setE 3 (fun ρ => ((fun ρ => ((fun ρ => ((fun ρ => ((fun ρ => ((fun ρ => getV ρ 2) ρ).bind fun d => ((fun ρ => ((fC (.int 2)) ρ).bind fun d => ((fun ρ => ((fC (.int 2)) ρ).bind fun d => ((fun _ => R.ok []) ρ).bind fun ds => R.ok (d :: ds)) ρ).bind fun ds => R.ok (d :: ds)) ρ).bind fun ds => R.ok (d :: ds)) ρ).bind (chk 3 F_is_tuple)) ρ).bind tru) ρ).bind fun k => if k = true then (fun ρ => ((fun ρ => ((fIsi "str" (fBin gIx (fun ρ => getV ρ 2) (fC (.int 0)))) ρ).bind tru) ρ).bind fun k => if k = true then (fun ρ => (fBin gEq (fBin gIx (fun ρ => getV ρ 2) (fC (.int 0))) (fC (.str "not")) ρ).bind tr) ρ else R.ok false) ρ else R.ok false) ρ).bind fun k => if k = true then (fBin gIx (fun ρ => getV ρ 2) (fC (.int 1))) ρ else (fun ρ => getV ρ 2) ρ)) (fSeq (fun ρ => ((fun ρ => ((fun ρ => ((fun ρ => ((fun ρ => ((fun ρ => getV ρ 0) ρ).bind fun d => ((fun ρ => ((fun ρ => getV ρ 3) ρ).bind fun d => ((fun _ => R.ok []) ρ).bind fun ds => R.ok (d :: ds)) ρ).bind fun ds => R.ok (d :: ds)) ρ).bind (chk 2 F_is_plain_claim)) ρ).bind tru) ρ).bind fun b => R.ok (!b)) ρ).bind fun k => if k = true then (retE (fC (.bool false))) ρ else (fun ρ => R.ok (.nx ρ)) ρ) (fun ρ => R.ok (.nx ρ))))
def g_has_claims (F_is_tuple : List PyData → R PyData) (F_is_plain_claim : List PyData → R PyData) : Rho → R Fl := (fSeq (fun ρ => ((fun ρ => ((fun ρ => ((fun ρ => ((fun ρ => ((fun ρ => getV ρ 1) ρ).bind fun d => ((fun ρ => ((fC (.int 0)) ρ).bind fun d => ((fun ρ => ((fC (.int 2)) ρ).bind fun d => ((fun _ => R.ok []) ρ).bind fun ds => R.ok (d :: ds)) ρ).bind fun ds => R.ok (d :: ds)) ρ).bind fun ds => R.ok (d :: ds)) ρ).bind (chk 3 F_is_tuple)) ρ).bind tru) ρ).bind fun b => R.ok (!b)) ρ).bind fun k => if k = true then (retE (fC (.bool false))) ρ else (fun ρ => R.ok (.nx ρ)) ρ) (fSeq (fFor (fun ρ => ((fun ρ => getV ρ 1) ρ).bind seqOf) (tg1 2) (l_has_claims_1 F_is_tuple F_is_plain_claim)) (retE (fC (.bool true)))))
theorem b_has_claims {P : Program} {w : World} {K : PySem.W.Frag} {mg : Str → Option Value} {base : Heap} {ec : EC} {f : Addr} {F_is_tuple : List PyData → R PyData} {F_is_plain_claim : List PyData → R PyData}  (G_is_tuple : FnD P w K mg base ec 1 3 "is_tuple" F_is_tuple) (G_is_plain_claim : FnD P w K mg base ec 2 2 "is_plain_claim" F_is_plain_claim) (n_isinstance : mg "isinstance" = none) (n_str : mg "str" = none) : BodyOk P w K mg base ec "has_claims" (top 28) f N_has_claims 2 (g_has_claims F_is_tuple F_is_plain_claim) := by
  intro cdv A outer s H E hr hp tk
  have nd := sc_has_claims.nd
  exact (dss_cons (ds_if (O' := []) flatE (dt_not (dt_of (DE.b (de_call G_is_tuple (hr.mono (by decide)) hp (by rfl) (da_cons (de_name (pv 1)) (da_cons de_int (da_cons de_int da_nil))))))) (dss_one (ds_ret flatE de_bl)) dss_nil) (dss_cons (ds_for flatE (passes_of rfl) (by rfl) (di_seq (de_name (pv 1))) (dg_name (pg_name (i := 2) nd (by rfl) (by first | exact Or.inl rfl | exact Or.inr rfl))) (dss_cons (ds_asg flatE nd (by rfl) (by first | exact Or.inl rfl | exact Or.inr rfl) (de_if (DW.t (dw_and (dt_of (DE.b (de_call G_is_tuple (hr.mono (by decide)) hp (by rfl) (da_cons (de_name (pv 2)) (da_cons de_int (da_cons de_int da_nil)))))) (dw_and (dt_of (DE.b (de_isi (T := "str") (by decide) (by rfl) n_isinstance (by rfl) n_str (by decide +kernel) (DE.b (de_ix (db_name (pv 2)) (DE.b de_int) (fun _ _ => rfl)))))) (dw_and1 (dt_cmp (od_eq hr.units) (DE.b (de_ix (db_name (pv 2)) (DE.b de_int) (fun _ _ => rfl))) (DE.b de_str) (nomark _)))))) (de_ix (db_name (pv 2)) (DE.b de_int) (fun _ _ => rfl)) (de_name (pv 2)))) (dss_cons (ds_if (O' := []) flatE (dt_not (dt_of (DE.b (de_call G_is_plain_claim (hr.mono (by decide)) hp (by rfl) (da_cons (de_name (pv 0)) (da_cons (de_name (pv 3)) da_nil)))))) (dss_one (ds_ret flatE de_bl)) dss_nil) dss_nil))) (dss_one (ds_ret flatE de_bl))))
def F_has_claims : List PyData → R PyData := fun ds => runB N_has_claims.length (g_has_claims F_is_tuple F_is_plain_claim) ds
def N_need_claims : List Str := ["many", "value"]
theorem sc_need_claims : FnScope N_need_claims ["many", "value"] (defScope (top 29)) := ⟨rfl, rfl, rfl, by decide +kernel, rfl, by decide +kernel, by decide +kernel⟩
def g_need_claims (F_has_claims : List PyData → R PyData) : Rho → R Fl := (fSeq (fun ρ => ((fun ρ => ((fun ρ => ((fun ρ => ((fun ρ => ((fun ρ => getV ρ 0) ρ).bind fun d => ((fun ρ => ((fun ρ => getV ρ 1) ρ).bind fun d => ((fun _ => R.ok []) ρ).bind fun ds => R.ok (d :: ds)) ρ).bind fun ds => R.ok (d :: ds)) ρ).bind (chk 2 F_has_claims)) ρ).bind tru) ρ).bind fun b => R.ok (!b)) ρ).bind fun k => if k = true then (fun _ => .exc 2 none) ρ else (fun ρ => R.ok (.nx ρ)) ρ) (fun ρ => R.ok (.nx ρ)))
theorem b_need_claims {P : Program} {w : World} {K : PySem.W.Frag} {mg : Str → Option Value} {base : Heap} {ec : EC} {f : Addr} {F_has_claims : List PyData → R PyData}  (G_has_claims : FnD P w K mg base ec 3 2 "has_claims" F_has_claims) (m_InvalidClaims : mg "InvalidClaims" = some (.ref (He.ga K "InvalidClaims"))) (r_InvalidClaims : exB "InvalidClaims" K = true) (c_InvalidClaims : ec.cls 2 = .ref (He.ga K "InvalidClaims")) : BodyOk P w K mg base ec "need_claims" (top 29) f N_need_claims 3 (g_need_claims F_has_claims) := by
  intro cdv A outer s H E hr hp tk
  have nd := sc_need_claims.nd
  exact (dss_cons (ds_if (O' := []) flatE (dt_not (dt_of (DE.b (de_call G_has_claims (hr.mono (by decide)) hp (by rfl) (da_cons (de_name (pv 0)) (da_cons (de_name (pv 1)) da_nil)))))) (dss_one (ds_raiseX (by rfl) tk m_InvalidClaims r_InvalidClaims c_InvalidClaims (by rfl))) dss_nil) dss_nil)
def F_need_claims : List PyData → R PyData := fun ds => runB N_need_claims.length (g_need_claims F_has_claims) ds
def N_claim_step : List Str := ["claim", "note", "stand", "word", "wanted", "good"]
theorem sc_claim_step : FnScope N_claim_step ["claim", "note", "stand"] (defScope (top 30)) := ⟨rfl, rfl, rfl, by decide +kernel, rfl, by decide +kernel, by decide +kernel⟩
def g_claim_step : Rho → R Fl := (fSeq (asgT (tgTup 2 (tgCons (tg1 3) (tgCons (tg1 4) tgNil))) (fSl gSl (fun ρ => getV ρ 0) (fun _ => R.ok none) (fun ρ => ((fC (.int 2)) ρ).bind toI))) (fSeq (setE 5 (fC1 gInt (fBin gEq (fun ρ => getV ρ 2) (fun ρ => getV ρ 4)))) (fSeq (fun ρ => ((fun ρ => (fBin gEq (fun ρ => getV ρ 3) (fC (.str "last")) ρ).bind tr) ρ).bind fun k => if k = true then (retE (fun ρ => getV ρ 5)) ρ else (fun ρ => R.ok (.nx ρ)) ρ) (fSeq (fun ρ => ((fun ρ => (fBin gEq (fun ρ => getV ρ 3) (fC (.str "even")) ρ).bind tr) ρ).bind fun k => if k = true then (retE (fBin gMod (fBin gAdd (fun ρ => getV ρ 1) (fun ρ => getV ρ 5)) (fC (.int 2)))) ρ else (fun ρ => R.ok (.nx ρ)) ρ) (fSeq (fun ρ => ((fun ρ => (fBin gEq (fun ρ => getV ρ 3) (fC (.str "first")) ρ).bind tr) ρ).bind fun k => if k = true then (retE (fun ρ => ((fun ρ => (fBin gGt (fun ρ => getV ρ 1) (fC (.int 0)) ρ).bind tr) ρ).bind fun k => if k = true then (fun ρ => getV ρ 1) ρ else (fBin gSub (fC (.int 2)) (fun ρ => getV ρ 5)) ρ)) ρ else (fun ρ => R.ok (.nx ρ)) ρ) (fSeq (fun ρ => ((fun ρ => (fBin gEq (fun ρ => getV ρ 3) (fC (.str "beside")) ρ).bind tr) ρ).bind fun k => if k = true then (fSeq (fun ρ => ((fun ρ => ((fun ρ => (fBin gEq (fun ρ => getV ρ 1) (fC (.int 2)) ρ).bind tr) ρ).bind fun k => if k = true then R.ok true else (fun ρ => ((fun ρ => (fBin gEq (fun ρ => getV ρ 1) (fC (.int 1)) ρ).bind tr) ρ).bind fun k => if k = true then (fun ρ => (fBin gEq (fun ρ => getV ρ 2) (fBin gIx (fun ρ => getV ρ 0) (fC (.int 2))) ρ).bind tr) ρ else R.ok false) ρ) ρ).bind fun k => if k = true then (retE (fC (.int 2))) ρ else (fun ρ => R.ok (.nx ρ)) ρ) (retE (fun ρ => getV ρ 5))) ρ else (fun ρ => R.ok (.nx ρ)) ρ) (retE (fun ρ => ((fun ρ => (fBin gEq (fun ρ => getV ρ 5) (fC (.int 1)) ρ).bind tr) ρ).bind fun k => if k = true then (fC (.int 1)) ρ else (fun ρ => getV ρ 1) ρ))))))))
theorem b_claim_step {P : Program} {w : World} {K : PySem.W.Frag} {mg : Str → Option Value} {base : Heap} {ec : EC} {f : Addr}  (n_int : mg "int" = none) : BodyOk P w K mg base ec "claim_step" (top 30) f N_claim_step 0 (g_claim_step) := by
  intro cdv A outer s H E hr hp tk
  have nd := sc_claim_step.nd
  exact (dss_cons (ds_asgT flatE (de_sl (db_name (pv 0)) dp_none (dp_some (DE.b de_int))) (dg_tup (by rfl) (dgs_cons (dg_name (pg_name (i := 3) nd (by rfl) (by first | exact Or.inl rfl | exact Or.inr rfl))) (dgs_cons (dg_name (pg_name (i := 4) nd (by rfl) (by first | exact Or.inl rfl | exact Or.inr rfl))) dgs_nil)))) (dss_cons (ds_asg flatE nd (by rfl) (by first | exact Or.inl rfl | exact Or.inr rfl) (de_t1 c_int (by rfl) n_int (by decide +kernel) (DE.b (de_cmp (od_eq hr.units) (db_name (pv 2)) (db_name (pv 4)) (nomark _))))) (dss_cons (ds_if (O' := []) flatE (dt_cmp (od_eq hr.units) (db_name (pv 3)) (DE.b de_str) (nomark _)) (dss_one (ds_ret flatE (de_name (pv 5)))) dss_nil) (dss_cons (ds_if (O' := []) flatE (dt_cmp (od_eq hr.units) (db_name (pv 3)) (DE.b de_str) (nomark _)) (dss_one (ds_ret flatE (de_bin od_mod (DE.b (de_bin od_add (db_name (pv 1)) (db_name (pv 5)))) (DE.b de_int)))) dss_nil) (dss_cons (ds_if (O' := []) flatE (dt_cmp (od_eq hr.units) (db_name (pv 3)) (DE.b de_str) (nomark _)) (dss_one (ds_ret flatE (de_if (dt_cmp od_gt (db_name (pv 1)) (DE.b de_int) (nomark _)) (de_name (pv 1)) (de_bin od_sub (DE.b de_int) (db_name (pv 5)))))) dss_nil) (dss_cons (ds_if (O' := []) flatE (dt_cmp (od_eq hr.units) (db_name (pv 3)) (DE.b de_str) (nomark _)) (dss_cons (ds_if (O' := []) flatE (DW.t (dw_or (dt_cmp (od_eq hr.units) (db_name (pv 1)) (DE.b de_int) (nomark _)) (dw_or1 (DW.t (dw_and (dt_cmp (od_eq hr.units) (db_name (pv 1)) (DE.b de_int) (nomark _)) (dw_and1 (dt_cmp (od_eq hr.units) (db_name (pv 2)) (DE.b (de_ix (db_name (pv 0)) (DE.b de_int) (fun _ _ => rfl))) (nomark _)))))))) (dss_one (ds_ret flatE de_int)) dss_nil) (dss_one (ds_ret flatE (de_name (pv 5))))) dss_nil) (dss_one (ds_ret flatE (de_if (dt_cmp (od_eq hr.units) (db_name (pv 5)) (DE.b de_int) (nomark _)) de_int (de_name (pv 1)))))))))))
def F_claim_step : List PyData → R PyData := fun ds => runB N_claim_step.length (g_claim_step) ds
def N_is_good : List Str := ["claim", "note"]
theorem sc_is_good : FnScope N_is_good ["claim", "note"] (defScope (top 31)) := ⟨rfl, rfl, rfl, by decide +kernel, rfl, by decide +kernel, by decide +kernel⟩
def g_is_good (F_is_good : List PyData → R PyData) : Rho → R Fl := (fSeq (fun ρ => ((fun ρ => (fBin gEq (fBin gIx (fun ρ => getV ρ 0) (fC (.int 0))) (fC (.str "not")) ρ).bind tr) ρ).bind fun k => if k = true then (retE (fun ρ => ((fun ρ => ((fun ρ => ((fBin gIx (fun ρ => getV ρ 0) (fC (.int 1))) ρ).bind fun d => ((fun ρ => ((fun ρ => getV ρ 1) ρ).bind fun d => ((fun _ => R.ok []) ρ).bind fun ds => R.ok (d :: ds)) ρ).bind fun ds => R.ok (d :: ds)) ρ).bind (chk 2 F_is_good)) ρ).bind fun x => (tru x).bind fun b => R.ok (.bool (!b)))) ρ else (fun ρ => R.ok (.nx ρ)) ρ) (retE (fBin gEq (fun ρ => getV ρ 1) (fun ρ => ((fun ρ => ((fun ρ => ((fC (.int 0)) ρ).bind fun d => ((fun ρ => ((fC (.int 1)) ρ).bind fun d => ((fun ρ => ((fC (.int 1)) ρ).bind fun d => ((fun ρ => ((fC (.int 0)) ρ).bind fun d => ((fun ρ => ((fC (.int 1)) ρ).bind fun d => ((fun _ => R.ok []) ρ).bind fun ds => R.ok ((keyD (.inr "some"), d) :: ds)) ρ).bind fun ds => R.ok ((keyD (.inr "none"), d) :: ds)) ρ).bind fun ds => R.ok ((keyD (.inr "last"), d) :: ds)) ρ).bind fun ds => R.ok ((keyD (.inr "first"), d) :: ds)) ρ).bind fun ds => R.ok ((keyD (.inr "even"), d) :: ds)) ρ).bind mkDict) ρ).bind fun ds => ((fBin gIx (fun ρ => getV ρ 0) (fC (.int 0))) ρ).bind fun k => ((fC (.int 2)) ρ).bind fun d => getD2 ds k d))))
theorem b_is_good {P : Program} {w : World} {K : PySem.W.Frag} {mg : Str → Option Value} {base : Heap} {ec : EC} {f : Addr} {F_is_good : List PyData → R PyData}  {k : Nat} (hk : 0 ≤ k) (G_is_good : FnD P w K mg base ec k 2 "is_good" F_is_good) : BodyOk P w K mg base ec "is_good" (top 31) f N_is_good k (g_is_good F_is_good) := by
  intro cdv A outer s H E hr hp tk
  have nd := sc_is_good.nd
  exact (dss_cons (ds_if (O' := []) flatE (dt_cmp (od_eq hr.units) (DE.b (de_ix (db_name (pv 0)) (DE.b de_int) (fun _ _ => rfl))) (DE.b de_str) (nomark _)) (dss_one (ds_ret flatE (de_not (DE.b (de_call G_is_good (hr.mono (by omega)) hp (by rfl) (da_cons (de_ix (db_name (pv 0)) (DE.b de_int) (fun _ _ => rfl)) (da_cons (de_name (pv 1)) da_nil))))))) dss_nil) (dss_one (ds_ret flatE (de_cmp (od_eq hr.units) (db_name (pv 1)) (DE.b (de_dget2 (u1 hr) (dd_disp (dks_cons (.inr "even") pe_str de_int (dks_cons (.inr "first") pe_str de_int (dks_cons (.inr "last") pe_str de_int (dks_cons (.inr "none") pe_str de_int (dks_cons (.inr "some") pe_str de_int dks_nil)))))) (de_ix (db_name (pv 0)) (DE.b de_int) (fun _ _ => rfl)) de_int ⟨rfl, rfl, rfl, rfl⟩)) (nomark _)))))
def F_is_good : Nat → List PyData → R PyData
  | 0, _ => .bad
  | k + 1, ds => runB N_is_good.length (g_is_good (F_is_good k)) ds
def N_inner_of : List Str := ["claim"]
theorem sc_inner_of : FnScope N_inner_of ["claim"] (defScope (top 32)) := ⟨rfl, rfl, rfl, by decide +kernel, rfl, by decide +kernel, by decide +kernel⟩
def g_inner_of : Rho → R Fl := (retE (fun ρ => ((fun ρ => (fBin gEq (fBin gIx (fun ρ => getV ρ 0) (fC (.int 0))) (fC (.str "not")) ρ).bind tr) ρ).bind fun k => if k = true then (fBin gIx (fun ρ => getV ρ 0) (fC (.int 1))) ρ else (fun ρ => getV ρ 0) ρ))
theorem b_inner_of {P : Program} {w : World} {K : PySem.W.Frag} {mg : Str → Option Value} {base : Heap} {ec : EC} {f : Addr}  : BodyOk P w K mg base ec "inner_of" (top 32) f N_inner_of 0 (g_inner_of) := by
  intro cdv A outer s H E hr hp tk
  have nd := sc_inner_of.nd
  exact (dss_one (ds_ret flatE (de_if (dt_cmp (od_eq hr.units) (DE.b (de_ix (db_name (pv 0)) (DE.b de_int) (fun _ _ => rfl))) (DE.b de_str) (nomark _)) (de_ix (db_name (pv 0)) (DE.b de_int) (fun _ _ => rfl)) (de_name (pv 0)))))
def F_inner_of : List PyData → R PyData := fun ds => runB N_inner_of.length (g_inner_of) ds
def N_claims_step : List Str := ["claims", "notes", "stand", "claim", "note"]
theorem sc_claims_step : FnScope N_claims_step ["claims", "notes", "stand"] (defScope (top 33)) := ⟨rfl, rfl, rfl, by decide +kernel, rfl, by decide +kernel, by decide +kernel⟩
def g_claims_step (F_claim_step : List PyData → R PyData) (F_inner_of : List PyData → R PyData) : Rho → R Fl := (retE (fC1 gTuple (fComp [3, 4] (fun ρ => ((fun ρ => ((fun ρ => getV ρ 0) ρ).bind fun d => ((fun ρ => ((fun ρ => getV ρ 1) ρ).bind fun d => ((fun _ => R.ok []) ρ).bind fun ds => R.ok (d :: ds)) ρ).bind fun ds => R.ok (d :: ds)) ρ).bind zipOf) (tgTup 2 (tgCons (tg1 3) (tgCons (tg1 4) tgNil))) (fun _ => R.ok true) (fun ρ => ((fun ρ => ((fun ρ => ((fun ρ => ((fun ρ => getV ρ 3) ρ).bind fun d => ((fun _ => R.ok []) ρ).bind fun ds => R.ok (d :: ds)) ρ).bind (chk 1 F_inner_of)) ρ).bind fun d => ((fun ρ => ((fun ρ => getV ρ 4) ρ).bind fun d => ((fun ρ => ((fun ρ => getV ρ 2) ρ).bind fun d => ((fun _ => R.ok []) ρ).bind fun ds => R.ok (d :: ds)) ρ).bind fun ds => R.ok (d :: ds)) ρ).bind fun ds => R.ok (d :: ds)) ρ).bind (chk 3 F_claim_step)))))
theorem b_claims_step {P : Program} {w : World} {K : PySem.W.Frag} {mg : Str → Option Value} {base : Heap} {ec : EC} {f : Addr} {F_claim_step : List PyData → R PyData} {F_inner_of : List PyData → R PyData}  (G_claim_step : FnD P w K mg base ec 1 3 "claim_step" F_claim_step) (G_inner_of : FnD P w K mg base ec 1 1 "inner_of" F_inner_of) (n_tuple : mg "tuple" = none) (n_zip : mg "zip" = none) : BodyOk P w K mg base ec "claims_step" (top 33) f N_claims_step 1 (g_claims_step F_claim_step F_inner_of) := by
  intro cdv A outer s H E hr hp tk
  have nd := sc_claims_step.nd
  exact (dss_one (ds_ret flatE (de_t1 c_tuple (by rfl) n_tuple (by decide +kernel) (DF.b (df_comp (own := [("claim", 3), ("note", 4)]) (by rfl) nd (DI.j (di_zip (by rfl) n_zip (da_cons (de_name (pv 0)) (da_cons (de_name (pv 1)) da_nil)))) (blkOk_by (N := N_claims_step) (sc := defScope (top 33)) (own := [("claim", 3), ("note", 4)]) (by decide +kernel)) ⟨_, fun _ _ _ _ _ => pg_tup (n := 2) (by rfl) (pgs_cons (pg_name (i := 3) nd (by rfl) (by first | exact Or.inl rfl | exact Or.inr rfl)) (pgs_cons (pg_name (i := 4) nd (by rfl) (by first | exact Or.inl rfl | exact Or.inr rfl)) pgs_nil)), dgo_tup (dgo_cons (dgo_name 3) (dgo_cons (dgo_name 4) dgo_nil))⟩ (fun _ _ _ _ _ => dts_nil) (fun _ _ _ _ _ => (de_call G_claim_step (hr.mono (by decide)) passE0 (by rfl) (da_cons (de_call G_inner_of (hr.mono (by decide)) passE0 (by rfl) (da_cons (de_name (pv 3)) da_nil)) (da_cons (de_name (pv 4)) (da_cons (de_name (pv 2)) da_nil))))))))))
def F_claims_step : List PyData → R PyData := fun ds => runB N_claims_step.length (g_claims_step F_claim_step F_inner_of) ds
def N_are_good : List Str := ["claims", "notes", "claim", "note"]
theorem sc_are_good : FnScope N_are_good ["claims", "notes"] (defScope (top 34)) := ⟨rfl, rfl, rfl, by decide +kernel, rfl, by decide +kernel, by decide +kernel⟩
def g_are_good (F_is_good : List PyData → R PyData) : Rho → R Fl := (retE (fC1 gAll (fComp [2, 3] (fun ρ => ((fun ρ => ((fun ρ => getV ρ 0) ρ).bind fun d => ((fun ρ => ((fun ρ => getV ρ 1) ρ).bind fun d => ((fun _ => R.ok []) ρ).bind fun ds => R.ok (d :: ds)) ρ).bind fun ds => R.ok (d :: ds)) ρ).bind zipOf) (tgTup 2 (tgCons (tg1 2) (tgCons (tg1 3) tgNil))) (fun _ => R.ok true) (fun ρ => ((fun ρ => ((fun ρ => getV ρ 2) ρ).bind fun d => ((fun ρ => ((fun ρ => getV ρ 3) ρ).bind fun d => ((fun _ => R.ok []) ρ).bind fun ds => R.ok (d :: ds)) ρ).bind fun ds => R.ok (d :: ds)) ρ).bind (chk 2 F_is_good)))))
theorem b_are_good {P : Program} {w : World} {K : PySem.W.Frag} {mg : Str → Option Value} {base : Heap} {ec : EC} {f : Addr} {F_is_good : List PyData → R PyData}  (G_is_good : FnD P w K mg base ec 4 2 "is_good" F_is_good) (n_all : mg "all" = none) (n_zip : mg "zip" = none) : BodyOk P w K mg base ec "are_good" (top 34) f N_are_good 4 (g_are_good F_is_good) := by
  intro cdv A outer s H E hr hp tk
  have nd := sc_are_good.nd
  exact (dss_one (ds_ret flatE (de_b1 (c_all (by rfl)) (by rfl) n_all (by decide +kernel) (DF.b (df_comp (own := [("claim", 2), ("note", 3)]) (by rfl) nd (DI.j (di_zip (by rfl) n_zip (da_cons (de_name (pv 0)) (da_cons (de_name (pv 1)) da_nil)))) (blkOk_by (N := N_are_good) (sc := defScope (top 34)) (own := [("claim", 2), ("note", 3)]) (by decide +kernel)) ⟨_, fun _ _ _ _ _ => pg_tup (n := 2) (by rfl) (pgs_cons (pg_name (i := 2) nd (by rfl) (by first | exact Or.inl rfl | exact Or.inr rfl)) (pgs_cons (pg_name (i := 3) nd (by rfl) (by first | exact Or.inl rfl | exact Or.inr rfl)) pgs_nil)), dgo_tup (dgo_cons (dgo_name 2) (dgo_cons (dgo_name 3) dgo_nil))⟩ (fun _ _ _ _ _ => dts_nil) (fun _ _ _ _ _ => (de_call G_is_good (hr.mono (by decide)) passE0 (by rfl) (da_cons (de_name (pv 2)) (da_cons (de_name (pv 3)) da_nil)))))))))
def F_are_good : List PyData → R PyData := fun ds => runB N_are_good.length (g_are_good (F_is_good 3)) ds
def N_has_all : List Str := ["claims", "corridor", "notes", "stand"]
theorem sc_has_all : FnScope N_has_all ["claims", "corridor"] (defScope (top 35)) := ⟨rfl, rfl, rfl, by decide +kernel, rfl, by decide +kernel, by decide +kernel⟩
def l_has_all_1 (F_claims_step : List PyData → R PyData) (F_are_good : List PyData → R PyData) : Rho → R Fl := (fSeq (setE 2 (fun ρ => ((fun ρ => ((fun ρ => getV ρ 0) ρ).bind fun d => ((fun ρ => ((fun ρ => getV ρ 2) ρ).bind fun d => ((fun ρ => ((fun ρ => getV ρ 3) ρ).bind fun d => ((fun _ => R.ok []) ρ).bind fun ds => R.ok (d :: ds)) ρ).bind fun ds => R.ok (d :: ds)) ρ).bind fun ds => R.ok (d :: ds)) ρ).bind (chk 3 F_claims_step))) (fun ρ => R.ok (.nx ρ)))
def g_has_all (F_claims_step : List PyData → R PyData) (F_are_good : List PyData → R PyData) : Rho → R Fl := (fSeq (setE 2 (fBin gMul (fun ρ => ((fun ρ => ((fC (.int 0)) ρ).bind fun d => ((fun _ => R.ok []) ρ).bind fun ds => R.ok (d :: ds)) ρ).bind mkTup) (fC1 gLen (fun ρ => getV ρ 0)))) (fSeq (fFor (fun ρ => ((fun ρ => getV ρ 1) ρ).bind seqOf) (tg1 3) (l_has_all_1 F_claims_step F_are_good)) (retE (fun ρ => ((fun ρ => ((fun ρ => getV ρ 0) ρ).bind fun d => ((fun ρ => ((fun ρ => getV ρ 2) ρ).bind fun d => ((fun _ => R.ok []) ρ).bind fun ds => R.ok (d :: ds)) ρ).bind fun ds => R.ok (d :: ds)) ρ).bind (chk 2 F_are_good)))))
theorem b_has_all {P : Program} {w : World} {K : PySem.W.Frag} {mg : Str → Option Value} {base : Heap} {ec : EC} {f : Addr} {F_claims_step : List PyData → R PyData} {F_are_good : List PyData → R PyData}  (G_claims_step : FnD P w K mg base ec 2 3 "claims_step" F_claims_step) (G_are_good : FnD P w K mg base ec 5 2 "are_good" F_are_good) (n_len : mg "len" = none) : BodyOk P w K mg base ec "has_all" (top 35) f N_has_all 5 (g_has_all F_claims_step F_are_good) := by
  intro cdv A outer s H E hr hp tk
  have nd := sc_has_all.nd
  exact (dss_cons (ds_asg flatE nd (by rfl) (by first | exact Or.inl rfl | exact Or.inr rfl) (de_bin od_mul (DE.b (de_tup (da_cons de_int da_nil))) (DE.b (de_b1 c_len (by rfl) n_len (by decide +kernel) (db_name (pv 0)))))) (dss_cons (ds_for flatE (passes_of rfl) (by rfl) (di_seq (de_name (pv 1))) (dg_name (pg_name (i := 3) nd (by rfl) (by first | exact Or.inl rfl | exact Or.inr rfl))) (dss_cons (ds_asg flatE nd (by rfl) (by first | exact Or.inl rfl | exact Or.inr rfl) (de_call G_claims_step (hr.mono (by decide)) hp (by rfl) (da_cons (de_name (pv 0)) (da_cons (de_name (pv 2)) (da_cons (de_name (pv 3)) da_nil))))) dss_nil)) (dss_one (ds_ret flatE (de_call G_are_good (hr.mono (by decide)) hp (by rfl) (da_cons (de_name (pv 0)) (da_cons (de_name (pv 2)) da_nil)))))))
def F_has_all : List PyData → R PyData := fun ds => runB N_has_all.length (g_has_all F_claims_step F_are_good) ds
def N_holds : List Str := ["script", "claims", "corridor"]
theorem sc_holds : FnScope N_holds ["script", "claims", "corridor"] (defScope (top 36)) := ⟨rfl, rfl, rfl, by decide +kernel, rfl, by decide +kernel, by decide +kernel⟩
def g_holds (F_need_script : List PyData → R PyData) (F_need_claims : List PyData → R PyData) (F_need_corridor : List PyData → R PyData) (F_has_all : List PyData → R PyData) : Rho → R Fl := (fSeq (fun ρ => ((fun ρ => ((fun ρ => ((fun ρ => getV ρ 0) ρ).bind fun d => ((fun _ => R.ok []) ρ).bind fun ds => R.ok (d :: ds)) ρ).bind (chk 1 F_need_script)) ρ).bind fun _ => R.ok (.nx ρ)) (fSeq (fun ρ => ((fun ρ => ((fun ρ => ((fBin gIx (fun ρ => getV ρ 0) (fC (.int 0))) ρ).bind fun d => ((fun ρ => ((fun ρ => getV ρ 1) ρ).bind fun d => ((fun _ => R.ok []) ρ).bind fun ds => R.ok (d :: ds)) ρ).bind fun ds => R.ok (d :: ds)) ρ).bind (chk 2 F_need_claims)) ρ).bind fun _ => R.ok (.nx ρ)) (fSeq (fun ρ => ((fun ρ => ((fun ρ => ((fBin gIx (fun ρ => getV ρ 0) (fC (.int 0))) ρ).bind fun d => ((fun ρ => ((fun ρ => getV ρ 2) ρ).bind fun d => ((fun _ => R.ok []) ρ).bind fun ds => R.ok (d :: ds)) ρ).bind fun ds => R.ok (d :: ds)) ρ).bind (chk 2 F_need_corridor)) ρ).bind fun _ => R.ok (.nx ρ)) (retE (fun ρ => ((fun ρ => ((fun ρ => getV ρ 1) ρ).bind fun d => ((fun ρ => ((fun ρ => getV ρ 2) ρ).bind fun d => ((fun _ => R.ok []) ρ).bind fun ds => R.ok (d :: ds)) ρ).bind fun ds => R.ok (d :: ds)) ρ).bind (chk 2 F_has_all))))))
theorem b_holds {P : Program} {w : World} {K : PySem.W.Frag} {mg : Str → Option Value} {base : Heap} {ec : EC} {f : Addr} {F_need_script : List PyData → R PyData} {F_need_claims : List PyData → R PyData} {F_need_corridor : List PyData → R PyData} {F_has_all : List PyData → R PyData}  (G_need_script : FnD P w K mg base ec 8 1 "need_script" F_need_script) (G_need_claims : FnD P w K mg base ec 4 2 "need_claims" F_need_claims) (G_need_corridor : FnD P w K mg base ec 3 2 "need_corridor" F_need_corridor) (G_has_all : FnD P w K mg base ec 6 2 "has_all" F_has_all) : BodyOk P w K mg base ec "holds" (top 36) f N_holds 8 (g_holds F_need_script F_need_claims F_need_corridor F_has_all) := by
  intro cdv A outer s H E hr hp tk
  have nd := sc_holds.nd
  exact (dss_cons (ds_expr flatE (de_call G_need_script (hr.mono (by decide)) hp (by rfl) (da_cons (de_name (pv 0)) da_nil))) (dss_cons (ds_expr flatE (de_call G_need_claims (hr.mono (by decide)) hp (by rfl) (da_cons (de_ix (db_name (pv 0)) (DE.b de_int) (fun _ _ => rfl)) (da_cons (de_name (pv 1)) da_nil)))) (dss_cons (ds_expr flatE (de_call G_need_corridor (hr.mono (by decide)) hp (by rfl) (da_cons (de_ix (db_name (pv 0)) (DE.b de_int) (fun _ _ => rfl)) (da_cons (de_name (pv 2)) da_nil)))) (dss_one (ds_ret flatE (de_call G_has_all (hr.mono (by decide)) hp (by rfl) (da_cons (de_name (pv 1)) (da_cons (de_name (pv 2)) da_nil))))))))
def F_holds : List PyData → R PyData := fun ds => runB N_holds.length (g_holds F_need_script F_need_claims F_need_corridor F_has_all) ds
def N__law_source : List Str := ["script", "k", "cell"]
theorem sc__law_source : FnScope N__law_source ["script", "k"] (defScope (top 38)) := ⟨rfl, rfl, rfl, by decide +kernel, rfl, by decide +kernel, by decide +kernel⟩
def g__law_source : Rho → R Fl := (fSeq (setE 2 (fun ρ => ((fun ρ => (fBin gLt (fun ρ => getV ρ 1) (fC1 gLen (fun ρ => getV ρ 0)) ρ).bind tr) ρ).bind fun k => if k = true then (fC1 gAbs (fC1 gInt (fBin gIx (fun ρ => getV ρ 0) (fun ρ => getV ρ 1)))) ρ else (fBin gAdd (fBin gMul (fC (.int 61)) (fun ρ => getV ρ 1)) (fC (.int 13))) ρ)) (retF (fun ρ => ((fun ρ => ((fun ρ => ((fun ρ => (fBin gGt (fun ρ => getV ρ 2) (fBin gPow (fC (.int 10)) (fC (.int 17))) ρ).bind tr) ρ).bind fun k => if k = true then (fun ρ => getV ρ 2) ρ else (fC (.int 0)) ρ) ρ).bind fun d => ((fun ρ => ((fBin gMod (fC1 gInt (fBin gAdd (fBin gAdd (fBin gMul (fun ρ => getV ρ 2) (fC (.int 16807))) (fBin gMul (fC (.int 9001)) (fun ρ => getV ρ 1))) (fC (.int 23)))) (fC (.int 2147483353))) ρ).bind fun d => ((fun _ => R.ok []) ρ).bind fun ds => R.ok (d :: ds)) ρ).bind fun ds => R.ok (d :: ds)) ρ).bind mkLst)))
theorem b__law_source {P : Program} {w : World} {K : PySem.W.Frag} {mg : Str → Option Value} {base : Heap} {ec : EC} {f : Addr}  (n_abs : mg "abs" = none) (n_int : mg "int" = none) (n_len : mg "len" = none) : BodyOk P w K mg base ec "_law_source" (top 38) f N__law_source 0 (g__law_source) := by
  intro cdv A outer s H E hr hp tk
  have nd := sc__law_source.nd
  exact (dss_cons (ds_asg flatE nd (by rfl) (by first | exact Or.inl rfl | exact Or.inr rfl) (de_if (dt_cmp od_lt (db_name (pv 1)) (DE.b (de_b1 c_len (by rfl) n_len (by decide +kernel) (db_name (pv 0)))) (nomark _)) (de_b1 c_abs (by rfl) n_abs (by decide +kernel) (DE.b (de_t1 c_int (by rfl) n_int (by decide +kernel) (DE.b (de_ix (db_name (pv 0)) (db_name (pv 1)) (fun _ _ => rfl)))))) (de_bin od_add (DE.b (de_bin od_mul (DE.b de_int) (db_name (pv 1)))) (DE.b de_int)))) (dss_one (ds_retF flatE (df_lst (da_cons (de_if (dt_cmp od_gt (db_name (pv 2)) (DE.b (de_bin od_pow (DE.b de_int) (DE.b de_int))) (nomark _)) (de_name (pv 2)) de_int) (da_cons (de_bin od_mod (DE.b (de_t1 c_int (by rfl) n_int (by decide +kernel) (DE.b (de_bin od_add (DE.b (de_bin od_add (DE.b (de_bin od_mul (db_name (pv 2)) (DE.b de_int))) (DE.b (de_bin od_mul (DE.b de_int) (db_name (pv 1)))))) (DE.b de_int))))) (DE.b de_int)) da_nil))))))
def F__law_source : List PyData → R PyData := fun ds => runF N__law_source.length (g__law_source) (ds.map .d)
def N__law_draw : List Str := ["source", "many", "wide", "rest"]
theorem sc__law_draw : FnScope N__law_draw ["source", "many"] (defScope (top 39)) := ⟨rfl, rfl, rfl, by decide +kernel, rfl, by decide +kernel, by decide +kernel⟩
def g__law_draw : Rho → R Fl := (fSeq (fun ρ => ((fun ρ => (fBin gGt (getSrc 0 0) (fC (.int 0)) ρ).bind tr) ρ).bind fun k => if k = true then (fSeq (setE 3 (fBin gMod (fC1 gInt (getSrc 0 0)) (fun ρ => getV ρ 1))) (fSeq (putSrc 0 (fBin gFdiv (getSrc 0 0) (fun ρ => getV ρ 1)) 0) (retE (fun ρ => getV ρ 3)))) ρ else (fun ρ => R.ok (.nx ρ)) ρ) (fSeq (putSrc 1 (fBin gMod (fC1 gInt (fBin gAdd (fBin gMul (getSrc 0 1) (fC (.int 48271))) (fC (.int 67)))) (fC (.int 2147483353))) 0) (fSeq (setE 2 (fBin gMod (fC1 gInt (fBin gMul (getSrc 0 1) (fBin gAdd (fBin gFdiv (getSrc 0 1) (fC (.int 19))) (fC (.int 12))))) (fC (.int 2147483323)))) (retE (fBin gMod (fC1 gInt (fBin gFdiv (fun ρ => getV ρ 2) (fC (.int 32)))) (fun ρ => getV ρ 1))))))
theorem b__law_draw {P : Program} {w : World} {K : PySem.W.Frag} {mg : Str → Option Value} {base : Heap} {ec : EC} {f : Addr}  (n_int : mg "int" = none) : BodyOk P w K mg base ec "_law_draw" (top 39) f N__law_draw 0 (g__law_draw) := by
  intro cdv A outer s H E hr hp tk
  have nd := sc__law_draw.nd
  exact (dss_cons (ds_if (O' := []) flatE (dt_cmp od_gt (DE.b (de_src (pv 0))) (DE.b de_int) (nomark _)) (dss_cons (ds_asg flatE nd (by rfl) (by first | exact Or.inl rfl | exact Or.inr rfl) (de_bin od_mod (DE.b (de_t1 c_int (by rfl) n_int (by decide +kernel) (DE.b (de_src (pv 0))))) (db_name (pv 1)))) (dss_cons (ds_srcPut flatE (pv 0) (de_bin od_fdiv (DE.b (de_src (pv 0))) (db_name (pv 1)))) (dss_one (ds_ret flatE (de_name (pv 3)))))) dss_nil) (dss_cons (ds_srcPut flatE (pv 0) (de_bin od_mod (DE.b (de_t1 c_int (by rfl) n_int (by decide +kernel) (DE.b (de_bin od_add (DE.b (de_bin od_mul (DE.b (de_src (pv 0))) (DE.b de_int))) (DE.b de_int))))) (DE.b de_int))) (dss_cons (ds_asg flatE nd (by rfl) (by first | exact Or.inl rfl | exact Or.inr rfl) (de_bin od_mod (DE.b (de_t1 c_int (by rfl) n_int (by decide +kernel) (DE.b (de_bin od_mul (DE.b (de_src (pv 0))) (DE.b (de_bin od_add (DE.b (de_bin od_fdiv (DE.b (de_src (pv 0))) (DE.b de_int))) (DE.b de_int))))))) (DE.b de_int))) (dss_one (ds_ret flatE (de_bin od_mod (DE.b (de_t1 c_int (by rfl) n_int (by decide +kernel) (DE.b (de_bin od_fdiv (db_name (pv 2)) (DE.b de_int))))) (db_name (pv 1))))))))
def F__law_draw : List PyData → R PyData := fun ds => runN N__law_draw.length (g__law_draw) ds
def N__law_choice : List Str := ["source", "some"]
theorem sc__law_choice : FnScope N__law_choice ["source", "some"] (defScope (top 40)) := ⟨rfl, rfl, rfl, by decide +kernel, rfl, by decide +kernel, by decide +kernel⟩
def g__law_choice (F__law_draw : List PyData → R PyData) : Rho → R Fl := (retE (fBin gIx (fun ρ => getV ρ 1) (fun ρ => (getS ρ 0).bind fun _ => ((fun ρ => ((fC1 gLen (fun ρ => getV ρ 1)) ρ).bind fun d => ((fun _ => R.ok []) ρ).bind fun ds => R.ok (d :: ds)) ρ).bind (chkN 2 F__law_draw))))
theorem b__law_choice {P : Program} {w : World} {K : PySem.W.Frag} {mg : Str → Option Value} {base : Heap} {ec : EC} {f : Addr} {F__law_draw : List PyData → R PyData}  (G__law_draw : FnN P w K mg base ec 1 2 "_law_draw" F__law_draw) (n_len : mg "len" = none) : BodyOk P w K mg base ec "_law_choice" (top 40) f N__law_choice 1 (g__law_choice F__law_draw) := by
  intro cdv A outer s H E hr hp tk
  have nd := sc__law_choice.nd
  exact (dss_one (ds_ret flatE (de_ix (db_name (pv 1)) (DE.b (de_callN G__law_draw (hr.mono (by decide)) hp (by rfl) (pv 0) (da_cons (de_b1 c_len (by rfl) n_len (by decide +kernel) (db_name (pv 1))) da_nil))) (fun _ _ => rfl))))
def F__law_choice : List PyData → R PyData := fun ds => runN N__law_choice.length (g__law_choice F__law_draw) ds
def N__law_corridor : List Str := ["source", "many", "most", "some", "turn"]
theorem sc__law_corridor : FnScope N__law_corridor ["source", "many", "most"] (defScope (top 41)) := ⟨rfl, rfl, rfl, by decide +kernel, rfl, by decide +kernel, by decide +kernel⟩
def g__law_corridor (F__law_choice : List PyData → R PyData) (F__law_draw : List PyData → R PyData) : Rho → R Fl := (fSeq (setE 3 (fun ρ => (getS ρ 0).bind fun _ => ((fun ρ => ((fun ρ => ((fun ρ => ((fC1 gRange (fun ρ => getV ρ 1)) ρ).bind fun d => ((fun ρ => ((fC1 gRange (fun ρ => getV ρ 1)) ρ).bind fun d => ((fun ρ => ((fun ρ => ((fun ρ => ((fC (.int 0)) ρ).bind fun d => ((fun ρ => ((fC (.int 0)) ρ).bind fun d => ((fun ρ => ((fC (.int 0)) ρ).bind fun d => ((fun ρ => ((fC (.int 0)) ρ).bind fun d => ((fun ρ => ((fBin gSub (fun ρ => getV ρ 1) (fC (.int 1))) ρ).bind fun d => ((fun _ => R.ok []) ρ).bind fun ds => R.ok (d :: ds)) ρ).bind fun ds => R.ok (d :: ds)) ρ).bind fun ds => R.ok (d :: ds)) ρ).bind fun ds => R.ok (d :: ds)) ρ).bind fun ds => R.ok (d :: ds)) ρ).bind mkLst) ρ).bind fun d => ((fun ρ => ((fBin gCat (fBin gRep (fun ρ => ((fun ρ => ((fBin gSub (fun ρ => getV ρ 1) (fC (.int 1))) ρ).bind fun d => ((fun _ => R.ok []) ρ).bind fun ds => R.ok (d :: ds)) ρ).bind mkLst) (fC (.int 4))) (fun ρ => ((fun ρ => ((fC (.int 0)) ρ).bind fun d => ((fun _ => R.ok []) ρ).bind fun ds => R.ok (d :: ds)) ρ).bind mkLst)) ρ).bind fun d => ((fun _ => R.ok []) ρ).bind fun ds => R.ok (d :: ds)) ρ).bind fun ds => R.ok (d :: ds)) ρ).bind fun ds => R.ok (d :: ds)) ρ).bind fun ds => R.ok (d :: ds)) ρ).bind mkLst) ρ).bind fun d => ((fun _ => R.ok []) ρ).bind fun ds => R.ok (d :: ds)) ρ).bind (chkN 2 F__law_choice))) (retF (fun ρ => ((fComp [4] (fun ρ => ((fun ρ => (getS ρ 0).bind fun _ => ((fun ρ => ((fBin gAdd (fun ρ => getV ρ 2) (fC (.int 1))) ρ).bind fun d => ((fun _ => R.ok []) ρ).bind fun ds => R.ok (d :: ds)) ρ).bind (chkN 2 F__law_draw)) ρ).bind rgOf) (tg1 4) (fun _ => R.ok true) (fun ρ => (getS ρ 0).bind fun _ => ((fun ρ => ((fun ρ => getV ρ 3) ρ).bind fun d => ((fun _ => R.ok []) ρ).bind fun ds => R.ok (d :: ds)) ρ).bind (chkN 2 F__law_choice))) ρ).bind tupL)))
theorem b__law_corridor {P : Program} {w : World} {K : PySem.W.Frag} {mg : Str → Option Value} {base : Heap} {ec : EC} {f : Addr} {F__law_choice : List PyData → R PyData} {F__law_draw : List PyData → R PyData}  (G__law_choice : FnN P w K mg base ec 2 2 "_law_choice" F__law_choice) (G__law_draw : FnN P w K mg base ec 1 2 "_law_draw" F__law_draw) (n_list : mg "list" = none) (n_range : mg "range" = none) (n_tuple : mg "tuple" = none) (kl : NoList K) : BodyOk P w K mg base ec "_law_corridor" (top 41) f N__law_corridor 2 (g__law_corridor F__law_choice F__law_draw) := by
  intro cdv A outer s H E hr hp tk
  have nd := sc__law_corridor.nd
  exact (dss_cons (ds_asg flatE nd (by rfl) (by first | exact Or.inl rfl | exact Or.inr rfl) (de_callN G__law_choice (hr.mono (by decide)) hp (by rfl) (pv 0) (da_cons (DF.toE (df_lst (da_cons (DF.toE (df_range (by rfl) (by rfl) n_list (by rfl) n_range (db_name (pv 1)))) (da_cons (DF.toE (df_range (by rfl) (by rfl) n_list (by rfl) n_range (db_name (pv 1)))) (da_cons (DF.toE (df_lst (da_cons de_int (da_cons de_int (da_cons de_int (da_cons de_int (da_cons (de_bin od_sub (db_name (pv 1)) (DE.b de_int)) da_nil))))))) (da_cons (DF.toE (df_bin (of_cat kl) (DF.b (df_bin (of_rep kl) (DF.b (df_lst (da_cons (de_bin od_sub (db_name (pv 1)) (DE.b de_int)) da_nil))) (DE.b de_int))) (DF.b (df_lst (da_cons de_int da_nil))))) da_nil)))))) da_nil))) (dss_one (ds_retZ flatE (dz_tuple (by rfl) n_tuple (DF.b (df_comp (own := [("turn", 4)]) (by rfl) nd (DI.j (di_range (by rfl) n_range (DE.b (de_callN G__law_draw (hr.mono (by decide)) hp (by rfl) (pv 0) (da_cons (de_bin od_add (db_name (pv 2)) (DE.b de_int)) da_nil))))) (blkOk_by (N := N__law_corridor) (sc := defScope (top 41)) (own := [("turn", 4)]) (by decide +kernel)) ⟨_, fun _ _ _ _ _ => pg_name (i := 4) nd (by rfl) (by first | exact Or.inl rfl | exact Or.inr rfl), dgo_name 4⟩ (fun _ _ _ _ _ => dts_nil) (fun _ _ _ _ _ => (de_callN G__law_choice (hr.mono (by decide)) passE0 (by rfl) (pv 0) (da_cons (de_name (pv 3)) da_nil)))))))))
def F__law_corridor : List PyData → R PyData := fun ds => runNZ N__law_corridor.length (g__law_corridor F__law_choice F__law_draw) ds
def N__law_claim : List Str := ["source", "many", "word", "claim"]
theorem sc__law_claim : FnScope N__law_claim ["source", "many"] (defScope (top 42)) := ⟨rfl, rfl, rfl, by decide +kernel, rfl, by decide +kernel, by decide +kernel⟩
def g__law_claim (F__law_choice : List PyData → R PyData) (F__law_draw : List PyData → R PyData) : Rho → R Fl := (fSeq (setE 2 (fun ρ => (getS ρ 0).bind fun _ => ((fun ρ => ((fun ρ => ((fun ρ => ((fC (.str "none")) ρ).bind fun d => ((fun ρ => ((fC (.str "some")) ρ).bind fun d => ((fun ρ => ((fC (.str "even")) ρ).bind fun d => ((fun ρ => ((fC (.str "first")) ρ).bind fun d => ((fun ρ => ((fC (.str "last")) ρ).bind fun d => ((fun ρ => ((fC (.str "beside")) ρ).bind fun d => ((fun ρ => ((fC (.str "beside")) ρ).bind fun d => ((fun _ => R.ok []) ρ).bind fun ds => R.ok (d :: ds)) ρ).bind fun ds => R.ok (d :: ds)) ρ).bind fun ds => R.ok (d :: ds)) ρ).bind fun ds => R.ok (d :: ds)) ρ).bind fun ds => R.ok (d :: ds)) ρ).bind fun ds => R.ok (d :: ds)) ρ).bind fun ds => R.ok (d :: ds)) ρ).bind mkLst) ρ).bind fun d => ((fun _ => R.ok []) ρ).bind fun ds => R.ok (d :: ds)) ρ).bind (chkN 2 F__law_choice))) (fSeq (setE 3 (fBin gAdd (fun ρ => ((fun ρ => ((fun ρ => getV ρ 2) ρ).bind fun d => ((fun ρ => ((fun ρ => (getS ρ 0).bind fun _ => ((fun ρ => ((fun ρ => getV ρ 1) ρ).bind fun d => ((fun _ => R.ok []) ρ).bind fun ds => R.ok (d :: ds)) ρ).bind (chkN 2 F__law_draw)) ρ).bind fun d => ((fun _ => R.ok []) ρ).bind fun ds => R.ok (d :: ds)) ρ).bind fun ds => R.ok (d :: ds)) ρ).bind mkTup) (fun ρ => ((fun ρ => (fBin gEq (fun ρ => getV ρ 2) (fC (.str "beside")) ρ).bind tr) ρ).bind fun k => if k = true then (fun ρ => ((fun ρ => ((fun ρ => (getS ρ 0).bind fun _ => ((fun ρ => ((fun ρ => getV ρ 1) ρ).bind fun d => ((fun _ => R.ok []) ρ).bind fun ds => R.ok (d :: ds)) ρ).bind (chkN 2 F__law_draw)) ρ).bind fun d => ((fun _ => R.ok []) ρ).bind fun ds => R.ok (d :: ds)) ρ).bind mkTup) ρ else (fun ρ => ((fun _ => R.ok []) ρ).bind mkTup) ρ))) (retE (fun ρ => ((fun ρ => (fBin gEq (fun ρ => (getS ρ 0).bind fun _ => ((fun ρ => ((fC (.int 4)) ρ).bind fun d => ((fun _ => R.ok []) ρ).bind fun ds => R.ok (d :: ds)) ρ).bind (chkN 2 F__law_draw)) (fC (.int 0)) ρ).bind tr) ρ).bind fun k => if k = true then (fun ρ => ((fun ρ => ((fC (.str "not")) ρ).bind fun d => ((fun ρ => ((fun ρ => getV ρ 3) ρ).bind fun d => ((fun _ => R.ok []) ρ).bind fun ds => R.ok (d :: ds)) ρ).bind fun ds => R.ok (d :: ds)) ρ).bind mkTup) ρ else (fun ρ => getV ρ 3) ρ))))
theorem b__law_claim {P : Program} {w : World} {K : PySem.W.Frag} {mg : Str → Option Value} {base : Heap} {ec : EC} {f : Addr} {F__law_choice : List PyData → R PyData} {F__law_draw : List PyData → R PyData}  (G__law_choice : FnN P w K mg base ec 2 2 "_law_choice" F__law_choice) (G__law_draw : FnN P w K mg base ec 1 2 "_law_draw" F__law_draw) : BodyOk P w K mg base ec "_law_claim" (top 42) f N__law_claim 2 (g__law_claim F__law_choice F__law_draw) := by
  intro cdv A outer s H E hr hp tk
  have nd := sc__law_claim.nd
  exact (dss_cons (ds_asg flatE nd (by rfl) (by first | exact Or.inl rfl | exact Or.inr rfl) (de_callN G__law_choice (hr.mono (by decide)) hp (by rfl) (pv 0) (da_cons (DF.toE (df_lst (da_cons de_str (da_cons de_str (da_cons de_str (da_cons de_str (da_cons de_str (da_cons de_str (da_cons de_str da_nil))))))))) da_nil))) (dss_cons (ds_asg flatE nd (by rfl) (by first | exact Or.inl rfl | exact Or.inr rfl) (de_bin od_add (DE.b (de_tup (da_cons (de_name (pv 2)) (da_cons (de_callN G__law_draw (hr.mono (by decide)) hp (by rfl) (pv 0) (da_cons (de_name (pv 1)) da_nil)) da_nil)))) (db_if (dt_cmp (od_eq hr.units) (db_name (pv 2)) (DE.b de_str) (nomark _)) (DE.b (de_tup (da_cons (de_callN G__law_draw (hr.mono (by decide)) hp (by rfl) (pv 0) (da_cons (de_name (pv 1)) da_nil)) da_nil))) (DE.b (de_tup da_nil))))) (dss_one (ds_ret flatE (de_if (dt_cmp (od_eq hr.units) (DE.b (de_callN G__law_draw (hr.mono (by decide)) hp (by rfl) (pv 0) (da_cons de_int da_nil))) (DE.b de_int) (nomark _)) (de_tup (da_cons de_str (da_cons (de_name (pv 3)) da_nil))) (de_name (pv 3)))))))
def F__law_claim : List PyData → R PyData := fun ds => runN N__law_claim.length (g__law_claim F__law_choice F__law_draw) ds
def N__law_claims : List Str := ["source", "many", "most", "turn"]
theorem sc__law_claims : FnScope N__law_claims ["source", "many", "most"] (defScope (top 43)) := ⟨rfl, rfl, rfl, by decide +kernel, rfl, by decide +kernel, by decide +kernel⟩
def g__law_claims (F__law_draw : List PyData → R PyData) (F__law_claim : List PyData → R PyData) : Rho → R Fl := (retE (fC1 gTuple (fComp [3] (fun ρ => ((fun ρ => (getS ρ 0).bind fun _ => ((fun ρ => ((fBin gAdd (fun ρ => getV ρ 2) (fC (.int 1))) ρ).bind fun d => ((fun _ => R.ok []) ρ).bind fun ds => R.ok (d :: ds)) ρ).bind (chkN 2 F__law_draw)) ρ).bind rgOf) (tg1 3) (fun _ => R.ok true) (fun ρ => (getS ρ 0).bind fun _ => ((fun ρ => ((fun ρ => getV ρ 1) ρ).bind fun d => ((fun _ => R.ok []) ρ).bind fun ds => R.ok (d :: ds)) ρ).bind (chkN 2 F__law_claim)))))
theorem b__law_claims {P : Program} {w : World} {K : PySem.W.Frag} {mg : Str → Option Value} {base : Heap} {ec : EC} {f : Addr} {F__law_draw : List PyData → R PyData} {F__law_claim : List PyData → R PyData}  (G__law_draw : FnN P w K mg base ec 1 2 "_law_draw" F__law_draw) (G__law_claim : FnN P w K mg base ec 3 2 "_law_claim" F__law_claim) (n_range : mg "range" = none) (n_tuple : mg "tuple" = none) : BodyOk P w K mg base ec "_law_claims" (top 43) f N__law_claims 3 (g__law_claims F__law_draw F__law_claim) := by
  intro cdv A outer s H E hr hp tk
  have nd := sc__law_claims.nd
  exact (dss_one (ds_ret flatE (de_t1 c_tuple (by rfl) n_tuple (by decide +kernel) (DF.b (df_comp (own := [("turn", 3)]) (by rfl) nd (DI.j (di_range (by rfl) n_range (DE.b (de_callN G__law_draw (hr.mono (by decide)) hp (by rfl) (pv 0) (da_cons (de_bin od_add (db_name (pv 2)) (DE.b de_int)) da_nil))))) (blkOk_by (N := N__law_claims) (sc := defScope (top 43)) (own := [("turn", 3)]) (by decide +kernel)) ⟨_, fun _ _ _ _ _ => pg_name (i := 3) nd (by rfl) (by first | exact Or.inl rfl | exact Or.inr rfl), dgo_name 3⟩ (fun _ _ _ _ _ => dts_nil) (fun _ _ _ _ _ => (de_callN G__law_claim (hr.mono (by decide)) passE0 (by rfl) (pv 0) (da_cons (de_name (pv 1)) da_nil))))))))
def F__law_claims : List PyData → R PyData := fun ds => runN N__law_claims.length (g__law_claims F__law_draw F__law_claim) ds
def N__law_is_so : List Str := ["claim", "word", "times"]
theorem sc__law_is_so : FnScope N__law_is_so ["claim", "word"] (defScope (top 44)) := ⟨rfl, rfl, rfl, by decide +kernel, rfl, by decide +kernel, by decide +kernel⟩
def g__law_is_so (F__law_is_so : List SV → R PyData) : Rho → R Fl := (fSeq (fun ρ => ((fun ρ => (fBin gEq (fBin gIx (fun ρ => getV ρ 0) (fC (.int 0))) (fC (.str "not")) ρ).bind tr) ρ).bind fun k => if k = true then (retE (fun ρ => ((fun ρ => ((fun ρ => ((fBin gIx (fun ρ => getV ρ 0) (fC (.int 1))) ρ).bind fun d => ((fun ρ => (getT ρ 1).bind fun d => ((fun _ => R.ok []) ρ).bind fun ss => R.ok (SV.tf d :: ss)) ρ).bind fun ss => R.ok (SV.d d :: ss)) ρ).bind (chkV 2 F__law_is_so)) ρ).bind fun x => (tru x).bind fun b => R.ok (.bool (!b)))) ρ else (fun ρ => R.ok (.nx ρ)) ρ) (fSeq (fun ρ => ((fun ρ => (fBin gEq (fBin gIx (fun ρ => getV ρ 0) (fC (.int 0))) (fC (.str "beside")) ρ).bind tr) ρ).bind fun k => if k = true then (retE (fBin gIn (fSl gSl (fun ρ => getV ρ 0) (fun ρ => ((fC (.int 1)) ρ).bind toI) (fun _ => R.ok none)) (fun ρ => ((fun ρ => ((fun ρ => getV ρ 1) ρ).bind fun d => ((fun ρ => ((fSl gSl (fun ρ => getV ρ 1) (fun ρ => ((fC (.int 1)) ρ).bind toI) (fun _ => R.ok none)) ρ).bind fun d => ((fun _ => R.ok []) ρ).bind fun ds => R.ok (d :: ds)) ρ).bind fun ds => R.ok (d :: ds)) ρ).bind zipT))) ρ else (fun ρ => R.ok (.nx ρ)) ρ) (fSeq (setE 2 (fun ρ => (getT ρ 1).bind fun ds => ((fBin gIx (fun ρ => getV ρ 0) (fC (.int 1))) ρ).bind fun y => R.ofO (gCount ds y))) (fSeq (fun ρ => ((fun ρ => (fBin gEq (fBin gIx (fun ρ => getV ρ 0) (fC (.int 0))) (fC (.str "first")) ρ).bind tr) ρ).bind fun k => if k = true then (retE (fBin gEq (fSl gSl (fun ρ => getV ρ 1) (fun _ => R.ok none) (fun ρ => ((fC (.int 1)) ρ).bind toI)) (fun ρ => ((fun ρ => ((fBin gIx (fun ρ => getV ρ 0) (fC (.int 1))) ρ).bind fun d => ((fun _ => R.ok []) ρ).bind fun ds => R.ok (d :: ds)) ρ).bind mkTup))) ρ else (fun ρ => R.ok (.nx ρ)) ρ) (fSeq (fun ρ => ((fun ρ => (fBin gEq (fBin gIx (fun ρ => getV ρ 0) (fC (.int 0))) (fC (.str "last")) ρ).bind tr) ρ).bind fun k => if k = true then (retE (fBin gEq (fSl gSl (fun ρ => getV ρ 1) (fun ρ => ((fun ρ => ((fC (.int 1)) ρ).bind gNeg) ρ).bind toI) (fun _ => R.ok none)) (fun ρ => ((fun ρ => ((fBin gIx (fun ρ => getV ρ 0) (fC (.int 1))) ρ).bind fun d => ((fun _ => R.ok []) ρ).bind fun ds => R.ok (d :: ds)) ρ).bind mkTup))) ρ else (fun ρ => R.ok (.nx ρ)) ρ) (retE (fun ρ => ((fun ρ => ((fun ρ => ((fBin gEq (fun ρ => getV ρ 2) (fC (.int 0))) ρ).bind fun d => ((fun ρ => ((fBin gGt (fun ρ => getV ρ 2) (fC (.int 0))) ρ).bind fun d => ((fun _ => R.ok []) ρ).bind fun ds => R.ok ((keyD (.inr "some"), d) :: ds)) ρ).bind fun ds => R.ok ((keyD (.inr "none"), d) :: ds)) ρ).bind mkDict) ρ).bind fun ds => ((fBin gIx (fun ρ => getV ρ 0) (fC (.int 0))) ρ).bind fun k => ((fBin gEq (fBin gMod (fC1 gInt (fun ρ => getV ρ 2)) (fC (.int 2))) (fC (.int 0))) ρ).bind fun d => getD2 ds k d)))))))
theorem b__law_is_so {P : Program} {w : World} {K : PySem.W.Frag} {mg : Str → Option Value} {base : Heap} {ec : EC} {f : Addr} {F__law_is_so : List SV → R PyData}  {k : Nat} (hk : 0 ≤ k) (G__law_is_so : FnV P w K mg base ec k 2 "_law_is_so" F__law_is_so) (n_int : mg "int" = none) (n_list : mg "list" = none) (n_zip : mg "zip" = none) : BodyOk P w K mg base ec "_law_is_so" (top 44) f N__law_is_so k (g__law_is_so F__law_is_so) := by
  intro cdv A outer s H E hr hp tk
  have nd := sc__law_is_so.nd
  exact (dss_cons (ds_if (O' := []) flatE (dt_cmp (od_eq hr.units) (DE.b (de_ix (db_name (pv 0)) (DE.b de_int) (fun _ _ => rfl))) (DE.b de_str) (nomark _)) (dss_one (ds_ret flatE (de_not (DE.b (de_callV G__law_is_so (hr.mono (by omega)) hp (by rfl) (das_d (de_ix (db_name (pv 0)) (DE.b de_int) (fun _ _ => rfl)) (das_tf (pv 1) das_nil))))))) dss_nil) (dss_cons (ds_if (O' := []) flatE (dt_cmp (od_eq hr.units) (DE.b (de_ix (db_name (pv 0)) (DE.b de_int) (fun _ _ => rfl))) (DE.b de_str) (nomark _)) (dss_one (ds_ret flatE (de_cmp (od_in (u65 hr)) (DE.b (de_sl (db_name (pv 0)) (dp_some (DE.b de_int)) dp_none)) (DF.b (df_listZip (by rfl) (by rfl) n_list (by rfl) n_zip (da_cons (de_name (pv 1)) (da_cons (de_sl (db_name (pv 1)) (dp_some (DE.b de_int)) dp_none) da_nil)))) (by rfl)))) dss_nil) (dss_cons (ds_asg flatE nd (by rfl) (by first | exact Or.inl rfl | exact Or.inr rfl) (de_count (u1 hr) (pv 1) (de_ix (db_name (pv 0)) (DE.b de_int) (fun _ _ => rfl)))) (dss_cons (ds_if (O' := []) flatE (dt_cmp (od_eq hr.units) (DE.b (de_ix (db_name (pv 0)) (DE.b de_int) (fun _ _ => rfl))) (DE.b de_str) (nomark _)) (dss_one (ds_ret flatE (de_cmp (od_eq hr.units) (DE.b (de_sl (db_name (pv 1)) dp_none (dp_some (DE.b de_int)))) (DE.b (de_tup (da_cons (de_ix (db_name (pv 0)) (DE.b de_int) (fun _ _ => rfl)) da_nil))) (nomark _)))) dss_nil) (dss_cons (ds_if (O' := []) flatE (dt_cmp (od_eq hr.units) (DE.b (de_ix (db_name (pv 0)) (DE.b de_int) (fun _ _ => rfl))) (DE.b de_str) (nomark _)) (dss_one (ds_ret flatE (de_cmp (od_eq hr.units) (DE.b (de_sl (db_name (pv 1)) (dp_some (DE.b (de_neg (DE.b de_int)))) dp_none)) (DE.b (de_tup (da_cons (de_ix (db_name (pv 0)) (DE.b de_int) (fun _ _ => rfl)) da_nil))) (nomark _)))) dss_nil) (dss_one (ds_ret flatE (de_dget2 (u1 hr) (dd_disp (dks_cons (.inr "none") pe_str (de_cmp (od_eq hr.units) (db_name (pv 2)) (DE.b de_int) (nomark _)) (dks_cons (.inr "some") pe_str (de_cmp od_gt (db_name (pv 2)) (DE.b de_int) (nomark _)) dks_nil))) (de_ix (db_name (pv 0)) (DE.b de_int) (fun _ _ => rfl)) (de_cmp (od_eq hr.units) (DE.b (de_bin od_mod (DE.b (de_t1 c_int (by rfl) n_int (by decide +kernel) (db_name (pv 2)))) (DE.b de_int))) (DE.b de_int) (nomark _)) ⟨rfl, rfl, rfl, rfl⟩))))))))
def F__law_is_so : Nat → List SV → R PyData
  | 0, _ => .bad
  | k + 1, ds => runS N__law_is_so.length (g__law_is_so (F__law_is_so k)) ds
def N__law_all_so : List Str := ["claims_so", "word", "claim"]
theorem sc__law_all_so : FnScope N__law_all_so ["claims_so", "word"] (defScope (top 45)) := ⟨rfl, rfl, rfl, by decide +kernel, rfl, by decide +kernel, by decide +kernel⟩
def g__law_all_so (F__law_is_so : List SV → R PyData) : Rho → R Fl := (retE (fBin gEq (fComp [2] (fun ρ => ((fun ρ => getV ρ 0) ρ).bind seqOf) (tg1 2) (fun ρ => ((fun ρ => ((fun ρ => ((fun ρ => ((fun ρ => getV ρ 2) ρ).bind fun d => ((fun ρ => (getT ρ 1).bind fun d => ((fun _ => R.ok []) ρ).bind fun ss => R.ok (SV.tf d :: ss)) ρ).bind fun ss => R.ok (SV.d d :: ss)) ρ).bind (chkV 2 F__law_is_so)) ρ).bind tru) ρ).bind fun b => R.ok (!b)) (fun ρ => getV ρ 2)) (fun ρ => ((fun _ => R.ok []) ρ).bind mkLst)))
theorem b__law_all_so {P : Program} {w : World} {K : PySem.W.Frag} {mg : Str → Option Value} {base : Heap} {ec : EC} {f : Addr} {F__law_is_so : List SV → R PyData}  (G__law_is_so : FnV P w K mg base ec 4 2 "_law_is_so" F__law_is_so) : BodyOk P w K mg base ec "_law_all_so" (top 45) f N__law_all_so 4 (g__law_all_so F__law_is_so) := by
  intro cdv A outer s H E hr hp tk
  have nd := sc__law_all_so.nd
  exact (dss_one (ds_ret flatE (de_cmp (od_eq hr.units) (DF.b (df_comp (own := [("claim", 2)]) (by rfl) nd (dj_seq (db_name (pv 0))) (blkOk_by (N := N__law_all_so) (sc := defScope (top 45)) (own := [("claim", 2)]) (by decide +kernel)) ⟨_, fun _ _ _ _ _ => pg_name (i := 2) nd (by rfl) (by first | exact Or.inl rfl | exact Or.inr rfl), dgo_name 2⟩ (fun _ _ _ _ _ => (dts_one (dt_not (dt_of (DE.b (de_callV G__law_is_so (hr.mono (by decide)) passE0 (by rfl) (das_d (de_name (pv 2)) (das_tf (pv 1) das_nil)))))))) (fun _ _ _ _ _ => (de_name (pv 2))))) (DF.b (df_lst da_nil)) (nomark _))))
def F__law_all_so : List SV → R PyData := fun ds => runS N__law_all_so.length (g__law_all_so (F__law_is_so 3)) ds
def N__law_word : List Str := ["call", "found"]
theorem sc__law_word : FnScope N__law_word ["call"] (defScope (top 46)) := ⟨rfl, rfl, rfl, by decide +kernel, rfl, by decide +kernel, by decide +kernel⟩
def g__law_word (FL : List PyData → R PyData) : Rho → R Fl := (fSeq (setE 1 (fC (.str ""))) (fSeq (fTryE (callL 0 0 FL fun _ => R.ok []) (fun c y ρ => if c = 2 then (fSeq (setE 1 (fC (.str "claims"))) (fun ρ => R.ok (.nx ρ))) ρ else (fun c y ρ => if c = 1 then (fSeq (setE 1 (fC (.str "corridor"))) (fun ρ => R.ok (.nx ρ))) ρ else (fun c y _ => R.exc c y) c y ρ) c y ρ)) (retE (fun ρ => getV ρ 1))))
theorem b__law_word {P : Program} {w : World} {K : PySem.W.Frag} {mg : Str → Option Value} {base : Heap} {ec : EC} {f : Addr} {FL : List PyData → R PyData}  {kl : Nat} (m_InvalidClaims : mg "InvalidClaims" = some (.ref (He.ga K "InvalidClaims"))) (m_InvalidCorridor : mg "InvalidCorridor" = some (.ref (He.ga K "InvalidCorridor"))) (h_InvalidClaims : ∀ c, PySem.W.exmOne K (ec.cls c) (.ref (He.ga K "InvalidClaims")) = some (decide (c = 2))) (h_InvalidCorridor : ∀ c, PySem.W.exmOne K (ec.cls c) (.ref (He.ga K "InvalidCorridor")) = some (decide (c = 1))) : BodyH P w K mg base ec "_law_word" (top 46) f N__law_word kl (kl + 0) 0 FL (g__law_word FL) := by
  intro cdv A outer s H E hr hp tk C
  have nd := sc__law_word.nd
  exact (dss_cons (ds_asg flatE nd (by rfl) (by first | exact Or.inl rfl | exact Or.inr rfl) de_str) (dss_cons (ds_tryE rfl rfl tk (fun W pn xe tk2 pw => (de_act0 C (hr.mono (by omega)) (fun σ => passAt tk2 σ) (by rfl) (by first | exact Or.inl rfl | exact Or.inr (Or.inl rfl)))) (dhs_cons (hc := ⟨by rfl, by decide, .inl m_InvalidClaims⟩) h_InvalidClaims (fun _ _ => (dss_cons (ds_asg flatE nd (by rfl) (by first | exact Or.inl rfl | exact Or.inr rfl) de_str) dss_nil)) (dhs_cons (hc := ⟨by rfl, by decide, .inl m_InvalidCorridor⟩) h_InvalidCorridor (fun _ _ => (dss_cons (ds_asg flatE nd (by rfl) (by first | exact Or.inl rfl | exact Or.inr rfl) de_str) dss_nil)) dhs_nil))) (dss_one (ds_ret flatE (de_name (pv 1))))))
def F__law_word : (List PyData → R PyData) → List SV → R PyData := fun FL ds => runS N__law_word.length (g__law_word FL) ds
def N_law : List Str := ["script", "k", "rows", "due", "source", "rule", "turn", "bad", "odd", "some", "word", "told", "claim"]
theorem sc_law : FnScope N_law ["script"] (defScope (top 47)) := ⟨rfl, rfl, rfl, by decide +kernel, rfl, by decide +kernel, by decide +kernel⟩
def l_law_1 (F__law_source : List PyData → R PyData) (F__law_choice : List PyData → R PyData) (F__law_claims : List PyData → R PyData) (F__law_corridor : List PyData → R PyData) (F_holds : List PyData → R PyData) (F__law_all_so : List SV → R PyData) (F__law_word : (List PyData → R PyData) → List SV → R PyData) : Rho → R Fl := (setE 5 (fun ρ => ((fun ρ => ((fun ρ => (getS ρ 4).bind fun _ => ((fun ρ => ((fun ρ => ((fun ρ => ((fC (.int 2)) ρ).bind fun d => ((fun ρ => ((fC (.int 3)) ρ).bind fun d => ((fun _ => R.ok []) ρ).bind fun ds => R.ok (d :: ds)) ρ).bind fun ds => R.ok (d :: ds)) ρ).bind mkLst) ρ).bind fun d => ((fun _ => R.ok []) ρ).bind fun ds => R.ok (d :: ds)) ρ).bind (chkN 2 F__law_choice)) ρ).bind fun d => ((fun ρ => ((fun ρ => ((fun _ => R.ok []) ρ).bind mkTup) ρ).bind fun d => ((fun _ => R.ok []) ρ).bind fun ds => R.ok (d :: ds)) ρ).bind fun ds => R.ok (d :: ds)) ρ).bind mkTup))
def l_law_2 (F__law_source : List PyData → R PyData) (F__law_choice : List PyData → R PyData) (F__law_claims : List PyData → R PyData) (F__law_corridor : List PyData → R PyData) (F_holds : List PyData → R PyData) (F__law_all_so : List SV → R PyData) (F__law_word : (List PyData → R PyData) → List SV → R PyData) : Rho → R Fl := (setE 9 (fun ρ => (getS ρ 4).bind fun _ => ((fun ρ => ((fBin gIx (fun ρ => getV ρ 5) (fC (.int 0))) ρ).bind fun d => ((fun ρ => ((fC (.int 2)) ρ).bind fun d => ((fun _ => R.ok []) ρ).bind fun ds => R.ok (d :: ds)) ρ).bind fun ds => R.ok (d :: ds)) ρ).bind (chkN 3 F__law_claims)))
def l_law_3 (F__law_source : List PyData → R PyData) (F__law_choice : List PyData → R PyData) (F__law_claims : List PyData → R PyData) (F__law_corridor : List PyData → R PyData) (F_holds : List PyData → R PyData) (F__law_all_so : List SV → R PyData) (F__law_word : (List PyData → R PyData) → List SV → R PyData) : Rho → R Fl := (setZ 10 (fun ρ => (getS ρ 4).bind fun _ => ((fun ρ => ((fBin gIx (fun ρ => getV ρ 5) (fC (.int 0))) ρ).bind fun d => ((fun ρ => ((fun ρ => (getS ρ 4).bind fun _ => ((fun ρ => ((fun ρ => ((fun ρ => ((fC (.int 2)) ρ).bind fun d => ((fun ρ => ((fC (.int 6)) ρ).bind fun d => ((fun ρ => ((fC (.int 60)) ρ).bind fun d => ((fun _ => R.ok []) ρ).bind fun ds => R.ok (d :: ds)) ρ).bind fun ds => R.ok (d :: ds)) ρ).bind fun ds => R.ok (d :: ds)) ρ).bind mkLst) ρ).bind fun d => ((fun _ => R.ok []) ρ).bind fun ds => R.ok (d :: ds)) ρ).bind (chkN 2 F__law_choice)) ρ).bind fun d => ((fun _ => R.ok []) ρ).bind fun ds => R.ok (d :: ds)) ρ).bind fun ds => R.ok (d :: ds)) ρ).bind fun ds => chkN 3 F__law_corridor ds))
def l_law_4 (F__law_source : List PyData → R PyData) (F__law_choice : List PyData → R PyData) (F__law_claims : List PyData → R PyData) (F__law_corridor : List PyData → R PyData) (F_holds : List PyData → R PyData) (F__law_all_so : List SV → R PyData) (F__law_word : (List PyData → R PyData) → List SV → R PyData) : Rho → R Fl := (setE 11 (fun ρ => ((fun ρ => ((fun ρ => getV ρ 5) ρ).bind fun d => ((fun ρ => ((fun ρ => getV ρ 9) ρ).bind fun d => ((fun ρ => ((fun ρ => getV ρ 10) ρ).bind fun d => ((fun _ => R.ok []) ρ).bind fun ds => R.ok (d :: ds)) ρ).bind fun ds => R.ok (d :: ds)) ρ).bind fun ds => R.ok (d :: ds)) ρ).bind (chk 3 F_holds)))
def l_law_5 (F__law_source : List PyData → R PyData) (F__law_choice : List PyData → R PyData) (F__law_claims : List PyData → R PyData) (F__law_corridor : List PyData → R PyData) (F_holds : List PyData → R PyData) (F__law_all_so : List SV → R PyData) (F__law_word : (List PyData → R PyData) → List SV → R PyData) : Rho → R Fl := (fun ρ => ((fun ρ => ((fun ρ => ((fun ρ => ((fIsi "bool" (fun ρ => getV ρ 11)) ρ).bind tru) ρ).bind fun b => R.ok (!b)) ρ).bind fun k => if k = true then R.ok true else (fun ρ => (fBin gNe (fun ρ => getV ρ 11) (fun ρ => ((fun ρ => ((fun ρ => getV ρ 9) ρ).bind fun d => ((fun ρ => (getT ρ 10).bind fun d => ((fun _ => R.ok []) ρ).bind fun ss => R.ok (SV.tf d :: ss)) ρ).bind fun ss => R.ok (SV.d d :: ss)) ρ).bind (chkV 2 F__law_all_so)) ρ).bind tr) ρ) ρ).bind fun k => if k = true then (retE (fC (.bool false))) ρ else (fun ρ => R.ok (.nx ρ)) ρ)
def l_law_6 (F__law_source : List PyData → R PyData) (F__law_choice : List PyData → R PyData) (F__law_claims : List PyData → R PyData) (F__law_corridor : List PyData → R PyData) (F_holds : List PyData → R PyData) (F__law_all_so : List SV → R PyData) (F__law_word : (List PyData → R PyData) → List SV → R PyData) : Rho → R Fl := (fSeq (l_law_2 F__law_source F__law_choice F__law_claims F__law_corridor F_holds F__law_all_so F__law_word) (fSeq (l_law_3 F__law_source F__law_choice F__law_claims F__law_corridor F_holds F__law_all_so F__law_word) (fSeq (l_law_4 F__law_source F__law_choice F__law_claims F__law_corridor F_holds F__law_all_so F__law_word) (fSeq (l_law_5 F__law_source F__law_choice F__law_claims F__law_corridor F_holds F__law_all_so F__law_word) (fun ρ => R.ok (.nx ρ))))))
def l_law_7 (F__law_source : List PyData → R PyData) (F__law_choice : List PyData → R PyData) (F__law_claims : List PyData → R PyData) (F__law_corridor : List PyData → R PyData) (F_holds : List PyData → R PyData) (F__law_all_so : List SV → R PyData) (F__law_word : (List PyData → R PyData) → List SV → R PyData) : Rho → R Fl := (setE 7 (fun ρ => ((fun ρ => ((fC .none) ρ).bind fun d => ((fun ρ => ((fun ρ => ((fun _ => R.ok []) ρ).bind mkLst) ρ).bind fun d => ((fun ρ => ((fC (.str "none")) ρ).bind fun d => ((fun ρ => ((fun ρ => ((fun ρ => ((fun ρ => ((fun ρ => ((fC (.str "none")) ρ).bind fun d => ((fun _ => R.ok []) ρ).bind fun ds => R.ok (d :: ds)) ρ).bind mkTup) ρ).bind fun d => ((fun _ => R.ok []) ρ).bind fun ds => R.ok (d :: ds)) ρ).bind mkTup) ρ).bind fun d => ((fun ρ => ((fun ρ => ((fun ρ => ((fun ρ => ((fun ρ => ((fC (.str "none")) ρ).bind fun d => ((fun ρ => ((fBin gIx (fun ρ => getV ρ 5) (fC (.int 0))) ρ).bind fun d => ((fun _ => R.ok []) ρ).bind fun ds => R.ok (d :: ds)) ρ).bind fun ds => R.ok (d :: ds)) ρ).bind mkTup) ρ).bind fun d => ((fun _ => R.ok []) ρ).bind fun ds => R.ok (d :: ds)) ρ).bind mkTup) ρ).bind fun d => ((fun ρ => ((fun ρ => ((fun ρ => ((fun ρ => ((fun ρ => ((fC (.str "beside")) ρ).bind fun d => ((fun ρ => ((fC (.int 0)) ρ).bind fun d => ((fun _ => R.ok []) ρ).bind fun ds => R.ok (d :: ds)) ρ).bind fun ds => R.ok (d :: ds)) ρ).bind mkTup) ρ).bind fun d => ((fun _ => R.ok []) ρ).bind fun ds => R.ok (d :: ds)) ρ).bind mkTup) ρ).bind fun d => ((fun ρ => ((fun ρ => ((fun ρ => ((fun ρ => ((fun ρ => ((fC (.str "first")) ρ).bind fun d => ((fun ρ => ((fC (.bool true)) ρ).bind fun d => ((fun _ => R.ok []) ρ).bind fun ds => R.ok (d :: ds)) ρ).bind fun ds => R.ok (d :: ds)) ρ).bind mkTup) ρ).bind fun d => ((fun _ => R.ok []) ρ).bind fun ds => R.ok (d :: ds)) ρ).bind mkTup) ρ).bind fun d => ((fun _ => R.ok []) ρ).bind fun ds => R.ok (d :: ds)) ρ).bind fun ds => R.ok (d :: ds)) ρ).bind fun ds => R.ok (d :: ds)) ρ).bind fun ds => R.ok (d :: ds)) ρ).bind fun ds => R.ok (d :: ds)) ρ).bind fun ds => R.ok (d :: ds)) ρ).bind fun ds => R.ok (d :: ds)) ρ).bind mkLst))
def l_law_8 (F__law_source : List PyData → R PyData) (F__law_choice : List PyData → R PyData) (F__law_claims : List PyData → R PyData) (F__law_corridor : List PyData → R PyData) (F_holds : List PyData → R PyData) (F__law_all_so : List SV → R PyData) (F__law_word : (List PyData → R PyData) → List SV → R PyData) : Rho → R Fl := (setE 7 (fBin gCat (fun ρ => getV ρ 7) (fun ρ => ((fun ρ => ((fBin gMul (fun ρ => ((fun ρ => ((fun ρ => ((fun ρ => ((fC (.str "none")) ρ).bind fun d => ((fun ρ => ((fC (.int 0)) ρ).bind fun d => ((fun _ => R.ok []) ρ).bind fun ds => R.ok (d :: ds)) ρ).bind fun ds => R.ok (d :: ds)) ρ).bind mkTup) ρ).bind fun d => ((fun _ => R.ok []) ρ).bind fun ds => R.ok (d :: ds)) ρ).bind mkTup) (fC (.int 3))) ρ).bind fun d => ((fun ρ => ((fun ρ => ((fun ρ => ((fun ρ => ((fun ρ => ((fC (.str "not")) ρ).bind fun d => ((fun ρ => ((fun ρ => ((fun ρ => ((fC (.str "not")) ρ).bind fun d => ((fun ρ => ((fun ρ => ((fun ρ => ((fC (.str "none")) ρ).bind fun d => ((fun ρ => ((fC (.int 0)) ρ).bind fun d => ((fun _ => R.ok []) ρ).bind fun ds => R.ok (d :: ds)) ρ).bind fun ds => R.ok (d :: ds)) ρ).bind mkTup) ρ).bind fun d => ((fun _ => R.ok []) ρ).bind fun ds => R.ok (d :: ds)) ρ).bind fun ds => R.ok (d :: ds)) ρ).bind mkTup) ρ).bind fun d => ((fun _ => R.ok []) ρ).bind fun ds => R.ok (d :: ds)) ρ).bind fun ds => R.ok (d :: ds)) ρ).bind mkTup) ρ).bind fun d => ((fun _ => R.ok []) ρ).bind fun ds => R.ok (d :: ds)) ρ).bind mkTup) ρ).bind fun d => ((fun ρ => ((fun ρ => ((fun ρ => ((fun ρ => ((fun ρ => ((fC (.str "not")) ρ).bind fun d => ((fun ρ => ((fun ρ => ((fun ρ => ((fC (.str "none")) ρ).bind fun d => ((fun _ => R.ok []) ρ).bind fun ds => R.ok (d :: ds)) ρ).bind mkTup) ρ).bind fun d => ((fun _ => R.ok []) ρ).bind fun ds => R.ok (d :: ds)) ρ).bind fun ds => R.ok (d :: ds)) ρ).bind mkTup) ρ).bind fun d => ((fun _ => R.ok []) ρ).bind fun ds => R.ok (d :: ds)) ρ).bind mkTup) ρ).bind fun d => ((fun _ => R.ok []) ρ).bind fun ds => R.ok (d :: ds)) ρ).bind fun ds => R.ok (d :: ds)) ρ).bind fun ds => R.ok (d :: ds)) ρ).bind mkLst)))
def l_law_9 (F__law_source : List PyData → R PyData) (F__law_choice : List PyData → R PyData) (F__law_claims : List PyData → R PyData) (F__law_corridor : List PyData → R PyData) (F_holds : List PyData → R PyData) (F__law_all_so : List SV → R PyData) (F__law_word : (List PyData → R PyData) → List SV → R PyData) : Rho → R Fl := (setE 7 (fBin gCat (fun ρ => getV ρ 7) (fun ρ => ((fun ρ => ((fun ρ => ((fun ρ => ((fun ρ => ((fun ρ => ((fC (.str "some")) ρ).bind fun d => ((fun ρ => ((fC (.int 0)) ρ).bind fun d => ((fun ρ => ((fC (.int 1)) ρ).bind fun d => ((fun _ => R.ok []) ρ).bind fun ds => R.ok (d :: ds)) ρ).bind fun ds => R.ok (d :: ds)) ρ).bind fun ds => R.ok (d :: ds)) ρ).bind mkTup) ρ).bind fun d => ((fun _ => R.ok []) ρ).bind fun ds => R.ok (d :: ds)) ρ).bind mkTup) ρ).bind fun d => ((fun ρ => ((fun ρ => ((fun ρ => ((fC (.str "none")) ρ).bind fun d => ((fun ρ => ((fC (.int 0)) ρ).bind fun d => ((fun _ => R.ok []) ρ).bind fun ds => R.ok (d :: ds)) ρ).bind fun ds => R.ok (d :: ds)) ρ).bind mkTup) ρ).bind fun d => ((fun ρ => ((fun ρ => ((fun ρ => ((fun ρ => ((fun ρ => ((fC (.str "all")) ρ).bind fun d => ((fun ρ => ((fC (.int 0)) ρ).bind fun d => ((fun _ => R.ok []) ρ).bind fun ds => R.ok (d :: ds)) ρ).bind fun ds => R.ok (d :: ds)) ρ).bind mkTup) ρ).bind fun d => ((fun _ => R.ok []) ρ).bind fun ds => R.ok (d :: ds)) ρ).bind mkTup) ρ).bind fun d => ((fun _ => R.ok []) ρ).bind fun ds => R.ok (d :: ds)) ρ).bind fun ds => R.ok (d :: ds)) ρ).bind fun ds => R.ok (d :: ds)) ρ).bind mkLst)))
def l_law_10 (F__law_source : List PyData → R PyData) (F__law_choice : List PyData → R PyData) (F__law_claims : List PyData → R PyData) (F__law_corridor : List PyData → R PyData) (F_holds : List PyData → R PyData) (F__law_all_so : List SV → R PyData) (F__law_word : (List PyData → R PyData) → List SV → R PyData) : Rho → R Fl := (fun ρ => ((fun ρ => (fBin gNe (callH 1 2 [5, 8] F__law_word (fun ρ => ((fun ρ => ((fun ρ => getV ρ 0) ρ).bind fun d => ((fun ρ => ((fun ρ => getV ρ 1) ρ).bind fun d => ((fun ρ => ((fC .none) ρ).bind fun d => ((fun _ => R.ok []) ρ).bind fun ds => R.ok (d :: ds)) ρ).bind fun ds => R.ok (d :: ds)) ρ).bind fun ds => R.ok (d :: ds)) ρ).bind (chk 3 F_holds)) (fun ρ => ((fun _ => R.ok []) ρ).bind fun ds => R.ok (SV.lam :: ds.map .d))) (fC (.str "claims")) ρ).bind tr) ρ).bind fun k => if k = true then (retE (fC (.bool false))) ρ else (fun ρ => R.ok (.nx ρ)) ρ)
def l_law_11 (F__law_source : List PyData → R PyData) (F__law_choice : List PyData → R PyData) (F__law_claims : List PyData → R PyData) (F__law_corridor : List PyData → R PyData) (F_holds : List PyData → R PyData) (F__law_all_so : List SV → R PyData) (F__law_word : (List PyData → R PyData) → List SV → R PyData) : Rho → R Fl := (fSeq (l_law_10 F__law_source F__law_choice F__law_claims F__law_corridor F_holds F__law_all_so F__law_word) (fun ρ => R.ok (.nx ρ)))
def l_law_12 (F__law_source : List PyData → R PyData) (F__law_choice : List PyData → R PyData) (F__law_claims : List PyData → R PyData) (F__law_corridor : List PyData → R PyData) (F_holds : List PyData → R PyData) (F__law_all_so : List SV → R PyData) (F__law_word : (List PyData → R PyData) → List SV → R PyData) : Rho → R Fl := (fFor (fun ρ => ((fun ρ => getV ρ 7) ρ).bind seqOf) (tg1 8) (l_law_11 F__law_source F__law_choice F__law_claims F__law_corridor F_holds F__law_all_so F__law_word))
def l_law_13 (F__law_source : List PyData → R PyData) (F__law_choice : List PyData → R PyData) (F__law_claims : List PyData → R PyData) (F__law_corridor : List PyData → R PyData) (F_holds : List PyData → R PyData) (F__law_all_so : List SV → R PyData) (F__law_word : (List PyData → R PyData) → List SV → R PyData) : Rho → R Fl := (fun ρ => ((fun ρ => (fBin gNe (callH 1 1 [5] F__law_word (fun ρ => ((fun ρ => ((fun ρ => getV ρ 0) ρ).bind fun d => ((fun ρ => ((fun ρ => ((fun _ => R.ok []) ρ).bind mkTup) ρ).bind fun d => ((fun ρ => ((fun ρ => ((fun ρ => ((fBin gIx (fun ρ => getV ρ 0) (fC (.int 0))) ρ).bind fun d => ((fun _ => R.ok []) ρ).bind fun ds => R.ok (d :: ds)) ρ).bind mkTup) ρ).bind fun d => ((fun _ => R.ok []) ρ).bind fun ds => R.ok (d :: ds)) ρ).bind fun ds => R.ok (d :: ds)) ρ).bind fun ds => R.ok (d :: ds)) ρ).bind (chk 3 F_holds)) (fun ρ => ((fun _ => R.ok []) ρ).bind fun ds => R.ok (SV.lam :: ds.map .d))) (fC (.str "corridor")) ρ).bind tr) ρ).bind fun k => if k = true then (retE (fC (.bool false))) ρ else (fun ρ => R.ok (.nx ρ)) ρ)
def l_law_14 (F__law_source : List PyData → R PyData) (F__law_choice : List PyData → R PyData) (F__law_claims : List PyData → R PyData) (F__law_corridor : List PyData → R PyData) (F_holds : List PyData → R PyData) (F__law_all_so : List SV → R PyData) (F__law_word : (List PyData → R PyData) → List SV → R PyData) : Rho → R Fl := (fSrc 4 (fun ρ => ((fun ρ => ((fun ρ => getV ρ 0) ρ).bind fun d => ((fun ρ => ((fun ρ => getV ρ 1) ρ).bind fun d => ((fun _ => R.ok []) ρ).bind fun ds => R.ok (d :: ds)) ρ).bind fun ds => R.ok (d :: ds)) ρ).bind (chk 2 F__law_source)) (fSeq (l_law_1 F__law_source F__law_choice F__law_claims F__law_corridor F_holds F__law_all_so F__law_word) (fSeq (fFor (fun ρ => ((fC (.int 8)) ρ).bind rgOf) (tg1 6) (l_law_6 F__law_source F__law_choice F__law_claims F__law_corridor F_holds F__law_all_so F__law_word)) (fSeq (l_law_7 F__law_source F__law_choice F__law_claims F__law_corridor F_holds F__law_all_so F__law_word) (fSeq (l_law_8 F__law_source F__law_choice F__law_claims F__law_corridor F_holds F__law_all_so F__law_word) (fSeq (l_law_9 F__law_source F__law_choice F__law_claims F__law_corridor F_holds F__law_all_so F__law_word) (fSeq (l_law_12 F__law_source F__law_choice F__law_claims F__law_corridor F_holds F__law_all_so F__law_word) (fSeq (l_law_13 F__law_source F__law_choice F__law_claims F__law_corridor F_holds F__law_all_so F__law_word) (fun ρ => R.ok (.nx ρ))))))))))
def l_law_15 (F__law_source : List PyData → R PyData) (F__law_choice : List PyData → R PyData) (F__law_claims : List PyData → R PyData) (F__law_corridor : List PyData → R PyData) (F_holds : List PyData → R PyData) (F__law_all_so : List SV → R PyData) (F__law_word : (List PyData → R PyData) → List SV → R PyData) : Rho → R Fl := (fFor (fun ρ => ((fBin gAdd (fC (.int 1)) (fBin gMin (fC1 gLen (fun ρ => getV ρ 0)) (fC (.int 10)))) ρ).bind rgOf) (tg1 1) (l_law_14 F__law_source F__law_choice F__law_claims F__law_corridor F_holds F__law_all_so F__law_word))
def l_law_16 (F__law_source : List PyData → R PyData) (F__law_choice : List PyData → R PyData) (F__law_claims : List PyData → R PyData) (F__law_corridor : List PyData → R PyData) (F_holds : List PyData → R PyData) (F__law_all_so : List SV → R PyData) (F__law_word : (List PyData → R PyData) → List SV → R PyData) : Rho → R Fl := (setE 2 (fun ρ => ((fun ρ => ((fun ρ => ((fun ρ => ((fun ρ => ((fun ρ => ((fC (.str "first")) ρ).bind fun d => ((fun ρ => ((fC (.int 0)) ρ).bind fun d => ((fun _ => R.ok []) ρ).bind fun ds => R.ok (d :: ds)) ρ).bind fun ds => R.ok (d :: ds)) ρ).bind mkTup) ρ).bind fun d => ((fun ρ => ((fun ρ => ((fun ρ => ((fC (.int 0)) ρ).bind fun d => ((fun ρ => ((fC (.int 1)) ρ).bind fun d => ((fun _ => R.ok []) ρ).bind fun ds => R.ok (d :: ds)) ρ).bind fun ds => R.ok (d :: ds)) ρ).bind mkTup) ρ).bind fun d => ((fun _ => R.ok []) ρ).bind fun ds => R.ok (d :: ds)) ρ).bind fun ds => R.ok (d :: ds)) ρ).bind mkTup) ρ).bind fun d => ((fun ρ => ((fun ρ => ((fun ρ => ((fun ρ => ((fun ρ => ((fC (.str "first")) ρ).bind fun d => ((fun ρ => ((fC (.int 1)) ρ).bind fun d => ((fun _ => R.ok []) ρ).bind fun ds => R.ok (d :: ds)) ρ).bind fun ds => R.ok (d :: ds)) ρ).bind mkTup) ρ).bind fun d => ((fun ρ => ((fun ρ => ((fun ρ => ((fC (.int 0)) ρ).bind fun d => ((fun ρ => ((fC (.int 1)) ρ).bind fun d => ((fun _ => R.ok []) ρ).bind fun ds => R.ok (d :: ds)) ρ).bind fun ds => R.ok (d :: ds)) ρ).bind mkTup) ρ).bind fun d => ((fun _ => R.ok []) ρ).bind fun ds => R.ok (d :: ds)) ρ).bind fun ds => R.ok (d :: ds)) ρ).bind mkTup) ρ).bind fun d => ((fun ρ => ((fun ρ => ((fun ρ => ((fun ρ => ((fun ρ => ((fC (.str "last")) ρ).bind fun d => ((fun ρ => ((fC (.int 1)) ρ).bind fun d => ((fun _ => R.ok []) ρ).bind fun ds => R.ok (d :: ds)) ρ).bind fun ds => R.ok (d :: ds)) ρ).bind mkTup) ρ).bind fun d => ((fun ρ => ((fun ρ => ((fun ρ => ((fC (.int 0)) ρ).bind fun d => ((fun ρ => ((fC (.int 1)) ρ).bind fun d => ((fun _ => R.ok []) ρ).bind fun ds => R.ok (d :: ds)) ρ).bind fun ds => R.ok (d :: ds)) ρ).bind mkTup) ρ).bind fun d => ((fun _ => R.ok []) ρ).bind fun ds => R.ok (d :: ds)) ρ).bind fun ds => R.ok (d :: ds)) ρ).bind mkTup) ρ).bind fun d => ((fun ρ => ((fun ρ => ((fun ρ => ((fun ρ => ((fun ρ => ((fC (.str "first")) ρ).bind fun d => ((fun ρ => ((fC (.int 0)) ρ).bind fun d => ((fun _ => R.ok []) ρ).bind fun ds => R.ok (d :: ds)) ρ).bind fun ds => R.ok (d :: ds)) ρ).bind mkTup) ρ).bind fun d => ((fun ρ => ((fun ρ => ((fun _ => R.ok []) ρ).bind mkTup) ρ).bind fun d => ((fun _ => R.ok []) ρ).bind fun ds => R.ok (d :: ds)) ρ).bind fun ds => R.ok (d :: ds)) ρ).bind mkTup) ρ).bind fun d => ((fun _ => R.ok []) ρ).bind fun ds => R.ok (d :: ds)) ρ).bind fun ds => R.ok (d :: ds)) ρ).bind fun ds => R.ok (d :: ds)) ρ).bind fun ds => R.ok (d :: ds)) ρ).bind mkLst))
def l_law_17 (F__law_source : List PyData → R PyData) (F__law_choice : List PyData → R PyData) (F__law_claims : List PyData → R PyData) (F__law_corridor : List PyData → R PyData) (F_holds : List PyData → R PyData) (F__law_all_so : List SV → R PyData) (F__law_word : (List PyData → R PyData) → List SV → R PyData) : Rho → R Fl := (setE 2 (fBin gCat (fun ρ => getV ρ 2) (fun ρ => ((fun ρ => ((fun ρ => ((fun ρ => ((fun ρ => ((fun ρ => ((fC (.str "even")) ρ).bind fun d => ((fun ρ => ((fC (.int 0)) ρ).bind fun d => ((fun _ => R.ok []) ρ).bind fun ds => R.ok (d :: ds)) ρ).bind fun ds => R.ok (d :: ds)) ρ).bind mkTup) ρ).bind fun d => ((fun ρ => ((fun ρ => ((fun _ => R.ok []) ρ).bind mkTup) ρ).bind fun d => ((fun _ => R.ok []) ρ).bind fun ds => R.ok (d :: ds)) ρ).bind fun ds => R.ok (d :: ds)) ρ).bind mkTup) ρ).bind fun d => ((fun ρ => ((fun ρ => ((fun ρ => ((fun ρ => ((fun ρ => ((fC (.str "beside")) ρ).bind fun d => ((fun ρ => ((fC (.int 1)) ρ).bind fun d => ((fun ρ => ((fC (.int 1)) ρ).bind fun d => ((fun _ => R.ok []) ρ).bind fun ds => R.ok (d :: ds)) ρ).bind fun ds => R.ok (d :: ds)) ρ).bind fun ds => R.ok (d :: ds)) ρ).bind mkTup) ρ).bind fun d => ((fun ρ => ((fun ρ => ((fun ρ => ((fC (.int 1)) ρ).bind fun d => ((fun ρ => ((fC (.int 0)) ρ).bind fun d => ((fun ρ => ((fC (.int 1)) ρ).bind fun d => ((fun ρ => ((fC (.int 1)) ρ).bind fun d => ((fun _ => R.ok []) ρ).bind fun ds => R.ok (d :: ds)) ρ).bind fun ds => R.ok (d :: ds)) ρ).bind fun ds => R.ok (d :: ds)) ρ).bind fun ds => R.ok (d :: ds)) ρ).bind mkTup) ρ).bind fun d => ((fun _ => R.ok []) ρ).bind fun ds => R.ok (d :: ds)) ρ).bind fun ds => R.ok (d :: ds)) ρ).bind mkTup) ρ).bind fun d => ((fun ρ => ((fun ρ => ((fun ρ => ((fun ρ => ((fun ρ => ((fC (.str "beside")) ρ).bind fun d => ((fun ρ => ((fC (.int 1)) ρ).bind fun d => ((fun ρ => ((fC (.int 1)) ρ).bind fun d => ((fun _ => R.ok []) ρ).bind fun ds => R.ok (d :: ds)) ρ).bind fun ds => R.ok (d :: ds)) ρ).bind fun ds => R.ok (d :: ds)) ρ).bind mkTup) ρ).bind fun d => ((fun ρ => ((fun ρ => ((fun ρ => ((fC (.int 1)) ρ).bind fun d => ((fun ρ => ((fC (.int 0)) ρ).bind fun d => ((fun ρ => ((fC (.int 1)) ρ).bind fun d => ((fun _ => R.ok []) ρ).bind fun ds => R.ok (d :: ds)) ρ).bind fun ds => R.ok (d :: ds)) ρ).bind fun ds => R.ok (d :: ds)) ρ).bind mkTup) ρ).bind fun d => ((fun _ => R.ok []) ρ).bind fun ds => R.ok (d :: ds)) ρ).bind fun ds => R.ok (d :: ds)) ρ).bind mkTup) ρ).bind fun d => ((fun _ => R.ok []) ρ).bind fun ds => R.ok (d :: ds)) ρ).bind fun ds => R.ok (d :: ds)) ρ).bind fun ds => R.ok (d :: ds)) ρ).bind mkLst)))
def l_law_18 (F__law_source : List PyData → R PyData) (F__law_choice : List PyData → R PyData) (F__law_claims : List PyData → R PyData) (F__law_corridor : List PyData → R PyData) (F_holds : List PyData → R PyData) (F__law_all_so : List SV → R PyData) (F__law_word : (List PyData → R PyData) → List SV → R PyData) : Rho → R Fl := (setE 2 (fBin gCat (fun ρ => getV ρ 2) (fun ρ => ((fun ρ => ((fun ρ => ((fun ρ => ((fun ρ => ((fun ρ => ((fC (.str "not")) ρ).bind fun d => ((fun ρ => ((fun ρ => ((fun ρ => ((fC (.str "last")) ρ).bind fun d => ((fun ρ => ((fC (.int 0)) ρ).bind fun d => ((fun _ => R.ok []) ρ).bind fun ds => R.ok (d :: ds)) ρ).bind fun ds => R.ok (d :: ds)) ρ).bind mkTup) ρ).bind fun d => ((fun _ => R.ok []) ρ).bind fun ds => R.ok (d :: ds)) ρ).bind fun ds => R.ok (d :: ds)) ρ).bind mkTup) ρ).bind fun d => ((fun ρ => ((fun ρ => ((fun _ => R.ok []) ρ).bind mkTup) ρ).bind fun d => ((fun _ => R.ok []) ρ).bind fun ds => R.ok (d :: ds)) ρ).bind fun ds => R.ok (d :: ds)) ρ).bind mkTup) ρ).bind fun d => ((fun ρ => ((fun ρ => ((fun ρ => ((fun ρ => ((fun ρ => ((fC (.str "beside")) ρ).bind fun d => ((fun ρ => ((fC (.int 0)) ρ).bind fun d => ((fun ρ => ((fC (.int 1)) ρ).bind fun d => ((fun _ => R.ok []) ρ).bind fun ds => R.ok (d :: ds)) ρ).bind fun ds => R.ok (d :: ds)) ρ).bind fun ds => R.ok (d :: ds)) ρ).bind mkTup) ρ).bind fun d => ((fun ρ => ((fun ρ => ((fun ρ => ((fC (.int 1)) ρ).bind fun d => ((fun ρ => ((fC (.int 0)) ρ).bind fun d => ((fun ρ => ((fC (.int 0)) ρ).bind fun d => ((fun ρ => ((fC (.int 1)) ρ).bind fun d => ((fun _ => R.ok []) ρ).bind fun ds => R.ok (d :: ds)) ρ).bind fun ds => R.ok (d :: ds)) ρ).bind fun ds => R.ok (d :: ds)) ρ).bind fun ds => R.ok (d :: ds)) ρ).bind mkTup) ρ).bind fun d => ((fun _ => R.ok []) ρ).bind fun ds => R.ok (d :: ds)) ρ).bind fun ds => R.ok (d :: ds)) ρ).bind mkTup) ρ).bind fun d => ((fun ρ => ((fun ρ => ((fun ρ => ((fun ρ => ((fun ρ => ((fC (.str "even")) ρ).bind fun d => ((fun ρ => ((fC (.int 1)) ρ).bind fun d => ((fun _ => R.ok []) ρ).bind fun ds => R.ok (d :: ds)) ρ).bind fun ds => R.ok (d :: ds)) ρ).bind mkTup) ρ).bind fun d => ((fun ρ => ((fun ρ => ((fun ρ => ((fC (.int 1)) ρ).bind fun d => ((fun ρ => ((fC (.int 0)) ρ).bind fun d => ((fun ρ => ((fC (.int 1)) ρ).bind fun d => ((fun ρ => ((fC (.int 1)) ρ).bind fun d => ((fun _ => R.ok []) ρ).bind fun ds => R.ok (d :: ds)) ρ).bind fun ds => R.ok (d :: ds)) ρ).bind fun ds => R.ok (d :: ds)) ρ).bind fun ds => R.ok (d :: ds)) ρ).bind mkTup) ρ).bind fun d => ((fun _ => R.ok []) ρ).bind fun ds => R.ok (d :: ds)) ρ).bind fun ds => R.ok (d :: ds)) ρ).bind mkTup) ρ).bind fun d => ((fun _ => R.ok []) ρ).bind fun ds => R.ok (d :: ds)) ρ).bind fun ds => R.ok (d :: ds)) ρ).bind fun ds => R.ok (d :: ds)) ρ).bind mkLst)))
def l_law_19 (F__law_source : List PyData → R PyData) (F__law_choice : List PyData → R PyData) (F__law_claims : List PyData → R PyData) (F__law_corridor : List PyData → R PyData) (F_holds : List PyData → R PyData) (F__law_all_so : List SV → R PyData) (F__law_word : (List PyData → R PyData) → List SV → R PyData) : Rho → R Fl := (setE 2 (fBin gCat (fun ρ => getV ρ 2) (fun ρ => ((fun ρ => ((fun ρ => ((fun ρ => ((fun ρ => ((fun ρ => ((fC (.str "some")) ρ).bind fun d => ((fun ρ => ((fC (.int 0)) ρ).bind fun d => ((fun _ => R.ok []) ρ).bind fun ds => R.ok (d :: ds)) ρ).bind fun ds => R.ok (d :: ds)) ρ).bind mkTup) ρ).bind fun d => ((fun ρ => ((fun ρ => ((fun ρ => ((fC (.int 1)) ρ).bind fun d => ((fun ρ => ((fC (.int 1)) ρ).bind fun d => ((fun _ => R.ok []) ρ).bind fun ds => R.ok (d :: ds)) ρ).bind fun ds => R.ok (d :: ds)) ρ).bind mkTup) ρ).bind fun d => ((fun _ => R.ok []) ρ).bind fun ds => R.ok (d :: ds)) ρ).bind fun ds => R.ok (d :: ds)) ρ).bind mkTup) ρ).bind fun d => ((fun ρ => ((fun ρ => ((fun ρ => ((fun ρ => ((fun ρ => ((fC (.str "none")) ρ).bind fun d => ((fun ρ => ((fC (.int 0)) ρ).bind fun d => ((fun _ => R.ok []) ρ).bind fun ds => R.ok (d :: ds)) ρ).bind fun ds => R.ok (d :: ds)) ρ).bind mkTup) ρ).bind fun d => ((fun ρ => ((fun ρ => ((fun ρ => ((fC (.int 1)) ρ).bind fun d => ((fun ρ => ((fC (.int 1)) ρ).bind fun d => ((fun _ => R.ok []) ρ).bind fun ds => R.ok (d :: ds)) ρ).bind fun ds => R.ok (d :: ds)) ρ).bind mkTup) ρ).bind fun d => ((fun _ => R.ok []) ρ).bind fun ds => R.ok (d :: ds)) ρ).bind fun ds => R.ok (d :: ds)) ρ).bind mkTup) ρ).bind fun d => ((fun _ => R.ok []) ρ).bind fun ds => R.ok (d :: ds)) ρ).bind fun ds => R.ok (d :: ds)) ρ).bind mkLst)))
def l_law_20 (F__law_source : List PyData → R PyData) (F__law_choice : List PyData → R PyData) (F__law_claims : List PyData → R PyData) (F__law_corridor : List PyData → R PyData) (F_holds : List PyData → R PyData) (F__law_all_so : List SV → R PyData) (F__law_word : (List PyData → R PyData) → List SV → R PyData) : Rho → R Fl := (setE 3 (fun ρ => ((fun ρ => ((fC (.bool true)) ρ).bind fun d => ((fun ρ => ((fC (.bool false)) ρ).bind fun d => ((fun ρ => ((fC (.bool true)) ρ).bind fun d => ((fun ρ => ((fC (.bool false)) ρ).bind fun d => ((fun ρ => ((fC (.bool true)) ρ).bind fun d => ((fun ρ => ((fC (.bool true)) ρ).bind fun d => ((fun ρ => ((fC (.bool false)) ρ).bind fun d => ((fun ρ => ((fC (.bool true)) ρ).bind fun d => ((fun ρ => ((fC (.bool true)) ρ).bind fun d => ((fun ρ => ((fC (.bool false)) ρ).bind fun d => ((fun ρ => ((fC (.bool false)) ρ).bind fun d => ((fun ρ => ((fC (.bool true)) ρ).bind fun d => ((fun _ => R.ok []) ρ).bind fun ds => R.ok (d :: ds)) ρ).bind fun ds => R.ok (d :: ds)) ρ).bind fun ds => R.ok (d :: ds)) ρ).bind fun ds => R.ok (d :: ds)) ρ).bind fun ds => R.ok (d :: ds)) ρ).bind fun ds => R.ok (d :: ds)) ρ).bind fun ds => R.ok (d :: ds)) ρ).bind fun ds => R.ok (d :: ds)) ρ).bind fun ds => R.ok (d :: ds)) ρ).bind fun ds => R.ok (d :: ds)) ρ).bind fun ds => R.ok (d :: ds)) ρ).bind fun ds => R.ok (d :: ds)) ρ).bind mkLst))
def l_law_21 (F__law_source : List PyData → R PyData) (F__law_choice : List PyData → R PyData) (F__law_claims : List PyData → R PyData) (F__law_corridor : List PyData → R PyData) (F_holds : List PyData → R PyData) (F__law_all_so : List SV → R PyData) (F__law_word : (List PyData → R PyData) → List SV → R PyData) : Rho → R Fl := (retE (fBin gEq (fComp [12, 10] (fun ρ => ((fun ρ => getV ρ 2) ρ).bind seqOf) (tgTup 2 (tgCons (tg1 12) (tgCons (tg1 10) tgNil))) (fun _ => R.ok true) (fun ρ => ((fun ρ => ((fun ρ => ((fun ρ => ((fC (.int 2)) ρ).bind fun d => ((fun ρ => ((fun ρ => ((fun _ => R.ok []) ρ).bind mkTup) ρ).bind fun d => ((fun _ => R.ok []) ρ).bind fun ds => R.ok (d :: ds)) ρ).bind fun ds => R.ok (d :: ds)) ρ).bind mkTup) ρ).bind fun d => ((fun ρ => ((fun ρ => ((fun ρ => ((fun ρ => getV ρ 12) ρ).bind fun d => ((fun _ => R.ok []) ρ).bind fun ds => R.ok (d :: ds)) ρ).bind mkTup) ρ).bind fun d => ((fun ρ => ((fun ρ => getV ρ 10) ρ).bind fun d => ((fun _ => R.ok []) ρ).bind fun ds => R.ok (d :: ds)) ρ).bind fun ds => R.ok (d :: ds)) ρ).bind fun ds => R.ok (d :: ds)) ρ).bind (chk 3 F_holds))) (fun ρ => getV ρ 3)))
def g_law (F__law_source : List PyData → R PyData) (F__law_choice : List PyData → R PyData) (F__law_claims : List PyData → R PyData) (F__law_corridor : List PyData → R PyData) (F_holds : List PyData → R PyData) (F__law_all_so : List SV → R PyData) (F__law_word : (List PyData → R PyData) → List SV → R PyData) : Rho → R Fl := (fSeq (l_law_15 F__law_source F__law_choice F__law_claims F__law_corridor F_holds F__law_all_so F__law_word) (fSeq (l_law_16 F__law_source F__law_choice F__law_claims F__law_corridor F_holds F__law_all_so F__law_word) (fSeq (l_law_17 F__law_source F__law_choice F__law_claims F__law_corridor F_holds F__law_all_so F__law_word) (fSeq (l_law_18 F__law_source F__law_choice F__law_claims F__law_corridor F_holds F__law_all_so F__law_word) (fSeq (l_law_19 F__law_source F__law_choice F__law_claims F__law_corridor F_holds F__law_all_so F__law_word) (fSeq (l_law_20 F__law_source F__law_choice F__law_claims F__law_corridor F_holds F__law_all_so F__law_word) (l_law_21 F__law_source F__law_choice F__law_claims F__law_corridor F_holds F__law_all_so F__law_word)))))))
theorem b_law {P : Program} {w : World} {K : PySem.W.Frag} {mg : Str → Option Value} {base : Heap} {ec : EC} {f : Addr} {F__law_source : List PyData → R PyData} {F__law_choice : List PyData → R PyData} {F__law_claims : List PyData → R PyData} {F__law_corridor : List PyData → R PyData} {F_holds : List PyData → R PyData} {F__law_all_so : List SV → R PyData} {F__law_word : (List PyData → R PyData) → List SV → R PyData}  {ct Pt : Addr} (TB : LamX.TabB base mg ct Pt) (htm : (Pt, (("law" : Str) ++ ".<locals>.") ++ "<lambda>") ∈ ec.tabs) (htu : ∀ p, p ∈ ec.tabs → p.1 = Pt → p.2 = (("law" : Str) ++ ".<locals>.") ++ "<lambda>") (G__law_source : FnF P w K mg base ec 1 2 "_law_source" F__law_source) (G__law_choice : FnN P w K mg base ec 2 2 "_law_choice" F__law_choice) (G__law_claims : FnN P w K mg base ec 4 3 "_law_claims" F__law_claims) (G__law_corridor : FnNZ P w K mg base ec 3 3 "_law_corridor" F__law_corridor) (G_holds : FnD P w K mg base ec 9 3 "holds" F_holds) (G__law_all_so : FnV P w K mg base ec 5 2 "_law_all_so" F__law_all_so) (G__law_word : FnH P w K mg base ec 10 11 1 "_law_word" 0 F__law_word) (n_bool : mg "bool" = none) (n_isinstance : mg "isinstance" = none) (n_len : mg "len" = none) (n_min : mg "min" = none) (n_range : mg "range" = none) (kl : NoList K) : BodyOkC P w K mg base ec "law" (top 47) f ct N_law 11 (g_law F__law_source F__law_choice F__law_claims F__law_corridor F_holds F__law_all_so F__law_word) := by
  intro A outer s H E hr hp tk
  have nd := sc_law.nd
  exact (dss_cons (ds_for flatE (passes_of rfl) (by rfl) (di_range (by rfl) n_range (DE.b (de_bin od_add (DE.b de_int) (DE.b (de_min2 (by rfl) (by rfl) n_min (DE.b (de_b1 c_len (by rfl) n_len (by decide +kernel) (db_name (pv 0)))) (DE.b de_int)))))) (dg_name (pg_name (i := 1) nd (by rfl) (by first | exact Or.inl rfl | exact Or.inr rfl))) (dss_src flatE nd (by rfl) (by first | exact Or.inl rfl | exact Or.inr rfl) (df_call G__law_source (hr.mono (by decide)) hp (by rfl) (da_cons (de_name (pv 0)) (da_cons (de_name (pv 1)) da_nil))) (dss_cons (ds_asg flatE nd (by rfl) (by first | exact Or.inl rfl | exact Or.inr rfl) (de_tup (da_cons (de_callN G__law_choice (hr.mono (by decide)) hp (by rfl) (pv 4) (da_cons (DF.toE (df_lst (da_cons de_int (da_cons de_int da_nil)))) da_nil)) (da_cons (de_tup da_nil) da_nil)))) (dss_cons (ds_for flatE (passes_of rfl) (by rfl) (di_range (by rfl) n_range (DE.b de_int)) (dg_name (pg_name (i := 6) nd (by rfl) (by first | exact Or.inl rfl | exact Or.inr rfl))) (dss_cons (ds_asg flatE nd (by rfl) (by first | exact Or.inl rfl | exact Or.inr rfl) (de_callN G__law_claims (hr.mono (by decide)) hp (by rfl) (pv 4) (da_cons (de_ix (db_name (pv 5)) (DE.b de_int) (fun _ _ => rfl)) (da_cons de_int da_nil)))) (dss_cons (ds_asgZ flatE nd (by rfl) (by first | exact Or.inl rfl | exact Or.inr rfl) (dz_callN G__law_corridor (hr.mono (by decide)) hp (by rfl) (pv 4) (da_cons (de_ix (db_name (pv 5)) (DE.b de_int) (fun _ _ => rfl)) (da_cons (de_callN G__law_choice (hr.mono (by decide)) hp (by rfl) (pv 4) (da_cons (DF.toE (df_lst (da_cons de_int (da_cons de_int (da_cons de_int da_nil))))) da_nil)) da_nil)))) (dss_cons (ds_asg flatE nd (by rfl) (by first | exact Or.inl rfl | exact Or.inr rfl) (de_call G_holds (hr.mono (by decide)) hp (by rfl) (da_cons (de_name (pv 5)) (da_cons (de_name (pv 9)) (da_cons (de_name (pv 10)) da_nil))))) (dss_cons (ds_if (O' := []) flatE (DW.t (dw_or (dt_not (dt_of (DE.b (de_isi (T := "bool") (by decide) (by rfl) n_isinstance (by rfl) n_bool (by decide +kernel) (db_name (pv 11)))))) (dw_or1 (dt_cmp (od_ne hr.units) (db_name (pv 11)) (DE.b (de_callV G__law_all_so (hr.mono (by decide)) hp (by rfl) (das_d (de_name (pv 9)) (das_tf (pv 10) das_nil)))) (nomark _))))) (dss_one (ds_ret flatE de_bl)) dss_nil) dss_nil))))) (dss_cons (ds_asg flatE nd (by rfl) (by first | exact Or.inl rfl | exact Or.inr rfl) (DF.toE (df_lst (da_cons de_non (da_cons (DF.toE (df_lst da_nil)) (da_cons de_str (da_cons (de_tup (da_cons (de_tup (da_cons de_str da_nil)) da_nil)) (da_cons (de_tup (da_cons (de_tup (da_cons de_str (da_cons (de_ix (db_name (pv 5)) (DE.b de_int) (fun _ _ => rfl)) da_nil))) da_nil)) (da_cons (de_tup (da_cons (de_tup (da_cons de_str (da_cons de_int da_nil))) da_nil)) (da_cons (de_tup (da_cons (de_tup (da_cons de_str (da_cons de_bl da_nil))) da_nil)) da_nil)))))))))) (dss_cons (ds_asg flatE nd (by rfl) (by first | exact Or.inl rfl | exact Or.inr rfl) (DF.toE (df_bin (of_cat kl) (db_name (pv 7)) (DF.b (df_lst (da_cons (de_bin od_mul (DE.b (de_tup (da_cons (de_tup (da_cons de_str (da_cons de_int da_nil))) da_nil))) (DE.b de_int)) (da_cons (de_tup (da_cons (de_tup (da_cons de_str (da_cons (de_tup (da_cons de_str (da_cons (de_tup (da_cons de_str (da_cons de_int da_nil))) da_nil))) da_nil))) da_nil)) (da_cons (de_tup (da_cons (de_tup (da_cons de_str (da_cons (de_tup (da_cons de_str da_nil)) da_nil))) da_nil)) da_nil)))))))) (dss_cons (ds_asg flatE nd (by rfl) (by first | exact Or.inl rfl | exact Or.inr rfl) (DF.toE (df_bin (of_cat kl) (db_name (pv 7)) (DF.b (df_lst (da_cons (de_tup (da_cons (de_tup (da_cons de_str (da_cons de_int (da_cons de_int da_nil)))) da_nil)) (da_cons (de_tup (da_cons de_str (da_cons de_int da_nil))) (da_cons (de_tup (da_cons (de_tup (da_cons de_str (da_cons de_int da_nil))) da_nil)) da_nil)))))))) (dss_cons (ds_for flatE (passes_of rfl) (by rfl) (di_seq (de_name (pv 7))) (dg_name (pg_name (i := 8) nd (by rfl) (by first | exact Or.inl rfl | exact Or.inr rfl))) (dss_cons (ds_if (O' := []) flatE (dt_cmp (od_ne hr.units) (DE.b (de_callH (js := [5, 8]) (N := ["rule", "odd"]) (ps := []) (fr := ["rule", "odd"]) (kl := 9) G__law_word (hr.mono (by decide)) hp (by rfl) (dlam_here TB (by rfl) htm htu da_nil (hfree := (NdefX.ndef_free (sc := defScope (top 47)) (fr := ["rule", "odd"]) (by decide +kernel)))) (NdefX.nscope_by (by decide +kernel)) (fun _ _ _ _ _ us hl => match us, hl with | [], _ => rfl) (NdefX.ndef_free (sc := defScope (top 47)) (fr := ["rule", "odd"]) (by decide +kernel)) (NdefX.ndef_fr (sc := defScope (top 47)) (by decide +kernel)) (by rfl) (by decide) (fun f c2 A outer s H E hr hp => (de_call G_holds (hr.mono (by decide)) hp (by rfl) (da_cons (de_name (pv 0)) (da_cons (de_name (pv 1)) (da_cons de_non da_nil))))))) (DE.b de_str) (nomark _)) (dss_one (ds_ret flatE de_bl)) dss_nil) dss_nil)) (dss_cons (ds_if (O' := []) flatE (dt_cmp (od_ne hr.units) (DE.b (de_callH (js := [5]) (N := ["rule"]) (ps := []) (fr := ["rule"]) (kl := 9) G__law_word (hr.mono (by decide)) hp (by rfl) (dlam_here TB (by rfl) htm htu da_nil (hfree := (NdefX.ndef_free (sc := defScope (top 47)) (fr := ["rule"]) (by decide +kernel)))) (NdefX.nscope_by (by decide +kernel)) (fun _ _ _ _ _ us hl => match us, hl with | [], _ => rfl) (NdefX.ndef_free (sc := defScope (top 47)) (fr := ["rule"]) (by decide +kernel)) (NdefX.ndef_fr (sc := defScope (top 47)) (by decide +kernel)) (by rfl) (by decide) (fun f c2 A outer s H E hr hp => (de_call G_holds (hr.mono (by decide)) hp (by rfl) (da_cons (de_name (pv 0)) (da_cons (de_tup da_nil) (da_cons (de_tup (da_cons (de_ix (db_name (pv 0)) (DE.b de_int) (fun _ _ => rfl)) da_nil)) da_nil))))))) (DE.b de_str) (nomark _)) (dss_one (ds_ret flatE de_bl)) dss_nil) dss_nil))))))) (fun σ h => by rw [h]; exact (by decide : 4 < N_law.length)))) (dss_cons (ds_asg flatE nd (by rfl) (by first | exact Or.inl rfl | exact Or.inr rfl) (DF.toE (df_lst (da_cons (de_tup (da_cons (de_tup (da_cons de_str (da_cons de_int da_nil))) (da_cons (de_tup (da_cons de_int (da_cons de_int da_nil))) da_nil))) (da_cons (de_tup (da_cons (de_tup (da_cons de_str (da_cons de_int da_nil))) (da_cons (de_tup (da_cons de_int (da_cons de_int da_nil))) da_nil))) (da_cons (de_tup (da_cons (de_tup (da_cons de_str (da_cons de_int da_nil))) (da_cons (de_tup (da_cons de_int (da_cons de_int da_nil))) da_nil))) (da_cons (de_tup (da_cons (de_tup (da_cons de_str (da_cons de_int da_nil))) (da_cons (de_tup da_nil) da_nil))) da_nil))))))) (dss_cons (ds_asg flatE nd (by rfl) (by first | exact Or.inl rfl | exact Or.inr rfl) (DF.toE (df_bin (of_cat kl) (db_name (pv 2)) (DF.b (df_lst (da_cons (de_tup (da_cons (de_tup (da_cons de_str (da_cons de_int da_nil))) (da_cons (de_tup da_nil) da_nil))) (da_cons (de_tup (da_cons (de_tup (da_cons de_str (da_cons de_int (da_cons de_int da_nil)))) (da_cons (de_tup (da_cons de_int (da_cons de_int (da_cons de_int (da_cons de_int da_nil))))) da_nil))) (da_cons (de_tup (da_cons (de_tup (da_cons de_str (da_cons de_int (da_cons de_int da_nil)))) (da_cons (de_tup (da_cons de_int (da_cons de_int (da_cons de_int da_nil)))) da_nil))) da_nil)))))))) (dss_cons (ds_asg flatE nd (by rfl) (by first | exact Or.inl rfl | exact Or.inr rfl) (DF.toE (df_bin (of_cat kl) (db_name (pv 2)) (DF.b (df_lst (da_cons (de_tup (da_cons (de_tup (da_cons de_str (da_cons (de_tup (da_cons de_str (da_cons de_int da_nil))) da_nil))) (da_cons (de_tup da_nil) da_nil))) (da_cons (de_tup (da_cons (de_tup (da_cons de_str (da_cons de_int (da_cons de_int da_nil)))) (da_cons (de_tup (da_cons de_int (da_cons de_int (da_cons de_int (da_cons de_int da_nil))))) da_nil))) (da_cons (de_tup (da_cons (de_tup (da_cons de_str (da_cons de_int da_nil))) (da_cons (de_tup (da_cons de_int (da_cons de_int (da_cons de_int (da_cons de_int da_nil))))) da_nil))) da_nil)))))))) (dss_cons (ds_asg flatE nd (by rfl) (by first | exact Or.inl rfl | exact Or.inr rfl) (DF.toE (df_bin (of_cat kl) (db_name (pv 2)) (DF.b (df_lst (da_cons (de_tup (da_cons (de_tup (da_cons de_str (da_cons de_int da_nil))) (da_cons (de_tup (da_cons de_int (da_cons de_int da_nil))) da_nil))) (da_cons (de_tup (da_cons (de_tup (da_cons de_str (da_cons de_int da_nil))) (da_cons (de_tup (da_cons de_int (da_cons de_int da_nil))) da_nil))) da_nil))))))) (dss_cons (ds_asg flatE nd (by rfl) (by first | exact Or.inl rfl | exact Or.inr rfl) (DF.toE (df_lst (da_cons de_bl (da_cons de_bl (da_cons de_bl (da_cons de_bl (da_cons de_bl (da_cons de_bl (da_cons de_bl (da_cons de_bl (da_cons de_bl (da_cons de_bl (da_cons de_bl (da_cons de_bl da_nil))))))))))))))) (dss_one (ds_ret flatE (de_cmp (od_eq hr.units) (DF.b (df_comp (own := [("claim", 12), ("word", 10)]) (by rfl) nd (dj_seq (db_name (pv 2))) (blkOk_by (N := N_law) (sc := defScope (top 47)) (own := [("claim", 12), ("word", 10)]) (by decide +kernel)) ⟨_, fun _ _ _ _ _ => pg_tup (n := 2) (by rfl) (pgs_cons (pg_name (i := 12) nd (by rfl) (by first | exact Or.inl rfl | exact Or.inr rfl)) (pgs_cons (pg_name (i := 10) nd (by rfl) (by first | exact Or.inl rfl | exact Or.inr rfl)) pgs_nil)), dgo_tup (dgo_cons (dgo_name 12) (dgo_cons (dgo_name 10) dgo_nil))⟩ (fun _ _ _ _ _ => dts_nil) (fun _ _ _ _ _ => (de_call G_holds (hr.mono (by decide)) passE0 (by rfl) (da_cons (de_tup (da_cons de_int (da_cons (de_tup da_nil) da_nil))) (da_cons (de_tup (da_cons (de_name (pv 12)) da_nil)) (da_cons (de_name (pv 10)) da_nil))))))) (db_name (pv 3)) (nomark _))))))))))
def L_law_1 : Rho → R Fl := (setE 5 (fun ρ => ((fun ρ => ((fun ρ => (getS ρ 4).bind fun _ => ((fun ρ => ((fun ρ => ((fun ρ => ((fC (.int 2)) ρ).bind fun d => ((fun ρ => ((fC (.int 3)) ρ).bind fun d => ((fun _ => R.ok []) ρ).bind fun ds => R.ok (d :: ds)) ρ).bind fun ds => R.ok (d :: ds)) ρ).bind mkLst) ρ).bind fun d => ((fun _ => R.ok []) ρ).bind fun ds => R.ok (d :: ds)) ρ).bind (chkN 2 F__law_choice)) ρ).bind fun d => ((fun ρ => ((fun ρ => ((fun _ => R.ok []) ρ).bind mkTup) ρ).bind fun d => ((fun _ => R.ok []) ρ).bind fun ds => R.ok (d :: ds)) ρ).bind fun ds => R.ok (d :: ds)) ρ).bind mkTup))
def L_law_2 : Rho → R Fl := (setE 9 (fun ρ => (getS ρ 4).bind fun _ => ((fun ρ => ((fBin gIx (fun ρ => getV ρ 5) (fC (.int 0))) ρ).bind fun d => ((fun ρ => ((fC (.int 2)) ρ).bind fun d => ((fun _ => R.ok []) ρ).bind fun ds => R.ok (d :: ds)) ρ).bind fun ds => R.ok (d :: ds)) ρ).bind (chkN 3 F__law_claims)))
def L_law_3 : Rho → R Fl := (setZ 10 (fun ρ => (getS ρ 4).bind fun _ => ((fun ρ => ((fBin gIx (fun ρ => getV ρ 5) (fC (.int 0))) ρ).bind fun d => ((fun ρ => ((fun ρ => (getS ρ 4).bind fun _ => ((fun ρ => ((fun ρ => ((fun ρ => ((fC (.int 2)) ρ).bind fun d => ((fun ρ => ((fC (.int 6)) ρ).bind fun d => ((fun ρ => ((fC (.int 60)) ρ).bind fun d => ((fun _ => R.ok []) ρ).bind fun ds => R.ok (d :: ds)) ρ).bind fun ds => R.ok (d :: ds)) ρ).bind fun ds => R.ok (d :: ds)) ρ).bind mkLst) ρ).bind fun d => ((fun _ => R.ok []) ρ).bind fun ds => R.ok (d :: ds)) ρ).bind (chkN 2 F__law_choice)) ρ).bind fun d => ((fun _ => R.ok []) ρ).bind fun ds => R.ok (d :: ds)) ρ).bind fun ds => R.ok (d :: ds)) ρ).bind fun ds => chkN 3 F__law_corridor ds))
def L_law_4 : Rho → R Fl := (setE 11 (fun ρ => ((fun ρ => ((fun ρ => getV ρ 5) ρ).bind fun d => ((fun ρ => ((fun ρ => getV ρ 9) ρ).bind fun d => ((fun ρ => ((fun ρ => getV ρ 10) ρ).bind fun d => ((fun _ => R.ok []) ρ).bind fun ds => R.ok (d :: ds)) ρ).bind fun ds => R.ok (d :: ds)) ρ).bind fun ds => R.ok (d :: ds)) ρ).bind (chk 3 F_holds)))
def L_law_5 : Rho → R Fl := (fun ρ => ((fun ρ => ((fun ρ => ((fun ρ => ((fIsi "bool" (fun ρ => getV ρ 11)) ρ).bind tru) ρ).bind fun b => R.ok (!b)) ρ).bind fun k => if k = true then R.ok true else (fun ρ => (fBin gNe (fun ρ => getV ρ 11) (fun ρ => ((fun ρ => ((fun ρ => getV ρ 9) ρ).bind fun d => ((fun ρ => (getT ρ 10).bind fun d => ((fun _ => R.ok []) ρ).bind fun ss => R.ok (SV.tf d :: ss)) ρ).bind fun ss => R.ok (SV.d d :: ss)) ρ).bind (chkV 2 F__law_all_so)) ρ).bind tr) ρ) ρ).bind fun k => if k = true then (retE (fC (.bool false))) ρ else (fun ρ => R.ok (.nx ρ)) ρ)
def L_law_6 : Rho → R Fl := (fSeq L_law_2 (fSeq L_law_3 (fSeq L_law_4 (fSeq L_law_5 (fun ρ => R.ok (.nx ρ))))))
def L_law_7 : Rho → R Fl := (setE 7 (fun ρ => ((fun ρ => ((fC .none) ρ).bind fun d => ((fun ρ => ((fun ρ => ((fun _ => R.ok []) ρ).bind mkLst) ρ).bind fun d => ((fun ρ => ((fC (.str "none")) ρ).bind fun d => ((fun ρ => ((fun ρ => ((fun ρ => ((fun ρ => ((fun ρ => ((fC (.str "none")) ρ).bind fun d => ((fun _ => R.ok []) ρ).bind fun ds => R.ok (d :: ds)) ρ).bind mkTup) ρ).bind fun d => ((fun _ => R.ok []) ρ).bind fun ds => R.ok (d :: ds)) ρ).bind mkTup) ρ).bind fun d => ((fun ρ => ((fun ρ => ((fun ρ => ((fun ρ => ((fun ρ => ((fC (.str "none")) ρ).bind fun d => ((fun ρ => ((fBin gIx (fun ρ => getV ρ 5) (fC (.int 0))) ρ).bind fun d => ((fun _ => R.ok []) ρ).bind fun ds => R.ok (d :: ds)) ρ).bind fun ds => R.ok (d :: ds)) ρ).bind mkTup) ρ).bind fun d => ((fun _ => R.ok []) ρ).bind fun ds => R.ok (d :: ds)) ρ).bind mkTup) ρ).bind fun d => ((fun ρ => ((fun ρ => ((fun ρ => ((fun ρ => ((fun ρ => ((fC (.str "beside")) ρ).bind fun d => ((fun ρ => ((fC (.int 0)) ρ).bind fun d => ((fun _ => R.ok []) ρ).bind fun ds => R.ok (d :: ds)) ρ).bind fun ds => R.ok (d :: ds)) ρ).bind mkTup) ρ).bind fun d => ((fun _ => R.ok []) ρ).bind fun ds => R.ok (d :: ds)) ρ).bind mkTup) ρ).bind fun d => ((fun ρ => ((fun ρ => ((fun ρ => ((fun ρ => ((fun ρ => ((fC (.str "first")) ρ).bind fun d => ((fun ρ => ((fC (.bool true)) ρ).bind fun d => ((fun _ => R.ok []) ρ).bind fun ds => R.ok (d :: ds)) ρ).bind fun ds => R.ok (d :: ds)) ρ).bind mkTup) ρ).bind fun d => ((fun _ => R.ok []) ρ).bind fun ds => R.ok (d :: ds)) ρ).bind mkTup) ρ).bind fun d => ((fun _ => R.ok []) ρ).bind fun ds => R.ok (d :: ds)) ρ).bind fun ds => R.ok (d :: ds)) ρ).bind fun ds => R.ok (d :: ds)) ρ).bind fun ds => R.ok (d :: ds)) ρ).bind fun ds => R.ok (d :: ds)) ρ).bind fun ds => R.ok (d :: ds)) ρ).bind fun ds => R.ok (d :: ds)) ρ).bind mkLst))
def L_law_8 : Rho → R Fl := (setE 7 (fBin gCat (fun ρ => getV ρ 7) (fun ρ => ((fun ρ => ((fBin gMul (fun ρ => ((fun ρ => ((fun ρ => ((fun ρ => ((fC (.str "none")) ρ).bind fun d => ((fun ρ => ((fC (.int 0)) ρ).bind fun d => ((fun _ => R.ok []) ρ).bind fun ds => R.ok (d :: ds)) ρ).bind fun ds => R.ok (d :: ds)) ρ).bind mkTup) ρ).bind fun d => ((fun _ => R.ok []) ρ).bind fun ds => R.ok (d :: ds)) ρ).bind mkTup) (fC (.int 3))) ρ).bind fun d => ((fun ρ => ((fun ρ => ((fun ρ => ((fun ρ => ((fun ρ => ((fC (.str "not")) ρ).bind fun d => ((fun ρ => ((fun ρ => ((fun ρ => ((fC (.str "not")) ρ).bind fun d => ((fun ρ => ((fun ρ => ((fun ρ => ((fC (.str "none")) ρ).bind fun d => ((fun ρ => ((fC (.int 0)) ρ).bind fun d => ((fun _ => R.ok []) ρ).bind fun ds => R.ok (d :: ds)) ρ).bind fun ds => R.ok (d :: ds)) ρ).bind mkTup) ρ).bind fun d => ((fun _ => R.ok []) ρ).bind fun ds => R.ok (d :: ds)) ρ).bind fun ds => R.ok (d :: ds)) ρ).bind mkTup) ρ).bind fun d => ((fun _ => R.ok []) ρ).bind fun ds => R.ok (d :: ds)) ρ).bind fun ds => R.ok (d :: ds)) ρ).bind mkTup) ρ).bind fun d => ((fun _ => R.ok []) ρ).bind fun ds => R.ok (d :: ds)) ρ).bind mkTup) ρ).bind fun d => ((fun ρ => ((fun ρ => ((fun ρ => ((fun ρ => ((fun ρ => ((fC (.str "not")) ρ).bind fun d => ((fun ρ => ((fun ρ => ((fun ρ => ((fC (.str "none")) ρ).bind fun d => ((fun _ => R.ok []) ρ).bind fun ds => R.ok (d :: ds)) ρ).bind mkTup) ρ).bind fun d => ((fun _ => R.ok []) ρ).bind fun ds => R.ok (d :: ds)) ρ).bind fun ds => R.ok (d :: ds)) ρ).bind mkTup) ρ).bind fun d => ((fun _ => R.ok []) ρ).bind fun ds => R.ok (d :: ds)) ρ).bind mkTup) ρ).bind fun d => ((fun _ => R.ok []) ρ).bind fun ds => R.ok (d :: ds)) ρ).bind fun ds => R.ok (d :: ds)) ρ).bind fun ds => R.ok (d :: ds)) ρ).bind mkLst)))
def L_law_9 : Rho → R Fl := (setE 7 (fBin gCat (fun ρ => getV ρ 7) (fun ρ => ((fun ρ => ((fun ρ => ((fun ρ => ((fun ρ => ((fun ρ => ((fC (.str "some")) ρ).bind fun d => ((fun ρ => ((fC (.int 0)) ρ).bind fun d => ((fun ρ => ((fC (.int 1)) ρ).bind fun d => ((fun _ => R.ok []) ρ).bind fun ds => R.ok (d :: ds)) ρ).bind fun ds => R.ok (d :: ds)) ρ).bind fun ds => R.ok (d :: ds)) ρ).bind mkTup) ρ).bind fun d => ((fun _ => R.ok []) ρ).bind fun ds => R.ok (d :: ds)) ρ).bind mkTup) ρ).bind fun d => ((fun ρ => ((fun ρ => ((fun ρ => ((fC (.str "none")) ρ).bind fun d => ((fun ρ => ((fC (.int 0)) ρ).bind fun d => ((fun _ => R.ok []) ρ).bind fun ds => R.ok (d :: ds)) ρ).bind fun ds => R.ok (d :: ds)) ρ).bind mkTup) ρ).bind fun d => ((fun ρ => ((fun ρ => ((fun ρ => ((fun ρ => ((fun ρ => ((fC (.str "all")) ρ).bind fun d => ((fun ρ => ((fC (.int 0)) ρ).bind fun d => ((fun _ => R.ok []) ρ).bind fun ds => R.ok (d :: ds)) ρ).bind fun ds => R.ok (d :: ds)) ρ).bind mkTup) ρ).bind fun d => ((fun _ => R.ok []) ρ).bind fun ds => R.ok (d :: ds)) ρ).bind mkTup) ρ).bind fun d => ((fun _ => R.ok []) ρ).bind fun ds => R.ok (d :: ds)) ρ).bind fun ds => R.ok (d :: ds)) ρ).bind fun ds => R.ok (d :: ds)) ρ).bind mkLst)))
def L_law_10 : Rho → R Fl := (fun ρ => ((fun ρ => (fBin gNe (callH 1 2 [5, 8] F__law_word (fun ρ => ((fun ρ => ((fun ρ => getV ρ 0) ρ).bind fun d => ((fun ρ => ((fun ρ => getV ρ 1) ρ).bind fun d => ((fun ρ => ((fC .none) ρ).bind fun d => ((fun _ => R.ok []) ρ).bind fun ds => R.ok (d :: ds)) ρ).bind fun ds => R.ok (d :: ds)) ρ).bind fun ds => R.ok (d :: ds)) ρ).bind (chk 3 F_holds)) (fun ρ => ((fun _ => R.ok []) ρ).bind fun ds => R.ok (SV.lam :: ds.map .d))) (fC (.str "claims")) ρ).bind tr) ρ).bind fun k => if k = true then (retE (fC (.bool false))) ρ else (fun ρ => R.ok (.nx ρ)) ρ)
def L_law_11 : Rho → R Fl := (fSeq L_law_10 (fun ρ => R.ok (.nx ρ)))
def L_law_12 : Rho → R Fl := (fFor (fun ρ => ((fun ρ => getV ρ 7) ρ).bind seqOf) (tg1 8) L_law_11)
def L_law_13 : Rho → R Fl := (fun ρ => ((fun ρ => (fBin gNe (callH 1 1 [5] F__law_word (fun ρ => ((fun ρ => ((fun ρ => getV ρ 0) ρ).bind fun d => ((fun ρ => ((fun ρ => ((fun _ => R.ok []) ρ).bind mkTup) ρ).bind fun d => ((fun ρ => ((fun ρ => ((fun ρ => ((fBin gIx (fun ρ => getV ρ 0) (fC (.int 0))) ρ).bind fun d => ((fun _ => R.ok []) ρ).bind fun ds => R.ok (d :: ds)) ρ).bind mkTup) ρ).bind fun d => ((fun _ => R.ok []) ρ).bind fun ds => R.ok (d :: ds)) ρ).bind fun ds => R.ok (d :: ds)) ρ).bind fun ds => R.ok (d :: ds)) ρ).bind (chk 3 F_holds)) (fun ρ => ((fun _ => R.ok []) ρ).bind fun ds => R.ok (SV.lam :: ds.map .d))) (fC (.str "corridor")) ρ).bind tr) ρ).bind fun k => if k = true then (retE (fC (.bool false))) ρ else (fun ρ => R.ok (.nx ρ)) ρ)
def L_law_14 : Rho → R Fl := (fSrc 4 (fun ρ => ((fun ρ => ((fun ρ => getV ρ 0) ρ).bind fun d => ((fun ρ => ((fun ρ => getV ρ 1) ρ).bind fun d => ((fun _ => R.ok []) ρ).bind fun ds => R.ok (d :: ds)) ρ).bind fun ds => R.ok (d :: ds)) ρ).bind (chk 2 F__law_source)) (fSeq L_law_1 (fSeq (fFor (fun ρ => ((fC (.int 8)) ρ).bind rgOf) (tg1 6) L_law_6) (fSeq L_law_7 (fSeq L_law_8 (fSeq L_law_9 (fSeq L_law_12 (fSeq L_law_13 (fun ρ => R.ok (.nx ρ))))))))))
def L_law_15 : Rho → R Fl := (fFor (fun ρ => ((fBin gAdd (fC (.int 1)) (fBin gMin (fC1 gLen (fun ρ => getV ρ 0)) (fC (.int 10)))) ρ).bind rgOf) (tg1 1) L_law_14)
def L_law_16 : Rho → R Fl := (setE 2 (fun ρ => ((fun ρ => ((fun ρ => ((fun ρ => ((fun ρ => ((fun ρ => ((fC (.str "first")) ρ).bind fun d => ((fun ρ => ((fC (.int 0)) ρ).bind fun d => ((fun _ => R.ok []) ρ).bind fun ds => R.ok (d :: ds)) ρ).bind fun ds => R.ok (d :: ds)) ρ).bind mkTup) ρ).bind fun d => ((fun ρ => ((fun ρ => ((fun ρ => ((fC (.int 0)) ρ).bind fun d => ((fun ρ => ((fC (.int 1)) ρ).bind fun d => ((fun _ => R.ok []) ρ).bind fun ds => R.ok (d :: ds)) ρ).bind fun ds => R.ok (d :: ds)) ρ).bind mkTup) ρ).bind fun d => ((fun _ => R.ok []) ρ).bind fun ds => R.ok (d :: ds)) ρ).bind fun ds => R.ok (d :: ds)) ρ).bind mkTup) ρ).bind fun d => ((fun ρ => ((fun ρ => ((fun ρ => ((fun ρ => ((fun ρ => ((fC (.str "first")) ρ).bind fun d => ((fun ρ => ((fC (.int 1)) ρ).bind fun d => ((fun _ => R.ok []) ρ).bind fun ds => R.ok (d :: ds)) ρ).bind fun ds => R.ok (d :: ds)) ρ).bind mkTup) ρ).bind fun d => ((fun ρ => ((fun ρ => ((fun ρ => ((fC (.int 0)) ρ).bind fun d => ((fun ρ => ((fC (.int 1)) ρ).bind fun d => ((fun _ => R.ok []) ρ).bind fun ds => R.ok (d :: ds)) ρ).bind fun ds => R.ok (d :: ds)) ρ).bind mkTup) ρ).bind fun d => ((fun _ => R.ok []) ρ).bind fun ds => R.ok (d :: ds)) ρ).bind fun ds => R.ok (d :: ds)) ρ).bind mkTup) ρ).bind fun d => ((fun ρ => ((fun ρ => ((fun ρ => ((fun ρ => ((fun ρ => ((fC (.str "last")) ρ).bind fun d => ((fun ρ => ((fC (.int 1)) ρ).bind fun d => ((fun _ => R.ok []) ρ).bind fun ds => R.ok (d :: ds)) ρ).bind fun ds => R.ok (d :: ds)) ρ).bind mkTup) ρ).bind fun d => ((fun ρ => ((fun ρ => ((fun ρ => ((fC (.int 0)) ρ).bind fun d => ((fun ρ => ((fC (.int 1)) ρ).bind fun d => ((fun _ => R.ok []) ρ).bind fun ds => R.ok (d :: ds)) ρ).bind fun ds => R.ok (d :: ds)) ρ).bind mkTup) ρ).bind fun d => ((fun _ => R.ok []) ρ).bind fun ds => R.ok (d :: ds)) ρ).bind fun ds => R.ok (d :: ds)) ρ).bind mkTup) ρ).bind fun d => ((fun ρ => ((fun ρ => ((fun ρ => ((fun ρ => ((fun ρ => ((fC (.str "first")) ρ).bind fun d => ((fun ρ => ((fC (.int 0)) ρ).bind fun d => ((fun _ => R.ok []) ρ).bind fun ds => R.ok (d :: ds)) ρ).bind fun ds => R.ok (d :: ds)) ρ).bind mkTup) ρ).bind fun d => ((fun ρ => ((fun ρ => ((fun _ => R.ok []) ρ).bind mkTup) ρ).bind fun d => ((fun _ => R.ok []) ρ).bind fun ds => R.ok (d :: ds)) ρ).bind fun ds => R.ok (d :: ds)) ρ).bind mkTup) ρ).bind fun d => ((fun _ => R.ok []) ρ).bind fun ds => R.ok (d :: ds)) ρ).bind fun ds => R.ok (d :: ds)) ρ).bind fun ds => R.ok (d :: ds)) ρ).bind fun ds => R.ok (d :: ds)) ρ).bind mkLst))
def L_law_17 : Rho → R Fl := (setE 2 (fBin gCat (fun ρ => getV ρ 2) (fun ρ => ((fun ρ => ((fun ρ => ((fun ρ => ((fun ρ => ((fun ρ => ((fC (.str "even")) ρ).bind fun d => ((fun ρ => ((fC (.int 0)) ρ).bind fun d => ((fun _ => R.ok []) ρ).bind fun ds => R.ok (d :: ds)) ρ).bind fun ds => R.ok (d :: ds)) ρ).bind mkTup) ρ).bind fun d => ((fun ρ => ((fun ρ => ((fun _ => R.ok []) ρ).bind mkTup) ρ).bind fun d => ((fun _ => R.ok []) ρ).bind fun ds => R.ok (d :: ds)) ρ).bind fun ds => R.ok (d :: ds)) ρ).bind mkTup) ρ).bind fun d => ((fun ρ => ((fun ρ => ((fun ρ => ((fun ρ => ((fun ρ => ((fC (.str "beside")) ρ).bind fun d => ((fun ρ => ((fC (.int 1)) ρ).bind fun d => ((fun ρ => ((fC (.int 1)) ρ).bind fun d => ((fun _ => R.ok []) ρ).bind fun ds => R.ok (d :: ds)) ρ).bind fun ds => R.ok (d :: ds)) ρ).bind fun ds => R.ok (d :: ds)) ρ).bind mkTup) ρ).bind fun d => ((fun ρ => ((fun ρ => ((fun ρ => ((fC (.int 1)) ρ).bind fun d => ((fun ρ => ((fC (.int 0)) ρ).bind fun d => ((fun ρ => ((fC (.int 1)) ρ).bind fun d => ((fun ρ => ((fC (.int 1)) ρ).bind fun d => ((fun _ => R.ok []) ρ).bind fun ds => R.ok (d :: ds)) ρ).bind fun ds => R.ok (d :: ds)) ρ).bind fun ds => R.ok (d :: ds)) ρ).bind fun ds => R.ok (d :: ds)) ρ).bind mkTup) ρ).bind fun d => ((fun _ => R.ok []) ρ).bind fun ds => R.ok (d :: ds)) ρ).bind fun ds => R.ok (d :: ds)) ρ).bind mkTup) ρ).bind fun d => ((fun ρ => ((fun ρ => ((fun ρ => ((fun ρ => ((fun ρ => ((fC (.str "beside")) ρ).bind fun d => ((fun ρ => ((fC (.int 1)) ρ).bind fun d => ((fun ρ => ((fC (.int 1)) ρ).bind fun d => ((fun _ => R.ok []) ρ).bind fun ds => R.ok (d :: ds)) ρ).bind fun ds => R.ok (d :: ds)) ρ).bind fun ds => R.ok (d :: ds)) ρ).bind mkTup) ρ).bind fun d => ((fun ρ => ((fun ρ => ((fun ρ => ((fC (.int 1)) ρ).bind fun d => ((fun ρ => ((fC (.int 0)) ρ).bind fun d => ((fun ρ => ((fC (.int 1)) ρ).bind fun d => ((fun _ => R.ok []) ρ).bind fun ds => R.ok (d :: ds)) ρ).bind fun ds => R.ok (d :: ds)) ρ).bind fun ds => R.ok (d :: ds)) ρ).bind mkTup) ρ).bind fun d => ((fun _ => R.ok []) ρ).bind fun ds => R.ok (d :: ds)) ρ).bind fun ds => R.ok (d :: ds)) ρ).bind mkTup) ρ).bind fun d => ((fun _ => R.ok []) ρ).bind fun ds => R.ok (d :: ds)) ρ).bind fun ds => R.ok (d :: ds)) ρ).bind fun ds => R.ok (d :: ds)) ρ).bind mkLst)))
def L_law_18 : Rho → R Fl := (setE 2 (fBin gCat (fun ρ => getV ρ 2) (fun ρ => ((fun ρ => ((fun ρ => ((fun ρ => ((fun ρ => ((fun ρ => ((fC (.str "not")) ρ).bind fun d => ((fun ρ => ((fun ρ => ((fun ρ => ((fC (.str "last")) ρ).bind fun d => ((fun ρ => ((fC (.int 0)) ρ).bind fun d => ((fun _ => R.ok []) ρ).bind fun ds => R.ok (d :: ds)) ρ).bind fun ds => R.ok (d :: ds)) ρ).bind mkTup) ρ).bind fun d => ((fun _ => R.ok []) ρ).bind fun ds => R.ok (d :: ds)) ρ).bind fun ds => R.ok (d :: ds)) ρ).bind mkTup) ρ).bind fun d => ((fun ρ => ((fun ρ => ((fun _ => R.ok []) ρ).bind mkTup) ρ).bind fun d => ((fun _ => R.ok []) ρ).bind fun ds => R.ok (d :: ds)) ρ).bind fun ds => R.ok (d :: ds)) ρ).bind mkTup) ρ).bind fun d => ((fun ρ => ((fun ρ => ((fun ρ => ((fun ρ => ((fun ρ => ((fC (.str "beside")) ρ).bind fun d => ((fun ρ => ((fC (.int 0)) ρ).bind fun d => ((fun ρ => ((fC (.int 1)) ρ).bind fun d => ((fun _ => R.ok []) ρ).bind fun ds => R.ok (d :: ds)) ρ).bind fun ds => R.ok (d :: ds)) ρ).bind fun ds => R.ok (d :: ds)) ρ).bind mkTup) ρ).bind fun d => ((fun ρ => ((fun ρ => ((fun ρ => ((fC (.int 1)) ρ).bind fun d => ((fun ρ => ((fC (.int 0)) ρ).bind fun d => ((fun ρ => ((fC (.int 0)) ρ).bind fun d => ((fun ρ => ((fC (.int 1)) ρ).bind fun d => ((fun _ => R.ok []) ρ).bind fun ds => R.ok (d :: ds)) ρ).bind fun ds => R.ok (d :: ds)) ρ).bind fun ds => R.ok (d :: ds)) ρ).bind fun ds => R.ok (d :: ds)) ρ).bind mkTup) ρ).bind fun d => ((fun _ => R.ok []) ρ).bind fun ds => R.ok (d :: ds)) ρ).bind fun ds => R.ok (d :: ds)) ρ).bind mkTup) ρ).bind fun d => ((fun ρ => ((fun ρ => ((fun ρ => ((fun ρ => ((fun ρ => ((fC (.str "even")) ρ).bind fun d => ((fun ρ => ((fC (.int 1)) ρ).bind fun d => ((fun _ => R.ok []) ρ).bind fun ds => R.ok (d :: ds)) ρ).bind fun ds => R.ok (d :: ds)) ρ).bind mkTup) ρ).bind fun d => ((fun ρ => ((fun ρ => ((fun ρ => ((fC (.int 1)) ρ).bind fun d => ((fun ρ => ((fC (.int 0)) ρ).bind fun d => ((fun ρ => ((fC (.int 1)) ρ).bind fun d => ((fun ρ => ((fC (.int 1)) ρ).bind fun d => ((fun _ => R.ok []) ρ).bind fun ds => R.ok (d :: ds)) ρ).bind fun ds => R.ok (d :: ds)) ρ).bind fun ds => R.ok (d :: ds)) ρ).bind fun ds => R.ok (d :: ds)) ρ).bind mkTup) ρ).bind fun d => ((fun _ => R.ok []) ρ).bind fun ds => R.ok (d :: ds)) ρ).bind fun ds => R.ok (d :: ds)) ρ).bind mkTup) ρ).bind fun d => ((fun _ => R.ok []) ρ).bind fun ds => R.ok (d :: ds)) ρ).bind fun ds => R.ok (d :: ds)) ρ).bind fun ds => R.ok (d :: ds)) ρ).bind mkLst)))
def L_law_19 : Rho → R Fl := (setE 2 (fBin gCat (fun ρ => getV ρ 2) (fun ρ => ((fun ρ => ((fun ρ => ((fun ρ => ((fun ρ => ((fun ρ => ((fC (.str "some")) ρ).bind fun d => ((fun ρ => ((fC (.int 0)) ρ).bind fun d => ((fun _ => R.ok []) ρ).bind fun ds => R.ok (d :: ds)) ρ).bind fun ds => R.ok (d :: ds)) ρ).bind mkTup) ρ).bind fun d => ((fun ρ => ((fun ρ => ((fun ρ => ((fC (.int 1)) ρ).bind fun d => ((fun ρ => ((fC (.int 1)) ρ).bind fun d => ((fun _ => R.ok []) ρ).bind fun ds => R.ok (d :: ds)) ρ).bind fun ds => R.ok (d :: ds)) ρ).bind mkTup) ρ).bind fun d => ((fun _ => R.ok []) ρ).bind fun ds => R.ok (d :: ds)) ρ).bind fun ds => R.ok (d :: ds)) ρ).bind mkTup) ρ).bind fun d => ((fun ρ => ((fun ρ => ((fun ρ => ((fun ρ => ((fun ρ => ((fC (.str "none")) ρ).bind fun d => ((fun ρ => ((fC (.int 0)) ρ).bind fun d => ((fun _ => R.ok []) ρ).bind fun ds => R.ok (d :: ds)) ρ).bind fun ds => R.ok (d :: ds)) ρ).bind mkTup) ρ).bind fun d => ((fun ρ => ((fun ρ => ((fun ρ => ((fC (.int 1)) ρ).bind fun d => ((fun ρ => ((fC (.int 1)) ρ).bind fun d => ((fun _ => R.ok []) ρ).bind fun ds => R.ok (d :: ds)) ρ).bind fun ds => R.ok (d :: ds)) ρ).bind mkTup) ρ).bind fun d => ((fun _ => R.ok []) ρ).bind fun ds => R.ok (d :: ds)) ρ).bind fun ds => R.ok (d :: ds)) ρ).bind mkTup) ρ).bind fun d => ((fun _ => R.ok []) ρ).bind fun ds => R.ok (d :: ds)) ρ).bind fun ds => R.ok (d :: ds)) ρ).bind mkLst)))
def L_law_20 : Rho → R Fl := (setE 3 (fun ρ => ((fun ρ => ((fC (.bool true)) ρ).bind fun d => ((fun ρ => ((fC (.bool false)) ρ).bind fun d => ((fun ρ => ((fC (.bool true)) ρ).bind fun d => ((fun ρ => ((fC (.bool false)) ρ).bind fun d => ((fun ρ => ((fC (.bool true)) ρ).bind fun d => ((fun ρ => ((fC (.bool true)) ρ).bind fun d => ((fun ρ => ((fC (.bool false)) ρ).bind fun d => ((fun ρ => ((fC (.bool true)) ρ).bind fun d => ((fun ρ => ((fC (.bool true)) ρ).bind fun d => ((fun ρ => ((fC (.bool false)) ρ).bind fun d => ((fun ρ => ((fC (.bool false)) ρ).bind fun d => ((fun ρ => ((fC (.bool true)) ρ).bind fun d => ((fun _ => R.ok []) ρ).bind fun ds => R.ok (d :: ds)) ρ).bind fun ds => R.ok (d :: ds)) ρ).bind fun ds => R.ok (d :: ds)) ρ).bind fun ds => R.ok (d :: ds)) ρ).bind fun ds => R.ok (d :: ds)) ρ).bind fun ds => R.ok (d :: ds)) ρ).bind fun ds => R.ok (d :: ds)) ρ).bind fun ds => R.ok (d :: ds)) ρ).bind fun ds => R.ok (d :: ds)) ρ).bind fun ds => R.ok (d :: ds)) ρ).bind fun ds => R.ok (d :: ds)) ρ).bind fun ds => R.ok (d :: ds)) ρ).bind mkLst))
def L_law_21 : Rho → R Fl := (retE (fBin gEq (fComp [12, 10] (fun ρ => ((fun ρ => getV ρ 2) ρ).bind seqOf) (tgTup 2 (tgCons (tg1 12) (tgCons (tg1 10) tgNil))) (fun _ => R.ok true) (fun ρ => ((fun ρ => ((fun ρ => ((fun ρ => ((fC (.int 2)) ρ).bind fun d => ((fun ρ => ((fun ρ => ((fun _ => R.ok []) ρ).bind mkTup) ρ).bind fun d => ((fun _ => R.ok []) ρ).bind fun ds => R.ok (d :: ds)) ρ).bind fun ds => R.ok (d :: ds)) ρ).bind mkTup) ρ).bind fun d => ((fun ρ => ((fun ρ => ((fun ρ => ((fun ρ => getV ρ 12) ρ).bind fun d => ((fun _ => R.ok []) ρ).bind fun ds => R.ok (d :: ds)) ρ).bind mkTup) ρ).bind fun d => ((fun ρ => ((fun ρ => getV ρ 10) ρ).bind fun d => ((fun _ => R.ok []) ρ).bind fun ds => R.ok (d :: ds)) ρ).bind fun ds => R.ok (d :: ds)) ρ).bind fun ds => R.ok (d :: ds)) ρ).bind (chk 3 F_holds))) (fun ρ => getV ρ 3)))
def LG_law : Rho → R Fl := (fSeq L_law_15 (fSeq L_law_16 (fSeq L_law_17 (fSeq L_law_18 (fSeq L_law_19 (fSeq L_law_20 L_law_21))))))
def F_law : List PyData → R PyData := fun ds => runB N_law.length LG_law ds
end G

set_option Elab.async false
set_option linter.all false
set_option maxRecDepth 100000
set_option maxHeartbeats 400000
namespace G
open PySem DL
/-! ### what the program recognizes -/
def isFrom (d : PyData) (lo hi : Int) : Bool := match d with
  | .int i => decide (lo ≤ i) && decide (i ≤ hi)
  | _ => false
theorem s_is_from (d : PyData) (lo hi : Int) : F_is_from [d, .int lo, .int hi] = .ok (.bool (isFrom d lo hi)) := by
  cases d with
  | int i =>
    simp [F_is_from, g_is_from, isFrom, N_is_from, runS, runF, R.ite_bind]
    split <;> simp_all
    omega
  | _ => rfl
def isTup (d : PyData) (lo hi : Int) : Bool := match d with
  | .tuple ds => decide (lo ≤ ds.length) && decide ((ds.length : Int) ≤ hi)
  | _ => false
theorem s_is_tuple (d : PyData) (lo hi : Int) : F_is_tuple [d, .int lo, .int hi] = .ok (.bool (isTup d lo hi)) := by
  cases d with
  | tuple ds =>
    simp [F_is_tuple, g_is_tuple, isTup, N_is_tuple, runS, runF, R.ite_bind]
    split <;> simp_all
    omega
  | _ => rfl
def isSide (d : PyData) : Bool := match d with
  | .str s => decide (s = "left") || decide (s = "right")
  | _ => false
theorem s_is_side (d : PyData) : F_is_side [d] = .ok (.bool (isSide d)) := by
  cases d with
  | str s =>
    simp [F_is_side, g_is_side, isSide, N_is_side, runS, runF, R.ite_bind, gIn, D_SIDES, inOk, flatD, inD]
    rw [decide_eq_decide.mpr (eq_comm (a := s) (b := "left")), decide_eq_decide.mpr (eq_comm (a := s) (b := "right"))]
  | _ => rfl
def isPair (many notes : Int) (d : PyData) : Bool := match d with
  | .tuple [a, b] => isFrom a 0 (many - 1) && isFrom b 0 (notes - 1)
  | _ => false
def isLine (many notes : Int) (d : PyData) : Bool := match d with
  | .tuple ds => decide ((ds.length : Int) = many) && ds.all (isPair many notes)
  | _ => false
theorem pair_two (d : PyData) : isTup d 2 2 = true ↔ ∃ a b, d = .tuple [a, b] := by
  constructor
  · intro h
    cases d with
    | tuple ds =>
      simp [isTup] at h
      match ds, h with
      | [a, b], _ => exact ⟨a, b, rfl⟩
      | [], h => simp at h
      | [_], h => simp at h
      | _ :: _ :: _ :: _, h => simp at h; omega
    | _ => simp [isTup] at h
  · rintro ⟨a, b, rfl⟩
    simp [isTup]
theorem s_is_line (many notes : Int) (d : PyData) (hm : 0 ≤ many ∧ many < 100) : F_is_line [.int many, .int notes, d] = .ok (.bool (isLine many notes d)) := by
  by_cases ht : isTup d many many = true
  · cases d with
    | tuple ds =>
      have hl : (ds.length : Int) = many := by simp [isTup] at ht; omega
      have hz : ds.length ≤ sizeLine := by show ds.length ≤ 2 ^ 24; omega
      simp [F_is_line, g_is_line, N_is_line, runS, runF, R.ite_bind, s_is_tuple, ht, hz]
      rw [compL_map (h := fun d => .bool (isTup d 2 2)) fun d _ => by simp [runS, runF, R.ite_bind, s_is_tuple]]
      simp [gAll_map]
      by_cases h1 : ∃ x, x ∈ ds ∧ isTup x 2 2 = false
      · rw [if_pos h1]
        obtain ⟨x, hx, h2⟩ := h1
        simp [isLine, hl]
        refine ⟨x, hx, ?_⟩
        unfold isPair
        split
        · simp [isTup] at h2
        · rfl
      · rw [if_neg h1]
        have h1 : ∀ x, x ∈ ds → isTup x 2 2 = true := by simpa using h1
        simp [hz]
        rw [compL_map (h := fun d => .bool (isPair many notes d)) fun d hd => by
          obtain ⟨a, b, rfl⟩ := (pair_two d).mp (h1 d hd)
          simp [s_is_from, isPair]
          split <;> simp_all]
        simp [gAll_map, isLine, hl]
    | _ => simp [isTup] at ht
  · simp [F_is_line, g_is_line, N_is_line, runS, runF, R.ite_bind, s_is_tuple, ht]
    cases d with
    | tuple ds =>
      simp [isTup] at ht
      simp [isLine]
      intro h; omega
    | _ => rfl
def isTable (many : Int) (d : PyData) : Bool := match d with
  | .tuple ds => decide (1 ≤ ds.length) && decide (ds.length ≤ 3) && ds.all (isLine many ds.length)
  | _ => false
theorem s_is_table (many : Int) (d : PyData) (hm : 0 ≤ many ∧ many < 100) : F_is_table [.int many, d] = .ok (.bool (isTable many d)) := by
  by_cases ht : isTup d 1 3 = true
  · cases d with
    | tuple ds =>
      have hl : 1 ≤ ds.length ∧ ds.length ≤ 3 := by simp [isTup] at ht; omega
      have hz : ds.length ≤ sizeLine := by show ds.length ≤ 2 ^ 24; omega
      simp [F_is_table, g_is_table, N_is_table, runS, runF, R.ite_bind, s_is_tuple, ht, hz]
      rw [compL_map (h := fun d => .bool (isLine many ds.length d)) fun d _ => by simp [runS, runF, R.ite_bind, s_is_line _ _ _ hm]]
      simp [gAll_map, isTable, hl]
    | _ => simp [isTup] at ht
  · simp [F_is_table, g_is_table, N_is_table, runS, runF, R.ite_bind, s_is_tuple, ht]
    cases d with
    | tuple ds =>
      simp [isTup] at ht
      simp [isTable]
      intro h1 h2; omega
    | _ => rfl
def stand (many : Int) (d : PyData) : Bool := isFrom d 0 (many - 1)
def wanted (w : Str) : Int := if ("first" : Str) = w then 4 else if ("second" : Str) = w then 4 else if ("until" : Str) = w then 5 else if ("behind" : Str) = w then 5 else 0
theorem ne_we : ¬ ("walk" : Str) = "each" := by decide +kernel
theorem ne_ae : ¬ ("again" : Str) = "each" := by decide +kernel
theorem look_wanted (w : Str) : (lookD [(.str "first", .int 4), (.str "second", .int 4), (.str "until", .int 5), (.str "behind", .int 5)] (.inr w)).getD (.int 0) = .int (wanted w) := by
  simp only [lookD_cons, keyOf_s, Option.some.injEq, Sum.inr.injEq, lookD_nil]
  unfold wanted
  repeat' split
  all_goals rfl
theorem md_plain : mkDict [(.str "first", .int 4), (.str "second", .int 4), (.str "until", .int 5), (.str "behind", .int 5)] = .ok [(.str "first", .int 4), (.str "second", .int 4), (.str "until", .int 5), (.str "behind", .int 5)] := by rfl
def isPlain (many : Int) (d : PyData) : Bool := match d with
  | .tuple (.str w :: b :: c :: r) => if w = "each" then r.isEmpty && (stand many b && stand many c) else isSide b && (if w = "walk" then r.isEmpty && isTable many c else decide (3 + (r.length : Int) = wanted w) && (stand many c && r.all (stand many)))
  | _ => false
theorem wanted_le (w : Str) : wanted w ≤ 5 := by
  unfold wanted
  repeat' split
  all_goals omega
theorem s_is_plain (many : Int) (d : PyData) (hm : 0 ≤ many ∧ many < 100) : F_is_plain [.int many, d] = .ok (.bool (isPlain many d)) := by
  by_cases ht : isTup d 3 5 = true
  · cases d with
    | tuple ds =>
      have hl : 3 ≤ ds.length ∧ ds.length ≤ 5 := by simp [isTup] at ht; omega
      match ds, hl with
      | a :: b :: c :: r, hl =>
        have hr : r.length ≤ 2 := by simp at hl; omega
        cases a with
        | str w =>
          have hz : r.length + 1 + 1 ≤ sizeLine := by show r.length + 1 + 1 ≤ 2 ^ 24; omega
          have hz2 : r.length + 1 ≤ sizeLine := by omega
          have cm : ∀ (ρ : Rho) (l : List PyData), (getV ρ 0 = .ok (.int many)) → True := fun _ _ _ => trivial
          by_cases hw : w = "each"
          · subst hw
            simp [F_is_plain, g_is_plain, N_is_plain, runS, runF, R.ite_bind, s_is_tuple, ht, isPlain, s_is_side, s_is_table _ _ hm, hz, hz2]
            rw [compL_map (h := fun d => .bool (stand many d)) fun d _ => by simp [s_is_from, stand]]
            simp only [R.noX_ok, R.ok_bind, gAll_map, R.ofO_some]
            by_cases h3 : (r.length : Int) + 1 + 1 + 1 = 3
            · have : r = [] := List.eq_nil_of_length_eq_zero (by omega)
              subst this
              simp
            · have : r ≠ [] := fun e => h3 (by rw [e]; rfl)
              simp [h3, this]
          · by_cases hv : w = "walk"
            · subst hv
              simp [F_is_plain, g_is_plain, N_is_plain, runS, runF, R.ite_bind, s_is_tuple, ht, isPlain, s_is_side, s_is_table _ _ hm, hz, hz2, ne_we]
              by_cases h3 : (r.length : Int) + 1 + 1 + 1 = 3
              · have : r = [] := List.eq_nil_of_length_eq_zero (by omega)
                subst this
                simp
                cases isSide b <;> simp
              · have : r ≠ [] := fun e => h3 (by rw [e]; rfl)
                simp [h3, this]
            · simp [F_is_plain, g_is_plain, N_is_plain, runS, runF, R.ite_bind, s_is_tuple, ht, isPlain, s_is_side, s_is_table _ _ hm, hz, hz2, hw, hv, md_plain, look_wanted, -lookD_cons]
              rw [compL_map (h := fun d => .bool (stand many d)) fun d _ => by simp [s_is_from, stand]]
              simp only [R.noX_ok, R.ok_bind, gAll_map, R.ofO_some]
              cases isSide b with
              | false => simp
              | true =>
                have e : ((r.length : Int) + 1 + 1 + 1 = wanted w) ↔ (3 + (r.length : Int) = wanted w) := by omega
                by_cases h3 : 3 + (r.length : Int) = wanted w
                · simp [e, h3]
                · simp [e, h3]
        | _ => simp [F_is_plain, g_is_plain, N_is_plain, runS, runF, R.ite_bind, s_is_tuple, ht, isPlain]
    | _ => simp [isTup] at ht
  · simp [F_is_plain, g_is_plain, N_is_plain, runS, runF, R.ite_bind, s_is_tuple, ht]
    unfold isPlain
    split
    · rename_i w b c r
      have h5 := wanted_le w
      simp [isTup] at ht
      have : (3 : Int) + r.length ≠ wanted w := by omega
      have : r ≠ [] := fun e => by simp [e] at ht
      simp_all
    · rfl

def items : PyData → List PyData
  | .tuple ds => ds
  | _ => []
def isAgain (d : PyData) : Bool := match d with
  | .tuple [.str w, _, _] => decide (w = "again")
  | _ => false
def hasStep (many : Int) (d : PyData) : Bool := if isAgain d = true then (match d with
    | .tuple [_, n, ps] => isFrom n 2 4 && (isTup ps 1 3 && (items ps).all (isPlain many))
    | _ => false) else isPlain many d
theorem s_has_step (many : Int) (d : PyData) (hm : 0 ≤ many ∧ many < 100) : F_has_step [.int many, d] = .ok (.bool (hasStep many d)) := by
  by_cases ht : isTup d 3 3 = true
  · cases d with
    | tuple ds =>
      have hl : ds.length = 3 := by simp [isTup] at ht; omega
      match ds, hl with
      | [a, b, c], hl =>
        cases a with
        | str w =>
          by_cases hw : w = "again"
          · subst hw
            cases hp : isTup c 1 3 with
            | true =>
              cases c with
              | tuple ps =>
                have hz : ps.length ≤ sizeLine := by
                  have : ps.length ≤ 3 := by simp [isTup] at hp; omega
                  show ps.length ≤ 2 ^ 24; omega
                simp [F_has_step, g_has_step, N_has_step, runS, runF, R.ite_bind, s_is_tuple, s_is_from, ht, hasStep, isAgain, hp, items, hz]
                rw [compL_map (h := fun d => .bool (isPlain many d)) fun d _ => by simp [s_is_plain _ _ hm]]
                simp [gAll_map]
                cases isFrom b 2 4 <;> simp
              | _ => simp [isTup] at hp
            | false =>
              simp [F_has_step, g_has_step, N_has_step, runS, runF, R.ite_bind, s_is_tuple, s_is_from, ht, hasStep, isAgain, hp, items]
          · simp [F_has_step, g_has_step, N_has_step, runS, runF, R.ite_bind, s_is_tuple, s_is_from, ht, hasStep, isAgain, hw, s_is_plain _ _ hm]
        | _ => simp [F_has_step, g_has_step, N_has_step, runS, runF, R.ite_bind, s_is_tuple, s_is_from, ht, hasStep, isAgain, s_is_plain _ _ hm]
    | _ => simp [isTup] at ht
  · have : isAgain d = false := by
      unfold isAgain
      split
      · simp [isTup] at ht
      · rfl
    simp [F_has_step, g_has_step, N_has_step, runS, runF, R.ite_bind, s_is_tuple, ht, hasStep, this, s_is_plain _ _ hm]
def hasCor (many : Int) (d : PyData) : Bool := match d with
  | .tuple ds => decide (ds.length ≤ 60) && ds.all (stand many)
  | _ => false
theorem s_has_corridor (many : Int) (d : PyData) : F_has_corridor [.int many, d] = .ok (.bool (hasCor many d)) := by
  by_cases ht : isTup d 0 60 = true
  · cases d with
    | tuple ds =>
      have hl : ds.length ≤ 60 := by simp [isTup] at ht; omega
      have hz : ds.length ≤ sizeLine := by show ds.length ≤ 2 ^ 24; omega
      simp [F_has_corridor, g_has_corridor, N_has_corridor, runS, runF, R.ite_bind, s_is_tuple, ht, hz]
      rw [compL_map (h := fun d => .bool (stand many d)) fun d _ => by simp [s_is_from, stand]]
      simp [gAll_map, hasCor, hl]
    | _ => simp [isTup] at ht
  · simp [F_has_corridor, g_has_corridor, N_has_corridor, runS, runF, R.ite_bind, s_is_tuple, ht]
    cases d with
    | tuple ds =>
      simp [isTup] at ht
      simp [hasCor]
      intro h; omega
    | _ => rfl

/-! ### the walk of a step -/
def width (d : PyData) : Nat := match d with
  | .tuple (.str w :: _ :: c :: _) => if w = "each" then 1 else if w = "walk" then (items c).length else 2
  | _ => 0
theorem stand_2 {d : PyData} (h : stand 2 d = true) : d = .int 0 ∨ d = .int 1 := by
  unfold stand isFrom at h
  split at h
  · rename_i i
    simp at h
    have : i = 0 ∨ i = 1 := by omega
    rcases this with rfl | rfl <;> simp
  · cases h
theorem stand_3 {d : PyData} (h : stand 3 d = true) : d = .int 0 ∨ d = .int 1 ∨ d = .int 2 := by
  unfold stand isFrom at h
  split at h
  · rename_i i
    simp at h
    have : i = 0 ∨ i = 1 ∨ i = 2 := by omega
    rcases this with rfl | rfl | rfl <;> simp
  · cases h
theorem wanted_cases {w : Str} {n : Nat} (h : 3 + (n : Int) = wanted w) : (n = 1 ∧ (w = "first" ∨ w = "second")) ∨ (n = 2 ∧ (w = "until" ∨ w = "behind")) := by
  unfold wanted at h
  split at h
  · rename_i e; subst e; exact .inl ⟨by omega, .inl rfl⟩
  · split at h
    · rename_i e; subst e; exact .inl ⟨by omega, .inr rfl⟩
    · split at h
      · rename_i e; subst e; exact .inr ⟨by omega, .inl rfl⟩
      · split at h
        · rename_i e; subst e; exact .inr ⟨by omega, .inr rfl⟩
        · omega
def rowsOf (many : Int) (d : PyData) : List PyData := match F_walk_of [.int many, d] with
  | .ok (.tuple [_, .tuple r]) => r
  | _ => []
end G

set_option Elab.async false
set_option linter.all false
set_option maxRecDepth 100000
set_option maxHeartbeats 400000
namespace G
open PySem DL
def clD : Cl → PyData
  | .none a => .tuple [.str "none", .int a]
  | .some a => .tuple [.str "some", .int a]
  | .even a => .tuple [.str "even", .int a]
  | .first a => .tuple [.str "first", .int a]
  | .last a => .tuple [.str "last", .int a]
  | .beside a b => .tuple [.str "beside", .int a, .int b]
theorem nk_none_last : ¬ ("none" : Str) = "last" := by decide +kernel
theorem nk_none_even : ¬ ("none" : Str) = "even" := by decide +kernel
theorem nk_none_first : ¬ ("none" : Str) = "first" := by decide +kernel
theorem nk_none_beside : ¬ ("none" : Str) = "beside" := by decide +kernel
theorem nk_none_not : ¬ ("none" : Str) = "not" := by decide +kernel
theorem nk_some_last : ¬ ("some" : Str) = "last" := by decide +kernel
theorem nk_some_even : ¬ ("some" : Str) = "even" := by decide +kernel
theorem nk_some_first : ¬ ("some" : Str) = "first" := by decide +kernel
theorem nk_some_beside : ¬ ("some" : Str) = "beside" := by decide +kernel
theorem nk_some_not : ¬ ("some" : Str) = "not" := by decide +kernel
theorem nk_even_last : ¬ ("even" : Str) = "last" := by decide +kernel
theorem nk_even_first : ¬ ("even" : Str) = "first" := by decide +kernel
theorem nk_even_beside : ¬ ("even" : Str) = "beside" := by decide +kernel
theorem nk_even_not : ¬ ("even" : Str) = "not" := by decide +kernel
theorem nk_first_last : ¬ ("first" : Str) = "last" := by decide +kernel
theorem nk_first_even : ¬ ("first" : Str) = "even" := by decide +kernel
theorem nk_first_beside : ¬ ("first" : Str) = "beside" := by decide +kernel
theorem nk_first_not : ¬ ("first" : Str) = "not" := by decide +kernel
theorem nk_last_even : ¬ ("last" : Str) = "even" := by decide +kernel
theorem nk_last_first : ¬ ("last" : Str) = "first" := by decide +kernel
theorem nk_last_beside : ¬ ("last" : Str) = "beside" := by decide +kernel
theorem nk_last_not : ¬ ("last" : Str) = "not" := by decide +kernel
theorem nk_beside_last : ¬ ("beside" : Str) = "last" := by decide +kernel
theorem nk_beside_even : ¬ ("beside" : Str) = "even" := by decide +kernel
theorem nk_beside_first : ¬ ("beside" : Str) = "first" := by decide +kernel
theorem nk_beside_not : ¬ ("beside" : Str) = "not" := by decide +kernel
theorem nk_not_last : ¬ ("not" : Str) = "last" := by decide +kernel
theorem nk_not_even : ¬ ("not" : Str) = "even" := by decide +kernel
theorem nk_not_first : ¬ ("not" : Str) = "first" := by decide +kernel
theorem nk_not_beside : ¬ ("not" : Str) = "beside" := by decide +kernel
theorem s_claim_step (c : Cl) (n s : Int) : F_claim_step [clD c, .int n, .int s] = .ok (.int (stepC c n s)) := by
  unfold F_claim_step
  cases c with
  | none a =>
    by_cases h : s = a
    · subst h; simp [runS, runF, R.ite_bind, runB, g_claim_step, N_claim_step, clD, stepC, gd, nk_none_last, nk_none_even, nk_none_first, nk_none_beside, nk_none_not, nk_some_last, nk_some_even, nk_some_first, nk_some_beside, nk_some_not, nk_even_last, nk_even_first, nk_even_beside, nk_even_not, nk_first_last, nk_first_even, nk_first_beside, nk_first_not, nk_last_even, nk_last_first, nk_last_beside, nk_last_not, nk_beside_last, nk_beside_even, nk_beside_first, nk_beside_not, nk_not_last, nk_not_even, nk_not_first, nk_not_beside]
    · simp [runS, runF, R.ite_bind, runB, g_claim_step, N_claim_step, clD, stepC, gd, h, nk_none_last, nk_none_even, nk_none_first, nk_none_beside, nk_none_not, nk_some_last, nk_some_even, nk_some_first, nk_some_beside, nk_some_not, nk_even_last, nk_even_first, nk_even_beside, nk_even_not, nk_first_last, nk_first_even, nk_first_beside, nk_first_not, nk_last_even, nk_last_first, nk_last_beside, nk_last_not, nk_beside_last, nk_beside_even, nk_beside_first, nk_beside_not, nk_not_last, nk_not_even, nk_not_first, nk_not_beside]
  | some a =>
    by_cases h : s = a
    · subst h; simp [runS, runF, R.ite_bind, runB, g_claim_step, N_claim_step, clD, stepC, gd, nk_none_last, nk_none_even, nk_none_first, nk_none_beside, nk_none_not, nk_some_last, nk_some_even, nk_some_first, nk_some_beside, nk_some_not, nk_even_last, nk_even_first, nk_even_beside, nk_even_not, nk_first_last, nk_first_even, nk_first_beside, nk_first_not, nk_last_even, nk_last_first, nk_last_beside, nk_last_not, nk_beside_last, nk_beside_even, nk_beside_first, nk_beside_not, nk_not_last, nk_not_even, nk_not_first, nk_not_beside]
    · simp [runS, runF, R.ite_bind, runB, g_claim_step, N_claim_step, clD, stepC, gd, h, nk_none_last, nk_none_even, nk_none_first, nk_none_beside, nk_none_not, nk_some_last, nk_some_even, nk_some_first, nk_some_beside, nk_some_not, nk_even_last, nk_even_first, nk_even_beside, nk_even_not, nk_first_last, nk_first_even, nk_first_beside, nk_first_not, nk_last_even, nk_last_first, nk_last_beside, nk_last_not, nk_beside_last, nk_beside_even, nk_beside_first, nk_beside_not, nk_not_last, nk_not_even, nk_not_first, nk_not_beside]
  | even a =>
    by_cases h : s = a
    · subst h; simp [runS, runF, R.ite_bind, runB, g_claim_step, N_claim_step, clD, stepC, gd, nk_none_last, nk_none_even, nk_none_first, nk_none_beside, nk_none_not, nk_some_last, nk_some_even, nk_some_first, nk_some_beside, nk_some_not, nk_even_last, nk_even_first, nk_even_beside, nk_even_not, nk_first_last, nk_first_even, nk_first_beside, nk_first_not, nk_last_even, nk_last_first, nk_last_beside, nk_last_not, nk_beside_last, nk_beside_even, nk_beside_first, nk_beside_not, nk_not_last, nk_not_even, nk_not_first, nk_not_beside]
    · simp [runS, runF, R.ite_bind, runB, g_claim_step, N_claim_step, clD, stepC, gd, h, nk_none_last, nk_none_even, nk_none_first, nk_none_beside, nk_none_not, nk_some_last, nk_some_even, nk_some_first, nk_some_beside, nk_some_not, nk_even_last, nk_even_first, nk_even_beside, nk_even_not, nk_first_last, nk_first_even, nk_first_beside, nk_first_not, nk_last_even, nk_last_first, nk_last_beside, nk_last_not, nk_beside_last, nk_beside_even, nk_beside_first, nk_beside_not, nk_not_last, nk_not_even, nk_not_first, nk_not_beside]
  | last a =>
    by_cases h : s = a
    · subst h; simp [runS, runF, R.ite_bind, runB, g_claim_step, N_claim_step, clD, stepC, gd, nk_none_last, nk_none_even, nk_none_first, nk_none_beside, nk_none_not, nk_some_last, nk_some_even, nk_some_first, nk_some_beside, nk_some_not, nk_even_last, nk_even_first, nk_even_beside, nk_even_not, nk_first_last, nk_first_even, nk_first_beside, nk_first_not, nk_last_even, nk_last_first, nk_last_beside, nk_last_not, nk_beside_last, nk_beside_even, nk_beside_first, nk_beside_not, nk_not_last, nk_not_even, nk_not_first, nk_not_beside]
    · simp [runS, runF, R.ite_bind, runB, g_claim_step, N_claim_step, clD, stepC, gd, h, nk_none_last, nk_none_even, nk_none_first, nk_none_beside, nk_none_not, nk_some_last, nk_some_even, nk_some_first, nk_some_beside, nk_some_not, nk_even_last, nk_even_first, nk_even_beside, nk_even_not, nk_first_last, nk_first_even, nk_first_beside, nk_first_not, nk_last_even, nk_last_first, nk_last_beside, nk_last_not, nk_beside_last, nk_beside_even, nk_beside_first, nk_beside_not, nk_not_last, nk_not_even, nk_not_first, nk_not_beside]
  | first a =>
    by_cases h : s = a
    · subst h
      by_cases h2 : n > 0
      · simp [runS, runF, R.ite_bind, runB, g_claim_step, N_claim_step, clD, stepC, gd, h2, nk_none_last, nk_none_even, nk_none_first, nk_none_beside, nk_none_not, nk_some_last, nk_some_even, nk_some_first, nk_some_beside, nk_some_not, nk_even_last, nk_even_first, nk_even_beside, nk_even_not, nk_first_last, nk_first_even, nk_first_beside, nk_first_not, nk_last_even, nk_last_first, nk_last_beside, nk_last_not, nk_beside_last, nk_beside_even, nk_beside_first, nk_beside_not, nk_not_last, nk_not_even, nk_not_first, nk_not_beside]
      · simp [runS, runF, R.ite_bind, runB, g_claim_step, N_claim_step, clD, stepC, gd, h2, nk_none_last, nk_none_even, nk_none_first, nk_none_beside, nk_none_not, nk_some_last, nk_some_even, nk_some_first, nk_some_beside, nk_some_not, nk_even_last, nk_even_first, nk_even_beside, nk_even_not, nk_first_last, nk_first_even, nk_first_beside, nk_first_not, nk_last_even, nk_last_first, nk_last_beside, nk_last_not, nk_beside_last, nk_beside_even, nk_beside_first, nk_beside_not, nk_not_last, nk_not_even, nk_not_first, nk_not_beside]
    · by_cases h2 : n > 0
      · simp [runS, runF, R.ite_bind, runB, g_claim_step, N_claim_step, clD, stepC, gd, h, h2, nk_none_last, nk_none_even, nk_none_first, nk_none_beside, nk_none_not, nk_some_last, nk_some_even, nk_some_first, nk_some_beside, nk_some_not, nk_even_last, nk_even_first, nk_even_beside, nk_even_not, nk_first_last, nk_first_even, nk_first_beside, nk_first_not, nk_last_even, nk_last_first, nk_last_beside, nk_last_not, nk_beside_last, nk_beside_even, nk_beside_first, nk_beside_not, nk_not_last, nk_not_even, nk_not_first, nk_not_beside]
      · simp [runS, runF, R.ite_bind, runB, g_claim_step, N_claim_step, clD, stepC, gd, h, h2, nk_none_last, nk_none_even, nk_none_first, nk_none_beside, nk_none_not, nk_some_last, nk_some_even, nk_some_first, nk_some_beside, nk_some_not, nk_even_last, nk_even_first, nk_even_beside, nk_even_not, nk_first_last, nk_first_even, nk_first_beside, nk_first_not, nk_last_even, nk_last_first, nk_last_beside, nk_last_not, nk_beside_last, nk_beside_even, nk_beside_first, nk_beside_not, nk_not_last, nk_not_even, nk_not_first, nk_not_beside]
  | beside a b =>
    by_cases h2 : n = 2
    · subst h2
      by_cases h : s = a
      · subst h; simp [runS, runF, R.ite_bind, runB, g_claim_step, N_claim_step, clD, stepC, gd, nk_none_last, nk_none_even, nk_none_first, nk_none_beside, nk_none_not, nk_some_last, nk_some_even, nk_some_first, nk_some_beside, nk_some_not, nk_even_last, nk_even_first, nk_even_beside, nk_even_not, nk_first_last, nk_first_even, nk_first_beside, nk_first_not, nk_last_even, nk_last_first, nk_last_beside, nk_last_not, nk_beside_last, nk_beside_even, nk_beside_first, nk_beside_not, nk_not_last, nk_not_even, nk_not_first, nk_not_beside]
      · simp [runS, runF, R.ite_bind, runB, g_claim_step, N_claim_step, clD, stepC, gd, h, nk_none_last, nk_none_even, nk_none_first, nk_none_beside, nk_none_not, nk_some_last, nk_some_even, nk_some_first, nk_some_beside, nk_some_not, nk_even_last, nk_even_first, nk_even_beside, nk_even_not, nk_first_last, nk_first_even, nk_first_beside, nk_first_not, nk_last_even, nk_last_first, nk_last_beside, nk_last_not, nk_beside_last, nk_beside_even, nk_beside_first, nk_beside_not, nk_not_last, nk_not_even, nk_not_first, nk_not_beside]
    · by_cases h1 : n = 1
      · subst h1
        by_cases h3 : s = b
        · by_cases h : s = a
          · simp [runS, runF, R.ite_bind, runB, g_claim_step, N_claim_step, clD, stepC, gd, h3, h3 ▸ h, nk_none_last, nk_none_even, nk_none_first, nk_none_beside, nk_none_not, nk_some_last, nk_some_even, nk_some_first, nk_some_beside, nk_some_not, nk_even_last, nk_even_first, nk_even_beside, nk_even_not, nk_first_last, nk_first_even, nk_first_beside, nk_first_not, nk_last_even, nk_last_first, nk_last_beside, nk_last_not, nk_beside_last, nk_beside_even, nk_beside_first, nk_beside_not, nk_not_last, nk_not_even, nk_not_first, nk_not_beside]
          · simp [runS, runF, R.ite_bind, runB, g_claim_step, N_claim_step, clD, stepC, gd, h3, h3 ▸ h, nk_none_last, nk_none_even, nk_none_first, nk_none_beside, nk_none_not, nk_some_last, nk_some_even, nk_some_first, nk_some_beside, nk_some_not, nk_even_last, nk_even_first, nk_even_beside, nk_even_not, nk_first_last, nk_first_even, nk_first_beside, nk_first_not, nk_last_even, nk_last_first, nk_last_beside, nk_last_not, nk_beside_last, nk_beside_even, nk_beside_first, nk_beside_not, nk_not_last, nk_not_even, nk_not_first, nk_not_beside]
        · by_cases h : s = a
          · simp [runS, runF, R.ite_bind, runB, g_claim_step, N_claim_step, clD, stepC, gd, h3, h, h ▸ h3, nk_none_last, nk_none_even, nk_none_first, nk_none_beside, nk_none_not, nk_some_last, nk_some_even, nk_some_first, nk_some_beside, nk_some_not, nk_even_last, nk_even_first, nk_even_beside, nk_even_not, nk_first_last, nk_first_even, nk_first_beside, nk_first_not, nk_last_even, nk_last_first, nk_last_beside, nk_last_not, nk_beside_last, nk_beside_even, nk_beside_first, nk_beside_not, nk_not_last, nk_not_even, nk_not_first, nk_not_beside]
          · simp [runS, runF, R.ite_bind, runB, g_claim_step, N_claim_step, clD, stepC, gd, h3, h, nk_none_last, nk_none_even, nk_none_first, nk_none_beside, nk_none_not, nk_some_last, nk_some_even, nk_some_first, nk_some_beside, nk_some_not, nk_even_last, nk_even_first, nk_even_beside, nk_even_not, nk_first_last, nk_first_even, nk_first_beside, nk_first_not, nk_last_even, nk_last_first, nk_last_beside, nk_last_not, nk_beside_last, nk_beside_even, nk_beside_first, nk_beside_not, nk_not_last, nk_not_even, nk_not_first, nk_not_beside]
      · by_cases h : s = a
        · simp [runS, runF, R.ite_bind, runB, g_claim_step, N_claim_step, clD, stepC, gd, h1, h2, h, nk_none_last, nk_none_even, nk_none_first, nk_none_beside, nk_none_not, nk_some_last, nk_some_even, nk_some_first, nk_some_beside, nk_some_not, nk_even_last, nk_even_first, nk_even_beside, nk_even_not, nk_first_last, nk_first_even, nk_first_beside, nk_first_not, nk_last_even, nk_last_first, nk_last_beside, nk_last_not, nk_beside_last, nk_beside_even, nk_beside_first, nk_beside_not, nk_not_last, nk_not_even, nk_not_first, nk_not_beside]
        · simp [runS, runF, R.ite_bind, runB, g_claim_step, N_claim_step, clD, stepC, gd, h1, h2, h, nk_none_last, nk_none_even, nk_none_first, nk_none_beside, nk_none_not, nk_some_last, nk_some_even, nk_some_first, nk_some_beside, nk_some_not, nk_even_last, nk_even_first, nk_even_beside, nk_even_not, nk_first_last, nk_first_even, nk_first_beside, nk_first_not, nk_last_even, nk_last_first, nk_last_beside, nk_last_not, nk_beside_last, nk_beside_even, nk_beside_first, nk_beside_not, nk_not_last, nk_not_even, nk_not_first, nk_not_beside]
end G

set_option Elab.async false
set_option linter.all false
set_option maxRecDepth 100000
set_option maxHeartbeats 400000
namespace G
open PySem DL
theorem compL_emb {α : Type} {t : PyData → Rho → Option Rho} {fe : Rho → R PyData} {ρ : Rho} (e r : α → PyData) : ∀ {qs : List α}, (∀ q, q ∈ qs → (R.ofO (t (e q) ρ)).bind fe = .ok (r q)) → compL t (fun _ => .ok true) fe ρ (qs.map e) = .ok (qs.map r)
  | [], _ => rfl
  | q :: qs, H => by
    have h1 := H q List.mem_cons_self
    have h2 := compL_emb (t := t) (fe := fe) (ρ := ρ) e r (qs := qs) fun x hx => H x (List.mem_cons_of_mem _ hx)
    rw [List.map_cons, List.map_cons]
    unfold compL
    cases ht : t (e q) ρ with
    | none => rw [ht] at h1; cases h1
    | some ρ1 =>
      rw [ht] at h1
      have h1 : fe ρ1 = .ok (r q) := h1
      simp [h1, h2]
theorem zipD_map {α : Type} (f g : α → PyData) : ∀ qs : List α, zipD (qs.map f) (qs.map g) = qs.map fun q => .tuple [f q, g q]
  | [] => rfl
  | q :: qs => by
    have := zipD_map f g qs
    unfold zipD at this ⊢
    rw [List.map_cons, List.map_cons, List.zipWith_cons_cons, this, List.map_cons]
/-- a claim, perhaps turned to its opposite -/
abbrev NC : Type := Bool × Cl
def ncD (q : NC) : PyData := if q.1 then .tuple [.str "not", clD q.2] else clD q.2
def goodQ (q : NC) (n : Int) : Bool := xor q.1 (decide (n = goodN q.2))
theorem s_inner_of (q : NC) : F_inner_of [ncD q] = .ok (clD q.2) := by
  obtain ⟨b, c⟩ := q
  unfold F_inner_of
  cases b with
  | true => simp [runS, runF, R.ite_bind, runB, g_inner_of, N_inner_of, ncD]
  | false => cases c <;> simp [runS, runF, R.ite_bind, runB, g_inner_of, N_inner_of, ncD, clD, nk_none_last, nk_none_even, nk_none_first, nk_none_beside, nk_none_not, nk_some_last, nk_some_even, nk_some_first, nk_some_beside, nk_some_not, nk_even_last, nk_even_first, nk_even_beside, nk_even_not, nk_first_last, nk_first_even, nk_first_beside, nk_first_not, nk_last_even, nk_last_first, nk_last_beside, nk_last_not, nk_beside_last, nk_beside_even, nk_beside_first, nk_beside_not, nk_not_last, nk_not_even, nk_not_first, nk_not_beside]
theorem s_is_good0 (k : Nat) (c : Cl) (n : Int) : F_is_good (k + 1) [clD c, .int n] = .ok (.bool (decide (n = goodN c))) := by
  unfold F_is_good
  cases c <;> simp [runS, runF, R.ite_bind, runB, g_is_good, N_is_good, clD, nk_none_last, nk_none_even, nk_none_first, nk_none_beside, nk_none_not, nk_some_last, nk_some_even, nk_some_first, nk_some_beside, nk_some_not, nk_even_last, nk_even_first, nk_even_beside, nk_even_not, nk_first_last, nk_first_even, nk_first_beside, nk_first_not, nk_last_even, nk_last_first, nk_last_beside, nk_last_not, nk_beside_last, nk_beside_even, nk_beside_first, nk_beside_not, nk_not_last, nk_not_even, nk_not_first, nk_not_beside] <;> rfl
theorem s_is_good (q : NC) (n : Int) : F_is_good 3 [ncD q, .int n] = .ok (.bool (goodQ q n)) := by
  obtain ⟨b, c⟩ := q
  cases b with
  | false => rw [show ncD (false, c) = clD c from rfl, s_is_good0]; simp [goodQ]
  | true =>
    unfold F_is_good
    simp [runS, runF, R.ite_bind, runB, g_is_good, N_is_good, ncD, s_is_good0, goodQ]
end G

set_option Elab.async false
set_option linter.all false
set_option maxRecDepth 100000
set_option maxHeartbeats 400000
namespace G
open PySem DL
/-- the notes behind a word -/
def notesD (qs : List NC) (w : List Int) : List PyData := qs.map fun q => .int (noteC q.2 w)
theorem s_claims_step (qs : List NC) (w : List Int) (s : Int) (hq : qs.length ≤ 2) : F_claims_step [.tuple (qs.map ncD), .tuple (notesD qs w), .int s] = .ok (.tuple (notesD qs (w ++ [s]))) := by
  have hz : qs.length ≤ sizeLine := by show qs.length ≤ 2 ^ 24; omega
  have e : zipOf [.tuple (qs.map ncD), .tuple (notesD qs w)] = .ok (qs.map fun q => .tuple [ncD q, .int (noteC q.2 w)]) := by
    unfold zipOf notesD
    exact congrArg R.ok (zipD_map _ _ qs)
  unfold F_claims_step
  simp [runS, runF, R.ite_bind, runB, g_claims_step, N_claims_step, e, hz]
  rw [compL_emb (fun q => .tuple [ncD q, .int (noteC q.2 w)]) (fun q => .int (noteC q.2 (w ++ [s]))) fun q _ => by
    simp [runS, runF, R.ite_bind, s_inner_of, s_claim_step, noteC_snoc]]
  simp [gTuple, notesD]
theorem s_are_good (qs : List NC) (w : List Int) (hq : qs.length ≤ 2) : F_are_good [.tuple (qs.map ncD), .tuple (notesD qs w)] = .ok (.bool (qs.all fun q => goodQ q (noteC q.2 w))) := by
  have hz : qs.length ≤ sizeLine := by show qs.length ≤ 2 ^ 24; omega
  have e : zipOf [.tuple (qs.map ncD), .tuple (notesD qs w)] = .ok (qs.map fun q => .tuple [ncD q, .int (noteC q.2 w)]) := by
    unfold zipOf notesD
    exact congrArg R.ok (zipD_map _ _ qs)
  unfold F_are_good
  simp [runS, runF, R.ite_bind, runB, g_are_good, N_are_good, e, hz]
  rw [compL_emb (fun q => .tuple [ncD q, .int (noteC q.2 w)]) (fun q => .bool (goodQ q (noteC q.2 w))) fun q _ => by
    simp [runS, runF, R.ite_bind, s_is_good]]
  have e2 : ∀ (l : List NC) (f : NC → Bool), boolsOf (l.map fun q => .bool (f q)) = some (l.map f) := fun l f => by
    induction l with
    | nil => rfl
    | cons q l ih => rw [List.map_cons, List.map_cons]; unfold boolsOf; rw [ih]; rfl
  simp [gAll, e2]
end G

set_option Elab.async false
set_option linter.all false
set_option maxRecDepth 100000
set_option maxHeartbeats 400000
namespace G
open PySem DL
def soQ (w : List Int) (q : NC) : Bool := xor q.1 (soC q.2 w)
theorem good_soQ (q : NC) (w : List Int) : goodQ q (noteC q.2 w) = soQ w q := by
  unfold goodQ soQ
  rw [good_so]
theorem notes_nil (qs : List NC) : notesD qs [] = List.replicate qs.length (.int 0) := by
  unfold notesD
  induction qs with
  | nil => rfl
  | cons q qs ih => rw [List.map_cons, ih, List.length_cons, List.replicate_succ]; rfl
theorem has_all_loop (qs : List NC) (hq : qs.length ≤ 2) (C : PyData) : ∀ (w w0 : List Int) (o : Option SV), ∃ o', forG (tg1 3) (l_has_all_1 F_claims_step F_are_good) (w.map .int) [some (.d (.tuple (qs.map ncD))), some (.d C), some (.d (.tuple (notesD qs w0))), o] = .ok (.nx [some (.d (.tuple (qs.map ncD))), some (.d C), some (.d (.tuple (notesD qs (w0 ++ w)))), o'])
  | [], w0, o => ⟨o, by rw [List.append_nil]; rfl⟩
  | s :: w, w0, o => by
    obtain ⟨o', h⟩ := has_all_loop qs hq C w (w0 ++ [s]) (some (.d (.int s)))
    refine ⟨o', ?_⟩
    rw [List.map_cons, forG_cons]
    have e : (R.ofO (tg1 3 (.int s) [some (.d (.tuple (qs.map ncD))), some (.d C), some (.d (.tuple (notesD qs w0))), o])).bind (l_has_all_1 F_claims_step F_are_good) = .ok (.nx [some (.d (.tuple (qs.map ncD))), some (.d C), some (.d (.tuple (notesD qs (w0 ++ [s])))), some (.d (.int s))]) := by
      simp [runS, runF, R.ite_bind, l_has_all_1, s_claims_step qs w0 s hq]
    rw [e]
    show forG _ _ _ _ = _
    rw [h]
    simp
theorem s_has_all (qs : List NC) (hq : qs.length ≤ 2) (w : List Int) : F_has_all [.tuple (qs.map ncD), .tuple (w.map .int)] = .ok (.bool (qs.all (soQ w))) := by
  have hz : qs.length ≤ sizeLine := by show qs.length ≤ 2 ^ 24; omega
  have hm : gMul (.tuple [.int 0]) (.int (qs.length : Nat)) = some (.tuple (notesD qs [])) := by
    rw [notes_nil]
    have c : -(2 ^ 63) ≤ ((qs.length : Nat) : Int) ∧ ((qs.length : Nat) : Int) < 2 ^ 63 ∧ ([PyData.int 0] : List PyData).length * ((qs.length : Nat) : Int).toNat ≤ sizeLine := ⟨by omega, by omega, by rw [Int.toNat_natCast, List.length_singleton, Nat.one_mul]; exact hz⟩
    simp only [gMul]
    rw [if_pos c, Int.toNat_natCast]
    have e : ∀ n : Nat, (List.replicate n [PyData.int 0]).flatten = List.replicate n (PyData.int 0) := fun n => by
      induction n with
      | zero => rfl
      | succ n ih => rw [List.replicate_succ, List.flatten_cons, ih, List.replicate_succ]; rfl
    rw [e]
  obtain ⟨o', h⟩ := has_all_loop qs hq (.tuple (w.map .int)) w [] none
  unfold F_has_all
  simp [runS, runF, R.ite_bind, runB, g_has_all, N_has_all, hm, fFor]
  have h' : forL (fun d ρ => l_has_all_1 F_claims_step F_are_good (List.set ρ 3 (some (SV.d d)))) (w.map .int) [some (.d (.tuple (qs.map ncD))), some (.d (.tuple (w.map .int))), some (.d (.tuple (notesD qs []))), none] = .ok (.nx [some (.d (.tuple (qs.map ncD))), some (.d (.tuple (w.map .int))), some (.d (.tuple (notesD qs w))), o']) := h
  rw [h']
  simp [s_are_good qs w hq, good_soQ]
end G

set_option Elab.async false
set_option linter.all false
set_option maxRecDepth 100000
set_option maxHeartbeats 400000
namespace G
open PySem DL
theorem intsOf_map : ∀ w : List Int, intsOf (w.map .int) = some w
  | [] => rfl
  | x :: w => by rw [List.map_cons]; unfold intsOf; rw [intsOf_map w]; rfl
theorem gCount_int (w : List Int) (a : Int) : gCount (w.map .int) (.int a) = some (.int ((w.count a : Nat) : Int)) := by
  show (intsOf (w.map .int)).map _ = _
  rw [intsOf_map]
  show some (PyData.int _) = _
  congr 3
theorem getT_1 {ρ : Rho} {ds : List PyData} {i : Nat} (h : ρ[i]? = some (some (.tf ds))) : getT ρ i = .ok ds := by
  unfold getT
  rw [h]
theorem is_so_none (k : Nat) (a : Int) (w : List Int) : F__law_is_so (k + 1) [.d (clD (.none a)), .tf (w.map .int)] = .ok (.bool (soC (.none a) w)) := by
  unfold F__law_is_so
  simp [runS, runF, R.ite_bind, g__law_is_so, N__law_is_so, clD, getT, gCount_int, soC, nk_none_last, nk_none_even, nk_none_first, nk_none_beside, nk_none_not, nk_some_last, nk_some_even, nk_some_first, nk_some_beside, nk_some_not, nk_even_last, nk_even_first, nk_even_beside, nk_even_not, nk_first_last, nk_first_even, nk_first_beside, nk_first_not, nk_last_even, nk_last_first, nk_last_beside, nk_last_not, nk_beside_last, nk_beside_even, nk_beside_first, nk_beside_not, nk_not_last, nk_not_even, nk_not_first, nk_not_beside]
  rfl
theorem is_so_some (k : Nat) (a : Int) (w : List Int) : F__law_is_so (k + 1) [.d (clD (.some a)), .tf (w.map .int)] = .ok (.bool (soC (.some a) w)) := by
  unfold F__law_is_so
  simp [runS, runF, R.ite_bind, g__law_is_so, N__law_is_so, clD, getT, gCount_int, soC, nk_none_last, nk_none_even, nk_none_first, nk_none_beside, nk_none_not, nk_some_last, nk_some_even, nk_some_first, nk_some_beside, nk_some_not, nk_even_last, nk_even_first, nk_even_beside, nk_even_not, nk_first_last, nk_first_even, nk_first_beside, nk_first_not, nk_last_even, nk_last_first, nk_last_beside, nk_last_not, nk_beside_last, nk_beside_even, nk_beside_first, nk_beside_not, nk_not_last, nk_not_even, nk_not_first, nk_not_beside]
  rfl
theorem is_so_even (k : Nat) (a : Int) (w : List Int) : F__law_is_so (k + 1) [.d (clD (.even a)), .tf (w.map .int)] = .ok (.bool (soC (.even a) w)) := by
  have e : decide (((w.count a : Nat) : Int) % 2 = 0) = decide (w.count a % 2 = 0) := decide_eq_decide.mpr (by omega)
  unfold F__law_is_so
  simp [runS, runF, R.ite_bind, g__law_is_so, N__law_is_so, clD, getT, gCount_int, soC, e, nk_none_last, nk_none_even, nk_none_first, nk_none_beside, nk_none_not, nk_some_last, nk_some_even, nk_some_first, nk_some_beside, nk_some_not, nk_even_last, nk_even_first, nk_even_beside, nk_even_not, nk_first_last, nk_first_even, nk_first_beside, nk_first_not, nk_last_even, nk_last_first, nk_last_beside, nk_last_not, nk_beside_last, nk_beside_even, nk_beside_first, nk_beside_not, nk_not_last, nk_not_even, nk_not_first, nk_not_beside]
  rfl
end G

set_option Elab.async false
set_option linter.all false
set_option maxRecDepth 100000
set_option maxHeartbeats 400000
namespace G
open PySem DL
theorem cut_1 (xs : List PyData) : cutD xs none (some 1) = xs.take 1 := by
  unfold cutD
  show (xs.drop 0).take (min 1 xs.length - 0) = xs.take 1
  cases xs with
  | nil => rfl
  | cons x xs => simp
theorem cut_m1 (xs : List PyData) : cutD xs (some (-1)) none = xs.drop (xs.length - 1) := by
  unfold cutD
  show (xs.drop ((-1 : Int) + (xs.length : Int)).toNat).take (xs.length - ((-1 : Int) + (xs.length : Int)).toNat) = _
  have e : ((-1 : Int) + (xs.length : Int)).toNat = xs.length - 1 := by omega
  rw [e, List.take_of_length_le (by rw [List.length_drop]; exact Nat.le_refl _)]
theorem cut_t (xs : List PyData) : cutD xs (some 1) none = xs.drop 1 := by
  unfold cutD
  show (xs.drop (min 1 xs.length)).take (xs.length - min 1 xs.length) = _
  cases xs with
  | nil => rfl
  | cons x xs => simp
theorem eq_t1 (x a : Int) : gEq (.tuple [.int x]) (.tuple [.int a]) = some (.bool (decide (x = a))) := by
  have hs : ∀ x : Int, shp (.tuple [.int x]) = true := fun x => rfl
  unfold gEq eqOk
  rw [hs, hs]
  simp [PyData.eqv, PyData.eqvAll]
  by_cases h : x = a <;> simp [h]
theorem eq_t0 (a : Int) : gEq (.tuple []) (.tuple [.int a]) = some (.bool false) := by
  have hs : ∀ x : Int, shp (.tuple [.int x]) = true := fun x => rfl
  have h0 : shp (.tuple []) = true := rfl
  unfold gEq eqOk
  rw [hs, h0]
  simp [PyData.eqv, PyData.eqvAll]
theorem eq_first (a : Int) (w : List Int) : gEq (.tuple ((w.map PyData.int).take 1)) (.tuple [.int a]) = some (.bool (decide (w.head? = some a))) := by
  cases w with
  | nil => show gEq (.tuple []) _ = _; rw [eq_t0]; simp
  | cons x w => show gEq (.tuple [.int x]) (.tuple [.int a]) = _; rw [eq_t1]; simp
theorem drop_last (w : List Int) : (w.map PyData.int).drop ((w.map PyData.int).length - 1) = match w.getLast? with | none => [] | some x => [.int x] := by
  refine snocInd (P := fun w => (w.map PyData.int).drop ((w.map PyData.int).length - 1) = match w.getLast? with | none => [] | some x => [.int x]) rfl (fun w s _ => ?_) w
  simp
theorem eq_last (a : Int) (w : List Int) : gEq (.tuple ((w.map PyData.int).drop ((w.map PyData.int).length - 1))) (.tuple [.int a]) = some (.bool (decide (w.getLast? = some a))) := by
  rw [drop_last]
  cases h : w.getLast? with
  | none => show gEq (.tuple []) _ = _; rw [eq_t0]; simp
  | some x => show gEq (.tuple [.int x]) (.tuple [.int a]) = _; rw [eq_t1]; simp
theorem gSl_1 (w : List Int) : gSl (.tuple (w.map PyData.int)) none (some 1) = some (.tuple ((w.map PyData.int).take 1)) := by
  show some (PyData.tuple (cutD _ _ _)) = _
  rw [cut_1]
theorem gSl_m1 (w : List Int) : gSl (.tuple (w.map PyData.int)) (some (-1)) none = some (.tuple ((w.map PyData.int).drop ((w.map PyData.int).length - 1))) := by
  show some (PyData.tuple (cutD _ _ _)) = _
  rw [cut_m1]
theorem getV_tf {ds : List PyData} {l : Rho} : getV (some (.tf ds) :: l) 0 = .ok (.tuple ds) := rfl
theorem is_so_first (k : Nat) (a : Int) (w : List Int) : F__law_is_so (k + 1) [.d (clD (.first a)), .tf (w.map .int)] = .ok (.bool (soC (.first a) w)) := by
  unfold F__law_is_so
  simp [runS, runF, R.ite_bind, g__law_is_so, N__law_is_so, clD, getT, gCount_int, soC, getV_tf, gSl_1, eq_first, nk_none_last, nk_none_even, nk_none_first, nk_none_beside, nk_none_not, nk_some_last, nk_some_even, nk_some_first, nk_some_beside, nk_some_not, nk_even_last, nk_even_first, nk_even_beside, nk_even_not, nk_first_last, nk_first_even, nk_first_beside, nk_first_not, nk_last_even, nk_last_first, nk_last_beside, nk_last_not, nk_beside_last, nk_beside_even, nk_beside_first, nk_beside_not, nk_not_last, nk_not_even, nk_not_first, nk_not_beside]
theorem is_so_last (k : Nat) (a : Int) (w : List Int) : F__law_is_so (k + 1) [.d (clD (.last a)), .tf (w.map .int)] = .ok (.bool (soC (.last a) w)) := by
  have e := eq_last a w
  have e2 := gSl_m1 w
  rw [List.length_map] at e e2
  unfold F__law_is_so
  simp [runS, runF, R.ite_bind, g__law_is_so, N__law_is_so, clD, getT, gCount_int, soC, getV_tf, e2, e, nk_none_last, nk_none_even, nk_none_first, nk_none_beside, nk_none_not, nk_some_last, nk_some_even, nk_some_first, nk_some_beside, nk_some_not, nk_even_last, nk_even_first, nk_even_beside, nk_even_not, nk_first_last, nk_first_even, nk_first_beside, nk_first_not, nk_last_even, nk_last_first, nk_last_beside, nk_last_not, nk_beside_last, nk_beside_even, nk_beside_first, nk_beside_not, nk_not_last, nk_not_even, nk_not_first, nk_not_beside]
end G

set_option Elab.async false
set_option linter.all false
set_option maxRecDepth 100000
set_option maxHeartbeats 400000
namespace G
open PySem DL
def prD (p : Int × Int) : PyData := .tuple [.int p.1, .int p.2]
theorem zip_tail : ∀ w : List Int, zipD (w.map PyData.int) ((w.map PyData.int).drop 1) = (w.zip w.tail).map prD := by
  have h : ∀ a b : List Int, zipD (a.map PyData.int) (b.map PyData.int) = (a.zip b).map prD := fun a => by
    induction a with
    | nil => intro b; rfl
    | cons x a ih =>
      intro b
      cases b with
      | nil => rfl
      | cons y b =>
        have := ih b
        unfold zipD at this ⊢
        simp only [List.map_cons, List.zipWith_cons_cons, List.zip_cons_cons, this]
        rfl
  intro w
  cases w with
  | nil => rfl
  | cons x w => exact h (x :: w) w
theorem eqv_pr (p : Int × Int) (a b : Int) : PyData.eqv (prD p) (prD (a, b)) = decide (p = (a, b)) := by
  obtain ⟨x, y⟩ := p
  simp [prD, PyData.eqv, PyData.eqvAll]
  by_cases h : x = a <;> by_cases h2 : y = b <;> simp [h, h2]
theorem in_pairs (a b : Int) (w : List Int) (hs : shp (.tuple ((w.zip w.tail).map prD)) = true) : gIn (prD (a, b)) (.list ((w.zip w.tail).map prD)) = some (.bool (decide ((a, b) ∈ w.zip w.tail))) := by
  have h1 : shp (prD (a, b)) = true := rfl
  show (if inOk _ _ = true then some (PyData.bool (inD _ _)) else none) = _
  have h2 : inOk (prD (a, b)) ((w.zip w.tail).map prD) = true := by unfold inOk; rw [h1, hs]; simp
  rw [if_pos h2]
  congr 2
  unfold inD
  rw [List.any_map]
  have e : ((fun z => PyData.eqv z (prD (a, b))) ∘ prD) = fun p => decide (p = (a, b)) := funext fun p => eqv_pr p a b
  rw [e]
  by_cases h : (a, b) ∈ w.zip w.tail
  · rw [decide_eq_true h]; exact List.any_eq_true.mpr ⟨_, h, by simp⟩
  · rw [decide_eq_false h]; exact List.any_eq_false.mpr fun p hp => by simp; rintro rfl; exact h hp
end G

set_option Elab.async false
set_option linter.all false
set_option maxRecDepth 100000
set_option maxHeartbeats 400000
namespace G
open PySem DL
theorem shp_pairs (l : List (Int × Int)) : shp (.tuple (l.map prD)) = true := by
  refine small_shp (L := l.length + 2) (D := 2) (small_tuple (fun x hx => ?_) (by simp)) (by decide)
  obtain ⟨p, _, rfl⟩ := List.mem_map.mp hx
  refine small_tuple (D := 0) (fun y hy => ?_) (by simp)
  simp only [List.mem_cons, List.not_mem_nil, or_false] at hy
  rcases hy with rfl | rfl <;> rfl
theorem gSl_t (w : List Int) : gSl (.tuple (w.map PyData.int)) (some 1) none = some (.tuple ((w.map PyData.int).drop 1)) := by
  show some (PyData.tuple (cutD _ _ _)) = _
  rw [cut_t]
theorem gSl_b (a b : Int) : gSl (.tuple [.str "beside", .int a, .int b]) (some 1) none = some (prD (a, b)) := rfl
theorem zipT_w (w : List Int) : zipT [.tuple (w.map PyData.int), .tuple ((w.map PyData.int).drop 1)] = .ok (.list ((w.zip w.tail).map prD)) := by
  show R.ok (PyData.list (zipD _ _)) = _
  rw [zip_tail]
theorem is_so_beside (k : Nat) (a b : Int) (w : List Int) : F__law_is_so (k + 1) [.d (clD (.beside a b)), .tf (w.map .int)] = .ok (.bool (soC (.beside a b) w)) := by
  have e := in_pairs a b w (shp_pairs _)
  have g := getV_tf (ds := w.map .int) (l := [none])
  have z := zipT_w w
  have s := gSl_t w
  rw [List.drop_one] at z s
  unfold F__law_is_so
  simp [runS, runF, R.ite_bind, g__law_is_so, N__law_is_so, clD, getT, soC, gSl_b, getV_tf, s, z, e, nk_none_last, nk_none_even, nk_none_first, nk_none_beside, nk_none_not, nk_some_last, nk_some_even, nk_some_first, nk_some_beside, nk_some_not, nk_even_last, nk_even_first, nk_even_beside, nk_even_not, nk_first_last, nk_first_even, nk_first_beside, nk_first_not, nk_last_even, nk_last_first, nk_last_beside, nk_last_not, nk_beside_last, nk_beside_even, nk_beside_first, nk_beside_not, nk_not_last, nk_not_even, nk_not_first, nk_not_beside]
theorem s_is_so0 (k : Nat) (c : Cl) (w : List Int) : F__law_is_so (k + 1) [.d (clD c), .tf (w.map .int)] = .ok (.bool (soC c w)) := by
  cases c with
  | none a => exact is_so_none k a w
  | some a => exact is_so_some k a w
  | even a => exact is_so_even k a w
  | first a => exact is_so_first k a w
  | last a => exact is_so_last k a w
  | beside a b => exact is_so_beside k a b w
theorem s_is_so (q : NC) (w : List Int) : F__law_is_so 3 [.d (ncD q), .tf (w.map .int)] = .ok (.bool (soQ w q)) := by
  obtain ⟨b, c⟩ := q
  cases b with
  | false => rw [show ncD (false, c) = clD c from rfl, s_is_so0]; simp [soQ]
  | true =>
    unfold F__law_is_so
    simp [runS, runF, R.ite_bind, g__law_is_so, N__law_is_so, ncD, getT, chkV, SV.isD, s_is_so0, soQ]
end G

set_option Elab.async false
set_option linter.all false
set_option maxRecDepth 100000
set_option maxHeartbeats 400000
namespace G
open PySem DL
theorem compL_embF {α : Type} {t : PyData → Rho → Option Rho} {ft : Rho → R Bool} {fe : Rho → R PyData} {ρ : Rho} (e : α → PyData) (p : α → Bool) : ∀ {qs : List α}, (∀ q, q ∈ qs → (R.ofO (t (e q) ρ)).bind ft = .ok (p q)) → (∀ q, q ∈ qs → (R.ofO (t (e q) ρ)).bind fe = .ok (e q)) → compL t ft fe ρ (qs.map e) = .ok ((qs.filter p).map e)
  | [], _, _ => rfl
  | q :: qs, H, H2 => by
    have h1 := H q List.mem_cons_self
    have h3 := H2 q List.mem_cons_self
    have h2 := compL_embF (t := t) (ft := ft) (fe := fe) (ρ := ρ) e p (qs := qs) (fun x hx => H x (List.mem_cons_of_mem _ hx)) fun x hx => H2 x (List.mem_cons_of_mem _ hx)
    rw [List.map_cons]
    unfold compL
    cases ht : t (e q) ρ with
    | none => rw [ht] at h1; cases h1
    | some ρ1 =>
      rw [ht] at h1 h3
      have h1 : ft ρ1 = .ok (p q) := h1
      have h3 : fe ρ1 = .ok (e q) := h3
      cases hp : p q with
      | false => rw [hp] at h1; simp [h1, h2, hp]
      | true => rw [hp] at h1; simp [h1, h3, h2, hp]
theorem str_small (x : Str) (h : PyData.canLay0 (.str x) = true) : small 3 0 (.str x) = true := h
theorem clD_small (c : Cl) : small 3 1 (clD c) = true := by
  have i0 : ∀ i : Int, small 3 0 (.int i) = true := fun _ => rfl
  have two : ∀ (x : Str) (a : Int), PyData.canLay0 (.str x) = true → small 3 1 (.tuple [.str x, .int a]) = true := fun x a h => small_tuple (fun y hy => by
    simp only [List.mem_cons, List.not_mem_nil, or_false] at hy
    rcases hy with rfl | rfl
    · exact h
    · rfl) (by simp)
  cases c with
  | beside a b =>
    refine small_tuple (fun y hy => ?_) (by simp)
    simp only [List.mem_cons, List.not_mem_nil, or_false] at hy
    rcases hy with rfl | rfl | rfl
    · show PyData.canLay0 (.str "beside") = true; decide +kernel
    · rfl
    · rfl
  | _ => exact two _ _ (by decide +kernel)
theorem ncD_small (q : NC) : small 3 2 (ncD q) = true := by
  obtain ⟨b, c⟩ := q
  cases b with
  | false => exact small_mono (Nat.le_refl _) (by decide) (clD_small c)
  | true =>
    refine small_tuple (fun x hx => ?_) (by simp)
    simp only [List.mem_cons, List.not_mem_nil, or_false] at hx
    rcases hx with rfl | rfl
    · decide +kernel
    · exact clD_small c
theorem s_all_so (qs : List NC) (hq : qs.length ≤ 2) (w : List Int) : F__law_all_so [.d (.tuple (qs.map ncD)), .tf (w.map .int)] = .ok (.bool (qs.all (soQ w))) := by
  have hz : qs.length ≤ sizeLine := by show qs.length ≤ 2 ^ 24; omega
  unfold F__law_all_so
  simp [runS, runF, R.ite_bind, g__law_all_so, N__law_all_so, hz]
  rw [compL_embF ncD (fun q => !soQ w q) (fun q _ => by simp [runS, runF, R.ite_bind, getT, chkV, SV.isD, s_is_so]) fun q _ => by simp [runS, runF, R.ite_bind]]
  have hl : (qs.filter fun q => !soQ w q).length ≤ 2 := Nat.le_trans (List.length_filter_le _ _) hq
  have hs : shp (.list ((qs.filter fun q => !soQ w q).map ncD)) = true := small_shp (L := 3) (D := 3) (small_list (fun x hx => by
    obtain ⟨q, _, rfl⟩ := List.mem_map.mp hx
    exact ncD_small q) (by rw [List.length_map]; omega)) (by decide)
  have e : ((qs.filter fun q => !soQ w q).map ncD).isEmpty = qs.all (soQ w) := by
    rw [List.isEmpty_map]
    cases h : qs.all (soQ w) with
    | true => rw [List.isEmpty_iff, List.filter_eq_nil_iff]; intro q hq; rw [List.all_eq_true.mp h q hq]; decide
    | false =>
      obtain ⟨q, hq, hn⟩ := List.all_eq_false.mp h
      cases hf : (qs.filter fun q => !soQ w q).isEmpty with
      | false => rfl
      | true =>
        have := (List.filter_eq_nil_iff.mp (List.isEmpty_iff.mp hf)) q hq
        simp_all
  simp [gEq_nil hs, e]
end G

set_option Elab.async false
set_option linter.all false
set_option maxRecDepth 100000
set_option maxHeartbeats 400000
namespace G
open PySem DL
/-- its stands are stands -/
def inC (many : Int) : Cl → Bool
  | .none a => isFrom (.int a) 0 (many - 1)
  | .some a => isFrom (.int a) 0 (many - 1)
  | .even a => isFrom (.int a) 0 (many - 1)
  | .first a => isFrom (.int a) 0 (many - 1)
  | .last a => isFrom (.int a) 0 (many - 1)
  | .beside a b => isFrom (.int a) 0 (many - 1) && isFrom (.int b) 0 (many - 1)
theorem plain_two (many a : Int) (x : Str) (b : Bool) (hb : gIn (.str x) (.tuple D_SINGLE) = some (.bool b)) (ha : isFrom (.int a) 0 (many - 1) = true) : F_is_plain_claim [.int many, .tuple [.str x, .int a]] = .ok (.bool b) := by
  have e : gSl (.tuple [.str x, .int a]) (some 1) none = some (.tuple [.int a]) := rfl
  unfold F_is_plain_claim
  simp [runS, runF, R.ite_bind, runB, g_is_plain_claim, N_is_plain_claim, s_is_tuple, isTup, e]
  rw [compL_map (h := fun d => .bool (isFrom d 0 (many - 1))) fun d _ => by simp [runS, runF, R.ite_bind, s_is_from]]
  simp [gAll, boolsOf, ha, hb]
theorem plain_beside (many a b : Int) (ha : isFrom (.int a) 0 (many - 1) = true) (hb : isFrom (.int b) 0 (many - 1) = true) : F_is_plain_claim [.int many, .tuple [.str "beside", .int a, .int b]] = .ok (.bool true) := by
  have e : gSl (.tuple [.str "beside", .int a, .int b]) (some 1) none = some (.tuple [.int a, .int b]) := rfl
  unfold F_is_plain_claim
  simp [runS, runF, R.ite_bind, runB, g_is_plain_claim, N_is_plain_claim, s_is_tuple, isTup, e]
  rw [compL_map (h := fun d => .bool (isFrom d 0 (many - 1))) fun d _ => by simp [runS, runF, R.ite_bind, s_is_from]]
  simp [gAll, boolsOf, ha, hb]
theorem s_is_plain_claim (many : Int) (c : Cl) (h : inC many c = true) : F_is_plain_claim [.int many, clD c] = .ok (.bool true) := by
  cases c with
  | beside a b =>
    obtain ⟨h1, h2⟩ := Bool.and_eq_true_iff.mp h
    exact plain_beside many a b h1 h2
  | none a => exact plain_two many a "none" true rfl h
  | some a => exact plain_two many a "some" true rfl h
  | even a => exact plain_two many a "even" true rfl h
  | first a => exact plain_two many a "first" true rfl h
  | last a => exact plain_two many a "last" true rfl h
end G

set_option Elab.async false
set_option linter.all false
set_option maxRecDepth 100000
set_option maxHeartbeats 400000
namespace G
open PySem DL
theorem has_claims_step (many : Int) (V : PyData) (q : NC) (h : inC many q.2 = true) (a2 a3 : Option SV) : (R.ofO (tg1 2 (ncD q) [some (.d (.int many)), some (.d V), a2, a3])).bind (l_has_claims_1 F_is_tuple F_is_plain_claim) = .ok (.nx [some (.d (.int many)), some (.d V), some (.d (ncD q)), some (.d (clD q.2))]) := by
  obtain ⟨b, c⟩ := q
  have hp := s_is_plain_claim many c h
  clear h
  cases b with
  | true => simp [runS, runF, R.ite_bind, l_has_claims_1, ncD, s_is_tuple, isTup, hp]
  | false =>
    cases c with
    | beside a b =>
      have hp : F_is_plain_claim [.int many, .tuple [.str "beside", .int a, .int b]] = .ok (.bool true) := hp
      simp [runS, runF, R.ite_bind, l_has_claims_1, ncD, clD, s_is_tuple, isTup, hp]
    | none a =>
      have hp : F_is_plain_claim [.int many, .tuple [.str "none", .int a]] = .ok (.bool true) := hp
      simp [runS, runF, R.ite_bind, l_has_claims_1, ncD, clD, s_is_tuple, isTup, hp, nk_none_last, nk_none_even, nk_none_first, nk_none_beside, nk_none_not, nk_some_last, nk_some_even, nk_some_first, nk_some_beside, nk_some_not, nk_even_last, nk_even_first, nk_even_beside, nk_even_not, nk_first_last, nk_first_even, nk_first_beside, nk_first_not, nk_last_even, nk_last_first, nk_last_beside, nk_last_not, nk_beside_last, nk_beside_even, nk_beside_first, nk_beside_not, nk_not_last, nk_not_even, nk_not_first, nk_not_beside]
    | some a =>
      have hp : F_is_plain_claim [.int many, .tuple [.str "some", .int a]] = .ok (.bool true) := hp
      simp [runS, runF, R.ite_bind, l_has_claims_1, ncD, clD, s_is_tuple, isTup, hp, nk_none_last, nk_none_even, nk_none_first, nk_none_beside, nk_none_not, nk_some_last, nk_some_even, nk_some_first, nk_some_beside, nk_some_not, nk_even_last, nk_even_first, nk_even_beside, nk_even_not, nk_first_last, nk_first_even, nk_first_beside, nk_first_not, nk_last_even, nk_last_first, nk_last_beside, nk_last_not, nk_beside_last, nk_beside_even, nk_beside_first, nk_beside_not, nk_not_last, nk_not_even, nk_not_first, nk_not_beside]
    | even a =>
      have hp : F_is_plain_claim [.int many, .tuple [.str "even", .int a]] = .ok (.bool true) := hp
      simp [runS, runF, R.ite_bind, l_has_claims_1, ncD, clD, s_is_tuple, isTup, hp, nk_none_last, nk_none_even, nk_none_first, nk_none_beside, nk_none_not, nk_some_last, nk_some_even, nk_some_first, nk_some_beside, nk_some_not, nk_even_last, nk_even_first, nk_even_beside, nk_even_not, nk_first_last, nk_first_even, nk_first_beside, nk_first_not, nk_last_even, nk_last_first, nk_last_beside, nk_last_not, nk_beside_last, nk_beside_even, nk_beside_first, nk_beside_not, nk_not_last, nk_not_even, nk_not_first, nk_not_beside]
    | first a =>
      have hp : F_is_plain_claim [.int many, .tuple [.str "first", .int a]] = .ok (.bool true) := hp
      simp [runS, runF, R.ite_bind, l_has_claims_1, ncD, clD, s_is_tuple, isTup, hp, nk_none_last, nk_none_even, nk_none_first, nk_none_beside, nk_none_not, nk_some_last, nk_some_even, nk_some_first, nk_some_beside, nk_some_not, nk_even_last, nk_even_first, nk_even_beside, nk_even_not, nk_first_last, nk_first_even, nk_first_beside, nk_first_not, nk_last_even, nk_last_first, nk_last_beside, nk_last_not, nk_beside_last, nk_beside_even, nk_beside_first, nk_beside_not, nk_not_last, nk_not_even, nk_not_first, nk_not_beside]
    | last a =>
      have hp : F_is_plain_claim [.int many, .tuple [.str "last", .int a]] = .ok (.bool true) := hp
      simp [runS, runF, R.ite_bind, l_has_claims_1, ncD, clD, s_is_tuple, isTup, hp, nk_none_last, nk_none_even, nk_none_first, nk_none_beside, nk_none_not, nk_some_last, nk_some_even, nk_some_first, nk_some_beside, nk_some_not, nk_even_last, nk_even_first, nk_even_beside, nk_even_not, nk_first_last, nk_first_even, nk_first_beside, nk_first_not, nk_last_even, nk_last_first, nk_last_beside, nk_last_not, nk_beside_last, nk_beside_even, nk_beside_first, nk_beside_not, nk_not_last, nk_not_even, nk_not_first, nk_not_beside]
theorem has_claims_loop (many : Int) (V : PyData) : ∀ (qs : List NC), (∀ q, q ∈ qs → inC many q.2 = true) → ∀ a2 a3 : Option SV, ∃ b2 b3, forG (tg1 2) (l_has_claims_1 F_is_tuple F_is_plain_claim) (qs.map ncD) [some (.d (.int many)), some (.d V), a2, a3] = .ok (.nx [some (.d (.int many)), some (.d V), b2, b3])
  | [], _, a2, a3 => ⟨a2, a3, rfl⟩
  | q :: qs, H, a2, a3 => by
    obtain ⟨b2, b3, h⟩ := has_claims_loop many V qs (fun x hx => H x (List.mem_cons_of_mem _ hx)) (some (.d (ncD q))) (some (.d (clD q.2)))
    refine ⟨b2, b3, ?_⟩
    rw [List.map_cons, forG_cons, has_claims_step many V q (H q List.mem_cons_self)]
    exact h
theorem s_has_claims (many : Int) (qs : List NC) (hq : qs.length ≤ 2) (H : ∀ q, q ∈ qs → inC many q.2 = true) : F_has_claims [.int many, .tuple (qs.map ncD)] = .ok (.bool true) := by
  obtain ⟨b2, b3, h⟩ := has_claims_loop many (.tuple (qs.map ncD)) qs H none none
  have h' : forL (fun d ρ => l_has_claims_1 F_is_tuple F_is_plain_claim (List.set ρ 2 (some (SV.d d)))) (qs.map ncD) [some (.d (.int many)), some (.d (.tuple (qs.map ncD))), none, none] = .ok (.nx [some (.d (.int many)), some (.d (.tuple (qs.map ncD))), b2, b3]) := h
  have ht : isTup (.tuple (qs.map ncD)) 0 2 = true := by simp [isTup]; omega
  unfold F_has_claims
  simp [runS, runF, R.ite_bind, runB, g_has_claims, N_has_claims, s_is_tuple, ht, fFor]
  rw [h']
  simp
end G

set_option Elab.async false
set_option linter.all false
set_option maxRecDepth 100000
set_option maxHeartbeats 400000
namespace G
open PySem DL
theorem need_script_rule (many : Int) (hm : many = 2 ∨ many = 3) : F_need_script [.tuple [.int many, .tuple []]] = .ok .none := by
  rcases hm with rfl | rfl <;> kernel_rfl
theorem s_need_claims (many : Int) (qs : List NC) (hq : qs.length ≤ 2) (H : ∀ q, q ∈ qs → inC many q.2 = true) : F_need_claims [.int many, .tuple (qs.map ncD)] = .ok .none := by
  unfold F_need_claims
  simp [runS, runF, R.ite_bind, runB, g_need_claims, N_need_claims, s_has_claims many qs hq H]
theorem need_cor (many : Int) (w : List Int) (h : hasCor many (.tuple (w.map .int)) = true) : F_need_corridor [.int many, .tuple (w.map .int)] = .ok .none := by
  unfold F_need_corridor
  simp [runS, runF, R.ite_bind, runB, g_need_corridor, N_need_corridor, s_has_corridor, h]
theorem s_holds (many : Int) (hm : many = 2 ∨ many = 3) (qs : List NC) (hq : qs.length ≤ 2) (H : ∀ q, q ∈ qs → inC many q.2 = true) (w : List Int) (hw : hasCor many (.tuple (w.map .int)) = true) : F_holds [.tuple [.int many, .tuple []], .tuple (qs.map ncD), .tuple (w.map .int)] = .ok (.bool (qs.all (soQ w))) := by
  unfold F_holds
  simp [runS, runF, R.ite_bind, runB, g_holds, N_holds, need_script_rule many hm, s_need_claims many qs hq H, need_cor many w hw, s_has_all qs hq w]
end G

set_option Elab.async false
set_option linter.all false
set_option maxRecDepth 100000
set_option maxHeartbeats 400000
namespace G
open PySem DL
/-! ### draws -/
abbrev NoE : Nat → Option PyData → Prop := fun _ _ => False
def Below (n : Int) (d : PyData) : Prop := ∃ i : Int, d = .int i ∧ 0 ≤ i ∧ i < n
theorem srcD_wp {k : Int} {Q : PyData → Prop} {E : Nat → Option PyData → Prop} (h : ∀ x : Int, SrcAt k x → Q (.int x)) : (srcD k).wp Q E := fun d ⟨x, e, hx⟩ => by subst e; exact h x hx
theorem w_draw (n : Int) (h : 0 < n ∧ n < 1073741824) : (F__law_draw [.int n]).wp (Below n) NoE := by
  have hd : ∀ a : Int, L2.CDiv a n := fun _ => h
  have hd19 : ∀ a : Int, L2.CDiv a 19 := fun _ => ⟨by decide, by decide⟩
  have hd32 : ∀ a : Int, L2.CDiv a 32 := fun _ => ⟨by decide, by decide⟩
  have hm1 : ∀ a : Int, L2.CMul a 48271 := fun _ => .inr ⟨by decide, by decide⟩
  have below : ∀ a : Int, Below n (.int (a % n)) := fun a => ⟨_, rfl, Int.emod_nonneg _ (by omega), Int.emod_lt_of_pos _ h.1⟩
  simp [F__law_draw, g__law_draw, N__law_draw, runS, runF, R.ite_bind, getSrc, putSrc]
  refine srcD_wp fun x hx => ?_
  by_cases h0 : 0 < x
  · simp [h0]
    refine srcD_wp fun y hy => ?_
    simp [h.1, R.ite_wp]
    refine srcD_wp fun z hz => ?_
    have h1 : SrcAt 0 (z / n) := ⟨Int.ediv_nonneg hz.1 (by omega), fun e => by cases e⟩
    simp [hd, h1]
    exact below _
  · simp [h0]
    refine srcD_wp fun y hy => ?_
    have h1 : ∀ a : Int, SrcAt 1 (a % 2147483353) := fun a => ⟨Int.emod_nonneg _ (by decide), fun _ => Int.lt_trans (Int.emod_lt_of_pos _ (by decide)) (by decide)⟩
    simp [hm1, h1]
    refine srcD_wp fun z hz => ?_
    refine srcD_wp fun t ht => ?_
    have h2 : L2.CMul z (t / 19 + 12) := .inl ⟨Int.lt_of_lt_of_le (by decide) hz.1, Int.lt_trans (hz.2 rfl) (by decide)⟩
    simp [hd19, hd32, h2, h.1]
    exact below _
theorem w_choice (ds : List PyData) (T : PyData → Prop) (h : ∀ d, d ∈ ds → T d) (h0 : 0 < ds.length) (h1 : ds.length < 1073741824) : (F__law_choice [.list ds]).wp T NoE := by
  simp [F__law_choice, g__law_choice, N__law_choice, runS, runF, R.ite_bind]
  refine R.wp_imp (w_draw ds.length ⟨by omega, by omega⟩) (fun d hd => ?_) (fun _ _ e => e)
  obtain ⟨i, rfl, hi⟩ := hd
  have e : L2.atI ds i = ds[i.toNat]? := by
    have := atI_nat ds i.toNat
    rwa [Int.toNat_of_nonneg hi.1] at this
  have hlt : i.toNat < ds.length := by omega
  simp [e, hlt]
  exact h _ (List.getElem_mem _)
end G

set_option Elab.async false
set_option linter.all false
set_option maxRecDepth 100000
set_option maxHeartbeats 400000
namespace G
open PySem DL
/-! ### draws of k12 -/
theorem ints_of {many : Int} : ∀ {ds : List PyData}, (∀ x, x ∈ ds → stand many x = true) → ∃ w : List Int, ds = w.map .int
  | [], _ => ⟨[], rfl⟩
  | d :: ds, h => by
    obtain ⟨w, e⟩ := ints_of (ds := ds) fun x hx => h x (List.mem_cons_of_mem _ hx)
    have h1 := h d List.mem_cons_self
    cases d with
    | int i => exact ⟨i :: w, by rw [e]; rfl⟩
    | _ => cases h1
theorem w_corK (many most : Int) (hm : many = 2 ∨ many = 3) (hmo : 0 ≤ most ∧ most ≤ 60) : (F__law_corridor [.int many, .int most]).wp (fun d => ∃ w : List Int, d = .tuple (w.map .int) ∧ hasCor many d = true) NoE := by
  have key : ∃ rg, gRange (.int many) = some (.list rg) ∧ (0 < rg.length ∧ rg.length < 10) ∧ ∀ x, x ∈ rg → stand many x = true := by
    rcases hm with rfl | rfl
    · exact ⟨[.int 0, .int 1], rfl, by decide, by decide +kernel⟩
    · exact ⟨[.int 0, .int 1, .int 2], rfl, by decide, by decide +kernel⟩
  obtain ⟨rg, e, hl, hr⟩ := key
  have h0 : stand many (.int 0) = true := by simp [stand, isFrom]; omega
  have h1 : stand many (.int (many - 1)) = true := by simp [stand, isFrom]; omega
  simp [F__law_corridor, g__law_corridor, N__law_corridor, runS, runF, R.ite_bind, e, runNZ, runZ]
  refine R.wp_imp (w_choice _ (fun d => ∃ xs, d = .list xs ∧ (0 < xs.length ∧ xs.length < 10) ∧ ∀ x, x ∈ xs → stand many x = true) (fun d hd => by
    simp [List.replicate] at hd
    rcases hd with rfl | rfl | rfl
    · exact ⟨_, rfl, hl, hr⟩
    · exact ⟨_, rfl, by simp, by simp [h0, h1]⟩
    · exact ⟨_, rfl, by simp, by simp [h0, h1]⟩) (by simp) (by simp)) (fun d hd => ?_) (fun _ _ e => e)
  obtain ⟨xs, e2, hx, hs⟩ := hd
  subst e2
  refine R.wp_imp (w_draw (most + 1) ⟨by omega, by omega⟩) (fun d hd => ?_) (fun _ _ e => e)
  obtain ⟨n, e3, hn⟩ := hd
  subst e3
  have hz : (rgD 0 n).length ≤ sizeLine := by
    have : (rgD 0 n).length ≤ 61 := by simp [rgD]; omega
    exact Nat.le_trans this (by decide)
  have hb : -(2 ^ 62) ≤ n ∧ n < 2 ^ 62 := by omega
  simp
  rw [if_pos (by omega)]
  simp [hz, R.wp_noX]
  refine R.wp_imp (compL_wp (fun x => stand many x = true) fun d _ => by simp; exact w_choice xs _ hs hx.1 (by omega)) (fun ys hys => ?_) (fun _ _ e => e)
  obtain ⟨hl2, hy⟩ := hys
  obtain ⟨w, ew⟩ := ints_of hy
  have hl3 : ys.length ≤ 60 := by
    rw [hl2]
    simp [rgD]
    omega
  simp [tupL]
  refine ⟨⟨w, ew⟩, ?_⟩
  simp [hasCor, hl3]
  exact hy
end G

set_option Elab.async false
set_option linter.all false
set_option maxRecDepth 100000
set_option maxHeartbeats 400000
namespace G
open PySem DL
theorem isFrom_below {many i : Int} (h : 0 ≤ i ∧ i < many) : isFrom (.int i) 0 (many - 1) = true := by
  simp [isFrom]; omega
def IsNC (many : Int) (d : PyData) : Prop := ∃ q : NC, d = ncD q ∧ inC many q.2 = true
theorem w_claim (many : Int) (hm : many = 2 ∨ many = 3) : (F__law_claim [.int many]).wp (IsNC many) NoE := by
  simp [F__law_claim, g__law_claim, N__law_claim, runS, runF, R.ite_bind]
  refine R.wp_imp (w_choice _ (fun d => d = .str "none" ∨ d = .str "some" ∨ d = .str "even" ∨ d = .str "first" ∨ d = .str "last" ∨ d = .str "beside") (fun d hd => by
    simp at hd
    rcases hd with rfl | rfl | rfl | rfl | rfl | rfl <;> simp) (by simp) (by simp)) (fun d hd => ?_) (fun _ _ e => e)
  have hmb : 0 < many ∧ many < 1073741824 := by omega
  rcases hd with rfl | rfl | rfl | rfl | rfl | rfl
  all_goals
    try simp [runS, runF, R.ite_bind, nk_none_beside, nk_some_beside, nk_even_beside, nk_first_beside, nk_last_beside]
    refine R.wp_imp (w_draw many hmb) (fun d hd => ?_) (fun _ _ e => e)
    obtain ⟨i, rfl, hi⟩ := hd
    have hi' := isFrom_below hi
    try simp [runS, runF, R.ite_bind, nk_none_beside, nk_some_beside, nk_even_beside, nk_first_beside, nk_last_beside]
  case inr.inr.inr.inr.inr =>
    refine R.wp_imp (w_draw many hmb) (fun d hd => ?_) (fun _ _ e => e)
    obtain ⟨j, rfl, hj⟩ := hd
    have hj' := isFrom_below hj
    try simp [runS, runF, R.ite_bind]
    refine R.wp_imp (w_draw 4 (by decide)) (fun d hd => ?_) (fun _ _ e => e)
    obtain ⟨t, rfl, _⟩ := hd
    by_cases ht : t = 0
    · simp [ht]; exact ⟨(true, .beside i j), rfl, by simp [inC, hi', hj']⟩
    · simp [ht]; exact ⟨(false, .beside i j), rfl, by simp [inC, hi', hj']⟩
  all_goals
    refine R.wp_imp (w_draw 4 (by decide)) (fun d hd => ?_) (fun _ _ e => e)
    obtain ⟨t, rfl, _⟩ := hd
    by_cases ht : t = 0
    · simp [ht]
      first
      | exact ⟨(true, .none i), rfl, hi'⟩
      | exact ⟨(true, .some i), rfl, hi'⟩
      | exact ⟨(true, .even i), rfl, hi'⟩
      | exact ⟨(true, .first i), rfl, hi'⟩
      | exact ⟨(true, .last i), rfl, hi'⟩
    · simp [ht]
      first
      | exact ⟨(false, .none i), rfl, hi'⟩
      | exact ⟨(false, .some i), rfl, hi'⟩
      | exact ⟨(false, .even i), rfl, hi'⟩
      | exact ⟨(false, .first i), rfl, hi'⟩
      | exact ⟨(false, .last i), rfl, hi'⟩
theorem ncs_of {many : Int} : ∀ {ds : List PyData}, (∀ x, x ∈ ds → ∃ q : NC, x = ncD q ∧ inC many q.2 = true) → ∃ qs : List NC, ds = qs.map ncD ∧ ∀ q, q ∈ qs → inC many q.2 = true
  | [], _ => ⟨[], rfl, fun q hq => nomatch hq⟩
  | d :: ds, h => by
    obtain ⟨qs, e, hq⟩ := ncs_of (ds := ds) fun x hx => h x (List.mem_cons_of_mem _ hx)
    obtain ⟨q, e1, h1⟩ := h d List.mem_cons_self
    refine ⟨q :: qs, by rw [e, e1]; rfl, fun x hx => ?_⟩
    rcases List.mem_cons.mp hx with rfl | hx
    · exact h1
    · exact hq x hx
def IsNCs (many : Int) (d : PyData) : Prop := ∃ qs : List NC, d = .tuple (qs.map ncD) ∧ qs.length ≤ 2 ∧ ∀ q, q ∈ qs → inC many q.2 = true
theorem w_claims (many : Int) (hm : many = 2 ∨ many = 3) : (F__law_claims [.int many, .int 2]).wp (IsNCs many) NoE := by
  simp [F__law_claims, g__law_claims, N__law_claims, runS, runF, R.ite_bind]
  refine R.wp_imp (w_draw 3 (by decide)) (fun d hd => ?_) (fun _ _ e => e)
  obtain ⟨n, rfl, hn⟩ := hd
  have hz : (rgD 0 n).length ≤ sizeLine := by
    have : (rgD 0 n).length ≤ 61 := by simp [rgD]; omega
    exact Nat.le_trans this (by decide)
  try simp
  rw [if_pos (by omega)]
  simp [hz, R.wp_noX]
  refine R.wp_imp (compL_wp (IsNC many) fun d _ => by simp; exact w_claim many hm) (fun ys hys => ?_) (fun _ _ e => e)
  obtain ⟨hl2, hy⟩ := hys
  obtain ⟨qs, e, hq⟩ := ncs_of hy
  have hl3 : ys.length ≤ 2 := by
    rw [hl2]
    simp [rgD]
    omega
  try simp
  refine ⟨qs, by rw [e], ?_, hq⟩
  rw [e, List.length_map] at hl3
  exact hl3
end G
set_option Elab.async false
set_option linter.all false
set_option maxRecDepth 100000
set_option maxHeartbeats 1000000
namespace DL
open PySem PySem.Spec PyProof.Rows L2
/-! ### the end: the law's def as a function -/
def LawOk (n : Nat) (FL : List PyData → R PyData) : Prop := ∀ ns : List Int, ns.length ≤ n → (∀ z ∈ ns, Builtin.Int.intBits z ≤ 1048576) → (FL [.list (ns.map .int)]).wp (fun d => d = .bool true) (fun _ _ => False)
theorem dpa_ints {K : PySem.W.Frag} {H : Hp} : ∀ ns : List Int, DpAll K H (ns.map V.int) (ns.map PyData.int)
  | [] => .nil
  | n :: r => .cons (.int n) (dpa_ints r)
theorem sql_hid {K : PySem.W.Frag} {H : Hp} {M : List Addr} {a : Addr} {xs : List V} (na : a ∉ M) (h : SqL K H a xs) : SqL K (hid M H) a xs := by
  rcases h with (h | ⟨o, h⟩) | h
  · exact .inl (.inl (by rw [hid_out na]; exact h))
  · exact .inl (.inr ⟨o, by rw [hid_out na]; exact h⟩)
  · exact .inr h
theorem spD_law {K : PySem.W.Frag} {ec : EC} {n : Nat} {FL : List PyData → R PyData} (h : LawOk n FL) {H : Hp} {a : Addr} {ns : List Int} (hl : ns.length ≤ n) (hb : ∀ z ∈ ns, Builtin.Int.intBits z ≤ 1048576) (hS : SqL K H a (ns.map V.int)) (hT : ∀ p, p ∈ ec.tabs → H p.1 = some (.tbl #[])) (nK : ∀ p, p ∈ ec.tabs → K.lookup p.1 = none) :
    spD K ec 1 FL [.ref a] H (fun v _ => v = .bl true) fun _ _ _ => False := by
  have at_ : ∀ m, m ∈ (Srcs.all (tt := ec.tabs) ⟨[]⟩) → ∃ p, p ∈ ec.tabs ∧ p.1 = m := fun m hm => by
    obtain ⟨p, hp, e⟩ := List.mem_map.mp (show m ∈ ec.tabs.map (·.1) from hm)
    exact ⟨p, hp, e⟩
  have na : a ∉ (Srcs.all (tt := ec.tabs) ⟨[]⟩) := fun z => by
    obtain ⟨p, hp, e⟩ := at_ a z
    have e1 := hT p hp
    rw [e] at e1
    rcases hS with (q | ⟨o, q⟩) | ⟨o, _, _, q, _⟩
    · rw [q] at e1; cases e1
    · rw [q] at e1; cases e1
    · have := nK p hp
      rw [e, q] at this
      cases this
  refine ⟨rfl, ⟨[]⟩, (Srcs.all (tt := ec.tabs) ⟨[]⟩), [.list (ns.map .int)], .cons (.lst (sql_hid na hS) (dpa_ints ns)) .nil, ⟨(fun m z => ?_), (fun a z => z), ⟨(fun a z => by cases z), fun p hp => .nil (hT p hp)⟩⟩, ?_⟩
  · obtain ⟨p, hp, e⟩ := at_ m z
    rw [← e, hT p hp]
    intro q; cases q
  refine R.wp_imp (h ns hl hb) (fun d e v H' _ hv => ?_) (fun c x e => e.elim)
  subst e
  cases hv
  rfl
theorem walk_dl {l : PySem.W.OpenLaw} {n k m : Nat} {q : Program} {loose : List Str} {XP : (Str → Option Value) → Heap → Prop} {d : DefRec} {x : Str} {ta : List Tup} {xs : List Chk} {fs : Lms} {fa : List He.Fa} {fn : List He.DefD} {ec : PySem.W.Frag → EC} {FL : List PyData → R PyData}
    (hn : l.most = some n) (hn2 : n ≤ sizeLine) (hdf : d.params.defaults = []) (hr : Room k callerA) (hL : LawOk n FL) (hec : ∀ K, (ec K).tabs = tabsOf fs K)
    (F : ∀ (w : World) (mg : Str → Option Value) (a : Addr) (h : Heap) (K : PySem.W.Frag), K.In h → SaysX ta xs fs fa fn K → h.Ns mainGlobals mg → mg d.name = some (.ref a) →
      ∃ fd : FuncData, (∀ (s : Shared) (u : Value), BindsTo s fd ⟨[u], []⟩ [(x, u)]) ∧ ∀ base : Heap, K.In base → base.Ns mainGlobals mg → (∀ t, t ∈ tabL fs K → LamX.TabB base mg t.1 t.2.1) → FnOk l.prog w K mg base (L2.CX l.prog w) k a fd [x] (spD K (ec K) 1 FL)) :
    PySem.W.WalkO q loose XP (hookX m ta xs fs fa fn).says l.row.toRowW d [] (fun f vs => PySem.call f vs) := by
  apply Att.attach_callB hn hdf
  intro w s₀ s₁ mg mb a o pm cd doc b vs ns G Y ho hd hcd hmg hobj hints hlen hbits hg
  obtain ⟨K, KX, c, tb⟩ := Y
  obtain ⟨fd, hb, hF⟩ := F w mg a _ K KX c G.T.g hmg
  have cs : ∀ p, p ∈ (tabL fs K).map (fun t => (t.1, t.2.1)) → ∃ t, t ∈ tabL fs K ∧ p = (t.1, t.2.1) := fun p hp => by
    obtain ⟨t, ht, e⟩ := List.mem_map.mp hp
    exact ⟨t, ht, e.symm⟩
  have tt : ∀ p, p ∈ (ec K).tabs → ∃ t, t ∈ tabL fs K ∧ p.1 = t.2.1 := fun p hp => by
    rw [hec] at hp
    obtain ⟨t, ht, e⟩ := List.mem_map.mp hp
    exact ⟨t, ht, by rw [← e]⟩
  refine LamX.law_callTs (cs := (tabL fs K).map fun t => (t.1, t.2.1)) KX G.T.g G.T.b G.T.builtins G.T.nolimit hg (fun p hp => ?_) (fun p hp => ?_) (fun p hp => ?_) G.T.bmain hobj hints (Nat.le_trans hlen hn2) hr (fun base h1 h2 h3 => hF base h1 h2 fun t ht => h3 (t.1, t.2.1) (List.mem_map.mpr ⟨t, ht, rfl⟩)) hb (fun H hH hS => spD_law hL hlen hbits hS (fun p hp => ?_) fun p hp => ?_)
    fun H e s' ⟨_, _, _, _, _, _, _, _, _, _, _, _, z⟩ => z
  · obtain ⟨t, ht, e⟩ := cs p hp
    rw [e]; exact tb t ht
  · obtain ⟨t, ht, e⟩ := cs p hp
    rw [e]; exact c.tnone t ht
  · obtain ⟨t, ht, e⟩ := cs p hp
    rw [e]; exact PySem.W.codeHd_of_K KX (c.tcode t ht)
  · obtain ⟨t, ht, e⟩ := tt p hp
    rw [e]
    exact hH (t.1, t.2.1) (List.mem_map.mpr ⟨t, ht, rfl⟩)
  · obtain ⟨t, ht, e⟩ := tt p hp
    rw [e]; exact c.tnone t ht
theorem fn0_of {P : Program} {w : World} {K : PySem.W.Frag} {mg : Str → Option Value} {base : Heap} {ec : EC} {x qual : Str} {st : Stmt} {f : Addr} {fd : FuncData} {N ps : List Str} {k n : Nat} (Fn : FunD K x qual (defArgs st) (defBody st) (defScope st) [] [] f fd) (S : FnScope N ps (defScope st)) (hb : Binds K fd ps []) (hg : mg x = some (.ref f)) (hn : ps.length = n) :
    FnD P w K mg base ec (k + 1) n x (fun _ => .bad) := fnD_of Fn S hb hg hn (fun _ _ _ _ _ _ _ _ _ => dss_bad) fun ds _ Q E h => h.elim
theorem fn0N_of {P : Program} {w : World} {K : PySem.W.Frag} {mg : Str → Option Value} {base : Heap} {ec : EC} {x qual : Str} {st : Stmt} {f : Addr} {fd : FuncData} {N ps : List Str} {k n : Nat} (Fn : FunD K x qual (defArgs st) (defBody st) (defScope st) [] [] f fd) (S : FnScope N ps (defScope st)) (hb : Binds K fd ps []) (hg : mg x = some (.ref f)) (hn : ps.length = n) :
    FnN P w K mg base ec (k + 1) n x (fun _ => .bad) := fnN_of Fn S hb hg hn (fun _ _ _ _ _ _ _ _ _ => dss_bad) fun ds _ Q E h => h.elim
end DL

set_option Elab.async false
set_option linter.all false
set_option maxRecDepth 100000
set_option maxHeartbeats 400000
namespace G
open PySem DL
/-! ### a turn of k12 -/
def ruleD (many : Int) : PyData := .tuple [.int many, .tuple []]
def TurnQ (a0 a1 a7 a8 : Option SV) (many : Int) (f : Fl) : Prop := ∃ a6 a9 a10 a11, f = .nx [a0, a1, none, none, some .src, some (.d (ruleD many)), a6, a7, a8, a9, a10, a11, none]
theorem gNe_bb (b : Bool) : gNe (.bool b) (.bool b) = some (.bool false) := by cases b <;> rfl
theorem isi_b (b : Bool) : isiD "bool" (.bool b) = true := rfl
theorem getV_t10 {a0 a1 a2 a3 a4 a5 a6 a7 a8 a9 a11 a12 : Option SV} {w : List PyData} : getV [a0, a1, a2, a3, a4, a5, a6, a7, a8, a9, some (.tf w), a11, a12] 10 = .ok (.tuple w) := rfl
theorem getT_t10 {a0 a1 a2 a3 a4 a5 a6 a7 a8 a9 a11 a12 : Option SV} {w : List PyData} : getT [a0, a1, a2, a3, a4, a5, a6, a7, a8, a9, some (.tf w), a11, a12] 10 = .ok w := rfl
theorem getV_tz {r : Rho} {w : List PyData} : getV (some (.tf w) :: r) 0 = .ok (.tuple w) := rfl
theorem step2 {many : Int} (hm : many = 2 ∨ many = 3) (a0 a1 a6 a7 a8 a9 a10 a11 : Option SV) : Wp (L_law_2 [a0, a1, none, none, some .src, some (.d (ruleD many)), a6, a7, a8, a9, a10, a11, none])
    (fun f => ∃ d, f = .nx [a0, a1, none, none, some .src, some (.d (ruleD many)), a6, a7, a8, some (.d d), a10, a11, none] ∧ IsNCs many d) NoE := by
  simp [L_law_2, runS, runF, R.ite_bind, ruleD]
  refine Wp.imp ⟨w_claims many hm⟩ fun d hd => hd
theorem step3 {many : Int} (hm : many = 2 ∨ many = 3) (a0 a1 a6 a7 a8 a9 a10 a11 : Option SV) : Wp (L_law_3 [a0, a1, none, none, some .src, some (.d (ruleD many)), a6, a7, a8, a9, a10, a11, none])
    (fun f => ∃ w : List Int, f = .nx [a0, a1, none, none, some .src, some (.d (ruleD many)), a6, a7, a8, a9, some (.tf (w.map .int)), a11, none] ∧ hasCor many (.tuple (w.map .int)) = true) NoE := by
  simp [L_law_3, setZ, runS, runF, R.ite_bind, ruleD]
  refine Wp.imp ⟨w_choice [.int 2, .int 6, .int 60] (fun d => ∃ n : Int, d = .int n ∧ 0 ≤ n ∧ n ≤ 60) (fun d hd => by
    simp at hd
    rcases hd with rfl | rfl | rfl <;> exact ⟨_, rfl, by omega, by omega⟩) (by decide) (by decide)⟩ fun n ⟨n, e, hn⟩ => ?_
  subst e
  refine Wp.imp ⟨w_corK many n hm hn⟩ fun d ⟨w, e, hw⟩ => ?_
  subst e
  simp
  exact ⟨w, rfl, hw⟩
theorem turn_body {many : Int} (hm : many = 2 ∨ many = 3) (a0 a1 a6 a7 a8 a9 a10 a11 : Option SV) (d : PyData) :
    Wp ((R.ofO (tg1 6 d [a0, a1, none, none, some .src, some (.d (ruleD many)), a6, a7, a8, a9, a10, a11, none])).bind L_law_6) (TurnQ a0 a1 a7 a8 many) NoE := by
  simp [L_law_6, runS, runF, R.ite_bind]
  refine (step2 hm a0 a1 (some (.d d)) a7 a8 a9 a10 a11).imp fun f hf => ?_
  obtain ⟨_, e, qs, rfl, hq, H⟩ := hf
  subst e
  simp
  refine (step3 hm a0 a1 (some (.d d)) a7 a8 (some (.d (.tuple (qs.map ncD)))) a10 a11).imp fun f hf => ?_
  obtain ⟨w, e, hw⟩ := hf
  subst e
  have e1 := s_holds many hm qs hq H w hw
  have e2 := s_all_so qs hq w
  have e3 : chkV 2 F__law_all_so [.d (.tuple (qs.map ncD)), .tf (w.map .int)] = .ok (.bool (qs.all (soQ w))) := by
    unfold chkV
    rw [if_pos ⟨rfl, rfl⟩]
    exact e2
  have e4 : L_law_4 [a0, a1, none, none, some .src, some (.d (ruleD many)), some (.d d), a7, a8, some (.d (.tuple (qs.map ncD))), some (.tf (w.map .int)), a11, none] = .ok (.nx [a0, a1, none, none, some .src, some (.d (ruleD many)), some (.d d), a7, a8, some (.d (.tuple (qs.map ncD))), some (.tf (w.map .int)), some (.d (.bool (qs.all (soQ w)))), none]) := by
    simp [L_law_4, runS, runF, R.ite_bind, getV_tz, ruleD, e1]
  have e5 : L_law_5 [a0, a1, none, none, some .src, some (.d (ruleD many)), some (.d d), a7, a8, some (.d (.tuple (qs.map ncD))), some (.tf (w.map .int)), some (.d (.bool (qs.all (soQ w)))), none] = .ok (.nx [a0, a1, none, none, some .src, some (.d (ruleD many)), some (.d d), a7, a8, some (.d (.tuple (qs.map ncD))), some (.tf (w.map .int)), some (.d (.bool (qs.all (soQ w)))), none]) := by
    simp [L_law_5, runS, runF, R.ite_bind, getT_t10, e3, gNe_bb, isi_b]
  clear e1 e2 e3
  simp only [R.ok_bind, e4, e5, Wp_ok]
  exact ⟨_, _, _, _, rfl⟩
theorem turns {many : Int} (hm : many = 2 ∨ many = 3) (a0 a1 a7 a8 : Option SV) : ∀ (ds : List PyData) (a6 a9 a10 a11 : Option SV),
    Wp (forG (tg1 6) L_law_6 ds [a0, a1, none, none, some .src, some (.d (ruleD many)), a6, a7, a8, a9, a10, a11, none]) (TurnQ a0 a1 a7 a8 many) NoE := by
  intro ds
  induction ds with
  | nil => intro a6 a9 a10 a11; exact ⟨⟨_, _, _, _, rfl⟩⟩
  | cons d ds ih =>
    intro a6 a9 a10 a11
    rw [forG_cons, Wp_bind]
    refine (turn_body hm a0 a1 a6 a7 a8 a9 a10 a11 d).imp fun f hf => ?_
    obtain ⟨b6, b9, b10, b11, e⟩ := hf
    subst e
    exact ih b6 b9 b10 b11
end G

set_option Elab.async false
set_option linter.all false
set_option maxRecDepth 100000
set_option maxHeartbeats 400000
namespace G
open PySem DL
/-! ### the source -/
theorem src_at (c k : Int) (hc : 0 ≤ c) (hk : 0 ≤ k) : ∃ x y : Int, (if 100000000000000000 < c then R.ok (PyData.list [.int c, .int ((c * 16807 + 9001 * k + 23) % 2147483353)]) else R.ok (PyData.list [.int 0, .int ((c * 16807 + 9001 * k + 23) % 2147483353)])) = R.ok (.list [.int x, .int y]) ∧ 0 ≤ x ∧ 0 ≤ y ∧ y < 2 ^ 32 := by
  by_cases h : 100000000000000000 < c
  · exact ⟨_, _, by rw [if_pos h], hc, by omega, by omega⟩
  · exact ⟨_, _, by rw [if_neg h], by omega, by omega, by omega⟩
theorem w_source (ns : List Int) (k : Nat) (hk : k ≤ 100) : ∃ x y : Int, F__law_source [.list (ns.map .int), .int k] = .ok (.list [.int x, .int y]) ∧ 0 ≤ x ∧ 0 ≤ y ∧ y < 2 ^ 32 := by
  have cp : L2.CPow 10 17 := ⟨by decide, by decide, by decide +kernel⟩
  have cm1 : ∀ a : Int, L2.CMul a 16807 := fun a => .inr ⟨by decide, by decide⟩
  have cm2 : L2.CMul 9001 (k : Int) := .inl ⟨by decide, by decide⟩
  have cm3 : L2.CMul 61 (k : Int) := .inl ⟨by decide, by decide⟩
  by_cases h : k < ns.length
  · obtain ⟨x, y, h1, h2⟩ := src_at (if ns[k] < 0 then -ns[k] else ns[k]) k (by split <;> omega) (by omega)
    refine ⟨x, y, ?_, h2⟩
    have hg : (ns.map PyData.int)[k]? = some (.int ns[k]) := by simp [h]
    have h' : (k : Int) < (ns.length : Int) := by omega
    simp [F__law_source, g__law_source, N__law_source, runF, runS, runF, R.ite_bind, h', atI_nat, hg, cp, cm1, cm2, -List.getElem?_map, -List.getElem_map]
    exact h1
  · obtain ⟨x, y, h1, h2⟩ := src_at (61 * (k : Int) + 13) k (by omega) (by omega)
    refine ⟨x, y, ?_, h2⟩
    have h' : ¬ (k : Int) < (ns.length : Int) := by omega
    simp [F__law_source, g__law_source, N__law_source, runF, runS, runF, R.ite_bind, h', cp, cm1, cm2, cm3]
    exact h1
end G

set_option Elab.async false
set_option linter.all false
set_option maxRecDepth 100000
set_option maxHeartbeats 400000
namespace G
open PySem DL
/-! ### values that are none, and a cell -/
def badD (many : Int) : List PyData := [.none, .list [], .str "none", .tuple [.tuple [.str "none"]], .tuple [.tuple [.str "none", .int many]], .tuple [.tuple [.str "beside", .int 0]], .tuple [.tuple [.str "first", .bool true]],
  .tuple [.tuple [.str "none", .int 0], .tuple [.str "none", .int 0], .tuple [.str "none", .int 0]], .tuple [.tuple [.str "not", .tuple [.str "not", .tuple [.str "none", .int 0]]]], .tuple [.tuple [.str "not", .tuple [.str "none"]]],
  .tuple [.tuple [.str "some", .int 0, .int 1]], .tuple [.str "none", .int 0], .tuple [.tuple [.str "all", .int 0]]]
def RestB : Rho → R Fl := fSeq L_law_7 (fSeq L_law_8 (fSeq L_law_9 (fSeq L_law_12 (fSeq L_law_13 fun ρ => .ok (.nx ρ)))))
theorem bad_ok2 (a0 a1 a6 a7 a8 a9 a10 a11 : Option SV) : RestB [a0, a1, none, none, some .src, some (.d (ruleD 2)), a6, a7, a8, a9, a10, a11, none] = .ok (.nx [a0, a1, none, none, some .src, some (.d (ruleD 2)), a6, some (.d (.list (badD 2))), some (.d (.tuple [.tuple [.str "all", .int 0]])), a9, a10, a11, none]) := by
  kernel_rfl
theorem bad_ok3 (a0 a1 a6 a7 a8 a9 a10 a11 : Option SV) : RestB [a0, a1, none, none, some .src, some (.d (ruleD 3)), a6, a7, a8, a9, a10, a11, none] = .ok (.nx [a0, a1, none, none, some .src, some (.d (ruleD 3)), a6, some (.d (.list (badD 3))), some (.d (.tuple [.tuple [.str "all", .int 0]])), a9, a10, a11, none]) := by
  kernel_rfl
def CellQ (ns : List Int) (f : Fl) : Prop := ∃ a1 a4 a5 a6 a7 a8 a9 a10 a11, f = .nx [some (.d (.list (ns.map .int))), a1, none, none, a4, a5, a6, a7, a8, a9, a10, a11, none]
def Rest1 : Rho → R Fl := fSeq L_law_1 (fSeq (fFor (fun ρ => ((fC (.int 8)) ρ).bind rgOf) (tg1 6) L_law_6) RestB)
theorem rest1 (ns : List Int) (a1 a5 a6 a7 a8 a9 a10 a11 : Option SV) : Wp (Rest1 [some (.d (.list (ns.map .int))), a1, none, none, some .src, a5, a6, a7, a8, a9, a10, a11, none]) (CellQ ns) NoE := by
  unfold Rest1
  simp [L_law_1, runS, runF, R.ite_bind]
  refine Wp.imp ⟨w_choice [.int 2, .int 3] (fun d => ∃ many, d = .int many ∧ (many = 2 ∨ many = 3)) (fun d hd => by
    simp at hd
    rcases hd with rfl | rfl
    · exact ⟨2, rfl, .inl rfl⟩
    · exact ⟨3, rfl, .inr rfl⟩) (by decide) (by decide)⟩ fun d ⟨many, e, hm⟩ => ?_
  subst e
  refine (turns hm (some (.d (.list (ns.map .int)))) a1 a7 a8 (rgD 0 8) a6 a9 a10 a11).imp fun f hf => ?_
  obtain ⟨b6, b9, b10, b11, e⟩ := hf
  subst e
  rcases hm with rfl | rfl
  · refine Wp.eq (bad_ok2 _ _ _ _ _ _ _ _) ?_
    exact ⟨_, _, _, _, _, _, _, _, _, rfl⟩
  · refine Wp.eq (bad_ok3 _ _ _ _ _ _ _ _) ?_
    exact ⟨_, _, _, _, _, _, _, _, _, rfl⟩
theorem L14 : L_law_14 = fSrc 4 (fun ρ => ((fun ρ => ((fun ρ => getV ρ 0) ρ).bind fun d => ((fun ρ => ((fun ρ => getV ρ 1) ρ).bind fun d => ((fun _ => R.ok []) ρ).bind fun ds => R.ok (d :: ds)) ρ).bind fun ds => R.ok (d :: ds)) ρ).bind (chk 2 F__law_source)) Rest1 := rfl
theorem cell_body (ns : List Int) (k : Nat) (hk : k ≤ 100) (a1 a4 a5 a6 a7 a8 a9 a10 a11 : Option SV) :
    Wp ((R.ofO (tg1 1 (.int k) [some (.d (.list (ns.map .int))), a1, none, none, a4, a5, a6, a7, a8, a9, a10, a11, none])).bind L_law_14) (CellQ ns) NoE := by
  obtain ⟨x, y, e, hx, hy⟩ := w_source ns k hk
  have hy2 : y < 4294967296 := hy.2
  simp [L14, runS, runF, R.ite_bind, e, fSrc, hx, hy.1, hy2]
  refine (rest1 ns _ _ _ _ _ _ _ _).imp fun f hf => ?_
  obtain ⟨b1, b4, b5, b6, b7, b8, b9, b10, b11, e⟩ := hf
  subst e
  exact ⟨_, _, _, _, _, _, _, _, _, rfl⟩
theorem cells (ns : List Int) : ∀ (ds : List PyData), (∀ d, d ∈ ds → ∃ k : Nat, k ≤ 100 ∧ d = .int k) → ∀ a1 a4 a5 a6 a7 a8 a9 a10 a11 : Option SV,
    Wp (forG (tg1 1) L_law_14 ds [some (.d (.list (ns.map .int))), a1, none, none, a4, a5, a6, a7, a8, a9, a10, a11, none]) (CellQ ns) NoE := by
  intro ds
  induction ds with
  | nil =>
    intro _ a1 a4 a5 a6 a7 a8 a9 a10 a11
    exact ⟨⟨_, _, _, _, _, _, _, _, _, rfl⟩⟩
  | cons d ds ih =>
    intro h a1 a4 a5 a6 a7 a8 a9 a10 a11
    obtain ⟨k, hk, rfl⟩ := h d List.mem_cons_self
    rw [forG_cons, Wp_bind]
    refine (cell_body ns k hk a1 a4 a5 a6 a7 a8 a9 a10 a11).imp fun f hf => ?_
    obtain ⟨b1, b4, b5, b6, b7, b8, b9, b10, b11, e⟩ := hf
    subst e
    exact ih (fun x hx => h x (List.mem_cons_of_mem _ hx)) b1 b4 b5 b6 b7 b8 b9 b10 b11
def fin (f : Fl) : R PyData := match f with
  | .nx _ => .ok .none
  | .rt d _ => .ok d
  | .rf d _ => .ok d
  | _ => .bad
def Rest : Rho → R Fl := fSeq L_law_16 (fSeq L_law_17 (fSeq L_law_18 (fSeq L_law_19 (fSeq L_law_20 L_law_21))))
theorem tail_ok (a0 a1 a4 a5 a6 a7 a8 a9 a10 a11 : Option SV) : (Rest [a0, a1, none, none, a4, a5, a6, a7, a8, a9, a10, a11, none]).bind fin = .ok (.bool true) := by
  kernel_rfl
theorem rg_small (n : Int) (h : n ≤ 101) : ∀ d, d ∈ rgD 0 n → ∃ k : Nat, k ≤ 100 ∧ d = .int k := fun d hd => by
  unfold rgD at hd
  obtain ⟨i, hi, rfl⟩ := List.mem_map.mp hd
  rw [List.mem_range] at hi
  exact ⟨i, by omega, by simp⟩
theorem lawOk : LawOk 63 F_law := by
  intro ns hl _
  refine Wp.h (E := NoE) ?_
  have e : F_law [.list (ns.map .int)] = ((fSeq L_law_15 Rest) [some (.d (.list (ns.map .int))), none, none, none, none, none, none, none, none, none, none, none, none]).bind fin := rfl
  have hb : (-4611686018427387904 ≤ 1 + if 10 < (ns.length : Int) then 10 else (ns.length : Int)) ∧ (1 + if 10 < (ns.length : Int) then 10 else (ns.length : Int)) < 4611686018427387904 := by
    constructor <;> split <;> omega
  have e15 : L_law_15 [some (.d (.list (ns.map .int))), none, none, none, none, none, none, none, none, none, none, none, none] = forG (tg1 1) L_law_14 (rgD 0 (1 + if 10 < (ns.length : Int) then 10 else (ns.length : Int))) [some (.d (.list (ns.map .int))), none, none, none, none, none, none, none, none, none, none, none, none] := by
    simp [L_law_15, runS, runF, R.ite_bind, hb]
  rw [e, ap_fSeq, e15, Wp_bind, Wp_bind]
  refine (cells ns _ (rg_small _ (by split <;> omega)) _ _ _ _ _ _ _ _ _).imp fun f hf => ?_
  obtain ⟨b1, b4, b5, b6, b7, b8, b9, b10, b11, e⟩ := hf
  subst e
  show Wp (Rest _) _ _
  rw [← Wp_bind]
  exact Wp.eq (tail_ok _ _ _ _ _ _ _ _ _ _) rfl
end G
set_option Elab.async false
set_option linter.all false
set_option maxRecDepth 100000
set_option maxHeartbeats 0
namespace G
open PySem PySem.Spec PyProof.Rows L2 DL
def d_is_from : He.DefD := ⟨("is_from", none), "is_from", "is_from", defArgs (top 10), defBody (top 10), defScope (top 10), [], []⟩
def d_is_tuple : He.DefD := ⟨("is_tuple", none), "is_tuple", "is_tuple", defArgs (top 11), defBody (top 11), defScope (top 11), [], []⟩
def d_is_side : He.DefD := ⟨("is_side", none), "is_side", "is_side", defArgs (top 12), defBody (top 12), defScope (top 12), [], []⟩
def d_is_line : He.DefD := ⟨("is_line", none), "is_line", "is_line", defArgs (top 13), defBody (top 13), defScope (top 13), [], []⟩
def d_is_table : He.DefD := ⟨("is_table", none), "is_table", "is_table", defArgs (top 14), defBody (top 14), defScope (top 14), [], []⟩
def d_is_plain : He.DefD := ⟨("is_plain", none), "is_plain", "is_plain", defArgs (top 15), defBody (top 15), defScope (top 15), [], []⟩
def d_has_step : He.DefD := ⟨("has_step", none), "has_step", "has_step", defArgs (top 16), defBody (top 16), defScope (top 16), [], []⟩
def d_table_of : He.DefD := ⟨("table_of", none), "table_of", "table_of", defArgs (top 17), defBody (top 17), defScope (top 17), [], []⟩
def d_walk_of : He.DefD := ⟨("walk_of", none), "walk_of", "walk_of", defArgs (top 18), defBody (top 18), defScope (top 18), [], []⟩
def d_spread : He.DefD := ⟨("spread", none), "spread", "spread", defArgs (top 19), defBody (top 19), defScope (top 19), [], []⟩
def d_notes_of : He.DefD := ⟨("notes_of", none), "notes_of", "notes_of", defArgs (top 20), defBody (top 20), defScope (top 20), [], []⟩
def d_has_script : He.DefD := ⟨("has_script", none), "has_script", "has_script", defArgs (top 21), defBody (top 21), defScope (top 21), [], []⟩
def d_need_script : He.DefD := ⟨("need_script", none), "need_script", "need_script", defArgs (top 22), defBody (top 22), defScope (top 22), [], []⟩
def d_has_corridor : He.DefD := ⟨("has_corridor", none), "has_corridor", "has_corridor", defArgs (top 23), defBody (top 23), defScope (top 23), [], []⟩
def d_need_corridor : He.DefD := ⟨("need_corridor", none), "need_corridor", "need_corridor", defArgs (top 24), defBody (top 24), defScope (top 24), [], []⟩
def d_is_plain_claim : He.DefD := ⟨("is_plain_claim", none), "is_plain_claim", "is_plain_claim", defArgs (top 27), defBody (top 27), defScope (top 27), [], []⟩
def d_has_claims : He.DefD := ⟨("has_claims", none), "has_claims", "has_claims", defArgs (top 28), defBody (top 28), defScope (top 28), [], []⟩
def d_need_claims : He.DefD := ⟨("need_claims", none), "need_claims", "need_claims", defArgs (top 29), defBody (top 29), defScope (top 29), [], []⟩
def d_claim_step : He.DefD := ⟨("claim_step", none), "claim_step", "claim_step", defArgs (top 30), defBody (top 30), defScope (top 30), [], []⟩
def d_is_good : He.DefD := ⟨("is_good", none), "is_good", "is_good", defArgs (top 31), defBody (top 31), defScope (top 31), [], []⟩
def d_inner_of : He.DefD := ⟨("inner_of", none), "inner_of", "inner_of", defArgs (top 32), defBody (top 32), defScope (top 32), [], []⟩
def d_claims_step : He.DefD := ⟨("claims_step", none), "claims_step", "claims_step", defArgs (top 33), defBody (top 33), defScope (top 33), [], []⟩
def d_are_good : He.DefD := ⟨("are_good", none), "are_good", "are_good", defArgs (top 34), defBody (top 34), defScope (top 34), [], []⟩
def d_has_all : He.DefD := ⟨("has_all", none), "has_all", "has_all", defArgs (top 35), defBody (top 35), defScope (top 35), [], []⟩
def d_holds : He.DefD := ⟨("holds", none), "holds", "holds", defArgs (top 36), defBody (top 36), defScope (top 36), [], []⟩
def d__law_source : He.DefD := ⟨("_law_source", none), "_law_source", "_law_source", defArgs (top 38), defBody (top 38), defScope (top 38), [], []⟩
def d__law_draw : He.DefD := ⟨("_law_draw", none), "_law_draw", "_law_draw", defArgs (top 39), defBody (top 39), defScope (top 39), [], []⟩
def d__law_choice : He.DefD := ⟨("_law_choice", none), "_law_choice", "_law_choice", defArgs (top 40), defBody (top 40), defScope (top 40), [], []⟩
def d__law_corridor : He.DefD := ⟨("_law_corridor", none), "_law_corridor", "_law_corridor", defArgs (top 41), defBody (top 41), defScope (top 41), [], []⟩
def d__law_claim : He.DefD := ⟨("_law_claim", none), "_law_claim", "_law_claim", defArgs (top 42), defBody (top 42), defScope (top 42), [], []⟩
def d__law_claims : He.DefD := ⟨("_law_claims", none), "_law_claims", "_law_claims", defArgs (top 43), defBody (top 43), defScope (top 43), [], []⟩
def d__law_is_so : He.DefD := ⟨("_law_is_so", none), "_law_is_so", "_law_is_so", defArgs (top 44), defBody (top 44), defScope (top 44), [], []⟩
def d__law_all_so : He.DefD := ⟨("_law_all_so", none), "_law_all_so", "_law_all_so", defArgs (top 45), defBody (top 45), defScope (top 45), [], []⟩
def d__law_word : He.DefD := ⟨("_law_word", none), "_law_word", "_law_word", defArgs (top 46), defBody (top 46), defScope (top 46), [], []⟩
def d_law : He.DefD := ⟨("law", none), "law", "law", defArgs (top 47), defBody (top 47), defScope (top 47), [], []⟩
def FN : List He.DefD := [d_is_from, d_is_tuple, d_is_side, d_is_line, d_is_table, d_is_plain, d_has_step, d_table_of, d_walk_of, d_spread, d_notes_of, d_has_script, d_need_script, d_has_corridor, d_need_corridor, d_is_plain_claim, d_has_claims, d_need_claims, d_claim_step, d_is_good, d_inner_of, d_claims_step, d_are_good, d_has_all, d_holds, d__law_source, d__law_draw, d__law_choice, d__law_corridor, d__law_claim, d__law_claims, d__law_is_so, d__law_all_so, d__law_word, d_law]
def FA : List He.Fa := [.glo "is_from", .glo "is_tuple", .glo "is_side", .glo "is_line", .glo "is_table", .glo "is_plain", .glo "has_step", .glo "table_of", .glo "walk_of", .glo "spread", .glo "notes_of", .glo "has_script", .glo "need_script", .glo "has_corridor", .glo "need_corridor", .glo "is_plain_claim", .glo "has_claims", .glo "need_claims", .glo "claim_step", .glo "is_good", .glo "inner_of", .glo "claims_step", .glo "are_good", .glo "has_all", .glo "holds", .glo "_law_source", .glo "_law_draw", .glo "_law_choice", .glo "_law_corridor", .glo "_law_claim", .glo "_law_claims", .glo "_law_is_so", .glo "_law_all_so", .glo "_law_word", .glo "law", .glo "InvalidClaims", .glo "InvalidCorridor", .glo "InvalidScript", .glo "SIDES", .glo "SINGLE", .int "MOST_NOTES" 16, .int "MOST_STEPS" 6, .int "MOST_WALKS" 8, .free "abs", .free "all", .free "bool", .free "int", .free "isinstance", .free "len", .free "list", .free "min", .free "range", .free "str", .free "tuple", .free "zip"]
def TA : List Tup := [("SIDES", V_SIDES), ("SINGLE", V_SINGLE)]
def FS : Lms := [("law", (("law" : PySem.Str) ++ ".<locals>.") ++ "<lambda>")]
def EXN : List Str := ["InvalidScript", "InvalidCorridor", "InvalidClaims"]
def ec0 (K : PySem.W.Frag) : EC := ecOf EXN (fun _ => "") FS K
def CK : List Chk := [exmB EXN, exB "InvalidClaims", exB "InvalidCorridor", exB "InvalidScript"]
section
variable {P : Program} {w : World} {K : PySem.W.Frag} {mg : Str → Option Value} {base h : Heap}
theorem c_is_from (X : K.In h) (Gm : h.Ns mainGlobals mg) (c : SaysX TA CK FS FA FN K) (TBS : ∀ t, t ∈ tabL FS K → LamX.TabB base mg t.1 t.2.1) : FnD P w K mg base (ec0 K) 1 3 "is_from" F_is_from := by
  obtain ⟨fd, Fd⟩ := c.says.def_ 0 (d := d_is_from) rfl
  have Fd : FunD K "is_from" "is_from" (defArgs (top 10)) (defBody (top 10)) (defScope (top 10)) [] [] (He.ga K "is_from") fd := Fd
  have hb : Binds K fd ["value", "low", "high"] [] := FunD.bindsN Fd fun _ _ _ _ _ _ us hl => match us, hl with | [_, _, _], _ => rfl
  have hg := He.glo_ok X Gm (c.says.fact 0 rfl)
  exact fnD_of (st := top 10) Fd sc_is_from hb hg rfl (b_is_from (He.free_ok X Gm (c.says.fact 45 rfl)) (He.free_ok X Gm (c.says.fact 46 rfl)) (He.free_ok X Gm (c.says.fact 47 rfl))) (fun ds _ => R.le_refl _)
theorem c_is_tuple (X : K.In h) (Gm : h.Ns mainGlobals mg) (c : SaysX TA CK FS FA FN K) (TBS : ∀ t, t ∈ tabL FS K → LamX.TabB base mg t.1 t.2.1) : FnD P w K mg base (ec0 K) 1 3 "is_tuple" F_is_tuple := by
  obtain ⟨fd, Fd⟩ := c.says.def_ 1 (d := d_is_tuple) rfl
  have Fd : FunD K "is_tuple" "is_tuple" (defArgs (top 11)) (defBody (top 11)) (defScope (top 11)) [] [] (He.ga K "is_tuple") fd := Fd
  have hb : Binds K fd ["value", "low", "high"] [] := FunD.bindsN Fd fun _ _ _ _ _ _ us hl => match us, hl with | [_, _, _], _ => rfl
  have hg := He.glo_ok X Gm (c.says.fact 1 rfl)
  exact fnD_of (st := top 11) Fd sc_is_tuple hb hg rfl (b_is_tuple (He.free_ok X Gm (c.says.fact 47 rfl)) (He.free_ok X Gm (c.says.fact 48 rfl)) (He.free_ok X Gm (c.says.fact 53 rfl))) (fun ds _ => R.le_refl _)
theorem c_is_side (X : K.In h) (Gm : h.Ns mainGlobals mg) (c : SaysX TA CK FS FA FN K) (TBS : ∀ t, t ∈ tabL FS K → LamX.TabB base mg t.1 t.2.1) : FnD P w K mg base (ec0 K) 1 1 "is_side" F_is_side := by
  obtain ⟨fd, Fd⟩ := c.says.def_ 2 (d := d_is_side) rfl
  have Fd : FunD K "is_side" "is_side" (defArgs (top 12)) (defBody (top 12)) (defScope (top 12)) [] [] (He.ga K "is_side") fd := Fd
  have hb : Binds K fd ["value"] [] := FunD.bindsN Fd fun _ _ _ _ _ _ us hl => match us, hl with | [_], _ => rfl
  have hg := He.glo_ok X Gm (c.says.fact 2 rfl)
  exact fnD_of (st := top 12) Fd sc_is_side hb hg rfl (b_is_side (He.free_ok X Gm (c.says.fact 47 rfl)) (He.free_ok X Gm (c.says.fact 52 rfl)) (He.glo_ok X Gm (c.says.fact 38 rfl)) (c.tup ("SIDES", V_SIDES) (by simp [TA]))) (fun ds _ => R.le_refl _)
theorem c_is_line (X : K.In h) (Gm : h.Ns mainGlobals mg) (c : SaysX TA CK FS FA FN K) (TBS : ∀ t, t ∈ tabL FS K → LamX.TabB base mg t.1 t.2.1) : FnD P w K mg base (ec0 K) 2 3 "is_line" F_is_line := by
  obtain ⟨fd, Fd⟩ := c.says.def_ 3 (d := d_is_line) rfl
  have Fd : FunD K "is_line" "is_line" (defArgs (top 13)) (defBody (top 13)) (defScope (top 13)) [] [] (He.ga K "is_line") fd := Fd
  have hb : Binds K fd ["many", "notes", "value"] [] := FunD.bindsN Fd fun _ _ _ _ _ _ us hl => match us, hl with | [_, _, _], _ => rfl
  have hg := He.glo_ok X Gm (c.says.fact 3 rfl)
  exact fnD_of (st := top 13) Fd sc_is_line hb hg rfl (b_is_line (c_is_tuple X Gm c TBS) (c_is_from X Gm c TBS) (He.free_ok X Gm (c.says.fact 44 rfl))) (fun ds _ => R.le_refl _)
theorem c_is_table (X : K.In h) (Gm : h.Ns mainGlobals mg) (c : SaysX TA CK FS FA FN K) (TBS : ∀ t, t ∈ tabL FS K → LamX.TabB base mg t.1 t.2.1) : FnD P w K mg base (ec0 K) 3 2 "is_table" F_is_table := by
  obtain ⟨fd, Fd⟩ := c.says.def_ 4 (d := d_is_table) rfl
  have Fd : FunD K "is_table" "is_table" (defArgs (top 14)) (defBody (top 14)) (defScope (top 14)) [] [] (He.ga K "is_table") fd := Fd
  have hb : Binds K fd ["many", "value"] [] := FunD.bindsN Fd fun _ _ _ _ _ _ us hl => match us, hl with | [_, _], _ => rfl
  have hg := He.glo_ok X Gm (c.says.fact 4 rfl)
  exact fnD_of (st := top 14) Fd sc_is_table hb hg rfl (b_is_table (c_is_tuple X Gm c TBS) (c_is_line X Gm c TBS) (He.free_ok X Gm (c.says.fact 44 rfl)) (He.free_ok X Gm (c.says.fact 48 rfl))) (fun ds _ => R.le_refl _)
theorem c_is_plain (X : K.In h) (Gm : h.Ns mainGlobals mg) (c : SaysX TA CK FS FA FN K) (TBS : ∀ t, t ∈ tabL FS K → LamX.TabB base mg t.1 t.2.1) : FnD P w K mg base (ec0 K) 4 2 "is_plain" F_is_plain := by
  obtain ⟨fd, Fd⟩ := c.says.def_ 5 (d := d_is_plain) rfl
  have Fd : FunD K "is_plain" "is_plain" (defArgs (top 15)) (defBody (top 15)) (defScope (top 15)) [] [] (He.ga K "is_plain") fd := Fd
  have hb : Binds K fd ["many", "value"] [] := FunD.bindsN Fd fun _ _ _ _ _ _ us hl => match us, hl with | [_, _], _ => rfl
  have hg := He.glo_ok X Gm (c.says.fact 5 rfl)
  exact fnD_of (st := top 15) Fd sc_is_plain hb hg rfl (b_is_plain (c_is_tuple X Gm c TBS) (c_is_from X Gm c TBS) (c_is_side X Gm c TBS) (c_is_table X Gm c TBS) (He.free_ok X Gm (c.says.fact 44 rfl)) (He.free_ok X Gm (c.says.fact 47 rfl)) (He.free_ok X Gm (c.says.fact 48 rfl)) (He.free_ok X Gm (c.says.fact 52 rfl))) (fun ds _ => R.le_refl _)
theorem c_has_step (X : K.In h) (Gm : h.Ns mainGlobals mg) (c : SaysX TA CK FS FA FN K) (TBS : ∀ t, t ∈ tabL FS K → LamX.TabB base mg t.1 t.2.1) : FnD P w K mg base (ec0 K) 5 2 "has_step" F_has_step := by
  obtain ⟨fd, Fd⟩ := c.says.def_ 6 (d := d_has_step) rfl
  have Fd : FunD K "has_step" "has_step" (defArgs (top 16)) (defBody (top 16)) (defScope (top 16)) [] [] (He.ga K "has_step") fd := Fd
  have hb : Binds K fd ["many", "value"] [] := FunD.bindsN Fd fun _ _ _ _ _ _ us hl => match us, hl with | [_, _], _ => rfl
  have hg := He.glo_ok X Gm (c.says.fact 6 rfl)
  exact fnD_of (st := top 16) Fd sc_has_step hb hg rfl (b_has_step (c_is_tuple X Gm c TBS) (c_is_from X Gm c TBS) (c_is_plain X Gm c TBS) (He.free_ok X Gm (c.says.fact 44 rfl)) (He.free_ok X Gm (c.says.fact 47 rfl)) (He.free_ok X Gm (c.says.fact 52 rfl))) (fun ds _ => R.le_refl _)
theorem c_table_of (X : K.In h) (Gm : h.Ns mainGlobals mg) (c : SaysX TA CK FS FA FN K) (TBS : ∀ t, t ∈ tabL FS K → LamX.TabB base mg t.1 t.2.1) : FnD P w K mg base (ec0 K) 1 2 "table_of" F_table_of := by
  obtain ⟨fd, Fd⟩ := c.says.def_ 7 (d := d_table_of) rfl
  have Fd : FunD K "table_of" "table_of" (defArgs (top 17)) (defBody (top 17)) (defScope (top 17)) [] [] (He.ga K "table_of") fd := Fd
  have hb : Binds K fd ["many", "step"] [] := FunD.bindsN Fd fun _ _ _ _ _ _ us hl => match us, hl with | [_, _], _ => rfl
  have hg := He.glo_ok X Gm (c.says.fact 7 rfl)
  exact fnD_of (st := top 17) Fd sc_table_of hb hg rfl (b_table_of (He.free_ok X Gm (c.says.fact 46 rfl)) (He.free_ok X Gm (c.says.fact 49 rfl)) (He.free_ok X Gm (c.says.fact 51 rfl)) (He.free_ok X Gm (c.says.fact 53 rfl))) (fun ds _ => R.le_refl _)
theorem c_walk_of (X : K.In h) (Gm : h.Ns mainGlobals mg) (c : SaysX TA CK FS FA FN K) (TBS : ∀ t, t ∈ tabL FS K → LamX.TabB base mg t.1 t.2.1) : FnD P w K mg base (ec0 K) 2 2 "walk_of" F_walk_of := by
  obtain ⟨fd, Fd⟩ := c.says.def_ 8 (d := d_walk_of) rfl
  have Fd : FunD K "walk_of" "walk_of" (defArgs (top 18)) (defBody (top 18)) (defScope (top 18)) [] [] (He.ga K "walk_of") fd := Fd
  have hb : Binds K fd ["many", "step"] [] := FunD.bindsN Fd fun _ _ _ _ _ _ us hl => match us, hl with | [_, _], _ => rfl
  have hg := He.glo_ok X Gm (c.says.fact 8 rfl)
  exact fnD_of (st := top 18) Fd sc_walk_of hb hg rfl (b_walk_of (c_table_of X Gm c TBS)) (fun ds _ => R.le_refl _)
theorem r_spread (X : K.In h) (Gm : h.Ns mainGlobals mg) (c : SaysX TA CK FS FA FN K) (TBS : ∀ t, t ∈ tabL FS K → LamX.TabB base mg t.1 t.2.1) : ∀ k, FnD P w K mg base (ec0 K) (2 + 1 + k) 2 "spread" (F_spread k) := by
  obtain ⟨fd, Fd⟩ := c.says.def_ 9 (d := d_spread) rfl
  have Fd : FunD K "spread" "spread" (defArgs (top 19)) (defBody (top 19)) (defScope (top 19)) [] [] (He.ga K "spread") fd := Fd
  have hb : Binds K fd ["many", "steps"] [] := FunD.bindsN Fd fun _ _ _ _ _ _ us hl => match us, hl with | [_, _], _ => rfl
  have hg := He.glo_ok X Gm (c.says.fact 9 rfl)
  intro k
  induction k with
  | zero => exact fn0_of (k := 2) (st := top 19) Fd sc_spread hb hg rfl
  | succ k ih => exact fnD_of (k := 2 + 1 + k) (st := top 19) Fd sc_spread hb hg rfl (b_spread (by omega) ih (c_walk_of X Gm c TBS) c.nl) (fun ds _ => R.le_refl _)
theorem c_spread (X : K.In h) (Gm : h.Ns mainGlobals mg) (c : SaysX TA CK FS FA FN K) (TBS : ∀ t, t ∈ tabL FS K → LamX.TabB base mg t.1 t.2.1) : FnD P w K mg base (ec0 K) 6 2 "spread" (F_spread 3) := r_spread X Gm c TBS 3
theorem c_notes_of (X : K.In h) (Gm : h.Ns mainGlobals mg) (c : SaysX TA CK FS FA FN K) (TBS : ∀ t, t ∈ tabL FS K → LamX.TabB base mg t.1 t.2.1) : FnD P w K mg base (ec0 K) 1 1 "notes_of" F_notes_of := by
  obtain ⟨fd, Fd⟩ := c.says.def_ 10 (d := d_notes_of) rfl
  have Fd : FunD K "notes_of" "notes_of" (defArgs (top 20)) (defBody (top 20)) (defScope (top 20)) [] [] (He.ga K "notes_of") fd := Fd
  have hb : Binds K fd ["found"] [] := FunD.bindsN Fd fun _ _ _ _ _ _ us hl => match us, hl with | [_], _ => rfl
  have hg := He.glo_ok X Gm (c.says.fact 10 rfl)
  exact fnD_of (st := top 20) Fd sc_notes_of hb hg rfl (b_notes_of (He.free_ok X Gm (c.says.fact 48 rfl))) (fun ds _ => R.le_refl _)
theorem c_has_script (X : K.In h) (Gm : h.Ns mainGlobals mg) (c : SaysX TA CK FS FA FN K) (TBS : ∀ t, t ∈ tabL FS K → LamX.TabB base mg t.1 t.2.1) : FnD P w K mg base (ec0 K) 7 1 "has_script" F_has_script := by
  obtain ⟨fd, Fd⟩ := c.says.def_ 11 (d := d_has_script) rfl
  have Fd : FunD K "has_script" "has_script" (defArgs (top 21)) (defBody (top 21)) (defScope (top 21)) [] [] (He.ga K "has_script") fd := Fd
  have hb : Binds K fd ["value"] [] := FunD.bindsN Fd fun _ _ _ _ _ _ us hl => match us, hl with | [_], _ => rfl
  have hg := He.glo_ok X Gm (c.says.fact 11 rfl)
  exact fnD_of (st := top 21) Fd sc_has_script hb hg rfl (b_has_script (c_is_tuple X Gm c TBS) (c_is_from X Gm c TBS) (c_has_step X Gm c TBS) (c_spread X Gm c TBS) (c_notes_of X Gm c TBS) (He.free_ok X Gm (c.says.fact 44 rfl)) (He.free_ok X Gm (c.says.fact 48 rfl)) (let ⟨t, e⟩ := He.int_ok X Gm (c.says.fact 40 rfl); ⟨_, e, ⟨t, rfl⟩⟩) (let ⟨t, e⟩ := He.int_ok X Gm (c.says.fact 41 rfl); ⟨_, e, ⟨t, rfl⟩⟩) (let ⟨t, e⟩ := He.int_ok X Gm (c.says.fact 42 rfl); ⟨_, e, ⟨t, rfl⟩⟩)) (fun ds _ => R.le_refl _)
theorem c_need_script (X : K.In h) (Gm : h.Ns mainGlobals mg) (c : SaysX TA CK FS FA FN K) (TBS : ∀ t, t ∈ tabL FS K → LamX.TabB base mg t.1 t.2.1) : FnD P w K mg base (ec0 K) 8 1 "need_script" F_need_script := by
  obtain ⟨fd, Fd⟩ := c.says.def_ 12 (d := d_need_script) rfl
  have Fd : FunD K "need_script" "need_script" (defArgs (top 22)) (defBody (top 22)) (defScope (top 22)) [] [] (He.ga K "need_script") fd := Fd
  have hb : Binds K fd ["value"] [] := FunD.bindsN Fd fun _ _ _ _ _ _ us hl => match us, hl with | [_], _ => rfl
  have hg := He.glo_ok X Gm (c.says.fact 12 rfl)
  exact fnD_of (st := top 22) Fd sc_need_script hb hg rfl (b_need_script (c_has_script X Gm c TBS) (He.glo_ok X Gm (c.says.fact 37 rfl)) (c.chk _ (List.mem_of_getElem? (l := CK) (i := 3) rfl)) (by rfl)) (fun ds _ => R.le_refl _)
theorem c_has_corridor (X : K.In h) (Gm : h.Ns mainGlobals mg) (c : SaysX TA CK FS FA FN K) (TBS : ∀ t, t ∈ tabL FS K → LamX.TabB base mg t.1 t.2.1) : FnD P w K mg base (ec0 K) 2 2 "has_corridor" F_has_corridor := by
  obtain ⟨fd, Fd⟩ := c.says.def_ 13 (d := d_has_corridor) rfl
  have Fd : FunD K "has_corridor" "has_corridor" (defArgs (top 23)) (defBody (top 23)) (defScope (top 23)) [] [] (He.ga K "has_corridor") fd := Fd
  have hb : Binds K fd ["many", "value"] [] := FunD.bindsN Fd fun _ _ _ _ _ _ us hl => match us, hl with | [_, _], _ => rfl
  have hg := He.glo_ok X Gm (c.says.fact 13 rfl)
  exact fnD_of (st := top 23) Fd sc_has_corridor hb hg rfl (b_has_corridor (c_is_tuple X Gm c TBS) (c_is_from X Gm c TBS) (He.free_ok X Gm (c.says.fact 44 rfl))) (fun ds _ => R.le_refl _)
theorem c_need_corridor (X : K.In h) (Gm : h.Ns mainGlobals mg) (c : SaysX TA CK FS FA FN K) (TBS : ∀ t, t ∈ tabL FS K → LamX.TabB base mg t.1 t.2.1) : FnD P w K mg base (ec0 K) 3 2 "need_corridor" F_need_corridor := by
  obtain ⟨fd, Fd⟩ := c.says.def_ 14 (d := d_need_corridor) rfl
  have Fd : FunD K "need_corridor" "need_corridor" (defArgs (top 24)) (defBody (top 24)) (defScope (top 24)) [] [] (He.ga K "need_corridor") fd := Fd
  have hb : Binds K fd ["many", "value"] [] := FunD.bindsN Fd fun _ _ _ _ _ _ us hl => match us, hl with | [_, _], _ => rfl
  have hg := He.glo_ok X Gm (c.says.fact 14 rfl)
  exact fnD_of (st := top 24) Fd sc_need_corridor hb hg rfl (b_need_corridor (c_has_corridor X Gm c TBS) (He.glo_ok X Gm (c.says.fact 36 rfl)) (c.chk _ (List.mem_of_getElem? (l := CK) (i := 2) rfl)) (by rfl)) (fun ds _ => R.le_refl _)
theorem c_is_plain_claim (X : K.In h) (Gm : h.Ns mainGlobals mg) (c : SaysX TA CK FS FA FN K) (TBS : ∀ t, t ∈ tabL FS K → LamX.TabB base mg t.1 t.2.1) : FnD P w K mg base (ec0 K) 2 2 "is_plain_claim" F_is_plain_claim := by
  obtain ⟨fd, Fd⟩ := c.says.def_ 15 (d := d_is_plain_claim) rfl
  have Fd : FunD K "is_plain_claim" "is_plain_claim" (defArgs (top 27)) (defBody (top 27)) (defScope (top 27)) [] [] (He.ga K "is_plain_claim") fd := Fd
  have hb : Binds K fd ["many", "value"] [] := FunD.bindsN Fd fun _ _ _ _ _ _ us hl => match us, hl with | [_, _], _ => rfl
  have hg := He.glo_ok X Gm (c.says.fact 15 rfl)
  exact fnD_of (st := top 27) Fd sc_is_plain_claim hb hg rfl (b_is_plain_claim (c_is_tuple X Gm c TBS) (c_is_from X Gm c TBS) (He.free_ok X Gm (c.says.fact 44 rfl)) (He.free_ok X Gm (c.says.fact 47 rfl)) (He.free_ok X Gm (c.says.fact 48 rfl)) (He.free_ok X Gm (c.says.fact 52 rfl)) (He.glo_ok X Gm (c.says.fact 39 rfl)) (c.tup ("SINGLE", V_SINGLE) (by simp [TA]))) (fun ds _ => R.le_refl _)
theorem c_has_claims (X : K.In h) (Gm : h.Ns mainGlobals mg) (c : SaysX TA CK FS FA FN K) (TBS : ∀ t, t ∈ tabL FS K → LamX.TabB base mg t.1 t.2.1) : FnD P w K mg base (ec0 K) 3 2 "has_claims" F_has_claims := by
  obtain ⟨fd, Fd⟩ := c.says.def_ 16 (d := d_has_claims) rfl
  have Fd : FunD K "has_claims" "has_claims" (defArgs (top 28)) (defBody (top 28)) (defScope (top 28)) [] [] (He.ga K "has_claims") fd := Fd
  have hb : Binds K fd ["many", "value"] [] := FunD.bindsN Fd fun _ _ _ _ _ _ us hl => match us, hl with | [_, _], _ => rfl
  have hg := He.glo_ok X Gm (c.says.fact 16 rfl)
  exact fnD_of (st := top 28) Fd sc_has_claims hb hg rfl (b_has_claims (c_is_tuple X Gm c TBS) (c_is_plain_claim X Gm c TBS) (He.free_ok X Gm (c.says.fact 47 rfl)) (He.free_ok X Gm (c.says.fact 52 rfl))) (fun ds _ => R.le_refl _)
theorem c_need_claims (X : K.In h) (Gm : h.Ns mainGlobals mg) (c : SaysX TA CK FS FA FN K) (TBS : ∀ t, t ∈ tabL FS K → LamX.TabB base mg t.1 t.2.1) : FnD P w K mg base (ec0 K) 4 2 "need_claims" F_need_claims := by
  obtain ⟨fd, Fd⟩ := c.says.def_ 17 (d := d_need_claims) rfl
  have Fd : FunD K "need_claims" "need_claims" (defArgs (top 29)) (defBody (top 29)) (defScope (top 29)) [] [] (He.ga K "need_claims") fd := Fd
  have hb : Binds K fd ["many", "value"] [] := FunD.bindsN Fd fun _ _ _ _ _ _ us hl => match us, hl with | [_, _], _ => rfl
  have hg := He.glo_ok X Gm (c.says.fact 17 rfl)
  exact fnD_of (st := top 29) Fd sc_need_claims hb hg rfl (b_need_claims (c_has_claims X Gm c TBS) (He.glo_ok X Gm (c.says.fact 35 rfl)) (c.chk _ (List.mem_of_getElem? (l := CK) (i := 1) rfl)) (by rfl)) (fun ds _ => R.le_refl _)
theorem c_claim_step (X : K.In h) (Gm : h.Ns mainGlobals mg) (c : SaysX TA CK FS FA FN K) (TBS : ∀ t, t ∈ tabL FS K → LamX.TabB base mg t.1 t.2.1) : FnD P w K mg base (ec0 K) 1 3 "claim_step" F_claim_step := by
  obtain ⟨fd, Fd⟩ := c.says.def_ 18 (d := d_claim_step) rfl
  have Fd : FunD K "claim_step" "claim_step" (defArgs (top 30)) (defBody (top 30)) (defScope (top 30)) [] [] (He.ga K "claim_step") fd := Fd
  have hb : Binds K fd ["claim", "note", "stand"] [] := FunD.bindsN Fd fun _ _ _ _ _ _ us hl => match us, hl with | [_, _, _], _ => rfl
  have hg := He.glo_ok X Gm (c.says.fact 18 rfl)
  exact fnD_of (st := top 30) Fd sc_claim_step hb hg rfl (b_claim_step (He.free_ok X Gm (c.says.fact 46 rfl))) (fun ds _ => R.le_refl _)
theorem r_is_good (X : K.In h) (Gm : h.Ns mainGlobals mg) (c : SaysX TA CK FS FA FN K) (TBS : ∀ t, t ∈ tabL FS K → LamX.TabB base mg t.1 t.2.1) : ∀ k, FnD P w K mg base (ec0 K) (0 + 1 + k) 2 "is_good" (F_is_good k) := by
  obtain ⟨fd, Fd⟩ := c.says.def_ 19 (d := d_is_good) rfl
  have Fd : FunD K "is_good" "is_good" (defArgs (top 31)) (defBody (top 31)) (defScope (top 31)) [] [] (He.ga K "is_good") fd := Fd
  have hb : Binds K fd ["claim", "note"] [] := FunD.bindsN Fd fun _ _ _ _ _ _ us hl => match us, hl with | [_, _], _ => rfl
  have hg := He.glo_ok X Gm (c.says.fact 19 rfl)
  intro k
  induction k with
  | zero => exact fn0_of (k := 0) (st := top 31) Fd sc_is_good hb hg rfl
  | succ k ih => exact fnD_of (k := 0 + 1 + k) (st := top 31) Fd sc_is_good hb hg rfl (b_is_good (by omega) ih) (fun ds _ => R.le_refl _)
theorem c_is_good (X : K.In h) (Gm : h.Ns mainGlobals mg) (c : SaysX TA CK FS FA FN K) (TBS : ∀ t, t ∈ tabL FS K → LamX.TabB base mg t.1 t.2.1) : FnD P w K mg base (ec0 K) 4 2 "is_good" (F_is_good 3) := r_is_good X Gm c TBS 3
theorem c_inner_of (X : K.In h) (Gm : h.Ns mainGlobals mg) (c : SaysX TA CK FS FA FN K) (TBS : ∀ t, t ∈ tabL FS K → LamX.TabB base mg t.1 t.2.1) : FnD P w K mg base (ec0 K) 1 1 "inner_of" F_inner_of := by
  obtain ⟨fd, Fd⟩ := c.says.def_ 20 (d := d_inner_of) rfl
  have Fd : FunD K "inner_of" "inner_of" (defArgs (top 32)) (defBody (top 32)) (defScope (top 32)) [] [] (He.ga K "inner_of") fd := Fd
  have hb : Binds K fd ["claim"] [] := FunD.bindsN Fd fun _ _ _ _ _ _ us hl => match us, hl with | [_], _ => rfl
  have hg := He.glo_ok X Gm (c.says.fact 20 rfl)
  exact fnD_of (st := top 32) Fd sc_inner_of hb hg rfl (b_inner_of) (fun ds _ => R.le_refl _)
theorem c_claims_step (X : K.In h) (Gm : h.Ns mainGlobals mg) (c : SaysX TA CK FS FA FN K) (TBS : ∀ t, t ∈ tabL FS K → LamX.TabB base mg t.1 t.2.1) : FnD P w K mg base (ec0 K) 2 3 "claims_step" F_claims_step := by
  obtain ⟨fd, Fd⟩ := c.says.def_ 21 (d := d_claims_step) rfl
  have Fd : FunD K "claims_step" "claims_step" (defArgs (top 33)) (defBody (top 33)) (defScope (top 33)) [] [] (He.ga K "claims_step") fd := Fd
  have hb : Binds K fd ["claims", "notes", "stand"] [] := FunD.bindsN Fd fun _ _ _ _ _ _ us hl => match us, hl with | [_, _, _], _ => rfl
  have hg := He.glo_ok X Gm (c.says.fact 21 rfl)
  exact fnD_of (st := top 33) Fd sc_claims_step hb hg rfl (b_claims_step (c_claim_step X Gm c TBS) (c_inner_of X Gm c TBS) (He.free_ok X Gm (c.says.fact 53 rfl)) (He.free_ok X Gm (c.says.fact 54 rfl))) (fun ds _ => R.le_refl _)
theorem c_are_good (X : K.In h) (Gm : h.Ns mainGlobals mg) (c : SaysX TA CK FS FA FN K) (TBS : ∀ t, t ∈ tabL FS K → LamX.TabB base mg t.1 t.2.1) : FnD P w K mg base (ec0 K) 5 2 "are_good" F_are_good := by
  obtain ⟨fd, Fd⟩ := c.says.def_ 22 (d := d_are_good) rfl
  have Fd : FunD K "are_good" "are_good" (defArgs (top 34)) (defBody (top 34)) (defScope (top 34)) [] [] (He.ga K "are_good") fd := Fd
  have hb : Binds K fd ["claims", "notes"] [] := FunD.bindsN Fd fun _ _ _ _ _ _ us hl => match us, hl with | [_, _], _ => rfl
  have hg := He.glo_ok X Gm (c.says.fact 22 rfl)
  exact fnD_of (st := top 34) Fd sc_are_good hb hg rfl (b_are_good (c_is_good X Gm c TBS) (He.free_ok X Gm (c.says.fact 44 rfl)) (He.free_ok X Gm (c.says.fact 54 rfl))) (fun ds _ => R.le_refl _)
theorem c_has_all (X : K.In h) (Gm : h.Ns mainGlobals mg) (c : SaysX TA CK FS FA FN K) (TBS : ∀ t, t ∈ tabL FS K → LamX.TabB base mg t.1 t.2.1) : FnD P w K mg base (ec0 K) 6 2 "has_all" F_has_all := by
  obtain ⟨fd, Fd⟩ := c.says.def_ 23 (d := d_has_all) rfl
  have Fd : FunD K "has_all" "has_all" (defArgs (top 35)) (defBody (top 35)) (defScope (top 35)) [] [] (He.ga K "has_all") fd := Fd
  have hb : Binds K fd ["claims", "corridor"] [] := FunD.bindsN Fd fun _ _ _ _ _ _ us hl => match us, hl with | [_, _], _ => rfl
  have hg := He.glo_ok X Gm (c.says.fact 23 rfl)
  exact fnD_of (st := top 35) Fd sc_has_all hb hg rfl (b_has_all (c_claims_step X Gm c TBS) (c_are_good X Gm c TBS) (He.free_ok X Gm (c.says.fact 48 rfl))) (fun ds _ => R.le_refl _)
theorem c_holds (X : K.In h) (Gm : h.Ns mainGlobals mg) (c : SaysX TA CK FS FA FN K) (TBS : ∀ t, t ∈ tabL FS K → LamX.TabB base mg t.1 t.2.1) : FnD P w K mg base (ec0 K) 9 3 "holds" F_holds := by
  obtain ⟨fd, Fd⟩ := c.says.def_ 24 (d := d_holds) rfl
  have Fd : FunD K "holds" "holds" (defArgs (top 36)) (defBody (top 36)) (defScope (top 36)) [] [] (He.ga K "holds") fd := Fd
  have hb : Binds K fd ["script", "claims", "corridor"] [] := FunD.bindsN Fd fun _ _ _ _ _ _ us hl => match us, hl with | [_, _, _], _ => rfl
  have hg := He.glo_ok X Gm (c.says.fact 24 rfl)
  exact fnD_of (st := top 36) Fd sc_holds hb hg rfl (b_holds (c_need_script X Gm c TBS) (c_need_claims X Gm c TBS) (c_need_corridor X Gm c TBS) (c_has_all X Gm c TBS)) (fun ds _ => R.le_refl _)
theorem c__law_source (X : K.In h) (Gm : h.Ns mainGlobals mg) (c : SaysX TA CK FS FA FN K) (TBS : ∀ t, t ∈ tabL FS K → LamX.TabB base mg t.1 t.2.1) : FnF P w K mg base (ec0 K) 1 2 "_law_source" F__law_source := by
  obtain ⟨fd, Fd⟩ := c.says.def_ 25 (d := d__law_source) rfl
  have Fd : FunD K "_law_source" "_law_source" (defArgs (top 38)) (defBody (top 38)) (defScope (top 38)) [] [] (He.ga K "_law_source") fd := Fd
  have hb : Binds K fd ["script", "k"] [] := FunD.bindsN Fd fun _ _ _ _ _ _ us hl => match us, hl with | [_, _], _ => rfl
  have hg := He.glo_ok X Gm (c.says.fact 25 rfl)
  exact fnF_of (st := top 38) Fd sc__law_source hb hg rfl (b__law_source (He.free_ok X Gm (c.says.fact 43 rfl)) (He.free_ok X Gm (c.says.fact 46 rfl)) (He.free_ok X Gm (c.says.fact 48 rfl))) (fun ds _ => R.le_refl _)
theorem c__law_draw (X : K.In h) (Gm : h.Ns mainGlobals mg) (c : SaysX TA CK FS FA FN K) (TBS : ∀ t, t ∈ tabL FS K → LamX.TabB base mg t.1 t.2.1) : FnN P w K mg base (ec0 K) 1 2 "_law_draw" F__law_draw := by
  obtain ⟨fd, Fd⟩ := c.says.def_ 26 (d := d__law_draw) rfl
  have Fd : FunD K "_law_draw" "_law_draw" (defArgs (top 39)) (defBody (top 39)) (defScope (top 39)) [] [] (He.ga K "_law_draw") fd := Fd
  have hb : Binds K fd ["source", "many"] [] := FunD.bindsN Fd fun _ _ _ _ _ _ us hl => match us, hl with | [_, _], _ => rfl
  have hg := He.glo_ok X Gm (c.says.fact 26 rfl)
  exact fnN_of (st := top 39) Fd sc__law_draw hb hg rfl (b__law_draw (He.free_ok X Gm (c.says.fact 46 rfl))) (fun ds _ => R.le_refl _)
theorem c__law_choice (X : K.In h) (Gm : h.Ns mainGlobals mg) (c : SaysX TA CK FS FA FN K) (TBS : ∀ t, t ∈ tabL FS K → LamX.TabB base mg t.1 t.2.1) : FnN P w K mg base (ec0 K) 2 2 "_law_choice" F__law_choice := by
  obtain ⟨fd, Fd⟩ := c.says.def_ 27 (d := d__law_choice) rfl
  have Fd : FunD K "_law_choice" "_law_choice" (defArgs (top 40)) (defBody (top 40)) (defScope (top 40)) [] [] (He.ga K "_law_choice") fd := Fd
  have hb : Binds K fd ["source", "some"] [] := FunD.bindsN Fd fun _ _ _ _ _ _ us hl => match us, hl with | [_, _], _ => rfl
  have hg := He.glo_ok X Gm (c.says.fact 27 rfl)
  exact fnN_of (st := top 40) Fd sc__law_choice hb hg rfl (b__law_choice (c__law_draw X Gm c TBS) (He.free_ok X Gm (c.says.fact 48 rfl))) (fun ds _ => R.le_refl _)
theorem c__law_corridor (X : K.In h) (Gm : h.Ns mainGlobals mg) (c : SaysX TA CK FS FA FN K) (TBS : ∀ t, t ∈ tabL FS K → LamX.TabB base mg t.1 t.2.1) : FnNZ P w K mg base (ec0 K) 3 3 "_law_corridor" F__law_corridor := by
  obtain ⟨fd, Fd⟩ := c.says.def_ 28 (d := d__law_corridor) rfl
  have Fd : FunD K "_law_corridor" "_law_corridor" (defArgs (top 41)) (defBody (top 41)) (defScope (top 41)) [] [] (He.ga K "_law_corridor") fd := Fd
  have hb : Binds K fd ["source", "many", "most"] [] := FunD.bindsN Fd fun _ _ _ _ _ _ us hl => match us, hl with | [_, _, _], _ => rfl
  have hg := He.glo_ok X Gm (c.says.fact 28 rfl)
  exact fnNZ_of (st := top 41) Fd sc__law_corridor hb hg rfl (b__law_corridor (c__law_choice X Gm c TBS) (c__law_draw X Gm c TBS) (He.free_ok X Gm (c.says.fact 49 rfl)) (He.free_ok X Gm (c.says.fact 51 rfl)) (He.free_ok X Gm (c.says.fact 53 rfl)) c.nl) (fun ds _ => R.le_refl _)
theorem c__law_claim (X : K.In h) (Gm : h.Ns mainGlobals mg) (c : SaysX TA CK FS FA FN K) (TBS : ∀ t, t ∈ tabL FS K → LamX.TabB base mg t.1 t.2.1) : FnN P w K mg base (ec0 K) 3 2 "_law_claim" F__law_claim := by
  obtain ⟨fd, Fd⟩ := c.says.def_ 29 (d := d__law_claim) rfl
  have Fd : FunD K "_law_claim" "_law_claim" (defArgs (top 42)) (defBody (top 42)) (defScope (top 42)) [] [] (He.ga K "_law_claim") fd := Fd
  have hb : Binds K fd ["source", "many"] [] := FunD.bindsN Fd fun _ _ _ _ _ _ us hl => match us, hl with | [_, _], _ => rfl
  have hg := He.glo_ok X Gm (c.says.fact 29 rfl)
  exact fnN_of (st := top 42) Fd sc__law_claim hb hg rfl (b__law_claim (c__law_choice X Gm c TBS) (c__law_draw X Gm c TBS)) (fun ds _ => R.le_refl _)
theorem c__law_claims (X : K.In h) (Gm : h.Ns mainGlobals mg) (c : SaysX TA CK FS FA FN K) (TBS : ∀ t, t ∈ tabL FS K → LamX.TabB base mg t.1 t.2.1) : FnN P w K mg base (ec0 K) 4 3 "_law_claims" F__law_claims := by
  obtain ⟨fd, Fd⟩ := c.says.def_ 30 (d := d__law_claims) rfl
  have Fd : FunD K "_law_claims" "_law_claims" (defArgs (top 43)) (defBody (top 43)) (defScope (top 43)) [] [] (He.ga K "_law_claims") fd := Fd
  have hb : Binds K fd ["source", "many", "most"] [] := FunD.bindsN Fd fun _ _ _ _ _ _ us hl => match us, hl with | [_, _, _], _ => rfl
  have hg := He.glo_ok X Gm (c.says.fact 30 rfl)
  exact fnN_of (st := top 43) Fd sc__law_claims hb hg rfl (b__law_claims (c__law_draw X Gm c TBS) (c__law_claim X Gm c TBS) (He.free_ok X Gm (c.says.fact 51 rfl)) (He.free_ok X Gm (c.says.fact 53 rfl))) (fun ds _ => R.le_refl _)
theorem r__law_is_so (X : K.In h) (Gm : h.Ns mainGlobals mg) (c : SaysX TA CK FS FA FN K) (TBS : ∀ t, t ∈ tabL FS K → LamX.TabB base mg t.1 t.2.1) : ∀ k, FnV P w K mg base (ec0 K) (0 + 1 + k) 2 "_law_is_so" (F__law_is_so k) := by
  obtain ⟨fd, Fd⟩ := c.says.def_ 31 (d := d__law_is_so) rfl
  have Fd : FunD K "_law_is_so" "_law_is_so" (defArgs (top 44)) (defBody (top 44)) (defScope (top 44)) [] [] (He.ga K "_law_is_so") fd := Fd
  have hb : Binds K fd ["claim", "word"] [] := FunD.bindsN Fd fun _ _ _ _ _ _ us hl => match us, hl with | [_, _], _ => rfl
  have hg := He.glo_ok X Gm (c.says.fact 31 rfl)
  intro k
  induction k with
  | zero => exact fn0V_of (k := 0) (st := top 44) Fd sc__law_is_so hb hg rfl
  | succ k ih => exact fnV_of (k := 0 + 1 + k) (st := top 44) Fd sc__law_is_so hb hg rfl (b__law_is_so (by omega) ih (He.free_ok X Gm (c.says.fact 46 rfl)) (He.free_ok X Gm (c.says.fact 49 rfl)) (He.free_ok X Gm (c.says.fact 54 rfl))) (fun ds _ => R.le_refl _)
theorem c__law_is_so (X : K.In h) (Gm : h.Ns mainGlobals mg) (c : SaysX TA CK FS FA FN K) (TBS : ∀ t, t ∈ tabL FS K → LamX.TabB base mg t.1 t.2.1) : FnV P w K mg base (ec0 K) 4 2 "_law_is_so" (F__law_is_so 3) := r__law_is_so X Gm c TBS 3
theorem c__law_all_so (X : K.In h) (Gm : h.Ns mainGlobals mg) (c : SaysX TA CK FS FA FN K) (TBS : ∀ t, t ∈ tabL FS K → LamX.TabB base mg t.1 t.2.1) : FnV P w K mg base (ec0 K) 5 2 "_law_all_so" F__law_all_so := by
  obtain ⟨fd, Fd⟩ := c.says.def_ 32 (d := d__law_all_so) rfl
  have Fd : FunD K "_law_all_so" "_law_all_so" (defArgs (top 45)) (defBody (top 45)) (defScope (top 45)) [] [] (He.ga K "_law_all_so") fd := Fd
  have hb : Binds K fd ["claims_so", "word"] [] := FunD.bindsN Fd fun _ _ _ _ _ _ us hl => match us, hl with | [_, _], _ => rfl
  have hg := He.glo_ok X Gm (c.says.fact 32 rfl)
  exact fnV_of (st := top 45) Fd sc__law_all_so hb hg rfl (b__law_all_so (c__law_is_so X Gm c TBS)) (fun ds _ => R.le_refl _)
theorem c__law_word (X : K.In h) (Gm : h.Ns mainGlobals mg) (c : SaysX TA CK FS FA FN K) (TBS : ∀ t, t ∈ tabL FS K → LamX.TabB base mg t.1 t.2.1) : ∀ kl, FnH P w K mg base (ec0 K) kl (kl + 0 + 1) 1 "_law_word" 0 F__law_word := by
  obtain ⟨fd, Fd⟩ := c.says.def_ 33 (d := d__law_word) rfl
  have Fd : FunD K "_law_word" "_law_word" (defArgs (top 46)) (defBody (top 46)) (defScope (top 46)) [] [] (He.ga K "_law_word") fd := Fd
  have hb : Binds K fd ["call"] [] := FunD.bindsN Fd fun _ _ _ _ _ _ us hl => match us, hl with | [_], _ => rfl
  have hg := He.glo_ok X Gm (c.says.fact 33 rfl)
  intro kl
  exact fnH_of (st := top 46) Fd sc__law_word hb hg rfl (fun lm FL => b__law_word (ec := { ec0 K with lam := lm }) (He.glo_ok X Gm (c.says.fact 35 rfl)) (He.glo_ok X Gm (c.says.fact 36 rfl)) (exm_ok (att := fun _ => "") (fs := FS) (c.chk _ (List.mem_of_getElem? (l := CK) (i := 0) rfl)) (by rfl)) (exm_ok (att := fun _ => "") (fs := FS) (c.chk _ (List.mem_of_getElem? (l := CK) (i := 0) rfl)) (by rfl))) (fun FL ss _ => R.le_refl _)
end
abbrev Rw : PySem.W.OpenRow := PySem.W.OpenLaw.row PySem.Challenge.rw_longcorridor_k12_claims_about_corridors
abbrev hk : PySem.W.Hook := hookX 5 TA CK FS FA FN
def ob (s : PySem.W.SharedT) : He.AlD := obsXG 5 TA CK FS FA FN (HandSHeadRun.getT s)
theorem ob_eq (s : PySem.W.SharedT) : ob s = hk.obs s.abs := obsXG_eq (HandSHeadRun.getT_eq s)
def NM : List PySem.Str := (["CorridorError", "InvalidScript", "InvalidCorridor", "InvalidClaims", "SIDES", "MOST_STEPS", "MOST_WALKS", "MOST_NOTES", "is_from", "is_tuple", "is_side", "is_line", "is_table", "is_plain", "has_step", "table_of", "walk_of", "spread", "notes_of", "has_script", "need_script", "has_corridor", "need_corridor", "SINGLE", "is_plain_claim", "has_claims", "need_claims", "claim_step", "is_good", "inner_of"] : List PySem.Str) ++ (["claims_step", "are_good", "has_all", "holds", "_law_source", "_law_draw", "_law_choice", "_law_corridor", "_law_claim", "_law_claims", "_law_is_so", "_law_all_so", "_law_word"] : List PySem.Str)
theorem run (w : World) : HandSHeadRun.RunEq Rw (PySem.W.view Rw.prog [47]) hk ob 6000 NM w := by
  intro os
  kernel_rfl
end G
open PySem PySem.W PySem.Calls PyProof.Rows
theorem asm (hL : DL.LawOk 63 G.F_law) : PySem.Challenge.rw_longcorridor_k12_claims_about_corridors.Holds := by
  w_on; o_law
  refine HandSHeadRun.head_any (r := G.Rw) (q := view G.Rw.prog [47]) (H := G.hk) (ob := G.ob) (M := 6000) (loose := G.NM) (d := HandSHeadRun.topDef G.Rw.prog 47) (kwd := []) G.ob_eq
    (by kernel_rfl) (fun s => by kernel_rfl) G.run (by kernel_rfl) (by kernel_rfl) (by kernel_rfl) (by rfl) (by first | assumption | decide +kernel) (by decide +kernel) ⟨rfl, rfl, rfl, rfl, rfl, by decide +kernel⟩ ?hw ?hc
  case hw => w_witness2
  case hc =>
    refine DL.walk_dl (l := PySem.Challenge.rw_longcorridor_k12_claims_about_corridors) (n := 63) (k := 12) (x := "script") (ec := G.ec0) (FL := G.F_law) rfl (by decide) (by kernel_rfl) ⟨rfl, by decide, by decide⟩ hL (fun K => rfl) ?F
    intro w mg a h K X c Gm hm
    have hmg : mg ("law" : PySem.Str) = some (.ref a) := by
      have e : (HandSHeadRun.topDef G.Rw.prog 47).name = ("law" : PySem.Str) := by kernel_rfl
      rw [← e]
      exact hm
    obtain ⟨fd, Fd⟩ := c.says.def_ 34 (d := G.d_law) rfl
    have Fd : L2.FunD K "law" "law" (L2.defArgs (G.top 47)) (L2.defBody (G.top 47)) (L2.defScope (G.top 47)) [] [] (He.ga K "law") fd := Fd
    have hg := hmg.symm.trans (He.glo_ok X Gm (c.says.fact 34 rfl))
    cases hg
    have b := L2.FunD.bindsA (ps := ["script"]) Fd fun _ _ _ _ _ _ us hl => match us, hl with | [_], _ => rfl
    refine ⟨fd, fun s v => b s [v] rfl, fun base X2 G2 TBS => ?_⟩
    obtain ⟨ct, Pt, ht, hm2, htm, htu⟩ := c.tabAt (List.mem_of_getElem? (l := G.FS) (i := 0) rfl)
    exact DL.okD_ofC Fd (DL.code_of Fd X Gm hmg ht) G.sc_law rfl (G.b_law (TBS _ hm2) htm htu (G.c__law_source (P := (PySem.Challenge.rw_longcorridor_k12_claims_about_corridors).prog) (w := w) (base := base) X Gm c TBS) (G.c__law_choice (P := (PySem.Challenge.rw_longcorridor_k12_claims_about_corridors).prog) (w := w) (base := base) X Gm c TBS) (G.c__law_claims (P := (PySem.Challenge.rw_longcorridor_k12_claims_about_corridors).prog) (w := w) (base := base) X Gm c TBS) (G.c__law_corridor (P := (PySem.Challenge.rw_longcorridor_k12_claims_about_corridors).prog) (w := w) (base := base) X Gm c TBS) (G.c_holds (P := (PySem.Challenge.rw_longcorridor_k12_claims_about_corridors).prog) (w := w) (base := base) X Gm c TBS) (G.c__law_all_so (P := (PySem.Challenge.rw_longcorridor_k12_claims_about_corridors).prog) (w := w) (base := base) X Gm c TBS) (G.c__law_word (P := (PySem.Challenge.rw_longcorridor_k12_claims_about_corridors).prog) (w := w) (base := base) X Gm c TBS 10) (He.free_ok X Gm (c.says.fact 45 rfl)) (He.free_ok X Gm (c.says.fact 47 rfl)) (He.free_ok X Gm (c.says.fact 48 rfl)) (He.free_ok X Gm (c.says.fact 50 rfl)) (He.free_ok X Gm (c.says.fact 51 rfl)) c.nl) (fun ds _ => DL.R.le_refl _)
theorem PySem.Challenge.cw_longcorridor_k12_claims_about_corridors_holds : PySem.Challenge.rw_longcorridor_k12_claims_about_corridors.Holds := by
  exact _root_.asm G.lawOk
