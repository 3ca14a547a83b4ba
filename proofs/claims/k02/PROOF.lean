import PyProof.Rows.All
import Wide.All
import OpenK.AllK
import Wide.FinOn
import HandS.ForMost
import HandS.ForExc
import HandS.Flow
import HandS.IsInst
import HandS.TupAny
import HandS.TupMul
import HandS.Style
import HandS.Deep
import HandS.Conv
import HandS.Zip
import HandS.Wide
import HandS.HeadHook1
import HandS.Defaults
import HandS.Dict
import HandS.Head0
import HandS.Head1
import HandS.Head2
import HandS.HeadEnd
import HandS.HeadHook2
import HandS.TryMany
import HandS.ExcOwn
import HandS.EndBits
import PySem.Challenge.RW_longcorridor_k02_whole_walks_along_corri
set_option Elab.async false
set_option linter.all false
set_option maxRecDepth 100000
set_option maxHeartbeats 1000000
/-! DL: a layer over HandS: values as PyData, syntax as plain Lean functions. -/
namespace DL
open PySem PySem.Spec PyProof.Rows L2

/-! ### results -/
/-- pick: any of some data, one does not know which -/
inductive R (α : Type) where
  | ok (a : α)
  | exc (c : Nat) (x : Option PyData)
  | bad
  | pick (P : PyData → Prop) (k : PyData → R α)
namespace R
variable {α β γ : Type}
def bind (r : R α) (k : α → R β) : R β := match r with
  | .ok a => k a
  | .exc c x => .exc c x
  | .bad => .bad
  | .pick P f => .pick P fun d => (f d).bind k
@[simp] theorem ok_bind (a : α) (k : α → R β) : (R.ok a).bind k = k a := id rfl
@[simp] theorem exc_bind (c : Nat) (x : Option PyData) (k : α → R β) : (R.exc c x).bind k = .exc c x := id rfl
@[simp] theorem bad_bind (k : α → R β) : (R.bad).bind k = .bad := id rfl
@[simp] theorem pick_bind (P : PyData → Prop) (f : PyData → R α) (k : α → R β) : (R.pick P f).bind k = .pick P fun d => (f d).bind k := id rfl
theorem bind_assoc (r : R α) (k : α → R β) (m : β → R γ) : (r.bind k).bind m = r.bind fun a => (k a).bind m := by
  induction r with
  | pick P f ih => simp only [pick_bind]; congr 1; funext d; exact ih d
  | _ => rfl
theorem bind_ok (r : R α) : r.bind R.ok = r := by
  induction r with
  | pick P f ih => simp only [pick_bind]; congr 1; funext d; exact ih d
  | _ => rfl
def ofO : Option α → R α
  | some a => .ok a
  | none => .bad
@[simp] theorem ofO_some (a : α) : ofO (some a) = .ok a := id rfl
@[simp] theorem ofO_none : ofO (none : Option α) = .bad := id rfl
def wp : R α → (α → Prop) → (Nat → Option PyData → Prop) → Prop
  | .ok a, Q, _ => Q a
  | .exc c x, _, E => E c x
  | .bad, _, _ => False
  | .pick P f, Q, E => ∀ d, P d → (f d).wp Q E
@[simp] theorem wp_ok (a : α) (Q : α → Prop) (E : Nat → Option PyData → Prop) : (R.ok a).wp Q E = Q a := id rfl
@[simp] theorem wp_exc (c : Nat) (x : Option PyData) (Q : α → Prop) (E : Nat → Option PyData → Prop) : (R.exc c x).wp Q E = E c x := id rfl
@[simp] theorem wp_bad (Q : α → Prop) (E : Nat → Option PyData → Prop) : (R.bad).wp Q E = False := id rfl
@[simp] theorem wp_pick (P : PyData → Prop) (f : PyData → R α) (Q : α → Prop) (E : Nat → Option PyData → Prop) : (R.pick P f).wp Q E = ∀ d, P d → (f d).wp Q E := id rfl
@[simp] theorem wp_bind (r : R α) (k : α → R β) (Q : β → Prop) (E : Nat → Option PyData → Prop) : (r.bind k).wp Q E = r.wp (fun a => (k a).wp Q E) E := by
  induction r with
  | pick P f ih => simp only [pick_bind, wp_pick]; exact forall_congr fun d => by rw [ih d]
  | _ => rfl
theorem wp_imp {r : R α} {Q Q' : α → Prop} {E E' : Nat → Option PyData → Prop} (h : r.wp Q E) (hq : ∀ a, Q a → Q' a) (he : ∀ c x, E c x → E' c x) : r.wp Q' E' := by
  induction r with
  | ok a => exact hq _ h
  | exc c x => exact he _ _ h
  | bad => exact h
  | pick P f ih => exact fun d hd => ih d (h d hd)
/-- the left one says less -/
def le (a b : R α) : Prop := ∀ Q E, a.wp Q E → b.wp Q E
theorem le_refl (a : R α) : le a a := fun _ _ h => h
theorem le_eq {a b : R α} (h : a = b) : le a b := fun _ _ q => h ▸ q
end R
/-- what a slot holds: data; a dict that it owns; a source; a def of the text -/
inductive SV where
  | d (x : PyData)
  | dict (ds : List (PyData × PyData))
  | src
  | fn (x : Str)
abbrev Rho := List (Option SV)

/-! ### heaps with hidden addresses -/
def hid (M : List Addr) (H : Hp) : Hp := fun b => if b ∈ M then none else H b
theorem hid_in {M : List Addr} {H : Hp} {b : Addr} (h : b ∈ M) : hid M H b = none := if_pos h
theorem hid_out {M : List Addr} {H : Hp} {b : Addr} (h : b ∉ M) : hid M H b = H b := if_neg h
theorem hid_some {M : List Addr} {H : Hp} {b : Addr} {o : HO} (h : hid M H b = some o) : b ∉ M ∧ H b = some o := by
  by_cases hb : b ∈ M
  · rw [hid_in hb] at h; cases h
  · rw [hid_out hb] at h; exact ⟨hb, h⟩
theorem hid_same {M : List Addr} {H H' : Hp} (s : Same H H') : Same (hid M H) (hid M H') := fun b o h => by
  obtain ⟨h1, h2⟩ := hid_some h
  rw [hid_out h1]; exact s b o h2
theorem hid_sub {M M' : List Addr} {H : Hp} (h : ∀ a, a ∈ M → a ∈ M') : Same (hid M' H) (hid M H) := fun b o e => by
  obtain ⟨h1, h2⟩ := hid_some e
  rw [hid_out fun z => h1 (h b z)]; exact h2
theorem hid_le {M : List Addr} {H : Hp} : Same (hid M H) H := fun b o h => (hid_some h).2
theorem same_upd {H : Hp} {p : Addr} {o : HO} (h : H p = none) : Same H (upd H p o) := fun b u e => by rw [upd_ne (ne_of_none e h)]; exact e

/-- the sources: lists of two numbers that draws are taken from -/
def SrcOk (S : List Addr) (H : Hp) : Prop := ∀ a, a ∈ S → ∃ x y : Int, 0 ≤ x ∧ (0 ≤ y ∧ y < 2 ^ 32) ∧ H a = some (.lst [.int x, .int y])
/-- the heap grows, the sources go on, what is hidden may hide them -/
structure Gr (S M : List Addr) (H H' : Hp) : Prop where
  fr : ∀ b o, b ∉ S → H b = some o → H' b = some o
  vis : Same (hid M H) (hid M H')
  so : SrcOk S H → SrcOk S H'
theorem Gr.of {S M : List Addr} {H H' : Hp} (s : Same H H') : Gr S M H H' := ⟨fun b o _ h => s b o h, hid_same s, fun h a ha => by
  obtain ⟨x, y, h1, h2, h3⟩ := h a ha
  exact ⟨x, y, h1, h2, s _ _ h3⟩⟩
theorem Gr.refl {S M : List Addr} (H : Hp) : Gr S M H H := .of (Same.refl H)
theorem Gr.trans {S M : List Addr} {H H1 H' : Hp} (a : Gr S M H H1) (b : Gr S M H1 H') : Gr S M H H' := ⟨fun c o n h => b.fr c o n (a.fr c o n h), a.vis.trans b.vis, fun h => b.so (a.so h)⟩
theorem Gr.free {S M : List Addr} {H H' : Hp} (so : SrcOk S H) (s : Gr S M H H') : ∀ p, H' p = none → H p = none := fun p e => by
  by_cases hS : p ∈ S
  · obtain ⟨x, y, _, _, q⟩ := s.so so p hS
    rw [q] at e; cases e
  · cases q : H p with
    | none => rfl
    | some o => rw [s.fr p o hS q] at e; cases e
theorem Gr.mk' {S M : List Addr} {H H' : Hp} (hs : ∀ a, a ∈ S → a ∈ M) (h : Same (hid S H) H') (so : SrcOk S H') : Gr S M H H' := ⟨fun b o n e => h b o (by rw [hid_out n]; exact e), fun b o e => by
  obtain ⟨h1, h2⟩ := hid_some e
  rw [hid_out h1]
  exact h b o (by rw [hid_out fun z => h1 (hs b z)]; exact h2), fun _ => so⟩

/-! ### data -/
section
variable {K : PySem.W.Frag} {H H' : Hp}
theorem same_seqT {a : Addr} {xs : List V} (e : Same H H') (h : SqT K H a xs) : SqT K H' a xs := by
  rcases h with (h | ⟨o, h⟩) | h
  · exact .inl (.inl (e _ _ h))
  · exact .inl (.inr ⟨o, e _ _ h⟩)
  · exact .inr h
mutual
theorem dp_mono (s : Same H H') : ∀ (d : PyData) (v : V), Dp K H v d → Dp K H' v d
  | .none, _, h => by cases h; exact .non
  | .bool b, _, h => by cases h; exact .bl b
  | .int i, _, h => by cases h; exact .int i
  | .str x, _, h => by cases h; exact .str x
  | .list ds, _, h => by
    cases h with
    | lst hs ha => exact .lst (s.seq hs) (dpa_mono s ds _ ha)
  | .tuple ds, _, h => by
    cases h with
    | tup hs ha => exact .tup (same_seqT s hs) (dpa_mono s ds _ ha)
  | .dict _, _, h => by cases h
theorem dpa_mono (s : Same H H') : ∀ (ds : List PyData) (vs : List V), DpAll K H vs ds → DpAll K H' vs ds
  | [], _, h => by cases h; exact .nil
  | d :: ds, _, h => by
    cases h with
    | cons h1 h2 => exact .cons (dp_mono s d _ h1) (dpa_mono s ds _ h2)
end
theorem dpa_len : ∀ {vs : List V} {ds : List PyData}, DpAll K H vs ds → vs.length = ds.length
  | _, _, .nil => rfl
  | _, _, .cons _ t => by rw [List.length_cons, List.length_cons, dpa_len t]
theorem dpa_get : ∀ {vs : List V} {ds : List PyData} {i : Nat} {v : V}, DpAll K H vs ds → vs[i]? = some v → ∃ d, ds[i]? = some d ∧ Dp K H v d
  | _, _, _, _, .nil, e => by simp at e
  | _, _, 0, _, .cons r _, e => by simp at e; subst e; exact ⟨_, rfl, r⟩
  | _, _, i + 1, v, .cons _ t, e => by
    obtain ⟨d, h1, h2⟩ := dpa_get (i := i) (v := v) t (by simpa using e)
    exact ⟨d, by simpa using h1, h2⟩
theorem dpa_get' : ∀ {vs : List V} {ds : List PyData} {i : Nat} {d : PyData}, DpAll K H vs ds → ds[i]? = some d → ∃ v, vs[i]? = some v ∧ Dp K H v d
  | _, _, _, _, .nil, e => by simp at e
  | _, _, 0, _, .cons r _, e => by simp at e; subst e; exact ⟨_, rfl, r⟩
  | _, _, i + 1, d, .cons _ t, e => by
    obtain ⟨v, h1, h2⟩ := dpa_get' (i := i) (d := d) t (by simpa using e)
    exact ⟨v, by simpa using h1, h2⟩
theorem dpa_append : ∀ {vs us : List V} {ds es : List PyData}, DpAll K H vs ds → DpAll K H us es → DpAll K H (vs ++ us) (ds ++ es)
  | _, _, _, _, .nil, h => h
  | _, _, _, _, .cons r t, h => .cons r (dpa_append t h)
theorem dpa_take : ∀ {vs : List V} {ds : List PyData} (n : Nat), DpAll K H vs ds → DpAll K H (vs.take n) (ds.take n)
  | _, _, 0, _ => .nil
  | _, _, _ + 1, .nil => .nil
  | _, _, n + 1, .cons r t => .cons r (dpa_take n t)
theorem dpa_drop : ∀ {vs : List V} {ds : List PyData} (n : Nat), DpAll K H vs ds → DpAll K H (vs.drop n) (ds.drop n)
  | _, _, 0, h => h
  | _, _, _ + 1, .nil => .nil
  | _, _, n + 1, .cons _ t => dpa_drop n t
theorem dpa_rev {vs : List V} {ds : List PyData} (h : DpAll K H vs ds) : DpAll K H vs.reverse ds.reverse := by
  induction ds generalizing vs with
  | nil => cases h; exact .nil
  | cons d ds ih =>
    cases h with
    | cons r t =>
      rw [List.reverse_cons, List.reverse_cons]
      exact dpa_append (ih t) (.cons r .nil)
theorem dpa_rep {vs : List V} {ds : List PyData} (h : DpAll K H vs ds) : ∀ n : Nat, DpAll K H (List.replicate n vs).flatten (List.replicate n ds).flatten
  | 0 => .nil
  | n + 1 => by
    rw [List.replicate_succ, List.replicate_succ, List.flatten_cons, List.flatten_cons]
    exact dpa_append h (dpa_rep h n)
theorem dpa_set {v : V} {d : PyData} (r : Dp K H v d) : ∀ {vs : List V} {ds : List PyData} (n : Nat), DpAll K H vs ds → DpAll K H (vs.set n v) (ds.set n d)
  | _, _, _, .nil => .nil
  | _, _, 0, .cons _ t => .cons r t
  | _, _, n + 1, .cons q t => .cons q (dpa_set r n t)
end

/-! ### what is wanted of a result -/
/-- the classes of exceptions and their attribute -/
structure EC where
  cls : Nat → Value
  att : Nat → Str
def ExOk (K : PySem.W.Frag) (M : List Addr) (ec : EC) (H' : Hp) (c : Nat) (dx : Option Addr) : Option PyData → Prop
  | none => dx = none
  | some d => ∃ a v, dx = some a ∧ H' a = some (.xd [(ec.att c, v)]) ∧ Dp K (hid M H') v d
/-- how a value denotes data: strictly; borrowed (an owned list may stand at the top) -/
def dV (K : PySem.W.Frag) (M : List Addr) (H : Hp) (v : V) (d : PyData) : Prop := Dp K (hid M H) v d
def dB (K : PySem.W.Frag) (S M : List Addr) (H : Hp) (v : V) (d : PyData) : Prop :=
  Dp K (hid M H) v d ∨ ∃ p vs ds, v = .ref p ∧ d = .list ds ∧ p ∉ S ∧ H p = some (.lst vs) ∧ DpAll K (hid M H) vs ds
/-- a list that was just made -/
def dF (K : PySem.W.Frag) (B : Hp) (M : List Addr) (H : Hp) (v : V) (d : PyData) : Prop :=
  ∃ p vs ds, v = .ref p ∧ d = .list ds ∧ B p = none ∧ p ∉ M ∧ H p = some (.lst vs) ∧ DpAll K (hid (p :: M) H) vs ds
def dA (K : PySem.W.Frag) (M : List Addr) (H : Hp) (vs : List V) (ds : List PyData) : Prop := DpAll K (hid M H) vs ds
def dT (_ : Hp) (b c : Bool) : Prop := b = c
def Post {ν α : Type} (S : List Addr) (K : PySem.W.Frag) (ec : EC) (den : Hp → ν → α → Prop) (M : List Addr) (E : XK) (H : Hp) (Q : ν → Hp → Prop) (r : R α) : Prop :=
  r.wp (fun a => ∀ v H', Gr S M H H' → den H' v a → Q v H') (fun c x => ∀ H' dx, Gr S M H H' → ExOk K M ec H' c dx x → E (ec.cls c) dx H')
section
variable {S : List Addr} {K : PySem.W.Frag} {ec : EC} {M : List Addr} {E : XK} {H H' H1 : Hp} {ν μ α β : Type} {den : Hp → ν → α → Prop} {den2 : Hp → μ → β → Prop}
theorem Post.move {Q : ν → Hp → Prop} {r : R α} (s : Gr S M H H1) (h : Post S K ec den M E H Q r) : Post S K ec den M E H1 Q r :=
  R.wp_imp h (fun _ h v H' s' d => h v H' (s.trans s') d) (fun _ _ h H' dx s' d => h H' dx (s.trans s') d)
theorem Post.imp {Q Q' : ν → Hp → Prop} {r : R α} (h : Post S K ec den M E H Q r) (hq : ∀ v H', Q v H' → Q' v H') : Post S K ec den M E H Q' r :=
  R.wp_imp h (fun _ h v H' s' d => hq _ _ (h v H' s' d)) (fun _ _ h => h)
theorem Post.bind {Q : μ → Hp → Prop} {r : R α} {k : α → R β} (h : Post S K ec den2 M E H Q (r.bind k)) :
    Post S K ec den M E H (fun v H1 => ∃ a, True ∧ Gr S M H H1 ∧ den H1 v a ∧ Post S K ec den2 M E H1 Q (k a)) r := by
  unfold Post at h ⊢
  rw [R.wp_bind] at h
  exact R.wp_imp h (fun a h v H' s' d => ⟨a, trivial, s', d, Post.move s' h⟩) (fun _ _ h => h)
theorem Post.ok {Q : ν → Hp → Prop} {a : α} (h : Post S K ec den M E H Q (.ok a)) {v : ν} (d : den H v a) : Q v H := h v H (Gr.refl H) d
end
section
variable {S : List Addr} {K : PySem.W.Frag} {M : List Addr} {H H' : Hp} {v : V} {d : PyData}
theorem dV.mono (s : Gr S M H H') (h : dV K M H v d) : dV K M H' v d := dp_mono s.vis d v h
theorem dV.b (h : dV K M H v d) : dB K S M H v d := .inl h
theorem dB.mono (s : Gr S M H H') (h : dB K S M H v d) : dB K S M H' v d := by
  rcases h with h | ⟨p, vs, ds, e1, e2, e0, e3, e4⟩
  · exact .inl (dp_mono s.vis d v h)
  · exact .inr ⟨p, vs, ds, e1, e2, e0, s.fr _ _ e0 e3, dpa_mono s.vis ds vs e4⟩
theorem dF.toV {B : Hp} (h : dF K B M H v d) : dV K M H v d := by
  obtain ⟨p, vs, ds, rfl, rfl, _, hp, e, ha⟩ := h
  refine .lst (.inl (.inl (by rw [hid_out hp]; exact e))) (dpa_mono (hid_sub fun a z => List.mem_cons_of_mem _ z) ds vs ha)
theorem dA.mono {vs : List V} {ds : List PyData} (s : Gr S M H H') (h : dA K M H vs ds) : dA K M H' vs ds := dpa_mono s.vis ds vs h
/-- a borrowed list: its items -/
theorem dB.lst {ds : List PyData} (h : dB K S M H v (.list ds)) : ∃ p vs, v = .ref p ∧ SqL K H p vs ∧ DpAll K (hid M H) vs ds := by
  rcases h with h | ⟨p, vs, ds', e1, e2, e0, e3, e4⟩
  · cases h with
    | lst hs ha => exact ⟨_, _, rfl, hid_le.seq hs, ha⟩
  · cases e2; exact ⟨p, vs, e1, .inl (.inl e3), e4⟩
theorem dB.tup {ds : List PyData} (h : dB K S M H v (.tuple ds)) : ∃ p vs, v = .ref p ∧ SqT K H p vs ∧ DpAll K (hid M H) vs ds := by
  rcases h with h | ⟨p, vs, ds', e1, e2, e0, e3, e4⟩
  · cases h with
    | tup hs ha => exact ⟨_, _, rfl, same_seqT hid_le hs, ha⟩
  · cases e2
theorem dB.int {i : Int} (h : dB K S M H v (.int i)) : v = .int i := by
  rcases h with h | ⟨p, vs, ds', e1, e2, e0, e3, e4⟩
  · cases h; rfl
  · cases e2
theorem dB.bl {b : Bool} (h : dB K S M H v (.bool b)) : v = .bl b := by
  rcases h with h | ⟨p, vs, ds', e1, e2, e0, e3, e4⟩
  · cases h; rfl
  · cases e2
theorem dB.str {b : Str} (h : dB K S M H v (.str b)) : v = .str b := by
  rcases h with h | ⟨p, vs, ds', e1, e2, e0, e3, e4⟩
  · cases h; rfl
  · cases e2
theorem dB.non (h : dB K S M H v .none) : v = .non := by
  rcases h with h | ⟨p, vs, ds', e1, e2, e0, e3, e4⟩
  · cases h; rfl
  · cases e2
theorem dB.dict {x : List (PyData × PyData)} (h : dB K S M H v (.dict x)) : False := by
  rcases h with h | ⟨p, vs, ds', e1, e2, e0, e3, e4⟩
  · cases h
  · cases e2
/-- at the whole heap -/
theorem dB.dp (h : dB K S M H v d) : Dp K H v d := by
  rcases h with h | ⟨p, vs, ds, rfl, rfl, e0, e3, e4⟩
  · exact dp_mono hid_le d v h
  · exact .lst (.inl (.inl e3)) (dpa_mono hid_le ds vs e4)
/-- a new object is laid -/
theorem new_tup {vs : List V} {ds : List PyData} {p : Addr} (hM : ∀ m, m ∈ M → H m ≠ none) (hp : H p = none) (h : DpAll K (hid M H) vs ds) : dV K M (upd H p (.tup vs)) (.ref p) (.tuple ds) := by
  have np : p ∉ M := fun z => hM p z hp
  exact .tup (.inl (.inl (by rw [hid_out np]; exact upd_same))) (dpa_mono (hid_same (same_upd hp)) ds vs h)
theorem new_lst {B : Hp} {vs : List V} {ds : List PyData} {p : Addr} (hB : ∀ p, H p = none → B p = none) (hM : ∀ m, m ∈ M → H m ≠ none) (hp : H p = none) (h : DpAll K (hid M H) vs ds) : dF K B M (upd H p (.lst vs)) (.ref p) (.list ds) := by
  have np : p ∉ M := fun z => hM p z hp
  refine ⟨p, vs, ds, rfl, rfl, hB p hp, np, upd_same, dpa_mono (fun b o e => ?_) ds vs h⟩
  obtain ⟨h1, h2⟩ := hid_some e
  have nb : b ≠ p := ne_of_none h2 hp
  rw [hid_out (by simp only [List.mem_cons, not_or]; exact ⟨nb, h1⟩), upd_ne nb]
  exact h2
end

/-! ### the slots -/
def keyD : Key → PyData
  | .inl i => .int i
  | .inr x => .str x
/-- what an owned object is: a list, a dict with ints and texts as keys -/
inductive OwnV (K : PySem.W.Frag) (M : List Addr) (H : Hp) : HO → SV → Prop
  | lst {vs : List V} {ds : List PyData} (h : DpAll K (hid M H) vs ds) : OwnV K M H (.lst vs) (.d (.list ds))
  | dk {kvs : List (Key × V)} {ds : List (PyData × PyData)} (h : Paired (fun (q : Key × V) (e : PyData × PyData) => keyD q.1 = e.1 ∧ Dp K (hid M H) q.2 e.2) kvs ds) : OwnV K M H (.dK kvs) (.dict ds)
theorem OwnV.mono {K : PySem.W.Frag} {M M' : List Addr} {H H' : Hp} {o : HO} {d : SV} (s : Same (hid M H) (hid M' H')) (h : OwnV K M H o d) : OwnV K M' H' o d := by
  cases h with
  | lst h => exact .lst (dpa_mono s _ _ h)
  | dk h => exact .dk (Paired.mapP h fun q e z => ⟨z.1, dp_mono s _ _ z.2⟩)
structure Own1 (K : PySem.W.Frag) (M : List Addr) (H : Hp) (σ : L2.St) (ρ : Rho) (i : Nat) (p : Addr) : Prop where
  sl : σ[i]? = some (some (.ref p))
  val : ∃ o d, ρ[i]? = some (some d) ∧ H p = some o ∧ OwnV K M H o d
/-- what stood at the entry and stays; what could be seen at some point and can still be; the sources -/
structure BB where
  fst : Hp
  snd : Hp
  S : List Addr
/-- O: the slots that own a list, P: these lists; Z: what others own -/
structure EnvOk (K : PySem.W.Frag) (B : BB) (O : List Nat) (P Z : List Addr) (σ : L2.St) (H : Hp) (ρ : Rho) : Prop where
  len : ρ.length = σ.length
  bs : Same B.1 H
  gs : Same B.2 (hid (P ++ Z) H)
  own : Paired (Own1 K (P ++ Z) H σ ρ) O P
  nd : P.Nodup
  pb : ∀ p, p ∈ P → B.1 p = none
  zt : ∀ z, z ∈ Z → H z ≠ none
  pz : ∀ p, p ∈ P → p ∉ Z
  sz : ∀ a, a ∈ B.S → a ∈ Z
  sb : ∀ a, a ∈ B.S → B.1 a = none
  so : SrcOk B.S H
  src : ∀ i, i ∉ O → ρ[i]? = some (some .src) → ∃ a, a ∈ B.S ∧ σ[i]? = some (some (.ref a))
  fns : ∀ i x, i ∉ O → ρ[i]? = some (some (.fn x)) → σ[i]? = some (some (.ref (He.ga K x)))
  oth : ∀ i d, i ∉ O → ρ[i]? = some (some (.d d)) → ∃ v, σ[i]? = some (some v) ∧ Dp K (hid (P ++ Z) H) v d
section
variable {K : PySem.W.Frag} {B : BB} {H H' : Hp} {O : List Nat} {P Z : List Addr} {σ : L2.St} {ρ : Rho}
theorem Own1.same {S M : List Addr} {i : Nat} {p : Addr} (s : Gr S M H H') (hp : p ∉ S) (h : Own1 K M H σ ρ i p) : Own1 K M H' σ ρ i p := by
  obtain ⟨h1, o, d, h2, h3, h4⟩ := h
  exact ⟨h1, o, d, h2, s.fr _ _ hp h3, h4.mono s.vis⟩
theorem Paired.mapPR {α β : Type} {F G : α → β → Prop} : ∀ {l : List α} {m : List β}, Paired F l m → (∀ a b, b ∈ m → F a b → G a b) → Paired G l m
  | _, _, .nil, _ => .nil
  | _, _, .cons r t, h => .cons (h _ _ List.mem_cons_self r) (Paired.mapPR t fun a b hb => h a b (List.mem_cons_of_mem _ hb))
theorem EnvOk.ps (h : EnvOk K B O P Z σ H ρ) {p : Addr} (hp : p ∈ P) : p ∉ B.S := fun z => h.pz p hp (h.sz p z)
theorem EnvOk.bs' (s : Gr B.S (P ++ Z) H H') (h : EnvOk K B O P Z σ H ρ) : Same B.1 H' := fun b o e => s.fr b o (fun z => by rw [h.sb b z] at e; cases e) (h.bs b o e)
theorem EnvOk.zt' (s : Gr B.S (P ++ Z) H H') (h : EnvOk K B O P Z σ H ρ) : ∀ z, z ∈ Z → H' z ≠ none := fun z hz q => by
  by_cases hS : z ∈ B.S
  · obtain ⟨x, y, _, _, e⟩ := s.so h.so z hS
    rw [e] at q; cases q
  · cases e : H z with
    | none => exact h.zt z hz e
    | some o => rw [s.fr z o hS e] at q; cases q
theorem EnvOk.same (s : Gr B.S (P ++ Z) H H') (h : EnvOk K B O P Z σ H ρ) : EnvOk K B O P Z σ H' ρ :=
  ⟨h.len, h.bs' s, h.gs.trans s.vis, Paired.mapPR h.own fun _ _ hb x => x.same s (h.ps hb), h.nd, h.pb, h.zt' s, h.pz, h.sz, h.sb, s.so h.so, h.src, h.fns, fun i d hi e => by
    obtain ⟨v, h1, h2⟩ := h.oth i d hi e
    exact ⟨v, h1, dp_mono s.vis d v h2⟩⟩
theorem paired_right {α β : Type} {F : α → β → Prop} : ∀ {l : List α} {m : List β}, Paired F l m → ∀ b, b ∈ m → ∃ a, a ∈ l ∧ F a b
  | _, _, .nil, _, h => by cases h
  | _, _, .cons r t, b, h => by
    rcases List.mem_cons.mp h with h | h
    · subst h; exact ⟨_, List.mem_cons_self, r⟩
    · obtain ⟨a, h1, h2⟩ := paired_right t b h
      exact ⟨a, List.mem_cons_of_mem _ h1, h2⟩
theorem paired_left {α β : Type} {F : α → β → Prop} : ∀ {l : List α} {m : List β}, Paired F l m → ∀ a, a ∈ l → ∃ b, b ∈ m ∧ F a b
  | _, _, .nil, _, h => by cases h
  | _, _, .cons r t, a, h => by
    rcases List.mem_cons.mp h with h | h
    · subst h; exact ⟨_, List.mem_cons_self, r⟩
    · obtain ⟨b, h1, h2⟩ := paired_left t a h
      exact ⟨b, List.mem_cons_of_mem _ h1, h2⟩
/-- what is hidden is tracked -/
theorem EnvOk.trk (h : EnvOk K B O P Z σ H ρ) : ∀ m, m ∈ P ++ Z → H m ≠ none := fun m hm => by
  rcases List.mem_append.mp hm with hm | hm
  · obtain ⟨i, _, h1, vs, ds, h2, h3, h4⟩ := paired_right h.own m hm
    rw [h3]; intro q; cases q
  · exact h.zt m hm
end

/-! ### judgements -/
theorem _root_.L2.PE.imp {X : Cx} {e : Expr} {t t' : TE} (h : PE X e t) (hi : ∀ σ H Q, t' σ H Q → t σ H Q) : PE X e t' := ⟨fun pins s σ H Q I hw => h.run pins s σ H Q I (hi σ H Q hw)⟩
theorem _root_.L2.PT.imp {X : Cx} {e : Expr} {t t' : TT} (h : PT X e t) (hi : ∀ σ H Q, t' σ H Q → t σ H Q) : PT X e t' := ⟨fun pins s σ H Q I hw => h.run pins s σ H Q I (hi σ H Q hw)⟩
theorem _root_.L2.PA.imp {X : Cx} {e : List Expr} {t t' : TA} (h : PA X e t) (hi : ∀ σ H Q, t' σ H Q → t σ H Q) : PA X e t' := ⟨fun pos pins s σ H Q I hw => h.run pos pins s σ H Q I (hi σ H Q hw)⟩
theorem _root_.L2.PS.imp {X : Cx} {e : Stmt} {t t' : TS} (h : PS X e t) (hi : ∀ D σ H, t' D σ H → t D σ H) : PS X e t' := ⟨fun pins s σ H D I hw => h.run pins s σ H D I (hi D σ H hw)⟩
theorem _root_.L2.PSs.imp {X : Cx} {e : List Stmt} {t t' : TS} (h : PSs X e t) (hi : ∀ D σ H, t' D σ H → t D σ H) : PSs X e t' := ⟨fun pins s σ H D I hw => h.run pins s σ H D I (hi D σ H hw)⟩
def tG {ν α : Type} (K : PySem.W.Frag) (ec : EC) (Ef : L2.St → XK) (O : List Nat) (den : Hp → List Addr → List Addr → Hp → ν → α → Prop) (f : Rho → R α) : L2.St → Hp → (ν → Hp → Prop) → Prop :=
  fun σ H Q => ∃ B P Z ρ, EnvOk K B O P Z σ H ρ ∧ Post B.S K ec (den H B.S (P ++ Z)) (P ++ Z) (Ef σ) H Q (f ρ)
structure DE (X : Cx) (ec : EC) (Ef : L2.St → XK) (O : List Nat) (e : Expr) (f : Rho → R PyData) : Prop where
  pe : PE X e (tG X.K ec Ef O (fun _ _ => dV X.K) f)
structure DB (X : Cx) (ec : EC) (Ef : L2.St → XK) (O : List Nat) (e : Expr) (f : Rho → R PyData) : Prop where
  pe : PE X e (tG X.K ec Ef O (fun _ => dB X.K) f)
structure DF (X : Cx) (ec : EC) (Ef : L2.St → XK) (O : List Nat) (e : Expr) (f : Rho → R PyData) : Prop where
  pe : PE X e (tG X.K ec Ef O (fun H _ => dF X.K H) f)
structure DA (X : Cx) (ec : EC) (Ef : L2.St → XK) (O : List Nat) (es : List Expr) (f : Rho → R (List PyData)) : Prop where
  pa : PA X es (tG X.K ec Ef O (fun _ _ => dA X.K) f)
structure DT (X : Cx) (ec : EC) (Ef : L2.St → XK) (O : List Nat) (e : Expr) (f : Rho → R Bool) : Prop where
  pt : PT X e (tG X.K ec Ef O (fun _ _ _ => dT) f)
theorem Post.den {S : List Addr} {K : PySem.W.Frag} {ec : EC} {M : List Addr} {E : XK} {H : Hp} {ν α : Type} {den den' : Hp → ν → α → Prop} {Q : ν → Hp → Prop} {r : R α} (hd : ∀ H' v a, den' H' v a → den H' v a) (h : Post S K ec den M E H Q r) : Post S K ec den' M E H Q r :=
  R.wp_imp h (fun _ h v H' s d => h v H' s (hd _ _ _ d)) (fun _ _ h => h)
section
variable {X : Cx} {ec : EC} {Ef : L2.St → XK} {O : List Nat} {e : Expr} {f : Rho → R PyData}
theorem DE.b (h : DE X ec Ef O e f) : DB X ec Ef O e f := ⟨h.pe.imp fun _ _ _ ⟨B, P, Z, ρ, hE, p⟩ => ⟨B, P, Z, ρ, hE, p.den fun _ _ _ d => d.b⟩⟩
theorem DF.toE (h : DF X ec Ef O e f) : DE X ec Ef O e f := ⟨h.pe.imp fun _ _ _ ⟨B, P, Z, ρ, hE, p⟩ => ⟨B, P, Z, ρ, hE, p.den fun _ _ _ d => d.toV⟩⟩
theorem DF.b (h : DF X ec Ef O e f) : DB X ec Ef O e f := h.toE.b
end
end DL
set_option Elab.async false
set_option linter.all false
set_option maxRecDepth 100000
set_option maxHeartbeats 1000000
namespace DL
open PySem PySem.Spec PyProof.Rows L2
/-! ### names, constants, displays -/
/-- the data in a slot -/
def getV (ρ : Rho) (i : Nat) : R PyData := match ρ[i]? with
  | some (some (.d x)) => .ok x
  | _ => .bad
theorem getV_ok {ρ : Rho} {i : Nat} {d : PyData} (h : ρ[i]? = some (some (.d d))) : getV ρ i = .ok d := by
  unfold getV
  rw [h]
theorem getV_case {ρ : Rho} {i : Nat} : (∃ d, ρ[i]? = some (some (.d d)) ∧ getV ρ i = .ok d) ∨ getV ρ i = .bad := by
  unfold getV
  split
  · rename_i d h; exact .inl ⟨d, h, rfl⟩
  · exact .inr rfl
section
variable {X : Cx} {ec : EC} {Ef : L2.St → XK} {O : List Nat} {e : Expr} {i : Nat}
theorem de_name (h : PE X e (tVar i)) (hi : i ∉ O := by decide) : DE X ec Ef O e (fun ρ => getV ρ i) := ⟨h.imp fun σ H Q ⟨B, P, Z, ρ, hE, p⟩ => by
  have p : Post B.S X.K ec (dV X.K (P ++ Z)) (P ++ Z) (Ef σ) H Q (getV ρ i) := p
  rcases getV_case (ρ := ρ) (i := i) with ⟨d, h1, h2⟩ | h2
  · rw [h2] at p
    obtain ⟨v, h3, h4⟩ := hE.oth i d hi h1
    exact ⟨v, h3, p.ok h4⟩
  · rw [h2] at p
    exact p.elim⟩
theorem db_name (h : PE X e (tVar i)) : DB X ec Ef O e (fun ρ => getV ρ i) := ⟨h.imp fun σ H Q ⟨B, P, Z, ρ, hE, p⟩ => by
  have p : Post B.S X.K ec (dB X.K B.S (P ++ Z)) (P ++ Z) (Ef σ) H Q (getV ρ i) := p
  rcases getV_case (ρ := ρ) (i := i) with ⟨d, h1, h2⟩ | h2
  · rw [h2] at p
    by_cases hi : i ∈ O
    · obtain ⟨q, hq, h3, o, d', h4, h5, h6⟩ := paired_left hE.own i hi
      rw [h1] at h4
      cases h4
      cases h6 with
      | lst h6 => exact ⟨.ref q, h3, p.ok (.inr ⟨q, _, _, rfl, rfl, hE.ps hq, h5, h6⟩)⟩
    · obtain ⟨v, h3, h4⟩ := hE.oth i d hi h1
      exact ⟨v, h3, p.ok (.inl h4)⟩
  · rw [h2] at p
    exact p.elim⟩
def fC (d : PyData) : Rho → R PyData := fun _ => .ok d
theorem de_const {v : V} {d : PyData} (h : PE X e (tC v)) (hd : ∀ K H, Dp K H v d) : DE X ec Ef O e (fC d) := ⟨h.imp fun σ H Q ⟨B, P, Z, ρ, hE, p⟩ =>
  (show Post B.S X.K ec (dV X.K (P ++ Z)) (P ++ Z) (Ef σ) H Q (.ok d) from p).ok (hd _ _)⟩
theorem de_int {n : Int} {j pos} : DE X ec Ef O (.Constant (.int n) j pos) (fC (.int n)) := de_const pe_int fun _ _ => .int n
theorem de_bl {n : Bool} {j pos} : DE X ec Ef O (.Constant (.bool n) j pos) (fC (.bool n)) := de_const pe_bl fun _ _ => .bl n
theorem de_str {n : Str} {j pos} : DE X ec Ef O (.Constant (.str n) j pos) (fC (.str n)) := de_const pe_str fun _ _ => .str n
theorem de_non {j pos} : DE X ec Ef O (.Constant .none j pos) (fC .none) := de_const pe_non fun _ _ => .non
/-- a module's constant: an int, a text -/
theorem de_glob {x : Str} {v : V} {d : PyData} {pos : Pos} (hg : Gl X x) (hm : ∃ u, X.mg x = some u ∧ RelV v u) (hd : ∀ H, Dp X.K H v d) (hdb : (x == ("__debug__" : Str)) = false := by decide) : DE X ec Ef O (.Name x pos) (fC d) := by
  obtain ⟨u, h1, h2⟩ := hm
  exact ⟨(pe_glob hg h1 h2 hdb).imp fun σ H Q ⟨B, P, Z, ρ, hE, p⟩ => (show Post B.S X.K ec (dV X.K (P ++ Z)) (P ++ Z) (Ef σ) H Q (.ok d) from p).ok (hd _)⟩
/-! ### argument lists, tuples, lists -/
theorem da_nil : DA X ec Ef O [] (fun _ => .ok []) := ⟨pa_nil.imp fun σ H Q ⟨B, P, Z, ρ, hE, p⟩ => (show Post B.S X.K ec (dA X.K (P ++ Z)) (P ++ Z) (Ef σ) H Q (.ok []) from p).ok .nil⟩
theorem da_cons {es : List Expr} {f : Rho → R PyData} {g : Rho → R (List PyData)} (h : DE X ec Ef O e f) (t : DA X ec Ef O es g) (hs : starEach (e :: es) X.env = (false, eval e X.env) :: starEach es X.env := by rfl) :
    DA X ec Ef O (e :: es) (fun ρ => (f ρ).bind fun d => (g ρ).bind fun ds => .ok (d :: ds)) :=
  ⟨(pa_cons h.pe t.pa hs).imp fun σ H Q ⟨B, P, Z, ρ, hE, p⟩ => ⟨B, P, Z, ρ, hE, (Post.bind p).imp fun v H1 ⟨d, _, s1, d1, p1⟩ => ⟨B, P, Z, ρ, hE.same s1, (Post.bind p1).imp fun vs H2 ⟨ds, _, s2, d2, p2⟩ => p2.ok (.cons (d1.mono s2) d2)⟩⟩⟩
def mkTup (ds : List PyData) : R PyData := if ds.length ≤ sizeLine then .ok (.tuple ds) else .bad
def mkLst (ds : List PyData) : R PyData := if ds.length ≤ sizeLine then .ok (.list ds) else .bad
theorem de_tup {es : List Expr} {x1 : Nat} {pos : Pos} {g : Rho → R (List PyData)} (t : DA X ec Ef O es g) : DE X ec Ef O (.Tuple es x1 pos) (fun ρ => (g ρ).bind mkTup) :=
  ⟨(pe_tup t.pa).imp fun σ H Q ⟨B, P, Z, ρ, hE, p⟩ => ⟨B, P, Z, ρ, hE, (Post.bind p).imp fun vs H1 ⟨ds, _, s1, d1, p1⟩ => by
    unfold mkTup at p1
    by_cases hl : ds.length ≤ sizeLine
    · rw [if_pos hl] at p1
      refine ⟨by rw [dpa_len d1]; exact hl, fun q hq => ?_⟩
      exact p1 _ _ (.of (same_upd hq)) (new_tup (hE.same s1).trk hq d1)
    · rw [if_neg hl] at p1
      exact p1.elim⟩⟩
theorem df_lst {es : List Expr} {pos : Pos} {g : Rho → R (List PyData)} (t : DA X ec Ef O es g) : DF X ec Ef O (.List es pos) (fun ρ => (g ρ).bind mkLst) :=
  ⟨(pe_lst t.pa).imp fun σ H Q ⟨B, P, Z, ρ, hE, p⟩ => ⟨B, P, Z, ρ, hE, (Post.bind p).imp fun vs H1 ⟨ds, _, s1, d1, p1⟩ => by
    unfold mkLst at p1
    by_cases hl : ds.length ≤ sizeLine
    · rw [if_pos hl] at p1
      refine ⟨by rw [dpa_len d1]; exact hl, fun q hq => ?_⟩
      exact p1 _ _ (.of (same_upd hq)) (new_lst (s1.free hE.so) (hE.same s1).trk hq d1)
    · rw [if_neg hl] at p1
      exact p1.elim⟩⟩
end

/-! ### operators by values -/
/-- two values denote, the answer denotes -/
def rD (K : PySem.W.Frag) (den : Hp → List Addr → List Addr → Hp → V → PyData → Prop) (g : PyData → PyData → Option PyData) : R2 := fun x y H Q => ∃ (B : Hp) (S M : List Addr) (dx dy d : PyData), (∀ p, H p = none → B p = none) ∧ (∀ m, m ∈ M → H m ≠ none) ∧ dB K S M H x dx ∧ dB K S M H y dy ∧ g dx dy = some d ∧ ∀ z H', Same H H' → den B S M H' z d → Q z H'
abbrev OpD (X : Cx) (f : Value → Value → Sem Value) (g : PyData → PyData → Option PyData) : Prop := OpR X f (rD X.K (fun _ _ => dV X.K) g)
abbrev OpF (X : Cx) (f : Value → Value → Sem Value) (g : PyData → PyData → Option PyData) : Prop := OpR X f (rD X.K (fun H _ => dF X.K H) g)
def fBin (g : PyData → PyData → Option PyData) (fa fb : Rho → R PyData) : Rho → R PyData := fun ρ => (fa ρ).bind fun x => (fb ρ).bind fun y => R.ofO (g x y)
section
variable {X : Cx} {ec : EC} {Ef : L2.St → XK} {O : List Nat} {a b : Expr} {fa fb : Rho → R PyData} {g : PyData → PyData → Option PyData} {pos : Pos}
theorem bin_imp {den : Hp → List Addr → List Addr → Hp → V → PyData → Prop} (σ : L2.St) (H : Hp) (Q : VK) (h : tG X.K ec Ef O den (fBin g fa fb) σ H Q) :
    tOp (rD X.K den g) (tG X.K ec Ef O (fun _ => dB X.K) fa) (tG X.K ec Ef O (fun _ => dB X.K) fb) σ H Q := by
  obtain ⟨B, P, Z, ρ, hE, p⟩ := h
  refine ⟨B, P, Z, ρ, hE, (Post.bind p).imp fun v H1 ⟨dx, _, s1, d1, p1⟩ => ⟨B, P, Z, ρ, hE.same s1, (Post.bind p1).imp fun u H2 ⟨dy, _, s2, d2, p2⟩ => ?_⟩⟩
  cases hg : g dx dy with
  | none => rw [hg] at p2; exact p2.elim
  | some d =>
    rw [hg] at p2
    exact ⟨H, B.S, P ++ Z, dx, dy, d, (s1.trans s2).free hE.so, ((hE.same s1).same s2).trk, d1.mono s2, d2, hg, fun z H' s3 d3 => p2 z H' (.of s3) d3⟩
theorem de_bin {op : Operator} (ho : OpD X (binaryOp op) g) (ha : DB X ec Ef O a fa) (hb : DB X ec Ef O b fb) : DE X ec Ef O (.BinOp a op b pos) (fBin g fa fb) := ⟨(pe_op ho ha.pe hb.pe).imp bin_imp⟩
theorem df_bin {op : Operator} (ho : OpF X (binaryOp op) g) (ha : DB X ec Ef O a fa) (hb : DB X ec Ef O b fb) : DF X ec Ef O (.BinOp a op b pos) (fBin g fa fb) := ⟨(pe_op ho ha.pe hb.pe).imp bin_imp⟩
theorem de_cmp {op : CmpOp} (ho : OpD X (compareOp op) g) (ha : DB X ec Ef O a fa) (hb : DB X ec Ef O b fb) (hm : behindInMarks op b = false) : DE X ec Ef O (.Compare a [op] [b] pos) (fBin g fa fb) := ⟨(pe_cmpR ho ha.pe hb.pe hm).imp bin_imp⟩
def tr (d : PyData) : R Bool := match d with
  | .bool b => .ok b
  | _ => .bad
theorem tr_case {d : PyData} : (∃ b, d = .bool b ∧ tr d = .ok b) ∨ tr d = .bad := by
  cases d <;> first | exact .inl ⟨_, rfl, rfl⟩ | exact .inr rfl
theorem dt_cmp {op : CmpOp} (ho : OpD X (compareOp op) g) (ha : DB X ec Ef O a fa) (hb : DB X ec Ef O b fb) (hm : behindInMarks op b = false) : DT X ec Ef O (.Compare a [op] [b] pos) (fun ρ => (fBin g fa fb ρ).bind tr) :=
  ⟨(pt_cmpR ho ha.pe hb.pe hm).imp fun σ H Q ⟨B, P, Z, ρ, hE, p⟩ => bin_imp (ec := ec) (Ef := Ef) (O := O) (den := fun _ _ => dV X.K) σ H _ ⟨B, P, Z, ρ, hE, (Post.bind p).imp fun v H1 ⟨d, _, s1, d1, p1⟩ => by
    rcases tr_case (d := d) with ⟨c, rfl, e⟩ | e
    · rw [e] at p1
      have e2 : v = .bl c := by cases d1; rfl
      exact ⟨c, e2, p1.ok rfl⟩
    · rw [e] at p1; exact p1.elim⟩⟩
end
/-! ### ints -/
section
variable {X : Cx}
theorem opD_int {f : Value → Value → Sem Value} {C : Int → Int → Prop} [∀ i j, Decidable (C i j)] {h : Int → Int → V} {h' : Int → Int → PyData} (ho : OpR X f (rI C h)) (hh : ∀ K H i j, Dp K H (h i j) (h' i j)) :
    OpD X f (fun x y => match x, y with
      | .int i, .int j => if C i j then some (h' i j) else none
      | _, _ => none) := by
  intro pins s σ H x y v u Q I rx ry ⟨B0, S, M, dx, dy, d, hB, hM, h1, h2, hg, k⟩
  cases dx with
  | int i =>
    cases dy with
    | int j =>
      have hg : (if C i j then some (h' i j) else none) = some d := hg
      by_cases hc : C i j
      · rw [if_pos hc] at hg
        cases hg
        exact ho pins s σ H x y v u Q I rx ry ⟨i, j, h1.int, h2.int, hc, k _ _ (Same.refl H) (hh _ _ i j)⟩
      · rw [if_neg hc] at hg; cases hg
    | _ => cases hg
  | _ => cases hg
theorem rI0_I {f : Value → Value → Sem Value} {h : Int → Int → V} (ho : OpR X f (rI0 h)) : OpR X f (rI (fun _ _ => True) h) := fun pins s σ H x y v u Q I rx ry ⟨i, j, e1, e2, _, q⟩ => ho pins s σ H x y v u Q I rx ry ⟨i, j, e1, e2, q⟩
instance (i j : Int) : Decidable (CMul i j) := by unfold CMul; infer_instance
instance (i j : Int) : Decidable (CDiv i j) := by unfold CDiv; infer_instance
instance (i j : Int) : Decidable (CPow i j) := by unfold CPow; infer_instance
def gSub : PyData → PyData → Option PyData := fun x y => match x, y with
  | .int i, .int j => if True then some (.int (i - j)) else none
  | _, _ => none
def gMulI : PyData → PyData → Option PyData := fun x y => match x, y with
  | .int i, .int j => if CMul i j then some (.int (i * j)) else none
  | _, _ => none
def gMod : PyData → PyData → Option PyData := fun x y => match x, y with
  | .int i, .int j => if 0 < j then some (.int (i % j)) else none
  | _, _ => none
def gFdiv : PyData → PyData → Option PyData := fun x y => match x, y with
  | .int i, .int j => if CDiv i j then some (.int (i / j)) else none
  | _, _ => none
def gPow : PyData → PyData → Option PyData := fun x y => match x, y with
  | .int i, .int j => if CPow i j then some (.int (i ^ j.toNat)) else none
  | _, _ => none
def gAddI : PyData → PyData → Option PyData := fun x y => match x, y with
  | .int i, .int j => if True then some (.int (i + j)) else none
  | _, _ => none
def gLt : PyData → PyData → Option PyData := fun x y => match x, y with
  | .int i, .int j => if True then some (.bool (decide (i < j))) else none
  | _, _ => none
def gLe : PyData → PyData → Option PyData := fun x y => match x, y with
  | .int i, .int j => if True then some (.bool (decide (i ≤ j))) else none
  | _, _ => none
def gGt : PyData → PyData → Option PyData := fun x y => match x, y with
  | .int i, .int j => if True then some (.bool (decide (j < i))) else none
  | _, _ => none
def gGe : PyData → PyData → Option PyData := fun x y => match x, y with
  | .int i, .int j => if True then some (.bool (decide (j ≤ i))) else none
  | _, _ => none
theorem od_sub : OpD X (binaryOp .Sub) gSub := opD_int (C := fun _ _ => True) (h' := fun i j => .int (i - j)) (rI0_I op_sub) fun _ _ _ _ => .int _
theorem od_mulI : OpD X (binaryOp .Mult) gMulI := opD_int (C := CMul) (h' := fun i j => .int (i * j)) op_mul fun _ _ _ _ => .int _
theorem od_mod : OpD X (binaryOp .Mod) gMod := opD_int (C := fun _ j => 0 < j) (h' := fun i j => .int (i % j)) op_mod fun _ _ _ _ => .int _
theorem od_fdiv : OpD X (binaryOp .FloorDiv) gFdiv := opD_int (C := CDiv) (h' := fun i j => .int (i / j)) op_fdiv fun _ _ _ _ => .int _
theorem od_pow : OpD X (binaryOp .Pow) gPow := opD_int (C := CPow) (h' := fun i j => .int (i ^ j.toNat)) op_pow fun _ _ _ _ => .int _
theorem od_addI : OpD X (binaryOp .Add) gAddI := opD_int (C := fun _ _ => True) (h' := fun i j => .int (i + j)) (rI0_I op_add) fun _ _ _ _ => .int _
theorem od_lt : OpD X (compareOp .Lt) gLt := opD_int (C := fun _ _ => True) (h' := fun i j => .bool (decide (i < j))) (rI0_I op_lt) fun _ _ _ _ => .bl _
theorem od_le : OpD X (compareOp .LtE) gLe := opD_int (C := fun _ _ => True) (h' := fun i j => .bool (decide (i ≤ j))) (rI0_I op_le) fun _ _ _ _ => .bl _
theorem od_gt : OpD X (compareOp .Gt) gGt := opD_int (C := fun _ _ => True) (h' := fun i j => .bool (decide (j < i))) (rI0_I op_gt) fun _ _ _ _ => .bl _
theorem od_ge : OpD X (compareOp .GtE) gGe := opD_int (C := fun _ _ => True) (h' := fun i j => .bool (decide (j ≤ i))) (rI0_I op_ge) fun _ _ _ _ => .bl _
end
/-! ### + of texts, tuples, lists; * -/
/-- no list stands in the written part -/
def NoList (K : PySem.W.Frag) : Prop := ∀ a o, K.lookup a = some o → o.cls ≠ .type "list"
section
variable {X : Cx} {pins : List (Addr × Obj)} {σ : L2.St} {H : Hp} {s : Shared} {a : Addr} {xs : List V}
theorem rd_of (kl : NoList X.K) (h : SqL X.K H a xs) : Rd H a (.lst xs) := by
  rcases h with h | ⟨o, its, n, h1, h2, _⟩
  · exact h
  · exact absurd h2 (kl a o h1)
theorem lstX (kl : NoList X.K) (I : Inv X pins σ H s) (h : SqL X.K H a xs) : xs.length ≤ sizeLine ∧ ∃ (its : List Value) (n : Nat), Vals xs its ∧ xs.length = its.length ∧ s.heap.get? a = some { cls := .type "list", data := .seq its.toArray n } := by
  obtain ⟨hz, its, n, r, e⟩ := (rd_of kl h).ok I.hok
  exact ⟨hz, its, n, r, r.length, e⟩
end
def gAdd : PyData → PyData → Option PyData := fun x y => match x, y with
  | .int i, .int j => some (.int (i + j))
  | .str a, .str b => if a.length + b.length ≤ sizeLine then some (.str (a ++ b)) else none
  | .tuple a, .tuple b => if a.length + b.length ≤ sizeLine then some (.tuple (a ++ b)) else none
  | _, _ => none
def gCat : PyData → PyData → Option PyData := fun x y => match x, y with
  | .list a, .list b => if a.length + b.length ≤ sizeLine then some (.list (a ++ b)) else none
  | _, _ => none
def gRep : PyData → PyData → Option PyData := fun x y => match x, y with
  | .list a, .int k => if -(2 ^ 63) ≤ k ∧ k < 2 ^ 63 ∧ a.length * k.toNat ≤ sizeLine then some (.list (List.replicate k.toNat a).flatten) else none
  | _, _ => none
section
variable {X : Cx}
theorem od_add : OpD X (binaryOp .Add) gAdd := by
  intro pins s σ H x y v u Q I rx ry ⟨B0, S, M, dx, dy, d, hB, hM, h1, h2, hg, k⟩
  cases dx with
  | int i =>
    cases dy with
    | int j =>
      cases hg
      exact op_add pins s σ H x y v u Q I rx ry ⟨i, j, h1.int, h2.int, k _ _ (Same.refl H) (.int _)⟩
    | _ => cases hg
  | str i =>
    cases dy with
    | str j =>
      have hg : (if i.length + j.length ≤ sizeLine then some (PyData.str (i ++ j)) else none) = some d := hg
      by_cases hc : i.length + j.length ≤ sizeLine
      · rw [if_pos hc] at hg
        cases hg
        exact op_add_str pins s σ H x y v u Q I rx ry ⟨i, j, h1.str, h2.str, hc, k _ _ (Same.refl H) (.str _)⟩
      · rw [if_neg hc] at hg; cases hg
    | _ => cases hg
  | tuple i =>
    cases dy with
    | tuple j =>
      have hg : (if i.length + j.length ≤ sizeLine then some (PyData.tuple (i ++ j)) else none) = some d := hg
      by_cases hc : i.length + j.length ≤ sizeLine
      · rw [if_pos hc] at hg
        cases hg
        have h2' := h2
        have h1' := h1
        obtain ⟨p, xs, e1, q1, a1⟩ := h1.tup
        obtain ⟨p2, ys, e2, q2, a2⟩ := h2.tup
        have l1 := dpa_len a1
        have l2 := dpa_len a2
        have strict : ∀ {z : V} {ds : List PyData}, dB X.K S M H z (.tuple ds) → dV X.K M H z (.tuple ds) := fun {z ds} h => by
          rcases h with h | ⟨_, _, _, _, e, _⟩
          · exact h
          · cases e
        refine op_catA pins s σ H x y v u Q I rx ry ⟨p, p2, xs, ys, e1, e2, q1, q2, by rw [l1, l2]; exact hc, fun e => ?_, fun _ e => ?_, fun _ _ q hq => ?_⟩
        · subst e
          have : i = [] := List.eq_nil_of_length_eq_zero l1.symm
          subst this
          rw [List.nil_append] at k
          rw [e2] at h2'
          exact k _ _ (Same.refl H) (strict h2')
        · subst e
          have : j = [] := List.eq_nil_of_length_eq_zero l2.symm
          subst this
          rw [List.append_nil] at k
          rw [e1] at h1'
          exact k _ _ (Same.refl H) (strict h1')
        · exact k _ _ (same_upd hq) (new_tup hM hq (dpa_append a1 a2))
      · rw [if_neg hc] at hg; cases hg
    | _ => cases hg
  | _ => cases hg
theorem of_cat (kl : NoList X.K) : OpF X (binaryOp .Add) gCat := by
  intro pins s σ H x y v u Q I rx ry ⟨B0, S, M, dx, dy, d, hB, hM, h1, h2, hg, k⟩
  cases dx with
  | list i =>
    cases dy with
    | list j =>
      have hg : (if i.length + j.length ≤ sizeLine then some (PyData.list (i ++ j)) else none) = some d := hg
      by_cases hc : i.length + j.length ≤ sizeLine
      · rw [if_pos hc] at hg
        cases hg
        obtain ⟨p, xs, e1, q1, a1⟩ := h1.lst
        obtain ⟨p2, ys, e2, q2, a2⟩ := h2.lst
        have l1 := dpa_len a1
        have l2 := dpa_len a2
        subst e1 e2
        cases rx
        cases ry
        obtain ⟨z, its, n, r, hl, e⟩ := lstX kl I q1
        obtain ⟨z2, its2, n2, r2, hl2, e2⟩ := lstX kl I q2
        refine PySem.P.add_list e e2 ?_ (by rw [List.size_toArray, List.size_toArray]; omega)
        have ea : its.toArray ++ its2.toArray = (its ++ its2).toArray := by simp
        rw [ea]
        exact ⟨.ref _, _, I.lnew (t' := s.toks) (r.append r2) (by rw [List.length_append]; omega), rfl, k _ _ (same_upd I.fresh) (new_lst hB hM I.fresh (dpa_append a1 a2))⟩
      · rw [if_neg hc] at hg; cases hg
    | _ => cases hg
  | _ => cases hg
end
end DL
set_option Elab.async false
set_option linter.all false
set_option maxRecDepth 100000
set_option maxHeartbeats 1000000
namespace DL
open PySem PySem.Spec PyProof.Rows L2
theorem tmul_same (l : Addr) (items : Array Value) (n : Nat) (dd : Option Addr) (sl : Array (Option Value)) (x : Int) (u : Tok) (c0 : (decide (x < -(2 ^ 63)) || decide (x ≥ 2 ^ 63)) = false) (c1 : (items.isEmpty || x == 1) = true) :
    Meets (Builtin.«tuple.__mul__» ⟨[.ref l, .int x u], []⟩) (fun _ R s => s.heap.get? l = some { cls := .type "tuple", dict := dd, data := .seq items n, slots := sl } ∧ R (.ok (.ret (Value.ref l))) s) :=
  .of_wp fun prog w A R s h => by
    obtain ⟨hp, g, d, tk, os⟩ := s
    obtain ⟨hl, h⟩ := h
    have f1 := AutoSeq1.idx_int
    have ht : IsTup hp l items := ⟨_, hl, rfl, n, rfl⟩
    wp_walk using wpAny_loadPart' hl
    refine wpAny_ite_false (decide_eq_false (by rw [c0]; exact Bool.false_ne_true)) ?_
    refine wpAny_bind (PyProof.Rows.tupleItemsOf_ ht ?_)
    rw [if_pos c1]
    refine wpAny_bind ?_
    show wpAny _ _ (typeOf (.ref l) >>= fun T => pure (T == .type "tuple")) _ _ _
    refine wpAny_bind (wpAny_typeOf ht.typeIs (wpAny_pure ?_))
    simp only [beq_self_eq_true, if_true]
    exact wpAny_bind (wpAny_rule (wpAny_pure ⟨_, rfl, h⟩))
theorem tmul_none (l : Addr) (items : Array Value) (n : Nat) (dd : Option Addr) (sl : Array (Option Value)) (x : Int) (u : Tok) (c0 : (decide (x < -(2 ^ 63)) || decide (x ≥ 2 ^ 63)) = false) (c1 : (items.isEmpty || x == 1) = false) (c2 : (decide (x ≤ 0) || items.isEmpty) = true) :
    Meets (Builtin.«tuple.__mul__» ⟨[.ref l, .int x u], []⟩) (fun _ R s => s.heap.get? l = some { cls := .type "tuple", dict := dd, data := .seq items n, slots := sl } ∧
      R (.ok (.ret (Value.ref s.heap.objs.size))) { s with heap := s.heap.push { cls := Value.type "tuple", data := Data.seq #[] }, toks := s.toks }) :=
  .of_wp fun prog w A R s h => by
    obtain ⟨hp, g, d, tk, os⟩ := s
    obtain ⟨hl, h⟩ := h
    have f1 := AutoSeq1.idx_int
    have ht : IsTup hp l items := ⟨_, hl, rfl, n, rfl⟩
    wp_walk using wpAny_loadPart' hl
    refine wpAny_ite_false (decide_eq_false (by rw [c0]; exact Bool.false_ne_true)) ?_
    refine wpAny_bind (PyProof.Rows.tupleItemsOf_ ht ?_)
    rw [if_neg (by rw [c1]; exact Bool.false_ne_true), if_pos c2]
    wp_walk using wpAny_loadPart' hl
    exact ⟨_, rfl, h⟩

theorem flat_len (n : Nat) (xs : List PyData) : (List.replicate n xs).flatten.length = n * xs.length := by
  induction n with
  | zero => simp
  | succ n ih => rw [List.replicate_succ, List.flatten_cons, List.length_append, ih, Nat.succ_mul, Nat.add_comm]
theorem flat_lenV (n : Nat) (xs : List V) : (List.replicate n xs).flatten.length = n * xs.length := by
  induction n with
  | zero => simp
  | succ n ih => rw [List.replicate_succ, List.flatten_cons, List.length_append, ih, Nat.succ_mul, Nat.add_comm]
def gMul : PyData → PyData → Option PyData := fun x y => match x, y with
  | .int i, .int j => if CMul i j then some (.int (i * j)) else none
  | .tuple a, .int k => if -(2 ^ 63) ≤ k ∧ k < 2 ^ 63 ∧ a.length * k.toNat ≤ sizeLine then some (.tuple (List.replicate k.toNat a).flatten) else none
  | _, _ => none
theorem rep_one {α : Type} (xs : List α) : (List.replicate 1 xs).flatten = xs := by simp
theorem rep_nil {α : Type} (n : Nat) : (List.replicate n ([] : List α)).flatten = [] := by
  induction n with
  | zero => rfl
  | succ n ih => rw [List.replicate_succ, List.flatten_cons, ih]; rfl
section
variable {X : Cx}
theorem od_mul : OpD X (binaryOp .Mult) gMul := by
  intro pins s σ H x y v u Q I rx ry ⟨B0, S, M, dx, dy, d, hB, hM, h1, h2, hg, k⟩
  cases dx with
  | int i =>
    cases dy with
    | int j =>
      have hg : (if CMul i j then some (PyData.int (i * j)) else none) = some d := hg
      by_cases hc : CMul i j
      · rw [if_pos hc] at hg
        cases hg
        exact op_mul pins s σ H x y v u Q I rx ry ⟨i, j, h1.int, h2.int, hc, k _ _ (Same.refl H) (.int _)⟩
      · rw [if_neg hc] at hg; cases hg
    | _ => cases hg
  | tuple a =>
    cases dy with
    | int m =>
      have hg : (if -(2 ^ 63) ≤ m ∧ m < 2 ^ 63 ∧ a.length * m.toNat ≤ sizeLine then some (PyData.tuple (List.replicate m.toNat a).flatten) else none) = some d := hg
      by_cases hc : -(2 ^ 63) ≤ m ∧ m < 2 ^ 63 ∧ a.length * m.toNat ≤ sizeLine
      · rw [if_pos hc] at hg
        cases hg
        obtain ⟨b1, b2, b3⟩ := hc
        have hst : dV X.K M H x (.tuple a) := by
          rcases h1 with h1 | ⟨_, _, _, _, e, _⟩
          · exact h1
          · cases e
        obtain ⟨p, xs, e1, q1, a1⟩ := h1.tup
        have l1 := dpa_len a1
        have e2 := h2.int
        subst e1 e2
        cases rx
        obtain ⟨tk, rfl⟩ := ry
        obtain ⟨its, r, ⟨⟨cls, dd, data, sl⟩, ho, hcl, n, hd⟩, hs⟩ := I.tuple q1
        simp only at hcl hd
        subst hcl hd
        have lv : its.length = xs.length := r.length.symm
        have c0 : (decide (m < -(2 ^ 63)) || decide (m ≥ 2 ^ 63)) = false := by
          rw [decide_eq_false (by omega), decide_eq_false (by omega), Bool.or_false]
        by_cases hsame : (its.toArray.isEmpty || m == 1) = true
        · refine wpAny_binaryOp_repeat_ref (T := "tuple") (U := "int") (by decide) ⟨_, ho, rfl⟩ (fun s' => typeIs_int s' m tk) noFill_tuple_mul F.fills_int_mul F.slot_int_rmul repeat_tuple F.slot_int_index.lookup
            (call_meets F.slot_int_rmul (typeIs_int s m tk) F.entry_int_rmul (F.args_int_rmul_2 _ _) (int_rmul_tuple m tk p its.toArray n dd sl)
              ⟨ho, rfl, ⟨_, ho, rfl⟩, call_meets F.slot_tuple_mul ⟨_, ho, rfl⟩ F.entry_tuple_mul (F.args_tuple_mul_2 _ _) (tmul_same p its.toArray n dd sl m tk c0 hsame) ⟨ho, ?_⟩⟩)
          refine ⟨.ref p, H, I, rfl, k _ _ (Same.refl H) ?_⟩
          have ed : (List.replicate m.toNat a).flatten = a := by
            rcases Bool.or_eq_true_iff.mp hsame with z | z
            · have : its = [] := by simpa using z
              have : a = [] := List.eq_nil_of_length_eq_zero (by rw [← l1, ← lv, this]; rfl)
              rw [this, rep_nil]
            · have : m = 1 := by simpa using z
              rw [this]; exact rep_one a
          rw [ed]
          exact hst
        · have hsame : (its.toArray.isEmpty || m == 1) = false := by simpa using hsame
          have hne : its.toArray.isEmpty = false := by
            cases z : its.toArray.isEmpty with
            | false => rfl
            | true => rw [z, Bool.true_or] at hsame; cases hsame
          by_cases h0 : m ≤ 0
          · refine wpAny_binaryOp_repeat_ref (T := "tuple") (U := "int") (by decide) ⟨_, ho, rfl⟩ (fun s' => typeIs_int s' m tk) noFill_tuple_mul F.fills_int_mul F.slot_int_rmul repeat_tuple F.slot_int_index.lookup
              (call_meets F.slot_int_rmul (typeIs_int s m tk) F.entry_int_rmul (F.args_int_rmul_2 _ _) (int_rmul_tuple m tk p its.toArray n dd sl)
                ⟨ho, rfl, ⟨_, ho, rfl⟩, call_meets F.slot_tuple_mul ⟨_, ho, rfl⟩ F.entry_tuple_mul (F.args_tuple_mul_2 _ _) (tmul_none p its.toArray n dd sl m tk c0 hsame (by rw [decide_eq_true h0, Bool.true_or])) ⟨ho, ?_⟩⟩)
            have ed : (List.replicate m.toNat a).flatten = [] := by rw [show m.toNat = 0 by omega]; rfl
            rw [ed] at k
            refine ⟨.ref _, upd H s.heap.objs.size (.tup []), I.laid (t' := s.toks) (fun b ob q => Heap.get?_push_of_some _ q) (Nat.le_refl _) ?_, rfl, k _ _ (same_upd I.fresh) (new_tup hM I.fresh .nil)⟩
            exact ⟨Nat.zero_le _, [], .nil, IsTup.new _ _⟩
          · have hlen : its.toArray.size * m.toNat ≤ sizeLine := by rw [List.size_toArray, lv, l1]; exact b3
            have hsl : sizeLine = 16777216 := sizeLine_eq
            have hprod : ((its.toArray.size : Nat) : Int) * m = ((its.toArray.size * m.toNat : Nat) : Int) := by
              rw [Int.natCast_mul, Int.toNat_of_nonneg (by omega)]
            have c4 : Builtin.Tuple.tupleTooMany (((its.toArray.size : Nat) : Int) * m) = false := by
              unfold Builtin.Tuple.tupleTooMany
              rw [hprod]
              exact decide_eq_false (by omega)
            have fl : (List.replicate m.toNat its).flatten.length ≤ sizeLine := by
              rw [PyProof.Rows.lm_len_rep_flat, Nat.mul_comm]
              rw [List.size_toArray] at hlen
              exact hlen
            refine wpAny_binaryOp_repeat_ref (T := "tuple") (U := "int") (by decide) ⟨_, ho, rfl⟩ (fun s' => typeIs_int s' m tk) noFill_tuple_mul F.fills_int_mul F.slot_int_rmul repeat_tuple F.slot_int_index.lookup
              (call_meets F.slot_int_rmul (typeIs_int s m tk) F.entry_int_rmul (F.args_int_rmul_2 _ _) (int_rmul_tuple m tk p its.toArray n dd sl)
                ⟨ho, rfl, ⟨_, ho, rfl⟩, call_meets F.slot_tuple_mul ⟨_, ho, rfl⟩ F.entry_tuple_mul (F.args_tuple_mul_2 _ _)
                  (tuple_mulW p its.toArray n dd sl m tk c0 hsame (by rw [hne, Bool.or_false]; exact decide_eq_false h0) (by rw [hprod]; omega) c4 (by rw [size_rep, List.size_toArray]; exact fl)) ⟨ho, ?_⟩⟩)
            rw [size_rep]
            refine ⟨.ref _, upd H s.heap.objs.size (.tup (List.replicate m.toNat xs).flatten), I.laid (t' := s.toks) (fun b ob q => Heap.get?_push_of_some _ q) (Nat.le_refl _) ?_, rfl, k _ _ (same_upd I.fresh) (new_tup hM I.fresh (dpa_rep a1 _))⟩
            exact ⟨by rw [flat_lenV, l1, Nat.mul_comm]; exact b3, _, r.rep m.toNat, IsTup.new _ _⟩
      · rw [if_neg hc] at hg; cases hg
    | _ => cases hg
  | _ => cases hg
theorem of_rep (kl : NoList X.K) : OpF X (binaryOp .Mult) gRep := by
  intro pins s σ H x y v u Q I rx ry ⟨B0, S, M, dx, dy, d, hB, hM, h1, h2, hg, k⟩
  cases dx with
  | list a =>
    cases dy with
    | int m =>
      have hg : (if -(2 ^ 63) ≤ m ∧ m < 2 ^ 63 ∧ a.length * m.toNat ≤ sizeLine then some (PyData.list (List.replicate m.toNat a).flatten) else none) = some d := hg
      by_cases hc : -(2 ^ 63) ≤ m ∧ m < 2 ^ 63 ∧ a.length * m.toNat ≤ sizeLine
      · rw [if_pos hc] at hg
        cases hg
        obtain ⟨b1, b2, b3⟩ := hc
        obtain ⟨p, xs, e1, q1, a1⟩ := h1.lst
        have l1 := dpa_len a1
        have e2 := h2.int
        subst e1 e2
        cases rx
        obtain ⟨tk, rfl⟩ := ry
        obtain ⟨hz, its, n, r, hl, e⟩ := lstX kl I q1
        have hsl : sizeLine = 16777216 := sizeLine_eq
        have hlen : its.toArray.size * m.toNat ≤ sizeLine := by rw [List.size_toArray, ← hl, l1]; exact b3
        have hfit : ¬ (!Builtin.List.listFitsIndex m) = true := by rw [fitsIndex_both b1 b2]; exact Bool.false_ne_true
        have hlong : ¬ Builtin.List.listTooLong (its.toArray.size * m.toNat) = true := by rw [notLongL hlen]; exact Bool.false_ne_true
        have f0 : ∀ j : Nat, List.foldl (fun x1 x2 => x1 ++ x2) #[] (List.replicate j its.toArray) = (List.replicate j its).flatten.toArray := fun j => size_rep its j
        have hnew : List.foldl (fun x1 x2 => x1 ++ x2) #[] (List.replicate (if its.toArray.isEmpty = true then 0 else m.toNat) its.toArray) = (List.replicate m.toNat its).flatten.toArray := by
          rw [f0]
          cases its with
          | nil => rw [rep_nil, rep_nil]
          | cons z zs => rw [if_neg (by simp)]
        refine wpAny_binaryOp_repeat_ref (T := "list") (U := "int") (by decide) ⟨_, e, rfl⟩ (fun s' => typeIs_int s' m tk) noFill_list_mul F.fills_int_mul F.slot_int_rmul repeat_list F.slot_int_index.lookup
          (call_meets F.slot_int_rmul (typeIs_int s m tk) F.entry_int_rmul (F.args_int_rmul_2 _ _) (int___rmul___int_list m tk p its.toArray n)
            ⟨e, rfl, ⟨_, e, rfl⟩, call_meets F.slot_list_mul ⟨_, e, rfl⟩ F.entry_list_mul (F.args_list_mul_2 _ _) (AutoListH.list___mul___list_int_3 p its.toArray n m tk hfit (by omega) hlong) ⟨e, ?_⟩⟩)
        rw [hnew]
        exact ⟨.ref _, _, I.lnew (t' := s.toks) (r.rep m.toNat) (by rw [flat_lenV, l1, Nat.mul_comm]; exact b3), rfl, k _ _ (same_upd I.fresh) (new_lst hB hM I.fresh (dpa_rep a1 _))⟩
      · rw [if_neg hc] at hg; cases hg
    | _ => cases hg
  | _ => cases hg
end
end DL
set_option Elab.async false
set_option linter.all false
set_option maxRecDepth 100000
set_option maxHeartbeats 1000000
namespace DL
open PySem PySem.Spec PyProof.Rows L2
/-! ### == and != -/
/-- pairs of which == is known without a look at the data's form -/
def scalD : PyData → PyData → Bool
  | .none, .none => true | .none, .int _ => true | .int _, .none => true | .none, .bool _ => true | .bool _, .none => true | .none, .str _ => true | .str _, .none => true
  | .int _, .int _ => true | .bool _, .bool _ => true | .str _, .str _ => true
  | .int _, .str _ => true | .str _, .int _ => true | .bool _, .str _ => true | .str _, .bool _ => true
  | _, _ => false
def shp (d : PyData) : Bool := SeqAt.shaped d
def eqOk (x y : PyData) : Bool := scalD x y || (shp x && shp y)
def gEq (x y : PyData) : Option PyData := if eqOk x y = true then some (.bool (PyData.eqv x y)) else none
def gNe (x y : PyData) : Option PyData := if eqOk x y = true then some (.bool (!PyData.eqv x y)) else none
section
variable {K : PySem.W.Frag} {M : List Addr} {H : Hp} {x y : V} {dx dy : PyData}
theorem scal_rel (h1 : dB K S M H x dx) (h2 : dB K S M H y dy) (hs : scalD dx dy = true) : scal x y = true ∧ decide (x = y) = PyData.eqv dx dy := by
  cases dx with
  | none =>
    rw [h1.non]
    cases dy with
    | none => rw [h2.non]; exact ⟨rfl, rfl⟩
    | bool b => rw [h2.bl]; exact ⟨rfl, rfl⟩
    | int b => rw [h2.int]; exact ⟨rfl, rfl⟩
    | str b => rw [h2.str]; exact ⟨rfl, rfl⟩
    | _ => cases hs
  | bool a =>
    rw [h1.bl]
    cases dy with
    | none => rw [h2.non]; exact ⟨rfl, rfl⟩
    | bool b => rw [h2.bl]; exact ⟨rfl, by rw [dec_bl]; rfl⟩
    | str b => rw [h2.str]; exact ⟨rfl, rfl⟩
    | _ => cases hs
  | int a =>
    rw [h1.int]
    cases dy with
    | none => rw [h2.non]; exact ⟨rfl, rfl⟩
    | int b => rw [h2.int]; exact ⟨rfl, by rw [dec_int]; rfl⟩
    | str b => rw [h2.str]; exact ⟨rfl, rfl⟩
    | _ => cases hs
  | str a =>
    rw [h1.str]
    cases dy with
    | none => rw [h2.non]; exact ⟨rfl, rfl⟩
    | bool b => rw [h2.bl]; exact ⟨rfl, rfl⟩
    | int b => rw [h2.int]; exact ⟨rfl, rfl⟩
    | str b => rw [h2.str]; exact ⟨rfl, by rw [dec_str]; rfl⟩
    | _ => cases hs
  | _ => cases hs
end
section
variable {X : Cx}
theorem od_eq (hu : X.A.units + 64 < cLine) : OpD X (compareOp .Eq) gEq := by
  intro pins s σ H x y v u Q I rx ry ⟨B0, S, M, dx, dy, d, hB, hM, h1, h2, hg, k⟩
  unfold gEq at hg
  by_cases hc : eqOk dx dy = true
  · rw [if_pos hc] at hg
    cases hg
    rcases Bool.or_eq_true_iff.mp hc with hs | hs
    · obtain ⟨e1, e2⟩ := scal_rel h1 h2 hs
      exact op_eq pins s σ H x y v u Q I rx ry ⟨e1, by rw [e2]; exact k _ _ (Same.refl H) (.bl _)⟩
    · obtain ⟨e1, e2⟩ := Bool.and_eq_true_iff.mp hs
      exact op_eqD hu pins s σ H x y v u Q I rx ry ⟨dx, dy, h1.dp, h2.dp, e1, e2, k _ _ (Same.refl H) (.bl _)⟩
  · rw [if_neg hc] at hg; cases hg
theorem od_ne (hu : X.A.units + 64 < cLine) : OpD X (compareOp .NotEq) gNe := by
  intro pins s σ H x y v u Q I rx ry ⟨B0, S, M, dx, dy, d, hB, hM, h1, h2, hg, k⟩
  unfold gNe at hg
  by_cases hc : eqOk dx dy = true
  · rw [if_pos hc] at hg
    cases hg
    rcases Bool.or_eq_true_iff.mp hc with hs | hs
    · obtain ⟨e1, e2⟩ := scal_rel h1 h2 hs
      exact op_ne pins s σ H x y v u Q I rx ry ⟨e1, by rw [e2]; exact k _ _ (Same.refl H) (.bl _)⟩
    · obtain ⟨e1, e2⟩ := Bool.and_eq_true_iff.mp hs
      exact op_neD hu pins s σ H x y v u Q I rx ry ⟨dx, dy, h1.dp, h2.dp, e1, e2, k _ _ (Same.refl H) (.bl _)⟩
  · rw [if_neg hc] at hg; cases hg
end
/-! ### in, not in -/
def flatD : PyData → Bool
  | .none => true
  | .bool _ => true
  | .int _ => true
  | .str _ => true
  | _ => false
def inOk (x : PyData) (ds : List PyData) : Bool := (flatD x && ds.all flatD) || (shp x && shp (.tuple ds))
def inD (x : PyData) (ds : List PyData) : Bool := ds.any fun z => PyData.eqv z x
def gIn (x y : PyData) : Option PyData := match y with
  | .list ds => if inOk x ds = true then some (.bool (inD x ds)) else none
  | .tuple ds => if inOk x ds = true then some (.bool (inD x ds)) else none
  | .str j => match x with
    | .str i => some (.bool (!(Builtin.Str.occurrences j i 0 j.length 1).isEmpty))
    | _ => none
  | _ => none
def gNotIn (x y : PyData) : Option PyData := match gIn x y with
  | some (.bool b) => some (.bool (!b))
  | _ => none
section
variable {K : PySem.W.Frag} {M : List Addr} {H : Hp}
theorem flat_rel {x : V} {dx : PyData} (h : Dp K H x dx) (hf : flatD dx = true) : flatV x = true := by
  cases h <;> first | rfl | cases hf
theorem flat_eq {x y : V} {dx dy : PyData} (h : Dp K H x dx) (h' : Dp K H y dy) (hf : flatD dx = true) (hf' : flatD dy = true) : eqV x y = PyData.eqv dx dy := by
  cases h <;> first
    | (cases hf; done)
    | (cases h' <;> first
        | (cases hf'; done)
        | rfl)
theorem flat_all : ∀ {vs : List V} {ds : List PyData}, DpAll K H vs ds → ds.all flatD = true → vs.all flatV = true
  | _, _, .nil, _ => rfl
  | _, _, .cons r t, h => by
    rw [List.all_cons, Bool.and_eq_true] at h ⊢
    exact ⟨flat_rel r h.1, flat_all t h.2⟩
theorem flat_in {x : V} {dx : PyData} (h : Dp K H x dx) (hf : flatD dx = true) : ∀ {vs : List V} {ds : List PyData}, DpAll K H vs ds → ds.all flatD = true → inV x vs = inD dx ds
  | _, _, .nil, _ => rfl
  | _, _, .cons r t, hs => by
    rw [List.all_cons, Bool.and_eq_true] at hs
    unfold inV inD
    rw [List.any_cons, List.any_cons, flat_eq r h hs.1 hf]
    exact congrArg _ (flat_in h hf t hs.2)
theorem dB.all {x : V} {dx : PyData} (h : dB K S M H x dx) : Dp K H x dx := h.dp
end
section
variable {X : Cx}
theorem shp_parts {ds : List PyData} {b : PyData} (h : b = .tuple ds ∨ b = .list ds) (hs : shp (.tuple ds) = true) : PyData.canLayAll0 ds = true := by
  have z : PyData.canLay0 (.tuple ds) = true := SeqAt.canLay_of_shaped hs
  simpa [PyData.canLay0] using z
theorem in_room {A : Around} {ds : List PyData} {d : PyData} (h : shp d = true) (hu : A.units + 65 < cLine) : A.units + 1 + min (PyData.depthAll ds) d.depth < cLine := by
  have h1 := SeqAt.depth_of_shaped h
  have h2 : min (PyData.depthAll ds) d.depth ≤ d.depth := Nat.min_le_right _ _
  omega
theorem od_in (hu : X.A.units + 65 < cLine) : OpD X (compareOp .In) gIn := by
  intro pins s σ H x y v u Q I rx ry ⟨B0, S, M, dx, dy, d, hB, hM, h1, h2, hg, k⟩
  cases dy with
  | list ds =>
    have hg : (if inOk dx ds = true then some (PyData.bool (inD dx ds)) else none) = some d := hg
    by_cases hc : inOk dx ds = true
    · rw [if_pos hc] at hg
      cases hg
      have k1 := k (.bl (inD dx ds)) H (Same.refl H) (.bl _)
      rcases Bool.or_eq_true_iff.mp hc with hs | hs
      · obtain ⟨e1, e2⟩ := Bool.and_eq_true_iff.mp hs
        obtain ⟨p, xs, e3, q1, a1⟩ := h2.lst
        have a2 := dpa_mono hid_le ds xs a1
        refine op_in_seq pins s σ H x y v u Q I rx ry ⟨p, xs, e3, .inl q1, flat_rel h1.dp e1, flat_all a2 e2, ?_⟩
        show Q (.bl (inV x xs)) H
        rw [flat_in h1.dp e1 a2 e2]
        exact k1
      · obtain ⟨e1, e2⟩ := Bool.and_eq_true_iff.mp hs
        obtain ⟨as, r1⟩ := Dp.reads I dx x v h1.dp rx
        obtain ⟨bs, r2⟩ := Dp.reads I (.list ds) y u h2.dp ry
        exact SeqAt.in_list_reads r2 r1 (shp_parts (.inr rfl) e2) (SeqAt.canLay_of_shaped e1) (in_room e1 hu) ⟨.bl _, H, I, rfl, k1⟩
    · rw [if_neg hc] at hg; cases hg
  | tuple ds =>
    have hg : (if inOk dx ds = true then some (PyData.bool (inD dx ds)) else none) = some d := hg
    by_cases hc : inOk dx ds = true
    · rw [if_pos hc] at hg
      cases hg
      have k1 := k (.bl (inD dx ds)) H (Same.refl H) (.bl _)
      rcases Bool.or_eq_true_iff.mp hc with hs | hs
      · obtain ⟨e1, e2⟩ := Bool.and_eq_true_iff.mp hs
        obtain ⟨p, xs, e3, q1, a1⟩ := h2.tup
        have a2 := dpa_mono hid_le ds xs a1
        refine op_in_seq pins s σ H x y v u Q I rx ry ⟨p, xs, e3, .inr q1, flat_rel h1.dp e1, flat_all a2 e2, ?_⟩
        show Q (.bl (inV x xs)) H
        rw [flat_in h1.dp e1 a2 e2]
        exact k1
      · obtain ⟨e1, e2⟩ := Bool.and_eq_true_iff.mp hs
        obtain ⟨as, r1⟩ := Dp.reads I dx x v h1.dp rx
        obtain ⟨bs, r2⟩ := Dp.reads I (.tuple ds) y u h2.dp ry
        exact SeqAt.in_tuple_reads r2 r1 (shp_parts (.inl rfl) e2) (SeqAt.canLay_of_shaped e1) (in_room e1 hu) ⟨.bl _, H, I, rfl, k1⟩
    · rw [if_neg hc] at hg; cases hg
  | str j =>
    cases dx with
    | str i =>
      cases hg
      exact op_in_str pins s σ H x y v u Q I rx ry ⟨i, j, h1.str, h2.str, k _ _ (Same.refl H) (.bl _)⟩
    | _ => cases hg
  | _ => cases hg
theorem od_notIn (hu : X.A.units + 65 < cLine) : OpD X (compareOp .NotIn) gNotIn := by
  intro pins s σ H x y v u Q I rx ry ⟨B0, S, M, dx, dy, d, hB, hM, h1, h2, hg, k⟩
  cases dy with
  | list ds =>
    by_cases hc : inOk dx ds = true
    · have hg : (match (if inOk dx ds = true then some (PyData.bool (inD dx ds)) else none) with | some (.bool b) => some (PyData.bool (!b)) | _ => none) = some d := hg
      rw [if_pos hc] at hg
      cases hg
      have k1 := k (.bl (!inD dx ds)) H (Same.refl H) (.bl _)
      rcases Bool.or_eq_true_iff.mp hc with hs | hs
      · obtain ⟨e1, e2⟩ := Bool.and_eq_true_iff.mp hs
        obtain ⟨p, xs, e3, q1, a1⟩ := h2.lst
        have a2 := dpa_mono hid_le ds xs a1
        refine op_notIn_seq pins s σ H x y v u Q I rx ry ⟨p, xs, e3, .inl q1, flat_rel h1.dp e1, flat_all a2 e2, ?_⟩
        show Q (.bl (!inV x xs)) H
        rw [flat_in h1.dp e1 a2 e2]
        exact k1
      · obtain ⟨e1, e2⟩ := Bool.and_eq_true_iff.mp hs
        obtain ⟨as, r1⟩ := Dp.reads I dx x v h1.dp rx
        obtain ⟨bs, r2⟩ := Dp.reads I (.list ds) y u h2.dp ry
        exact SeqAt.notIn_list_reads r2 r1 (shp_parts (.inr rfl) e2) (SeqAt.canLay_of_shaped e1) (in_room e1 hu) ⟨.bl _, H, I, rfl, k1⟩
    · have hg : (match (if inOk dx ds = true then some (PyData.bool (inD dx ds)) else none) with | some (.bool b) => some (PyData.bool (!b)) | _ => none) = some d := hg
      rw [if_neg hc] at hg; cases hg
  | tuple ds =>
    by_cases hc : inOk dx ds = true
    · have hg : (match (if inOk dx ds = true then some (PyData.bool (inD dx ds)) else none) with | some (.bool b) => some (PyData.bool (!b)) | _ => none) = some d := hg
      rw [if_pos hc] at hg
      cases hg
      have k1 := k (.bl (!inD dx ds)) H (Same.refl H) (.bl _)
      rcases Bool.or_eq_true_iff.mp hc with hs | hs
      · obtain ⟨e1, e2⟩ := Bool.and_eq_true_iff.mp hs
        obtain ⟨p, xs, e3, q1, a1⟩ := h2.tup
        have a2 := dpa_mono hid_le ds xs a1
        refine op_notIn_seq pins s σ H x y v u Q I rx ry ⟨p, xs, e3, .inr q1, flat_rel h1.dp e1, flat_all a2 e2, ?_⟩
        show Q (.bl (!inV x xs)) H
        rw [flat_in h1.dp e1 a2 e2]
        exact k1
      · obtain ⟨e1, e2⟩ := Bool.and_eq_true_iff.mp hs
        obtain ⟨as, r1⟩ := Dp.reads I dx x v h1.dp rx
        obtain ⟨bs, r2⟩ := Dp.reads I (.tuple ds) y u h2.dp ry
        exact SeqAt.notIn_tuple_reads r2 r1 (shp_parts (.inl rfl) e2) (SeqAt.canLay_of_shaped e1) (in_room e1 hu) ⟨.bl _, H, I, rfl, k1⟩
    · have hg : (match (if inOk dx ds = true then some (PyData.bool (inD dx ds)) else none) with | some (.bool b) => some (PyData.bool (!b)) | _ => none) = some d := hg
      rw [if_neg hc] at hg; cases hg
  | str j =>
    cases dx with
    | str i =>
      cases hg
      exact op_notIn_str pins s σ H x y v u Q I rx ry ⟨i, j, h1.str, h2.str, k _ _ (Same.refl H) (.bl _)⟩
    | _ => cases hg
  | _ => cases hg
/-! ### is, is not: against None, between bools -/
def isN : PyData → Bool
  | .none => true
  | _ => false
def gIs (x y : PyData) : Option PyData := match y with
  | .none => some (.bool (isN x))
  | .bool b => match x with
    | .bool a => some (.bool (decide (a = b)))
    | _ => none
  | _ => none
def gIsNot (x y : PyData) : Option PyData := match y with
  | .none => some (.bool (!isN x))
  | .bool b => match x with
    | .bool a => some (.bool (!decide (a = b)))
    | _ => none
  | _ => none
theorem non_rel {K : PySem.W.Frag} {M : List Addr} {H : Hp} {x : V} {dx : PyData} (h : dB K S M H x dx) : decide (x = V.non) = isN dx := by
  cases dx with
  | none => rw [h.non]; rfl
  | bool b => rw [h.bl]; rfl
  | int b => rw [h.int]; rfl
  | str b => rw [h.str]; rfl
  | list b => obtain ⟨p, xs, e, _⟩ := h.lst; rw [e]; rfl
  | tuple b => obtain ⟨p, xs, e, _⟩ := h.tup; rw [e]; rfl
  | dict b => exact h.dict.elim
theorem od_is : OpD X (compareOp .Is) gIs := by
  intro pins s σ H x y v u Q I rx ry ⟨B0, S, M, dx, dy, d, hB, hM, h1, h2, hg, k⟩
  cases dy with
  | none =>
    cases hg
    refine op_isN pins s σ H x y v u Q I rx ry ⟨h2.non, ?_⟩
    rw [non_rel h1]
    exact k _ _ (Same.refl H) (.bl _)
  | bool b =>
    cases dx with
    | bool a =>
      cases hg
      exact op_isBl pins s σ H x y v u Q I rx ry ⟨a, b, h1.bl, h2.bl, k _ _ (Same.refl H) (.bl _)⟩
    | _ => cases hg
  | _ => cases hg
theorem od_isNot : OpD X (compareOp .IsNot) gIsNot := by
  intro pins s σ H x y v u Q I rx ry ⟨B0, S, M, dx, dy, d, hB, hM, h1, h2, hg, k⟩
  cases dy with
  | none =>
    cases hg
    refine op_notN pins s σ H x y v u Q I rx ry ⟨h2.non, ?_⟩
    rw [non_rel h1]
    exact k _ _ (Same.refl H) (.bl _)
  | bool b =>
    cases dx with
    | bool a =>
      cases hg
      exact op_notBl pins s σ H x y v u Q I rx ry ⟨a, b, h1.bl, h2.bl, k _ _ (Same.refl H) (.bl _)⟩
    | _ => cases hg
  | _ => cases hg
end
/-! ### chains -/
def fChain (g g' : PyData → PyData → Option PyData) (fa fb fc : Rho → R PyData) : Rho → R PyData := fun ρ => (fa ρ).bind fun x => (fb ρ).bind fun y => (R.ofO (g x y)).bind fun z => (tr z).bind fun k =>
  if k = true then (fc ρ).bind fun w => R.ofO (g' y w) else .ok (.bool false)
section
variable {X : Cx} {ec : EC} {Ef : L2.St → XK} {O : List Nat} {a b c : Expr} {fa fb fc : Rho → R PyData} {g g' : PyData → PyData → Option PyData} {pos : Pos}
theorem chain_imp (σ : L2.St) (H : Hp) (Q : VK) (h : tG X.K ec Ef O (fun _ _ => dV X.K) (fChain g g' fa fb fc) σ H Q) :
    tChain (rD X.K (fun _ _ => dV X.K) g) (rD X.K (fun _ _ => dV X.K) g') (tG X.K ec Ef O (fun _ => dB X.K) fa) (tG X.K ec Ef O (fun _ => dB X.K) fb) (tG X.K ec Ef O (fun _ => dB X.K) fc) σ H Q := by
  obtain ⟨B, P, Z, ρ, hE, p⟩ := h
  refine ⟨B, P, Z, ρ, hE, (Post.bind p).imp fun v H1 ⟨dx, _, s1, d1, p1⟩ => ⟨B, P, Z, ρ, hE.same s1, (Post.bind p1).imp fun u H2 ⟨dy, _, s2, d2, p2⟩ => ?_⟩⟩
  have hE2 := (hE.same s1).same s2
  cases hg : g dx dy with
  | none => rw [hg] at p2; exact p2.elim
  | some d =>
    rw [hg] at p2
    refine ⟨H, B.S, P ++ Z, dx, dy, d, (s1.trans s2).free hE.so, hE2.trk, d1.mono s2, d2, hg, fun z H3 s3' d3 => ?_⟩
    have s3 : Gr B.S (P ++ Z) H2 H3 := .of s3'
    rcases tr_case (d := d) with ⟨k, rfl, e⟩ | e
    · have p3 : Post B.S X.K ec (dV X.K (P ++ Z)) (P ++ Z) (Ef σ) H3 Q ((tr (.bool k)).bind fun k => if k = true then (fc ρ).bind fun w => R.ofO (g' dy w) else .ok (.bool false)) := Post.move s3 p2
      refine ⟨k, by cases d3; rfl, ?_⟩
      cases k with
      | false =>
        rw [if_neg Bool.false_ne_true]
        exact (show Post B.S X.K ec (dV X.K (P ++ Z)) (P ++ Z) (Ef σ) H3 Q (.ok (.bool false)) from p3).ok (.bl false)
      | true =>
        rw [if_pos rfl]
        have p4 : Post B.S X.K ec (dV X.K (P ++ Z)) (P ++ Z) (Ef σ) H3 Q ((fc ρ).bind fun w => R.ofO (g' dy w)) := p3
        refine ⟨B, P, Z, ρ, hE2.same s3, (Post.bind p4).imp fun w H4 ⟨dw, _, s4, d4, p5⟩ => ?_⟩
        cases hg' : g' dy dw with
        | none => rw [hg'] at p5; exact p5.elim
        | some d' =>
          rw [hg'] at p5
          exact ⟨H, B.S, P ++ Z, dy, dw, d', (((s1.trans s2).trans s3).trans s4).free hE.so, ((hE2.same s3).same s4).trk, (d2.mono s3).mono s4, d4, hg', fun z' H' s5 d5 => p5 z' H' (.of s5) d5⟩
    · exfalso
      have p2 : Post B.S X.K ec (dV X.K (P ++ Z)) (P ++ Z) (Ef σ) H2 Q ((tr d).bind fun k => if k = true then (fc ρ).bind fun w => R.ofO (g' dy w) else .ok (.bool false)) := p2
      rw [e] at p2
      exact p2.elim
theorem de_chain {op op' : CmpOp} (ho : OpD X (compareOp op) g) (ho' : OpD X (compareOp op') g') (ha : DB X ec Ef O a fa) (hb : DB X ec Ef O b fb) (hc : DB X ec Ef O c fc)
    (hm : lastMarks [op, op'] [b, c] = false := by with_unfolding_all rfl) : DE X ec Ef O (.Compare a [op, op'] [b, c] pos) (fChain g g' fa fb fc) := ⟨(pe_chain ho ho' ha.pe hb.pe hc.pe hm).imp chain_imp⟩
theorem dt_chain {op op' : CmpOp} (ho : OpD X (compareOp op) g) (ho' : OpD X (compareOp op') g') (ha : DB X ec Ef O a fa) (hb : DB X ec Ef O b fb) (hc : DB X ec Ef O c fc)
    (hm : lastMarks [op, op'] [b, c] = false := by with_unfolding_all rfl) : DT X ec Ef O (.Compare a [op, op'] [b, c] pos) (fun ρ => (fChain g g' fa fb fc ρ).bind tr) :=
  ⟨(pt_chain ho ho' ha.pe hb.pe hc.pe hm).imp fun σ H Q ⟨B, P, Z, ρ, hE, p⟩ => chain_imp (ec := ec) (Ef := Ef) (O := O) σ H _ ⟨B, P, Z, ρ, hE, (Post.bind p).imp fun v H1 ⟨d, _, s1, d1, p1⟩ => by
    rcases tr_case (d := d) with ⟨c, rfl, e⟩ | e
    · rw [e] at p1
      have e2 : v = .bl c := by cases d1; rfl
      exact ⟨c, e2, p1.ok rfl⟩
    · rw [e] at p1; exact p1.elim⟩⟩
end
end DL
set_option Elab.async false
set_option linter.all false
set_option maxRecDepth 100000
set_option maxHeartbeats 1000000
namespace DL
open PySem PySem.Spec PyProof.Rows L2
/-! ### an item -/
def gIx (x y : PyData) : Option PyData := match x, y with
  | .list ds, .int i => atI ds i
  | .tuple ds, .int i => atI ds i
  | .str s, .int i => if s.length ≤ sizeLine then (atI s.cps.toList i).map fun c => .str ⟨#[c]⟩ else none
  | _, _ => none
section
variable {K : PySem.W.Frag} {H : Hp}
theorem dpa_at {vs : List V} {ds : List PyData} {i : Int} {d : PyData} (h : DpAll K H vs ds) (e : atI ds i = some d) : ∃ v, atI vs i = some v ∧ Dp K H v d := by
  unfold atI at e ⊢
  rw [dpa_len h]
  cases hj : ixN ds.length i with
  | none => rw [hj] at e; cases e
  | some j =>
    rw [hj] at e
    have e2 : ds[j]? = some d := e
    exact dpa_get' h e2
end
section
variable {X : Cx} {ec : EC} {Ef : L2.St → XK} {O : List Nat} {a b : Expr} {fa fb : Rho → R PyData} {pos : Pos}
theorem de_ix (ha : DB X ec Ef O a fa) (hb : DB X ec Ef O b fb) (hs : PlainIx b) : DE X ec Ef O (.Subscript a b pos) (fBin gIx fa fb) :=
  ⟨(pe_ix ix_seq ha.pe hb.pe hs).imp fun σ H Q h => by
    have h2 := bin_imp (ec := ec) (Ef := Ef) (O := O) (den := fun _ _ => dV X.K) σ H Q h
    obtain ⟨B, P, Z, ρ, hE, p⟩ := h2
    refine ⟨B, P, Z, ρ, hE, p.imp fun v H1 ⟨B, P, Z, ρ, hE, p⟩ => ⟨B, P, Z, ρ, hE, p.imp fun u H2 ⟨B0, S, M, dx, dy, d, hB, hM, h1, h2, hg, k⟩ => ?_⟩⟩
    cases dy with
    | int i =>
      cases dx with
      | list ds =>
        obtain ⟨q, xs, e1, q1, a1⟩ := h1.lst
        obtain ⟨w, e2, d2⟩ := dpa_at a1 (show atI ds i = some d from hg)
        exact .inl ⟨q, xs, i, w, e1, h2.int, q1, e2, k _ _ (Same.refl _) d2⟩
      | tuple ds =>
        obtain ⟨q, xs, e1, q1, a1⟩ := h1.tup
        obtain ⟨w, e2, d2⟩ := dpa_at a1 (show atI ds i = some d from hg)
        exact .inr (.inl ⟨q, xs, i, w, e1, h2.int, q1, e2, k _ _ (Same.refl _) d2⟩)
      | str z =>
        have hg : (if z.length ≤ sizeLine then (atI z.cps.toList i).map fun c => PyData.str ⟨#[c]⟩ else none) = some d := hg
        by_cases hl : z.length ≤ sizeLine
        · rw [if_pos hl] at hg
          cases hc : atI z.cps.toList i with
          | none => rw [hc] at hg; cases hg
          | some c =>
            rw [hc] at hg
            cases hg
            exact .inr (.inr ⟨z, i, c, h1.str, h2.int, hl, hc, k _ _ (Same.refl _) (.str _)⟩)
        · rw [if_neg hl] at hg; cases hg
      | _ => cases hg
    | _ => cases dx <;> cases hg⟩
end
/-! ### slices -/
structure DP (X : Cx) (ec : EC) (Ef : L2.St → XK) (O : List Nat) (e : Option Expr) (f : Rho → R (Option Int)) : Prop where
  po : PO X e (tG X.K ec Ef O (fun _ _ _ _ (o : Option Int) o' => o = o') f)
theorem _root_.L2.PO.imp {X : Cx} {e : Option Expr} {t t' : TO} (h : PO X e t) (hi : ∀ σ H Q, t' σ H Q → t σ H Q) : PO X e t' := ⟨fun pins s σ H Q I hw => h.run pins s σ H Q I (hi σ H Q hw)⟩
def toI (d : PyData) : R (Option Int) := match d with
  | .int i => .ok (some i)
  | _ => .bad
theorem toI_case {d : PyData} : (∃ b, d = .int b ∧ toI d = .ok (some b)) ∨ toI d = .bad := by
  cases d <;> first | exact .inl ⟨_, rfl, rfl⟩ | exact .inr rfl
def cutD (xs : List PyData) (lo hi : Option Int) : List PyData := (xs.drop (HT.sIx xs.length 0 lo)).take (HT.sIx xs.length xs.length hi - HT.sIx xs.length 0 lo)
theorem dpa_cut {K : PySem.W.Frag} {H : Hp} {vs : List V} {ds : List PyData} (lo hi : Option Int) (h : DpAll K H vs ds) : DpAll K H (cutV vs lo hi) (cutD ds lo hi) := by
  unfold cutV cutD
  rw [dpa_len h]
  exact dpa_take _ (dpa_drop _ h)
def gSl (x : PyData) (lo hi : Option Int) : Option PyData := match x with
  | .tuple ds => some (.tuple (cutD ds lo hi))
  | .str z => if z.length ≤ sizeLine then some (.str (cutS z lo hi)) else none
  | _ => none
def gSlL (x : PyData) (lo hi : Option Int) : Option PyData := match x with
  | .list ds => some (.list (cutD ds lo hi))
  | _ => none
def fSl (g : PyData → Option Int → Option Int → Option PyData) (fa : Rho → R PyData) (fl fh : Rho → R (Option Int)) : Rho → R PyData := fun ρ => (fa ρ).bind fun x => (fl ρ).bind fun lo => (fh ρ).bind fun hi => R.ofO (g x lo hi)
section
variable {X : Cx} {ec : EC} {Ef : L2.St → XK} {O : List Nat} {a b : Expr} {fa fb : Rho → R PyData} {pos p2 : Pos} {lo hi : Option Expr} {fl fh : Rho → R (Option Int)}
theorem dp_none : DP X ec Ef O none (fun _ => .ok none) := ⟨po_none.imp fun σ H Q ⟨B, P, Z, ρ, hE, p⟩ => (show Post B.S X.K ec (fun _ (o : Option Int) o' => o = o') (P ++ Z) (Ef σ) H Q (.ok none) from p).ok rfl⟩
theorem dp_some (h : DB X ec Ef O a fa) : DP X ec Ef O (some a) (fun ρ => (fa ρ).bind toI) := ⟨(po_some h.pe).imp fun σ H Q ⟨B, P, Z, ρ, hE, p⟩ => ⟨B, P, Z, ρ, hE, (Post.bind p).imp fun v H1 ⟨d, _, s1, d1, p1⟩ => by
  rcases toI_case (d := d) with ⟨c, rfl, e⟩ | e
  · rw [e] at p1
    exact ⟨c, d1.int, p1.ok rfl⟩
  · rw [e] at p1; exact p1.elim⟩⟩
theorem de_sl (ha : DB X ec Ef O a fa) (hl : DP X ec Ef O lo fl) (hh : DP X ec Ef O hi fh) : DE X ec Ef O (.Subscript a (.Slice lo hi none p2) pos) (fSl gSl fa fl fh) :=
  ⟨(pe_slice (SlR.or sl_tupA sl_str) ha.pe hl.po hh.po).imp fun σ H Q ⟨B, P, Z, ρ, hE, p⟩ => ⟨B, P, Z, ρ, hE, (Post.bind p).imp fun v H1 ⟨dx, _, s1, d1, p1⟩ => ⟨B, P, Z, ρ, hE.same s1, (Post.bind p1).imp fun l H2 ⟨l', _, s2, e2, p2⟩ => ⟨B, P, Z, ρ, (hE.same s1).same s2, (Post.bind p2).imp fun u H3 ⟨u', _, s3, e3, p3⟩ => by
    have hE3 := ((hE.same s1).same s2).same s3
    have d3 := (d1.mono s2).mono s3
    subst e2 e3
    cases dx with
    | tuple ds =>
      left
      obtain ⟨q, xs, e1, q1, a1⟩ := d3.tup
      refine ⟨q, xs, e1, q1, fun hw => ?_, fun _ r hr => ?_⟩
      · have hst : dV X.K (P ++ Z) H3 v (.tuple ds) := by
          rcases d3 with z | ⟨_, _, _, _, e, _⟩
          · exact z
          · cases e
        have ec2 : cutD ds l u = ds := by
          unfold cutD
          rw [dpa_len a1] at hw
          rw [hw.1, hw.2, List.drop_zero, Nat.sub_zero, List.take_length]
        have p4 : Post B.S X.K ec (dV X.K (P ++ Z)) (P ++ Z) (Ef σ) H3 Q (.ok (.tuple (cutD ds l u))) := p3
        rw [ec2] at p4
        rw [e1] at hst
        exact p4.ok hst
      · exact (show Post B.S X.K ec (dV X.K (P ++ Z)) (P ++ Z) (Ef σ) H3 Q (.ok (.tuple (cutD ds l u))) from p3) _ _ (.of (same_upd hr)) (new_tup hE3.trk hr (dpa_cut l u a1))
    | str z =>
      right
      have p4 : Post B.S X.K ec (dV X.K (P ++ Z)) (P ++ Z) (Ef σ) H3 Q (R.ofO (if z.length ≤ sizeLine then some (.str (cutS z l u)) else none)) := p3
      by_cases hz : z.length ≤ sizeLine
      · rw [if_pos hz] at p4
        exact ⟨z, d3.str, hz, (show Post B.S X.K ec (dV X.K (P ++ Z)) (P ++ Z) (Ef σ) H3 Q (.ok (.str (cutS z l u))) from p4).ok (.str _)⟩
      · rw [if_neg hz] at p4; exact p4.elim
    | _ => exact p3.elim⟩⟩⟩⟩
theorem df_sl (ha : DB X ec Ef O a fa) (hl : DP X ec Ef O lo fl) (hh : DP X ec Ef O hi fh) : DF X ec Ef O (.Subscript a (.Slice lo hi none p2) pos) (fSl gSlL fa fl fh) :=
  ⟨(pe_slice sl_list ha.pe hl.po hh.po).imp fun σ H Q ⟨B, P, Z, ρ, hE, p⟩ => ⟨B, P, Z, ρ, hE, (Post.bind p).imp fun v H1 ⟨dx, _, s1, d1, p1⟩ => ⟨B, P, Z, ρ, hE.same s1, (Post.bind p1).imp fun l H2 ⟨l', _, s2, e2, p2⟩ => ⟨B, P, Z, ρ, (hE.same s1).same s2, (Post.bind p2).imp fun u H3 ⟨u', _, s3, e3, p3⟩ => by
    have hE3 := ((hE.same s1).same s2).same s3
    have d3 := (d1.mono s2).mono s3
    subst e2 e3
    cases dx with
    | list ds =>
      obtain ⟨q, xs, e1, q1, a1⟩ := d3.lst
      exact ⟨q, xs, e1, q1, fun r hr => (show Post B.S X.K ec (dF X.K H (P ++ Z)) (P ++ Z) (Ef σ) H3 Q (.ok (.list (cutD ds l u))) from p3) _ _ (.of (same_upd hr)) (new_lst (((s1.trans s2).trans s3).free hE.so) hE3.trk hr (dpa_cut l u a1))⟩
    | _ => exact p3.elim⟩⟩⟩⟩
end
/-! ### [::-1] -/
section
variable {prog : Program} {w : World} {A : Around} {E : Value → Shared → Prop} {s : Shared}
theorem places_rev (n : Nat) : Builtin.Slice.slicePlaces ((n : Int) - 1) (-1) (-1) = n := by
  unfold Builtin.Slice.slicePlaces
  have h1 : ¬ ((-1 : Int) > 0) := by omega
  rw [if_neg h1]
  by_cases hn : n = 0
  · subst hn; rfl
  · rw [if_pos (by omega)]
    have e0 : ((n : Int) - 1 - -1 - 1) = (n : Int) - 1 := by omega
    have e1 : (- (-1) : Int) = 1 := rfl
    rw [e0, e1, Int.ediv_one, Int.sub_add_cancel]
    exact Int.toNat_natCast n
theorem applied_rev {sl : Addr} {t : Tok} {n : Nat} {Q : Int × Int × Nat → Shared → Prop} (hs : s.heap.IsSliceOf sl .none .none (.int (-1) t))
    (h : Q ((n : Int) - 1, -1, n) s) : wpAny (model prog w) A (Builtin.Slice.sliceApplied (.ref sl) (pure (n : Int))) Q E s := by
  obtain ⟨os, hos, hcs, hds⟩ := id hs
  unfold Builtin.Slice.sliceApplied Builtin.Slice.sliceFields
  refine wpAny_bind (wpAny_bind (wpAny_field hos hds (x := .none) rfl (wpAny_bind (wpAny_field hos hds (x := .none) rfl (wpAny_bind (wpAny_field hos hds (x := .int (-1) t) rfl (wpAny_pure ?_)))))))
  refine wpAny_bind (slicePart_int ?_)
  show wpAny _ _ (if ((-1 : Int) == 0) = true then _ else _) _ _ s
  rw [if_neg (by decide)]
  refine wpAny_bind (slicePart_none (wpAny_bind (slicePart_none (wpAny_bind (wpAny_pure ?_)))))
  show wpAny _ _ (pure ((n : Int) - 1, (-1 : Int), Builtin.Slice.slicePlaces ((n : Int) - 1) (-1) (-1))) _ _ s
  rw [places_rev]
  exact wpAny_pure h
theorem pick_rev (xs : Array Value) : ((List.range xs.size).filterMap fun (m : Nat) => xs[((xs.size : Int) - 1 + (m : Int) * (-1)).toNat]?).toArray = xs.toList.reverse.toArray := by
  have key : ∀ k, k ≤ xs.size → (List.range k).filterMap (fun (m : Nat) => xs[((xs.size : Int) - 1 + (m : Int) * (-1)).toNat]?) = (xs.toList.drop (xs.size - k)).reverse := by
    intro k
    induction k with
    | zero => intro _; rw [Nat.sub_zero, List.drop_of_length_le (by rw [Array.length_toList]; exact Nat.le_refl _)]; rfl
    | succ k ih =>
      intro hk
      rw [List.range_succ, List.filterMap_append, ih (by omega)]
      have e : ((xs.size : Int) - 1 + (k : Int) * (-1)).toNat = xs.size - (k + 1) := by omega
      have hlt : xs.size - (k + 1) < xs.size := by omega
      rw [List.filterMap_cons, e, Array.getElem?_eq_getElem hlt]
      show _ ++ [xs[xs.size - (k + 1)]] = _
      have hl : xs.size - (k + 1) < xs.toList.length := by rw [Array.length_toList]; exact hlt
      rw [List.drop_eq_getElem_cons hl, List.reverse_cons, show xs.size - (k + 1) + 1 = xs.size - k by omega, Array.getElem_toList]
  rw [key xs.size (Nat.le_refl _), Nat.sub_self, List.drop_zero]
theorem getItem_tuple_rev {t sl : Addr} {items : Array Value} {tk : Tok} {Q : Value → Shared → Prop} (ht : IsTup s.heap t items) (hs : s.heap.IsSliceOf sl .none .none (.int (-1) tk))
    (h : Q (.ref s.heap.objs.size) { s with heap := s.heap.push { cls := .type "tuple", data := .seq items.toList.reverse.toArray } }) (hsz : items.size ≤ sizeLine) : wpAny (model prog w) A (getItem (.ref t) (.ref sl)) Q E s := by
  have htake : sizeOk (.seq items.toList.reverse.toArray) := by
    show items.toList.reverse.toArray.size ≤ sizeLine
    rw [List.size_toArray, List.length_reverse, Array.length_toList]
    exact hsz
  obtain ⟨os, hos, hcs, hds⟩ := id hs
  have hTs : s.TypeIs (.ref sl) "slice" := ⟨os, hos, hcs⟩
  unfold getItem
  try with_reducible refine wpAny_holding ?_
  first | refine wpAny_bind (wpAny_pure ?_) | skip
  refine wpAny_bind (wpAny_sequenceKey ht.typeIs (by decide) ?_)
  refine wpAny_bind (wpAny_callSpecial?_slot (name := Str.ofString "__getitem__") ht.typeIs PyProof.Rows.slot_tuple_getitem (wpAny_call_entry PyProof.Rows.slot_tuple_getitem ht.typeIs entry_tuple_getitem ?_ (args_tuple_getitem _ _)))
  show wpAny _ _ (Builtin.Tuple.tupleItemsOf (.ref t) >>= _) _ _ s
  refine wpAny_bind (tupleItemsOf_ ht (wpAny_bind (wpAny_typeOf hTs ?_)))
  rw [if_pos (by decide)]
  refine wpAny_bind (applied_rev hs ?_)
  have hno : ¬ ((((items.size : Int) - 1) == 0 && (-1 : Int) == 1 && items.size == items.size) = true) := by simp
  show wpAny _ _ (if (((items.size : Int) - 1) == 0 && (-1 : Int) == 1 && items.size == items.size) = true then _ else _) _ _ s
  rw [if_neg hno, pick_rev]
  first
    | exact wpAny_bind (m := Builtin.Tuple.tupleExact _) (wpAny_newObj_type (wpAny_pure ⟨_, rfl, wpAny_pure h⟩) htake)
    | exact wpAny_bind (m := Builtin.Tuple.tupleExact _) (wpAny_newObj_type (wpAny_bind (wpAny_pure (wpAny_pure ⟨_, rfl, wpAny_pure h⟩))) htake)
    | exact wpAny_bind (wpAny_bind (m := Builtin.Tuple.tupleExact _) (wpAny_newObj_type (wpAny_pure (wpAny_pure ⟨_, rfl, wpAny_pure h⟩)) htake))
    | exact wpAny_bind (wpAny_bind (m := Builtin.Tuple.tupleExact _) (wpAny_newObj_type (wpAny_pure ⟨_, rfl, wpAny_pure h⟩) htake))
end
def tRevT (K : PySem.W.Frag) (te : TE) : TE := fun σ H Q => te σ H fun x H1 => ∃ a xs, x = .ref a ∧ SqT K H1 a xs ∧ ∀ p, H1 p = none → Q (.ref p) (upd H1 p (.tup xs.reverse))
theorem pe_revT {X : Cx} {e : Expr} {te : TE} {k : Nat} {p1 p2 p3 pos : Pos} (he : PE X e te) : PE X (.Subscript e (.Slice none none (some (.UnaryOp .USub (.Constant (.int 1) k p1) p2)) p3) pos) (tRevT X.K te) := by
  refine ⟨fun pins s σ H Q I h => Subscript_ (thn (he.run pins s σ H _ I h) fun v s1 ⟨x, H1, I1, r1, a, xs, ex, hx, q⟩ => ?_)⟩
  subst ex
  cases r1
  have hst : PO X (some (.UnaryOp .USub (.Constant (.int 1) k p1) p2)) (tPart (tUn (rU fun i => .int (-i)) (tC (.int 1)))) := po_some (pe_un un_neg pe_int)
  refine wpAny_Slice (thn (po_none.run pins s1 σ H1 (fun o H2 => o = none ∧ H2 = H1) I1 ⟨rfl, rfl⟩) fun vl s2 ⟨l, H2, I2, pl, el, e2⟩ => ?_)
  subst el e2
  refine thn (po_none.run pins s2 σ H2 (fun o H3 => o = none ∧ H3 = H2) I2 ⟨rfl, rfl⟩) fun vu s3 ⟨u, H3, I3, pu, eu, e3⟩ => ?_
  subst eu e3
  refine thn (hst.run pins s3 σ H3 (fun o H4 => o = some (-1) ∧ H4 = H3) I3 ⟨1, rfl, -1, rfl, rfl, rfl⟩) fun vs s4 ⟨o, H4, I4, ps, eo, e4⟩ => ?_
  subst eo e4
  cases pl
  cases pu
  cases ps
  rename_i tk _
  have I5 : L2.Inv X pins σ H4 { s4 with heap := s4.heap.push { cls := .type "slice", data := .fields #[.none, .none, .int (-1) tk] } } := I4.kept (t' := s4.toks) fun b ob q => Heap.get?_push_of_some _ q
  obtain ⟨its, r, ht, hz⟩ := I5.tuple hx
  have hlen := r.length
  show wpAny (model X.prog X.w) X.A (subscriptTail e (.Slice none none (some (.UnaryOp .USub (.Constant (.int 1) k p1) p2)) p3) (.ref a) (.ref s4.heap.objs.size)) (EP X pins σ Q) X.xe { s4 with heap := s4.heap.push { cls := .type "slice", data := .fields #[.none, .none, .int (-1) tk] } }
  refine tail_any (ops := [.ref a, .ref s4.heap.objs.size]) ht.typeIs (PyProof.Rows.slot_tuple_getitem.lookup) ?_ (by with_unfolding_all rfl)
  refine getItem_tuple_rev ht (Heap.IsSliceOf.new _ .none .none _) ?_ (by rw [List.size_toArray]; omega)
  refine ⟨.ref _, _, I5.laid (t' := s4.toks) (o := .tup xs.reverse) (fun b ob q => Heap.get?_push_of_some _ q) (Nat.le_refl _) ?_, rfl, q _ (I5.hok.fresh (Nat.le_refl _))⟩
  exact ⟨by rw [List.length_reverse]; exact hz, _, r.reverse, IsTup.new _ _⟩
def revT (d : PyData) : R PyData := match d with
  | .tuple ds => .ok (.tuple ds.reverse)
  | _ => .bad
def revL (d : PyData) : R PyData := match d with
  | .list ds => .ok (.list ds.reverse)
  | _ => .bad
section
variable {X : Cx} {ec : EC} {Ef : L2.St → XK} {O : List Nat} {a b : Expr} {fa fb : Rho → R PyData} {pos p1 p2 p3 : Pos} {k : Nat}
theorem de_revT (ha : DB X ec Ef O a fa) : DE X ec Ef O (.Subscript a (.Slice none none (some (.UnaryOp .USub (.Constant (.int 1) k p1) p2)) p3) pos) (fun ρ => (fa ρ).bind revT) :=
  ⟨(pe_revT ha.pe).imp fun σ H Q ⟨B, P, Z, ρ, hE, p⟩ => ⟨B, P, Z, ρ, hE, (Post.bind p).imp fun v H1 ⟨dx, _, s1, d1, p1⟩ => by
    cases dx with
    | tuple ds =>
      obtain ⟨q, xs, e1, q1, a1⟩ := d1.tup
      exact ⟨q, xs, e1, q1, fun r hr => (show Post B.S X.K ec (dV X.K (P ++ Z)) (P ++ Z) (Ef σ) H1 Q (.ok (.tuple ds.reverse)) from p1) _ _ (.of (same_upd hr)) (new_tup (hE.same s1).trk hr (dpa_rev a1))⟩
    | _ => exact p1.elim⟩⟩
theorem df_revL (ha : DB X ec Ef O a fa) : DF X ec Ef O (.Subscript a (.Slice none none (some (.UnaryOp .USub (.Constant (.int 1) k p1) p2)) p3) pos) (fun ρ => (fa ρ).bind revL) :=
  ⟨(pe_revL ha.pe).imp fun σ H Q ⟨B, P, Z, ρ, hE, p⟩ => ⟨B, P, Z, ρ, hE, (Post.bind p).imp fun v H1 ⟨dx, _, s1, d1, p1⟩ => by
    cases dx with
    | list ds =>
      obtain ⟨q, xs, e1, q1, a1⟩ := d1.lst
      exact ⟨q, xs, e1, q1, fun r hr => (show Post B.S X.K ec (dF X.K H (P ++ Z)) (P ++ Z) (Ef σ) H1 Q (.ok (.list ds.reverse)) from p1) _ _ (.of (same_upd hr)) (new_lst (s1.free hE.so) (hE.same s1).trk hr (dpa_rev a1))⟩
    | _ => exact p1.elim⟩⟩
/-! ### signs, not, truth -/
def gNeg (d : PyData) : R PyData := match d with
  | .int i => .ok (.int (-i))
  | _ => .bad
theorem de_neg (ha : DB X ec Ef O a fa) : DE X ec Ef O (.UnaryOp .USub a pos) (fun ρ => (fa ρ).bind gNeg) :=
  ⟨(pe_un un_neg ha.pe).imp fun σ H Q ⟨B, P, Z, ρ, hE, p⟩ => ⟨B, P, Z, ρ, hE, (Post.bind p).imp fun v H1 ⟨dx, _, s1, d1, p1⟩ => by
    cases dx with
    | int i => exact ⟨i, d1.int, (show Post B.S X.K ec (dV X.K (P ++ Z)) (P ++ Z) (Ef σ) H1 Q (.ok (.int (-i))) from p1).ok (.int _)⟩
    | _ => exact p1.elim⟩⟩
/-- a value's truth -/
def tru (d : PyData) : R Bool := match d with
  | .none => .ok false
  | .bool b => .ok b
  | .int i => .ok (i != 0)
  | .str s => if s.length ≤ sizeLine then .ok ((s.length : Int) != 0) else .bad
  | .list ds => .ok (!ds.isEmpty)
  | .tuple ds => .ok (!ds.isEmpty)
  | .dict _ => .bad
theorem dpa_empty {K : PySem.W.Frag} {H : Hp} {vs : List V} {ds : List PyData} (h : DpAll K H vs ds) : vs.isEmpty = ds.isEmpty := by cases h <;> rfl
theorem tru_rel {K : PySem.W.Frag} {S M : List Addr} {H : Hp} {v : V} {d : PyData} {b : Bool} (h : dB K S M H v d) (e : tru d = .ok b) : TruV K v H b := by
  cases d with
  | none => cases e; rw [h.non]; rfl
  | bool c => cases e; rw [h.bl]; rfl
  | int i => cases e; rw [h.int]; rfl
  | str z =>
    have e : (if z.length ≤ sizeLine then R.ok ((z.length : Int) != 0) else R.bad) = R.ok b := e
    by_cases hz : z.length ≤ sizeLine
    · rw [if_pos hz] at e; cases e; rw [h.str]; exact ⟨hz, rfl⟩
    · rw [if_neg hz] at e; cases e
  | list ds =>
    cases e
    obtain ⟨p, xs, e1, q1, a1⟩ := h.lst
    rw [e1, ← dpa_empty a1]; exact .inl ⟨xs, q1, rfl⟩
  | tuple ds =>
    cases e
    obtain ⟨p, xs, e1, q1, a1⟩ := h.tup
    rw [e1, ← dpa_empty a1]; exact .inr (.inl ⟨xs, q1, rfl⟩)
  | dict _ => cases e
theorem tru_noexc {d : PyData} : (∃ b, tru d = .ok b) ∨ tru d = .bad := by
  cases d with
  | str z =>
    by_cases hz : z.length ≤ sizeLine
    · exact .inl ⟨_, if_pos hz⟩
    · exact .inr (if_neg hz)
  | dict _ => exact .inr rfl
  | _ => exact .inl ⟨_, rfl⟩
theorem de_not (ha : DB X ec Ef O a fa) : DE X ec Ef O (.UnaryOp .Not a pos) (fun ρ => (fa ρ).bind fun x => (tru x).bind fun b => .ok (.bool (!b))) :=
  ⟨(pe_notT ha.pe).imp fun σ H Q ⟨B, P, Z, ρ, hE, p⟩ => ⟨B, P, Z, ρ, hE, (Post.bind p).imp fun v H1 ⟨dx, _, s1, d1, p1⟩ => by
    rcases tru_noexc (d := dx) with ⟨b, e⟩ | e
    · rw [e] at p1
      exact ⟨b, tru_rel d1 e, (show Post B.S X.K ec (dV X.K (P ++ Z)) (P ++ Z) (Ef σ) H1 Q (.ok (.bool (!b))) from p1).ok (.bl _)⟩
    · rw [e] at p1; exact p1.elim⟩⟩
theorem dt_of (ha : DB X ec Ef O a fa) (he : ∀ whole, isTrue a X.env whole = (do let v ← whole; standAt a.pos; holding [v] (truthy v)) := by intro _; rfl) : DT X ec Ef O a (fun ρ => (fa ρ).bind tru) :=
  ⟨(pt_truth ha.pe he).imp fun σ H Q ⟨B, P, Z, ρ, hE, p⟩ => ⟨B, P, Z, ρ, hE, (Post.bind p).imp fun v H1 ⟨dx, _, s1, d1, p1⟩ => by
    rcases tru_noexc (d := dx) with ⟨b, e⟩ | e
    · rw [e] at p1
      exact ⟨b, tru_rel d1 e, (show Post B.S X.K ec dT (P ++ Z) (Ef σ) H1 Q (.ok b) from p1).ok rfl⟩
    · rw [e] at p1; exact p1.elim⟩⟩
theorem dt_not {f : Rho → R Bool} (ha : DT X ec Ef O a f) : DT X ec Ef O (.UnaryOp .Not a pos) (fun ρ => (f ρ).bind fun b => .ok (!b)) :=
  ⟨(pt_not ha.pt).imp fun σ H Q ⟨B, P, Z, ρ, hE, p⟩ => ⟨B, P, Z, ρ, hE, (Post.bind p).imp fun v H1 ⟨b, _, s1, d1, p1⟩ => by
    cases d1
    exact p1.ok rfl⟩⟩
/-! ### and, or -/
variable {rest : List Expr}
theorem de_one {op : PySem.BoolOp} (h : DE X ec Ef O a fa) : DE X ec Ef O (.BoolOp op [a] pos) fa := ⟨pe_one h.pe⟩
theorem de_and (ha : DE X ec Ef O a fa) (hb : DE X ec Ef O (.BoolOp .And (b :: rest) pos) fb) : DE X ec Ef O (.BoolOp .And (a :: b :: rest) pos) (fun ρ => (fa ρ).bind fun x => (tru x).bind fun k => if k = true then fb ρ else .ok x) :=
  ⟨(pe_andT ha.pe hb.pe).imp fun σ H Q ⟨B, P, Z, ρ, hE, p⟩ => ⟨B, P, Z, ρ, hE, (Post.bind p).imp fun v H1 ⟨dx, _, s1, d1, p1⟩ => by
    rcases tru_noexc (d := dx) with ⟨k, e⟩ | e
    · rw [e] at p1
      refine ⟨k, tru_rel (S := B.S) d1.b e, ?_⟩
      cases k with
      | true =>
        rw [if_pos rfl]
        exact ⟨B, P, Z, ρ, hE.same s1, (show Post B.S X.K ec (dV X.K (P ++ Z)) (P ++ Z) (Ef σ) H1 Q (fb ρ) from p1)⟩
      | false =>
        rw [if_neg Bool.false_ne_true]
        exact (show Post B.S X.K ec (dV X.K (P ++ Z)) (P ++ Z) (Ef σ) H1 Q (.ok dx) from p1).ok d1
    · rw [e] at p1; exact p1.elim⟩⟩
theorem de_or (ha : DE X ec Ef O a fa) (hb : DE X ec Ef O (.BoolOp .Or (b :: rest) pos) fb) : DE X ec Ef O (.BoolOp .Or (a :: b :: rest) pos) (fun ρ => (fa ρ).bind fun x => (tru x).bind fun k => if k = true then .ok x else fb ρ) :=
  ⟨(pe_orT ha.pe hb.pe).imp fun σ H Q ⟨B, P, Z, ρ, hE, p⟩ => ⟨B, P, Z, ρ, hE, (Post.bind p).imp fun v H1 ⟨dx, _, s1, d1, p1⟩ => by
    rcases tru_noexc (d := dx) with ⟨k, e⟩ | e
    · rw [e] at p1
      refine ⟨k, tru_rel (S := B.S) d1.b e, ?_⟩
      cases k with
      | true =>
        rw [if_pos rfl]
        exact (show Post B.S X.K ec (dV X.K (P ++ Z)) (P ++ Z) (Ef σ) H1 Q (.ok dx) from p1).ok d1
      | false =>
        rw [if_neg Bool.false_ne_true]
        exact ⟨B, P, Z, ρ, hE.same s1, (show Post B.S X.K ec (dV X.K (P ++ Z)) (P ++ Z) (Ef σ) H1 Q (fb ρ) from p1)⟩
    · rw [e] at p1; exact p1.elim⟩⟩
theorem _root_.L2.PW.imp {X : Cx} {e : Expr} {t t' : TT} (h : PW X e t) (hi : ∀ σ H Q, t' σ H Q → t σ H Q) : PW X e t' := ⟨fun wh pins s σ H Q I hw => h.run wh pins s σ H Q I (hi σ H Q hw)⟩
structure DW (X : Cx) (ec : EC) (Ef : L2.St → XK) (O : List Nat) (e : Expr) (f : Rho → R Bool) : Prop where
  pw : PW X e (tG X.K ec Ef O (fun _ _ _ => dT) f)
variable {f g : Rho → R Bool}
theorem DW.t (h : DW X ec Ef O a f) : DT X ec Ef O a f := ⟨h.pw.pt⟩
theorem dw_and1 (h : DT X ec Ef O a f) : DW X ec Ef O (.BoolOp .And [a] pos) f := ⟨pw_and1 h.pt⟩
theorem dw_or1 (h : DT X ec Ef O a f) : DW X ec Ef O (.BoolOp .Or [a] pos) f := ⟨pw_or1 h.pt⟩
theorem dw_and (ha : DT X ec Ef O a f) (hb : DW X ec Ef O (.BoolOp .And (b :: rest) pos) g) : DW X ec Ef O (.BoolOp .And (a :: b :: rest) pos) (fun ρ => (f ρ).bind fun k => if k = true then g ρ else .ok false) :=
  ⟨(pw_and ha.pt hb.pw).imp fun σ H Q ⟨B, P, Z, ρ, hE, p⟩ => ⟨B, P, Z, ρ, hE, (Post.bind p).imp fun v H1 ⟨k, _, s1, d1, p1⟩ => by
    cases d1
    cases v with
    | true => rw [if_pos rfl] at p1 ⊢; exact ⟨B, P, Z, ρ, hE.same s1, p1⟩
    | false => rw [if_neg Bool.false_ne_true] at p1 ⊢; exact p1.ok rfl⟩⟩
theorem dw_or (ha : DT X ec Ef O a f) (hb : DW X ec Ef O (.BoolOp .Or (b :: rest) pos) g) : DW X ec Ef O (.BoolOp .Or (a :: b :: rest) pos) (fun ρ => (f ρ).bind fun k => if k = true then .ok true else g ρ) :=
  ⟨(pw_or ha.pt hb.pw).imp fun σ H Q ⟨B, P, Z, ρ, hE, p⟩ => ⟨B, P, Z, ρ, hE, (Post.bind p).imp fun v H1 ⟨k, _, s1, d1, p1⟩ => by
    cases d1
    cases v with
    | true => rw [if_pos rfl] at p1 ⊢; exact p1.ok rfl
    | false => rw [if_neg Bool.false_ne_true] at p1 ⊢; exact ⟨B, P, Z, ρ, hE.same s1, p1⟩⟩⟩
/-! ### a if c else b -/
variable {c : Expr}
theorem de_if (hc : DT X ec Ef O c f) (ha : DE X ec Ef O a fa) (hb : DE X ec Ef O b fb) : DE X ec Ef O (.IfExp c a b pos) (fun ρ => (f ρ).bind fun k => if k = true then fa ρ else fb ρ) :=
  ⟨(pe_ifExp hc.pt ha.pe hb.pe).imp fun σ H Q ⟨B, P, Z, ρ, hE, p⟩ => ⟨B, P, Z, ρ, hE, (Post.bind p).imp fun v H1 ⟨k, _, s1, d1, p1⟩ => by
    cases d1
    cases v with
    | true => rw [if_pos rfl] at p1 ⊢; exact ⟨B, P, Z, ρ, hE.same s1, p1⟩
    | false => rw [if_neg Bool.false_ne_true] at p1 ⊢; exact ⟨B, P, Z, ρ, hE.same s1, p1⟩⟩⟩
theorem db_if (hc : DT X ec Ef O c f) (ha : DB X ec Ef O a fa) (hb : DB X ec Ef O b fb) : DB X ec Ef O (.IfExp c a b pos) (fun ρ => (f ρ).bind fun k => if k = true then fa ρ else fb ρ) :=
  ⟨(pe_ifExp hc.pt ha.pe hb.pe).imp fun σ H Q ⟨B, P, Z, ρ, hE, p⟩ => ⟨B, P, Z, ρ, hE, (Post.bind p).imp fun v H1 ⟨k, _, s1, d1, p1⟩ => by
    cases d1
    cases v with
    | true => rw [if_pos rfl] at p1 ⊢; exact ⟨B, P, Z, ρ, hE.same s1, p1⟩
    | false => rw [if_neg Bool.false_ne_true] at p1 ⊢; exact ⟨B, P, Z, ρ, hE.same s1, p1⟩⟩⟩
end
end DL
set_option Elab.async false
set_option linter.all false
set_option maxRecDepth 100000
set_option maxHeartbeats 1000000
namespace DL
open PySem PySem.Spec PyProof.Rows L2
/-! ### positions -/
section
variable {α β : Type} {F : α → β → Prop}
theorem paired_ix : ∀ {l : List α} {m : List β} {j : Nat} {a : α}, Paired F l m → l[j]? = some a → ∃ b, m[j]? = some b ∧ F a b
  | _, _, _, _, .nil, e => by simp at e
  | _, _, 0, _, .cons r _, e => by simp at e; subst e; exact ⟨_, rfl, r⟩
  | _, _, j + 1, a, .cons _ t, e => by
    obtain ⟨b, h1, h2⟩ := paired_ix (j := j) (a := a) t (by simpa using e)
    exact ⟨b, by simpa using h1, h2⟩
theorem paired_sub {l' : List α} : ∀ {l : List α} {m : List β}, List.Sublist l' l → Paired F l m → ∃ m', List.Sublist m' m ∧ Paired F l' m' := by
  intro l m h
  induction h generalizing m with
  | slnil => intro p; cases p; exact ⟨[], .slnil, .nil⟩
  | cons a _ ih =>
    intro p
    cases p with
    | cons r t =>
      obtain ⟨m', h1, h2⟩ := ih t
      exact ⟨m', .cons _ h1, h2⟩
  | cons_cons a _ ih =>
    intro p
    cases p with
    | cons r t =>
      obtain ⟨m', h1, h2⟩ := ih t
      exact ⟨_ :: m', .cons_cons _ h1, .cons r h2⟩
end
/-! ### the slots change -/
section
variable {K : PySem.W.Frag} {B : BB} {H H' : Hp} {O O' : List Nat} {P Z : List Addr} {σ : L2.St} {ρ : Rho}
theorem own_uniq (h : EnvOk K B O P Z σ H ρ) {i i' : Nat} {p : Addr} (hi : i ∈ O) (hi' : i' ∈ O) (hp : p ∈ P) (e : σ[i]? = some (some (.ref p))) (e' : σ[i']? = some (some (.ref p))) : i = i' := by
  obtain ⟨j, hj⟩ := List.mem_iff_getElem?.mp hi
  obtain ⟨j', hj'⟩ := List.mem_iff_getElem?.mp hi'
  obtain ⟨q, h1, h2, _⟩ := paired_ix h.own hj
  obtain ⟨q', h1', h2', _⟩ := paired_ix h.own hj'
  rw [e] at h2
  rw [e'] at h2'
  cases h2
  cases h2'
  have : j = j' := nodup_ix' h.nd h1 h1'
  subst this
  rw [hj] at hj'
  exact Option.some.inj hj'
where
  nodup_ix' {l : List Addr} (hN : l.Nodup) {i j : Nat} {x : Addr} (a : l[i]? = some x) (b : l[j]? = some x) : i = j := by
    obtain ⟨h1, e1⟩ := List.getElem?_eq_some_iff.mp a
    obtain ⟨h2, e2⟩ := List.getElem?_eq_some_iff.mp b
    exact (List.getElem_inj hN).mp (e1.trans e2.symm)
theorem mask_sub {P P' Z : List Addr} (h : List.Sublist P' P) : ∀ a, a ∈ P' ++ Z → a ∈ P ++ Z := fun a z => by
  rcases List.mem_append.mp z with z | z
  · exact List.mem_append_left _ (h.subset z)
  · exact List.mem_append_right _ z
/-- some slots own their lists no more -/
theorem EnvOk.release (h : EnvOk K B O P Z σ H ρ) (hs : List.Sublist O' O) : ∃ P', List.Sublist P' P ∧ EnvOk K B O' P' Z σ H ρ := by
  obtain ⟨P', h1, h2⟩ := paired_sub hs h.own
  have sub := mask_sub (Z := Z) h1
  refine ⟨P', h1, h.len, h.bs, h.gs.trans (hid_sub sub), Paired.mapP h2 fun i p ⟨x1, o, d, x2, x3, x4⟩ => ⟨x1, o, d, x2, x3, x4.mono (hid_sub sub)⟩, h.nd.sublist h1, fun p hp => h.pb p (h1.subset hp), h.zt, fun p hp => h.pz p (h1.subset hp), h.sz, h.sb, h.so, fun i hi e => ?_, fun i x hi e => ?_, fun i d hi e => ?_⟩
  · by_cases hiO : i ∈ O
    · obtain ⟨p, hp, x1, o, d', x2, x3, x4⟩ := paired_left h.own i hiO
      rw [e] at x2
      cases x2
      cases x4
    · exact h.src i hiO e
  · by_cases hiO : i ∈ O
    · obtain ⟨p, hp, x1, o, d', x2, x3, x4⟩ := paired_left h.own i hiO
      rw [e] at x2
      cases x2
      cases x4
    · exact h.fns i x hiO e
  by_cases hiO : i ∈ O
  · obtain ⟨p, hp, x1, o, d', x2, x3, x4⟩ := paired_left h.own i hiO
    rw [e] at x2
    cases x2
    have np : p ∉ P' ++ Z := fun z => by
      rcases List.mem_append.mp z with z | z
      · obtain ⟨i', hi', y1, _⟩ := paired_right h2 p z
        exact hi (own_uniq h hiO (hs.subset hi') hp x1 y1 ▸ hi')
      · exact h.pz p hp z
    cases x4 with
    | lst x4 => exact ⟨_, x1, .lst (.inl (.inl (by rw [hid_out np]; exact x3))) (dpa_mono (hid_sub sub) _ _ x4)⟩
  · obtain ⟨v, x1, x2⟩ := h.oth i d hiO e
    exact ⟨v, x1, dp_mono (hid_sub sub) d v x2⟩
theorem set_get {α : Type} {l : List α} {i j : Nat} {a b : α} (h : (l.set i a)[j]? = some b) : (i = j ∧ a = b) ∨ (i ≠ j ∧ l[j]? = some b) := by
  by_cases e : i = j
  · subst e
    rw [List.getElem?_set] at h
    simp only [if_true] at h
    split at h
    · exact .inl ⟨rfl, Option.some.inj h⟩
    · cases h
  · rw [List.getElem?_set_ne e] at h
    exact .inr ⟨e, h⟩
theorem EnvOk.setV (h : EnvOk K B O P Z σ H ρ) {i : Nat} {v : V} {d : PyData} (hi : i ∉ O) (hv : Dp K (hid (P ++ Z) H) v d) : EnvOk K B O P Z (σ.set i (some v)) H (ρ.set i (some (.d d))) := by
  refine ⟨by rw [List.length_set, List.length_set]; exact h.len, h.bs, h.gs, ?_, h.nd, h.pb, h.zt, h.pz, h.sz, h.sb, h.so, fun j hj q => ?_, fun j x hj q => ?_, fun j e hj q => ?_⟩
  · have key : ∀ {l : List Nat} {m : List Addr}, (∀ j, j ∈ l → j ∈ O) → Paired (Own1 K (P ++ Z) H σ ρ) l m → Paired (Own1 K (P ++ Z) H (σ.set i (some v)) (ρ.set i (some (.d d)))) l m := by
      intro l m hl p
      induction p with
      | nil => exact .nil
      | cons r t ih =>
        obtain ⟨x1, o, d', x2, x3, x4⟩ := r
        have ne : i ≠ _ := fun z => hi (z ▸ hl _ List.mem_cons_self)
        exact .cons ⟨by rw [List.getElem?_set_ne ne]; exact x1, o, d', by rw [List.getElem?_set_ne ne]; exact x2, x3, x4⟩ (ih fun j hj => hl j (List.mem_cons_of_mem _ hj))
    exact key (fun _ z => z) h.own
  · rcases set_get q with ⟨e1, e2⟩ | ⟨ne, q⟩
    · cases e2
    · obtain ⟨a, x1, x2⟩ := h.src j hj q
      exact ⟨a, x1, by rw [List.getElem?_set_ne ne]; exact x2⟩
  · rcases set_get q with ⟨e1, e2⟩ | ⟨ne, q⟩
    · cases e2
    · rw [List.getElem?_set_ne ne]; exact h.fns j x hj q
  · have q0 := q
    rcases set_get q with ⟨e1, e2⟩ | ⟨ne, q⟩
    · subst e1
      cases e2
      have hl : i < σ.length := by
        rw [← h.len]
        have := (List.getElem?_eq_some_iff.mp q0).1
        rwa [List.length_set] at this
      exact ⟨v, List.getElem?_set_self hl, hv⟩
    · obtain ⟨w, x1, x2⟩ := h.oth j e hj q
      exact ⟨w, by rw [List.getElem?_set_ne ne]; exact x1, x2⟩
/-- a new list comes into a slot that owns it -/
theorem EnvOk.setNew (h : EnvOk K B O P Z σ H ρ) (s : Gr B.S (P ++ Z) H H') {i : Nat} {p : Addr} {ob : HO} {d : SV} (hi : i ∉ O) (hl : i < σ.length) (hB : H p = none) (np : p ∉ P ++ Z) (hp : H' p = some ob) (ha : OwnV K (p :: (P ++ Z)) H' ob d) : EnvOk K B (i :: O) (p :: P) Z (σ.set i (some (.ref p))) H' (ρ.set i (some d)) := by
  have hlr : i < ρ.length := by rw [h.len]; exact hl
  have vs' : Same (hid (P ++ Z) H) (hid (p :: P ++ Z) H') := fun b o e => by
    obtain ⟨y1, y2⟩ := hid_some e
    have nb : b ≠ p := ne_of_none y2 hB
    rw [hid_out (by show b ∉ p :: (P ++ Z); simp only [List.mem_cons, not_or]; exact ⟨nb, y1⟩)]
    exact s.fr b o (fun z => y1 (List.mem_append_right _ (h.sz b z))) y2
  refine ⟨by rw [List.length_set, List.length_set]; exact h.len, h.bs' s, h.gs.trans vs', .cons ⟨List.getElem?_set_self hl, _, _, List.getElem?_set_self hlr, hp, ha⟩ ?_, ?_, fun q hq => ?_, h.zt' s, fun q hq => ?_, h.sz, h.sb, s.so h.so, fun j hj q => ?_, fun j x hj q => ?_, fun j e hj q => ?_⟩
  · have key : ∀ {l : List Nat} {m : List Addr}, (∀ j, j ∈ l → j ∈ O) → (∀ q, q ∈ m → q ∈ P) → Paired (Own1 K (P ++ Z) H σ ρ) l m → Paired (Own1 K (p :: P ++ Z) H' (σ.set i (some (.ref p))) (ρ.set i (some d))) l m := by
      intro l m hl hm p
      induction p with
      | nil => exact .nil
      | cons r t ih =>
        obtain ⟨x1, o, d', x2, x3, x4⟩ := r
        have ne : i ≠ _ := fun z => hi (z ▸ hl _ List.mem_cons_self)
        exact .cons ⟨by rw [List.getElem?_set_ne ne]; exact x1, o, d', by rw [List.getElem?_set_ne ne]; exact x2, s.fr _ _ (h.ps (hm _ List.mem_cons_self)) x3, x4.mono vs'⟩ (ih (fun j hj => hl j (List.mem_cons_of_mem _ hj)) fun j hj => hm j (List.mem_cons_of_mem _ hj))
    exact key (fun _ z => z) (fun _ z => z) h.own
  · exact List.nodup_cons.mpr ⟨fun z => np (List.mem_append_left _ z), h.nd⟩
  · rcases List.mem_cons.mp hq with rfl | hq
    · cases q1 : B.1 q with
      | none => rfl
      | some o => rw [h.bs q o q1] at hB; cases hB
    · exact h.pb q hq
  · rcases List.mem_cons.mp hq with rfl | hq
    · exact fun z => np (List.mem_append_right _ z)
    · exact h.pz q hq
  · have hj' : j ≠ i ∧ j ∉ O := by simpa only [List.mem_cons, not_or] using hj
    rcases set_get q with ⟨e1, _⟩ | ⟨ne, q⟩
    · exact absurd e1.symm hj'.1
    · obtain ⟨a, x1, x2⟩ := h.src j hj'.2 q
      exact ⟨a, x1, by rw [List.getElem?_set_ne ne]; exact x2⟩
  · have hj' : j ≠ i ∧ j ∉ O := by simpa only [List.mem_cons, not_or] using hj
    rcases set_get q with ⟨e1, _⟩ | ⟨ne, q⟩
    · exact absurd e1.symm hj'.1
    · rw [List.getElem?_set_ne ne]; exact h.fns j x hj'.2 q
  · have hj' : j ≠ i ∧ j ∉ O := by simpa only [List.mem_cons, not_or] using hj
    rcases set_get q with ⟨e1, _⟩ | ⟨ne, q⟩
    · exact absurd e1.symm hj'.1
    · obtain ⟨w, x1, x2⟩ := h.oth j e hj'.2 q
      exact ⟨w, by rw [List.getElem?_set_ne ne]; exact x1, dp_mono vs' e w x2⟩
theorem EnvOk.setF (h : EnvOk K B O P Z σ H ρ) (s : Gr B.S (P ++ Z) H H') {i : Nat} {v : V} {d : PyData} (hi : i ∉ O) (hl : i < σ.length) (hv : dF K H (P ++ Z) H' v d) : ∃ p, EnvOk K B (i :: O) (p :: P) Z (σ.set i (some v)) H' (ρ.set i (some (.d d))) := by
  obtain ⟨p, vs, ds, rfl, rfl, hB, np, hp, ha⟩ := hv
  exact ⟨p, h.setNew s hi hl hB np hp (.lst ha)⟩
/-- an owned list is changed -/
theorem EnvOk.setO (h : EnvOk K B O P Z σ H ρ) {i : Nat} {p : Addr} {o : HO} {d : SV} (hi : i ∈ O) (e : σ[i]? = some (some (.ref p))) (ha : OwnV K (P ++ Z) H o d) :
    EnvOk K B O P Z σ (upd H p o) (ρ.set i (some d)) := by
  have hp : p ∈ P := by
    obtain ⟨q, hq, x1, _⟩ := paired_left h.own i hi
    rw [e] at x1
    cases x1
    exact hq
  have hlr : i < ρ.length := by rw [h.len]; exact (List.getElem?_eq_some_iff.mp e).1
  have vis : Same (hid (P ++ Z) H) (hid (P ++ Z) (upd H p o)) := fun b _ q => by
    obtain ⟨y1, y2⟩ := hid_some q
    have nb : b ≠ p := fun z => y1 (z ▸ List.mem_append_left _ hp)
    rw [hid_out y1, upd_ne nb]
    exact y2
  refine ⟨by rw [List.length_set]; exact h.len, fun b _ q => ?_, h.gs.trans vis, ?_, h.nd, h.pb, fun z hz q => ?_, h.pz, h.sz, h.sb, fun a ha => ?_, fun j hj q => ?_, fun j x hj q => ?_, fun j d' hj q => ?_⟩
  · have nb : b ≠ p := fun z => by rw [z, h.pb p hp] at q; cases q
    rw [upd_ne nb]
    exact h.bs b _ q
  · have key : ∀ {l : List Nat} {m : List Addr}, (∀ j, j ∈ l → j ∈ O) → (∀ q, q ∈ m → q ∈ P) → Paired (Own1 K (P ++ Z) H σ ρ) l m → Paired (Own1 K (P ++ Z) (upd H p o) σ (ρ.set i (some d))) l m := by
      intro l m hl hm pr
      induction pr with
      | nil => exact .nil
      | @cons j q l m r t ih =>
        obtain ⟨x1, o', d', x2, x3, x4⟩ := r
        refine .cons ?_ (ih (fun j hj => hl j (List.mem_cons_of_mem _ hj)) fun j hj => hm j (List.mem_cons_of_mem _ hj))
        by_cases ej : i = j
        · subst ej
          rw [e] at x1
          cases x1
          exact ⟨e, o, d, List.getElem?_set_self hlr, upd_same, ha.mono vis⟩
        · have nq : q ≠ p := fun z => ej (own_uniq h hi (hl _ List.mem_cons_self) hp e (z ▸ x1))
          exact ⟨x1, o', d', by rw [List.getElem?_set_ne ej]; exact x2, by rw [upd_ne nq]; exact x3, x4.mono vis⟩
    exact key (fun _ z => z) (fun _ z => z) h.own
  · have nz : z ≠ p := fun e => h.pz p hp (e ▸ hz)
    rw [upd_ne nz] at q
    exact h.zt z hz q
  · obtain ⟨x, y, x1, x2, x3⟩ := h.so a ha
    have na : a ≠ p := fun e => h.ps hp (e ▸ ha)
    exact ⟨x, y, x1, x2, by rw [upd_ne na]; exact x3⟩
  · rcases set_get q with ⟨e1, _⟩ | ⟨ne, q⟩
    · exact absurd (e1 ▸ hi) hj
    · exact h.src j hj q
  · rcases set_get q with ⟨e1, _⟩ | ⟨ne, q⟩
    · exact absurd (e1 ▸ hi) hj
    · exact h.fns j x hj q
  · rcases set_get q with ⟨e1, _⟩ | ⟨ne, q⟩
    · exact absurd (e1 ▸ hi) hj
    · obtain ⟨w, x1, x2⟩ := h.oth j d' hj q
      exact ⟨w, x1, dp_mono vis d' w x2⟩
end
end DL
set_option Elab.async false
set_option linter.all false
set_option maxRecDepth 100000
set_option maxHeartbeats 1000000
namespace DL
open PySem PySem.Spec PyProof.Rows L2
/-! ### statements -/
inductive Fl where
  | nx (ρ : Rho)
  | rt (d : PyData) (ρ : Rho)
  | rf (d : PyData) (ρ : Rho)
  | bk (ρ : Rho)
  | ct (ρ : Rho)
/-- the static part: io the slots that own something at the end, Ol those at a loop's end -/
def PostF (K : PySem.W.Frag) (B : BB) (Z : List Addr) (io Ol O' : List Nat) (D : Ends) : Fl → Prop
  | .nx ρ' => ∀ σ' P' H', EnvOk K B O' P' Z σ' H' ρ' → D.nx σ' H'
  | .rt d ρ' => ∀ v σ' P' H', EnvOk K B io P' Z σ' H' ρ' → Dp K (hid (P' ++ Z) H') v d → D.rt v H'
  | .rf d ρ' => ∀ v σ' P' H', EnvOk K B io P' Z σ' H' ρ' → dF K B.1 (P' ++ Z) H' v d → D.rt v H'
  | .bk ρ' => ∀ σ' P' H', EnvOk K B Ol P' Z σ' H' ρ' → D.bk σ' H'
  | .ct ρ' => ∀ σ' P' H', EnvOk K B Ol P' Z σ' H' ρ' → D.ct σ' H'
def PostX (K : PySem.W.Frag) (ec : EC) (Ef : L2.St → XK) (B : BB) (Z : List Addr) (c : Nat) (x : Option PyData) : Prop := ∀ σ' H' dx, Same B.1 H' → SrcOk B.S H' → ExOk K Z ec H' c dx x → Ef σ' (ec.cls c) dx H'
def PostS (K : PySem.W.Frag) (ec : EC) (Ef : L2.St → XK) (B : BB) (Z : List Addr) (io Ol O' : List Nat) (D : Ends) (r : R Fl) : Prop := r.wp (PostF K B Z io Ol O' D) (PostX K ec Ef B Z)
def tS (K : PySem.W.Frag) (ec : EC) (Ef : L2.St → XK) (io Ol O O' : List Nat) (g : Rho → R Fl) : TS := fun D σ H => ∃ B P Z ρ, EnvOk K B O P Z σ H ρ ∧ PostS K ec Ef B Z io Ol O' D (g ρ)
structure DS (X : Cx) (ec : EC) (Ef : L2.St → XK) (io Ol O O' : List Nat) (st : Stmt) (g : Rho → R Fl) : Prop where
  ps : PS X st (tS X.K ec Ef io Ol O O' g)
structure DSs (X : Cx) (ec : EC) (Ef : L2.St → XK) (io Ol O O' : List Nat) (st : List Stmt) (g : Rho → R Fl) : Prop where
  ps : PSs X st (tS X.K ec Ef io Ol O O' g)
/-- exceptions do not lean on the slots -/
abbrev Flat (Ef : L2.St → XK) : Prop := ∀ σ σ' c d H, Ef σ c d H → Ef σ' c d H
section
variable {K : PySem.W.Frag} {ec : EC} {M M' : List Addr} {H' : Hp}
theorem exOk_sub {c : Nat} {dx : Option Addr} {x : Option PyData} (h : ∀ a, a ∈ M' → a ∈ M) (e : ExOk K M ec H' c dx x) : ExOk K M' ec H' c dx x := by
  cases x with
  | none => exact e
  | some d =>
    obtain ⟨a, v, h1, h2, h3⟩ := e
    exact ⟨a, v, h1, h2, dp_mono (hid_sub h) d v h3⟩
end
section
variable {K : PySem.W.Frag} {ec : EC} {Ef : L2.St → XK} {B : BB} {Z P : List Addr} {io Ol O O' O1 : List Nat} {D : Ends} {σ : L2.St} {H : Hp} {ρ : Rho}
/-- from an expression's result into a statement's -/
theorem PostS.of {ν α : Type} {den : Hp → ν → α → Prop} {r : R α} {k : α → R Fl} (fl : Flat Ef) (hE : EnvOk K B O P Z σ H ρ) (h : PostS K ec Ef B Z io Ol O' D (r.bind k)) {Q : ν → Hp → Prop}
    (hk : ∀ a v H1, True → Gr B.S (P ++ Z) H H1 → den H1 v a → EnvOk K B O P Z σ H1 ρ → PostS K ec Ef B Z io Ol O' D (k a) → Q v H1) : Post B.S K ec den (P ++ Z) (Ef σ) H Q r := by
  unfold PostS at h
  rw [R.wp_bind] at h
  exact R.wp_imp h (fun a h v H1 s d => hk a v H1 trivial s d (hE.same s) h) (fun c x h H1 dx s e => fl _ _ _ _ _ (h σ H1 dx (hE.bs' s) (s.so hE.so) (exOk_sub (fun a z => List.mem_append_right _ z) e)))
/-- one statement, then others -/
def fSeq (g h : Rho → R Fl) : Rho → R Fl := fun ρ => (g ρ).bind fun f => match f with
  | .nx ρ' => h ρ'
  | x => .ok x
theorem seq_imp {g h : Rho → R Fl} (D : Ends) (σ : L2.St) (H : Hp) (hs : tS K ec Ef io Ol O O' (fSeq g h) D σ H) : tSeq (tS K ec Ef io Ol O O1 g) (tS K ec Ef io Ol O1 O' h) D σ H := by
  obtain ⟨B, P, Z, ρ, hE, p⟩ := hs
  refine ⟨B, P, Z, ρ, hE, ?_⟩
  unfold fSeq PostS at p
  rw [R.wp_bind] at p
  refine R.wp_imp p (fun f p => ?_) (fun _ _ p => p)
  cases f with
  | nx ρ' => exact fun σ' P' H' hE' => ⟨B, P', Z, ρ', hE', p⟩
  | rt d ρ' => exact p
  | rf d ρ' => exact p
  | bk ρ' => exact p
  | ct ρ' => exact p
end
section
variable {X : Cx} {ec : EC} {Ef : L2.St → XK} {io Ol O O' O1 : List Nat} {st : Stmt} {rest : List Stmt} {g h : Rho → R Fl} {e : Expr} {f : Rho → R PyData} {pos : Pos}
theorem dss_nil (hs : List.Sublist O' O := by decide) : DSs X ec Ef io Ol O O' [] (fun ρ => .ok (.nx ρ)) := ⟨pss_nil.imp fun D σ H ⟨B, P, Z, ρ, hE, p⟩ => by
  obtain ⟨P', _, hE'⟩ := hE.release hs
  exact p _ _ _ hE'⟩
theorem dss_cons (h1 : DS X ec Ef io Ol O O1 st g) (h2 : DSs X ec Ef io Ol O1 O' rest h) : DSs X ec Ef io Ol O O' (st :: rest) (fSeq g h) := ⟨(pss_cons h1.ps h2.ps).imp fun D σ H hs => seq_imp D σ H hs⟩
theorem dss_one (h1 : DS X ec Ef io Ol O O' st g) : DSs X ec Ef io Ol O O' [st] g := ⟨pss_one h1.ps⟩
/-- slots are released ahead of a statement -/
theorem ds_rel (h1 : DS X ec Ef io Ol O1 O' st g) (hs : List.Sublist O1 O := by decide) : DS X ec Ef io Ol O O' st g := ⟨h1.ps.imp fun D σ H ⟨B, P, Z, ρ, hE, p⟩ => by
  obtain ⟨P', _, hE'⟩ := hE.release hs
  exact ⟨B, P', Z, ρ, hE', p⟩⟩
/-! ### assignments -/
def setE (i : Nat) (f : Rho → R PyData) : Rho → R Fl := fun ρ => (f ρ).bind fun d => .ok (.nx (ρ.set i (some (.d d))))
theorem ds_asg {x : Str} {i : Nat} {pos' : Pos} (fl : Flat Ef) (hN : X.N.Nodup) (hi : X.N[i]? = some x) (hx : Loc X.env.scope x) (he : DE X ec Ef O e f) (hO : i ∉ O := by decide) (hs : swapsWith e (some (.Name x pos')) pos.line X.env = pure false := by rfl)
    (hf : X.fn x = true ∨ X.env.scope.names.lookup x = some .local := by first | exact .inl rfl | exact .inr rfl | assumption) : DS X ec Ef io Ol O O (.Assign [.Name x pos'] e pos) (setE i f) :=
  ⟨(ps_set (i := i) hN hi hx he.pe hs hf).imp fun D σ H ⟨B, P, Z, ρ, hE, p⟩ => ⟨B, P, Z, ρ, hE, PostS.of fl hE p fun d v H1 _ s d1 hE1 p1 => p1 _ _ _ (hE1.setV hO d1)⟩⟩
theorem ds_own {x : Str} {i : Nat} {pos' : Pos} (fl : Flat Ef) (hN : X.N.Nodup) (hi : X.N[i]? = some x) (hx : Loc X.env.scope x) (he : DF X ec Ef O e f) (hl : ∀ σ : L2.St, σ.length = X.N.length → i < σ.length) (hO : i ∉ O := by decide) (hs : swapsWith e (some (.Name x pos')) pos.line X.env = pure false := by rfl)
    (hf : X.fn x = true ∨ X.env.scope.names.lookup x = some .local := by first | exact .inl rfl | exact .inr rfl | assumption) : DS X ec Ef io Ol O (i :: O) (.Assign [.Name x pos'] e pos) (setE i f) := by
  refine ⟨⟨fun pins s σ H D I hw => (ps_set (i := i) hN hi hx he.pe hs hf).run pins s σ H D I ?_⟩⟩
  obtain ⟨B, P, Z, ρ, hE, p⟩ := hw
  refine ⟨B, P, Z, ρ, hE, PostS.of fl hE p fun d v H1 _ s d1 hE1 p1 => ?_⟩
  obtain ⟨q, hq⟩ := hE.setF s hO (hl σ I.len) d1
  exact p1 _ _ _ hq
/-- return -/
def retE (f : Rho → R PyData) : Rho → R Fl := fun ρ => (f ρ).bind fun d => .ok (.rt d ρ)
theorem ds_ret (fl : Flat Ef) (he : DE X ec Ef io e f) (hs : List.Sublist io O := by decide) : DS X ec Ef io Ol O O' (.Return (some e) pos) (retE f) :=
  ⟨(ps_ret he.pe).imp fun D σ H ⟨B, P, Z, ρ, hE, p⟩ => by
    obtain ⟨P', _, hE'⟩ := hE.release hs
    exact ⟨B, P', Z, ρ, hE', PostS.of fl hE' p fun d v H1 _ s d1 hE1 p1 => p1 _ _ _ _ hE1 d1⟩⟩
theorem ds_retO (fl : Flat Ef) (he : DE X ec Ef O e f) (hs : List.Sublist io O := by decide) : DS X ec Ef io Ol O O' (.Return (some e) pos) (retE f) :=
  ⟨(ps_ret he.pe).imp fun D σ H ⟨B, P, Z, ρ, hE, p⟩ => ⟨B, P, Z, ρ, hE, PostS.of fl hE p fun d v H1 _ s d1 hE1 p1 => by
    obtain ⟨P', h1, hE'⟩ := hE1.release hs
    exact p1 _ _ _ _ hE' (dp_mono (hid_sub (mask_sub h1)) d v d1)⟩⟩
def retF (f : Rho → R PyData) : Rho → R Fl := fun ρ => (f ρ).bind fun d => .ok (.rf d ρ)
/-- a new list is returned -/
theorem ds_retF (fl : Flat Ef) (he : DF X ec Ef io e f) (hs : List.Sublist io O := by decide) : DS X ec Ef io Ol O O' (.Return (some e) pos) (retF f) :=
  ⟨(ps_ret he.pe).imp fun D σ H ⟨B, P, Z, ρ, hE, p⟩ => by
    obtain ⟨P', _, hE'⟩ := hE.release hs
    refine ⟨B, P', Z, ρ, hE', PostS.of fl hE' p fun d v H1 _ s d1 hE1 p1 => p1 _ _ _ _ hE1 ?_⟩
    obtain ⟨q, vs, ds, e1, e2, e3, e4⟩ := d1
    refine ⟨q, vs, ds, e1, e2, ?_, e4⟩
    cases h : B.1 q with
    | none => rfl
    | some o => rw [hE'.bs q o h] at e3; cases e3⟩
theorem ds_retN (hs : List.Sublist io O := by decide) : DS X ec Ef io Ol O O' (.Return none pos) (fun ρ => .ok (.rt .none ρ)) :=
  ⟨ps_retN.imp fun D σ H ⟨B, P, Z, ρ, hE, p⟩ => by
    obtain ⟨P', _, hE'⟩ := hE.release hs
    exact p _ _ _ _ hE' .non⟩
theorem ds_expr (fl : Flat Ef) (he : DE X ec Ef O e f) (hs : swapsWith e none pos.line X.env = pure false := by rfl) : DS X ec Ef io Ol O O (.Expr e pos) (fun ρ => (f ρ).bind fun _ => .ok (.nx ρ)) :=
  ⟨(ps_expr he.pe hs).imp fun D σ H ⟨B, P, Z, ρ, hE, p⟩ => ⟨B, P, Z, ρ, hE, PostS.of fl hE p fun d v H1 _ s d1 hE1 p1 => p1 _ _ _ hE1⟩⟩
theorem ds_pass : DS X ec Ef io Ol O O (.Pass pos) (fun ρ => .ok (.nx ρ)) := ⟨ps_pass.imp fun D σ H ⟨B, P, Z, ρ, hE, p⟩ => p _ _ _ hE⟩
theorem ds_continue (hs : List.Sublist Ol O := by decide) : DS X ec Ef io Ol O O' (.Continue pos) (fun ρ => .ok (.ct ρ)) := ⟨ps_continue.imp fun D σ H ⟨B, P, Z, ρ, hE, p⟩ => by
  obtain ⟨P', _, hE'⟩ := hE.release hs
  exact p _ _ _ hE'⟩
/-- x.append(e), x an owned list -/
def appD (l d : PyData) : R PyData := match l with
  | .list ds => if ds.length < sizeLine then .ok (.list (ds ++ [d])) else .bad
  | _ => .bad
def appE (i : Nat) (f : Rho → R PyData) : Rho → R Fl := fun ρ => (getV ρ i).bind fun l => (f ρ).bind fun d => (appD l d).bind fun l' => .ok (.nx (ρ.set i (some (.d l'))))
theorem ds_append {o : Expr} {i : Nat} {apos cpos : Pos} (fl : Flat Ef) (ho : PE X o (tVar i)) (he : DE X ec Ef O e f) (hO : i ∈ O := by decide)
    (hbase : attributeBase o "append" X.env (eval o X.env) = eval o X.env := by rfl)
    (hfew : ((backTo cpos (starEach [e] X.env)).all (fun x => !x.1) && (backToKw cpos (keywordEach [] X.env)).all (fun x => x.1.isSome)
      && decide ([e].length + ([] : List Keyword).length + (if ([] : List Keyword).isEmpty then 0 else 1) < 30)) = true := by rfl)
    (hline : (apos.endLine == cpos.line) = true := by rfl) (hst : starEach [e] X.env = (false, eval e X.env) :: starEach [] X.env := by rfl) (hplain : (backTo cpos (starEach [] X.env)).any (·.1) = false := by rfl)
    (hs : swapsWith (.Call (.Attribute o "append" apos) [e] [] cpos) none pos.line X.env = pure false := by rfl) :
    DS X ec Ef io Ol O O (.Expr (.Call (.Attribute o "append" apos) [e] [] cpos) pos) (appE i f) :=
  ⟨(ps_expr (pe_bm PySem.F.plainAttrs_list PySem.F.slot_list_append PySem.F.type_list_append mt_append ho (pa_cons he.pe pa_nil hst) hbase hfew hline hst hplain) hs).imp fun D σ H ⟨B, P, Z, ρ, hE, p⟩ => by
    obtain ⟨q, hq, x1, o, dd, x2, x3, x4⟩ := paired_left hE.own i hO
    have p0 : PostS X.K ec Ef B Z io Ol O D (appE i f ρ) := p
    cases x4 with
    | dk x4 =>
      unfold appE at p0
      have : getV ρ i = .bad := by unfold getV; rw [x2]
      rw [this] at p0
      exact p0.elim
    | @lst vs ds x4 =>
      unfold appE at p0
      rw [getV_ok x2] at p0
      have p0 : PostS X.K ec Ef B Z io Ol O D ((f ρ).bind fun d => (appD (.list ds) d).bind fun l' => .ok (.nx (ρ.set i (some (.d l'))))) := p0
      refine ⟨.ref q, x1, .inl ⟨rfl, _, .inl (.inl x3)⟩, B, P, Z, ρ, hE, PostS.of fl hE p0 fun d v H1 _ s d1 hE1 p2 => ?_⟩
      have hl : vs.length = ds.length := dpa_len x4
      unfold appD at p2
      by_cases hz : ds.length < sizeLine
      · simp only [hz, if_true, R.ok_bind] at p2
        exact ⟨q, vs, v, rfl, rfl, s.fr _ _ (hE.ps hq) x3, by rw [hl]; exact hz, p2 _ _ _ (hE1.setO hO x1 (.lst (dpa_append (dpa_mono s.vis ds vs x4) (.cons d1 .nil))))⟩
      · simp only [hz, if_false, R.bad_bind] at p2
        exact p2.elim⟩
/-- x[k] = e, x an owned list -/
def putD (l k d : PyData) : R PyData := match l, k with
  | .list ds, .int i => match ixN ds.length i with
    | some j => .ok (.list (ds.set j d))
    | none => .bad
  | _, _ => .bad
def putE (i : Nat) (fk f : Rho → R PyData) : Rho → R Fl := fun ρ => (f ρ).bind fun d => (getV ρ i).bind fun l => (fk ρ).bind fun k => (putD l k d).bind fun l' => .ok (.nx (ρ.set i (some (.d l'))))
theorem ds_put {o k : Expr} {fk : Rho → R PyData} {i : Nat} {tpos : Pos} (fl : Flat Ef) (ho : PE X o (tVar i)) (hk : DE X ec Ef O k fk) (he : DE X ec Ef O e f) (hO : i ∈ O := by decide)
    (ha : ∀ v, assign (.Subscript o k tpos) X.env v = (do
      let ov ← holding [v] (eval o X.env)
      let iv ← holding [v, ov] (eval k X.env)
      standAt tpos
      holding [v, ov, iv] (setItem ov iv v)
      release [v, ov, iv] []) := by intro _; rfl)
    (hs : swapsWithSole [.Subscript o k tpos] e pos.line X.env = pure false := by rfl) (hw : swappedStores [.Subscript o k tpos] e X.env = pure none := by rfl) (h1 : (assignEach [.Subscript o k tpos] X.env).map (·.2) = [assign (.Subscript o k tpos) X.env] := by rfl) :
    DS X ec Ef io Ol O O (.Assign [.Subscript o k tpos] e pos) (putE i fk f) :=
  ⟨(ps_asg he.pe (pg_sub ho hk.pe set_list ha) hs hw h1).imp fun D σ H ⟨B, P, Z, ρ, hE, p⟩ => ⟨B, P, Z, ρ, hE, PostS.of fl hE p fun d v H1 _ s d1 hE1 p1 => by
    obtain ⟨q, hq, x1, o, dd, x2, x3, x4⟩ := paired_left hE1.own i hO
    cases x4 with
    | dk x4 =>
      have : getV ρ i = .bad := by unfold getV; rw [x2]
      rw [this] at p1
      exact p1.elim
    | @lst vs ds x4 =>
      rw [getV_ok x2] at p1
      have p1 : PostS X.K ec Ef B Z io Ol O D ((fk ρ).bind fun k => (putD (.list ds) k d).bind fun l' => .ok (.nx (ρ.set i (some (.d l'))))) := p1
      refine ⟨.ref q, x1, B, P, Z, ρ, hE1, PostS.of fl hE1 p1 fun kd kv H2 _ s2 d2 hE2 p3 => ?_⟩
      cases kd with
      | int n =>
        unfold putD at p3
        have hl : vs.length = ds.length := dpa_len x4
        cases hj : ixN ds.length n with
        | none => simp only [hj, R.bad_bind] at p3; exact p3.elim
        | some j =>
          simp only [hj, R.ok_bind] at p3
          have e2 : kv = .int n := by cases d2; rfl
          exact ⟨q, vs, n, j, rfl, e2, s2.fr _ _ (hE1.ps hq) x3, by rw [hl]; exact hj, p3 _ _ _ (hE2.setO hO x1 (.lst (dpa_set (d1.mono s2) j (dpa_mono s2.vis ds vs x4))))⟩
      | _ => exact p3.elim⟩⟩
/-- if -/
theorem ds_if {c : Expr} {a b : List Stmt} {fc : Rho → R Bool} (fl : Flat Ef) (hc : DT X ec Ef O c fc) (ha : DSs X ec Ef io Ol O O' a g) (hb : DSs X ec Ef io Ol O O' b h) : DS X ec Ef io Ol O O' (.If c a b pos) (fun ρ => (fc ρ).bind fun k => if k = true then g ρ else h ρ) :=
  ⟨(ps_if hc.pt ha.ps hb.ps).imp fun D σ H ⟨B, P, Z, ρ, hE, p⟩ => ⟨B, P, Z, ρ, hE, PostS.of fl hE p fun k v H1 _ s d1 hE1 p1 => by
    cases d1
    cases k with
    | true => rw [if_pos rfl] at p1 ⊢; exact ⟨B, P, Z, ρ, hE1, p1⟩
    | false => rw [if_neg Bool.false_ne_true] at p1 ⊢; exact ⟨B, P, Z, ρ, hE1, p1⟩⟩⟩
/-- raise -/
theorem ds_raise {W : WX} {c : Nat} {t : L2.St → Hp → XK → Prop} (hc : X.calm = true) (tk : Takes X (fun cls d σ H => Ef σ cls d H)) (hm : PMk X e (fun _ H Q => Q (ec.cls c) none H)) : DS X ec Ef io Ol O O' (.Raise (some e) none pos) (fun _ => .exc c none) :=
  ⟨(ps_raise hc tk hm).imp fun D σ H ⟨B, P, Z, ρ, hE, p⟩ => (show PostS X.K ec Ef B Z io Ol O' D (.exc c none) from p) σ H none hE.bs hE.so rfl⟩
end
end DL
set_option Elab.async false
set_option linter.all false
set_option maxRecDepth 100000
set_option maxHeartbeats 1000000
namespace DL
open PySem PySem.Spec PyProof.Rows L2
/-! ### contracts -/
/-- what a call meets: the sources are kept -/
structure Met (S M : List Addr) (H : Hp) : Prop where
  tr : ∀ m, m ∈ M → H m ≠ none
  sm : ∀ a, a ∈ S → a ∈ M
  so : SrcOk S H
/-- called with data, a def gives what F says; n arguments -/
def spD (K : PySem.W.Frag) (ec : EC) (n : Nat) (F : List PyData → R PyData) : Sp := fun vs H Q E =>
  vs.length = n ∧ ∃ S M ds, DpAll K (hid M H) vs ds ∧ Met S M H ∧ Post S K ec (dV K M) M E H Q (F ds)
/-- .. a list that is new -/
def spF (K : PySem.W.Frag) (ec : EC) (n : Nat) (F : List PyData → R PyData) : Sp := fun vs H Q E =>
  vs.length = n ∧ ∃ S M ds, DpAll K (hid M H) vs ds ∧ Met S M H ∧ Post S K ec (dF K H M) M E H Q (F ds)
/-- .. the first argument a source -/
def spN (K : PySem.W.Frag) (ec : EC) (n : Nat) (F : List PyData → R PyData) : Sp := fun vs H Q E =>
  vs.length = n ∧ ∃ S M a us ds, vs = .ref a :: us ∧ a ∈ S ∧ DpAll K (hid M H) us ds ∧ Met S M H ∧ Post S K ec (dV K M) M E H Q (F ds)
structure FnS (P : Program) (w : World) (K : PySem.W.Frag) (mg : Str → Option Value) (base : Heap) (k n : Nat) (x : Str) (sp : Sp) : Prop where
  ex : ∃ (f : Addr) (fd : FuncData) (ps : List Str), ps.length = n ∧ mg x = some (.ref f) ∧ PySem.W.keepIn K (.ref f) = true ∧ Binds K fd ps [] ∧ FnOk P w K mg base (L2.CX P w) k f fd ps sp
abbrev FnD (P : Program) (w : World) (K : PySem.W.Frag) (mg : Str → Option Value) (base : Heap) (ec : EC) (k n : Nat) (x : Str) (F : List PyData → R PyData) : Prop := FnS P w K mg base k n x (spD K ec n F)
abbrev FnN (P : Program) (w : World) (K : PySem.W.Frag) (mg : Str → Option Value) (base : Heap) (ec : EC) (k n : Nat) (x : Str) (F : List PyData → R PyData) : Prop := FnS P w K mg base k n x (spN K ec n F)
abbrev FnF (P : Program) (w : World) (K : PySem.W.Frag) (mg : Str → Option Value) (base : Heap) (ec : EC) (k n : Nat) (x : Str) (F : List PyData → R PyData) : Prop := FnS P w K mg base k n x (spF K ec n F)
theorem FnS.mono {P : Program} {w : World} {K : PySem.W.Frag} {mg : Str → Option Value} {base : Heap} {j k n : Nat} {x : Str} {sp : Sp} (G : FnS P w K mg base j n x sp) (h : j ≤ k) : FnS P w K mg base k n x sp := by
  obtain ⟨f, fd, ps, h1, h2, h3, h4, h5⟩ := G.ex
  exact ⟨f, fd, ps, h1, h2, h3, h4, h5.mono h⟩
/-- what a callee lets out is taken -/
abbrev PassE (X : Cx) (Ef : L2.St → XK) : Prop := ∀ σ, PassesAt (L2.CX X.prog X.w) X σ (Ef σ)
theorem EnvOk.met {K : PySem.W.Frag} {B : BB} {H : Hp} {O : List Nat} {P Z : List Addr} {σ : L2.St} {ρ : Rho} (h : EnvOk K B O P Z σ H ρ) : Met B.S (P ++ Z) H := ⟨h.trk, fun a z => List.mem_append_right _ (h.sz a z), h.so⟩
def chk (n : Nat) (F : List PyData → R PyData) (ds : List PyData) : R PyData := if ds.length = n then F ds else .bad
section
variable {X : Cx} {ec : EC} {Ef : L2.St → XK} {O : List Nat} {e : Expr} {es : List Expr} {fa : Rho → R (List PyData)} {F : List PyData → R PyData} {k n : Nat} {x : Str} {p pos : Pos}
theorem de_call (G : FnD X.prog X.w X.K X.mg X.base ec k n x F) (hr : Room k X.A) (hp : PassE X Ef) (hg : Gl X x) (ha : DA X ec Ef O (e :: es) fa) (hdb : (x == ("__debug__" : Str)) = false := by decide)
    (he : starEach (e :: es) X.env = (false, eval e X.env) :: starEach es X.env := by rfl) (hpl : (backTo pos (starEach es X.env)).any (·.1) = false := by rfl) : DE X ec Ef O (.Call (.Name x p) (e :: es) [] pos) (fun ρ => (fa ρ).bind (chk n F)) := by
  obtain ⟨f, fd, ps, h1, h2, h3, h4, h5⟩ := G.ex
  exact ⟨(pe_callS (E := Ef) h5 hr hg h2 h3 h4 hp ha.pa hdb he hpl).imp fun σ H Q ⟨B, P, Z, ρ, hE, q⟩ => ⟨B, P, Z, ρ, hE, (Post.bind q).imp fun vs H1 ⟨ds, _, s1, d1, p1⟩ => by
    unfold chk at p1
    by_cases hn : ds.length = n
    · rw [if_pos hn] at p1
      exact ⟨(dpa_len d1).trans hn, B.S, P ++ Z, ds, d1, (hE.same s1).met, p1⟩
    · rw [if_neg hn] at p1; exact p1.elim⟩⟩
theorem dF_since {K : PySem.W.Frag} {M : List Addr} {H H1 H' : Hp} {v : V} {d : PyData} (s : ∀ p, H1 p = none → H p = none) (h : dF K H1 M H' v d) : dF K H M H' v d := by
  obtain ⟨p, vs, ds, e1, e2, e3, e4⟩ := h
  exact ⟨p, vs, ds, e1, e2, s p e3, e4⟩
theorem df_call (G : FnF X.prog X.w X.K X.mg X.base ec k n x F) (hr : Room k X.A) (hp : PassE X Ef) (hg : Gl X x) (ha : DA X ec Ef O (e :: es) fa) (hdb : (x == ("__debug__" : Str)) = false := by decide)
    (he : starEach (e :: es) X.env = (false, eval e X.env) :: starEach es X.env := by rfl) (hpl : (backTo pos (starEach es X.env)).any (·.1) = false := by rfl) : DF X ec Ef O (.Call (.Name x p) (e :: es) [] pos) (fun ρ => (fa ρ).bind (chk n F)) := by
  obtain ⟨f, fd, ps, h1, h2, h3, h4, h5⟩ := G.ex
  exact ⟨(pe_callS (E := Ef) h5 hr hg h2 h3 h4 hp ha.pa hdb he hpl).imp fun σ H Q ⟨B, P, Z, ρ, hE, q⟩ => ⟨B, P, Z, ρ, hE, (Post.bind q).imp fun vs H1 ⟨ds, _, s1, d1, p1⟩ => by
    unfold chk at p1
    by_cases hn : ds.length = n
    · rw [if_pos hn] at p1
      exact ⟨(dpa_len d1).trans hn, B.S, P ++ Z, ds, d1, (hE.same s1).met, p1.den fun H' v a => dF_since (s1.free hE.so)⟩
    · rw [if_neg hn] at p1; exact p1.elim⟩⟩
/-- a source in a slot -/
def getS (ρ : Rho) (i : Nat) : R Unit := match ρ[i]? with
  | some (some .src) => .ok ()
  | _ => .bad
theorem getS_case {ρ : Rho} {i : Nat} : (ρ[i]? = some (some .src) ∧ getS ρ i = .ok ()) ∨ getS ρ i = .bad := by
  unfold getS
  split
  · rename_i h
    exact .inl ⟨h, rfl⟩
  · exact .inr rfl
def chkN (n : Nat) (F : List PyData → R PyData) (ds : List PyData) : R PyData := if ds.length + 1 = n then F ds else .bad
/-- a call that draws -/
theorem de_callN {i : Nat} {s : Expr} (G : FnN X.prog X.w X.K X.mg X.base ec k n x F) (hr : Room k X.A) (hp : PassE X Ef) (hg : Gl X x) (hsrc : PE X s (tVar i)) (ha : DA X ec Ef O es fa) (hi : i ∉ O := by decide) (hdb : (x == ("__debug__" : Str)) = false := by decide)
    (he : starEach (s :: es) X.env = (false, eval s X.env) :: starEach es X.env := by rfl) (hpl : (backTo pos (starEach es X.env)).any (·.1) = false := by rfl) : DE X ec Ef O (.Call (.Name x p) (s :: es) [] pos) (fun ρ => (getS ρ i).bind fun _ => (fa ρ).bind fun ds => chkN n F ds) := by
  obtain ⟨f, fd, ps, h1, h2, h3, h4, h5⟩ := G.ex
  exact ⟨(pe_callS (E := Ef) h5 hr hg h2 h3 h4 hp (pa_cons hsrc ha.pa he) hdb he hpl).imp fun σ H Q ⟨B, P, Z, ρ, hE, q⟩ => by
    rcases getS_case (ρ := ρ) (i := i) with ⟨h1, h2⟩ | h2
    · have q : Post B.S X.K ec (dV X.K (P ++ Z)) (P ++ Z) (Ef σ) H Q ((getS ρ i).bind fun _ => (fa ρ).bind fun ds => chkN n F ds) := q
      rw [h2] at q
      obtain ⟨a, a1, a2⟩ := hE.src i hi h1
      refine ⟨.ref a, a2, B, P, Z, ρ, hE, (Post.bind (den := dA X.K (P ++ Z)) q).imp fun vs H1 ⟨ds, _, s1, d1, p1⟩ => ?_⟩
      unfold chkN at p1
      by_cases hn : ds.length + 1 = n
      · rw [if_pos hn] at p1
        exact ⟨by rw [← hn, List.length_cons, dpa_len d1], B.S, P ++ Z, a, vs, ds, rfl, a1, d1, (hE.same s1).met, p1⟩
      · rw [if_neg hn] at p1; exact p1.elim
    · have q : Post B.S X.K ec (dV X.K (P ++ Z)) (P ++ Z) (Ef σ) H Q ((getS ρ i).bind fun _ => (fa ρ).bind fun ds => chkN n F ds) := q
      rw [h2] at q
      exact q.elim⟩
end
/-! ### a def by its body -/
def runS (n : Nat) (g : Rho → R Fl) (ss : List SV) : R PyData := (g (ss.map some ++ List.replicate (n - ss.length) none)).bind fun f => match f with
  | .nx _ => .ok .none
  | .rt d _ => .ok d
  | .rf d _ => .ok d
  | _ => .bad
/-- .. a new list is returned -/
def runF (n : Nat) (g : Rho → R Fl) (ss : List SV) : R PyData := (g (ss.map some ++ List.replicate (n - ss.length) none)).bind fun f => match f with
  | .rf d _ => .ok d
  | _ => .bad
abbrev runB (n : Nat) (g : Rho → R Fl) (ds : List PyData) : R PyData := runS n g (ds.map .d)
abbrev runN (n : Nat) (g : Rho → R Fl) (ds : List PyData) : R PyData := runS n g (.src :: ds.map .d)
/-- values in slots -/
inductive SAll (K : PySem.W.Frag) (S : List Addr) (G : Hp) : List V → List SV → Prop
  | nil : SAll K S G [] []
  | d {v : V} {x : PyData} {vs : List V} {ss : List SV} (h : Dp K G v x) (t : SAll K S G vs ss) : SAll K S G (v :: vs) (.d x :: ss)
  | src {a : Addr} {vs : List V} {ss : List SV} (h : a ∈ S) (t : SAll K S G vs ss) : SAll K S G (.ref a :: vs) (.src :: ss)
  | fn {x : Str} {vs : List V} {ss : List SV} (t : SAll K S G vs ss) : SAll K S G (.ref (He.ga K x) :: vs) (.fn x :: ss)
section
variable {P : Program} {w : World} {K : PySem.W.Frag} {mg : Str → Option Value} {base : Heap}
theorem sall_of {S : List Addr} {G : Hp} : ∀ {vs : List V} {ds : List PyData}, DpAll K G vs ds → SAll K S G vs (ds.map .d)
  | _, _, .nil => .nil
  | _, _, .cons r t => .d r (sall_of t)
theorem sall_len {S : List Addr} {G : Hp} : ∀ {vs : List V} {ss : List SV}, SAll K S G vs ss → vs.length = ss.length
  | _, _, .nil => rfl
  | _, _, .d _ t => by rw [List.length_cons, List.length_cons, sall_len t]
  | _, _, .src _ t => by rw [List.length_cons, List.length_cons, sall_len t]
  | _, _, .fn t => by rw [List.length_cons, List.length_cons, sall_len t]
theorem sall_d {S : List Addr} {G : Hp} : ∀ {vs : List V} {ss : List SV} {i : Nat} {x : PyData}, SAll K S G vs ss → ss[i]? = some (.d x) → ∃ v, vs[i]? = some v ∧ Dp K G v x
  | _, _, 0, _, .d h _, e => by cases e; exact ⟨_, rfl, h⟩
  | _, _, i + 1, _, .d _ t, e => sall_d (i := i) t e
  | _, _, i + 1, _, .src _ t, e => sall_d (i := i) t e
  | _, _, i + 1, _, .fn t, e => sall_d (i := i) t e
theorem sall_s {S : List Addr} {G : Hp} : ∀ {vs : List V} {ss : List SV} {i : Nat}, SAll K S G vs ss → ss[i]? = some .src → ∃ a, a ∈ S ∧ vs[i]? = some (.ref a)
  | _, _, 0, .src h _, _ => ⟨_, h, rfl⟩
  | _, _, i + 1, .d _ t, e => sall_s (i := i) t e
  | _, _, i + 1, .src _ t, e => sall_s (i := i) t e
  | _, _, i + 1, .fn t, e => sall_s (i := i) t e
theorem sall_f {S : List Addr} {G : Hp} {x : Str} : ∀ {vs : List V} {ss : List SV} {i : Nat}, SAll K S G vs ss → ss[i]? = some (.fn x) → vs[i]? = some (.ref (He.ga K x))
  | _, _, 0, .fn _, e => by cases e; rfl
  | _, _, i + 1, .d _ t, e => sall_f (i := i) t e
  | _, _, i + 1, .src _ t, e => sall_f (i := i) t e
  | _, _, i + 1, .fn t, e => sall_f (i := i) t e
/-- the slots at a def's entry -/
theorem env_start {N : List Str} {vs : List V} {ss : List SV} {S M : List Addr} {H : Hp} (hd : SAll K S (hid M H) vs ss) (m : Met S M H) :
    EnvOk K ⟨hid S H, hid M H, S⟩ [] [] M (start N vs) H (ss.map some ++ List.replicate (N.length - ss.length) none) := by
  have hl := sall_len hd
  have key : ∀ (i : Nat) (x : SV), (ss.map some ++ List.replicate (N.length - ss.length) none)[i]? = some (some x) → i < ss.length ∧ ss[i]? = some x := by
    intro i x e
    by_cases hi : i < ss.length
    · rw [List.getElem?_append_left (by rw [List.length_map]; exact hi), List.getElem?_map] at e
      obtain ⟨d', h1, h2⟩ := Option.map_eq_some_iff.mp e
      cases h2
      exact ⟨hi, h1⟩
    · rw [List.getElem?_append_right (by rw [List.length_map]; omega), List.getElem?_replicate] at e
      split at e <;> cases e
  have sl : ∀ (i : Nat) (v : V), i < ss.length → vs[i]? = some v → (start N vs)[i]? = some (some v) := by
    intro i v hi e
    unfold L2.start
    rw [List.getElem?_append_left (by rw [List.length_map, hl]; exact hi), List.getElem?_map, e]
    rfl
  refine ⟨by unfold L2.start; rw [List.length_append, List.length_append, List.length_map, List.length_map, List.length_replicate, List.length_replicate, hl], hid_le, Same.refl _, .nil, List.nodup_nil, (fun p z => by cases z), m.tr, (fun p z => by cases z), m.sm, (fun a ha => hid_in ha), m.so, fun i _ e => ?_, fun i x _ e => ?_, fun i d _ e => ?_⟩
  · obtain ⟨h1, h2⟩ := key i _ e
    obtain ⟨a, h3, h4⟩ := sall_s hd h2
    exact ⟨a, h3, sl i _ h1 h4⟩
  · obtain ⟨h1, h2⟩ := key i _ e
    exact sl i _ h1 (sall_f hd h2)
  · obtain ⟨h1, h2⟩ := key i _ e
    obtain ⟨v, h3, h4⟩ := sall_d hd h2
    exact ⟨v, sl i _ h1 h3, h4⟩
theorem flatE {E : XK} : Flat (fun _ => E) := fun _ _ _ _ _ h => h
theorem mir_of {ec : EC} {S M : List Addr} {n : Nat} {g : Rho → R Fl} {r : R PyData} {ss : List SV} {H : Hp} {Q : VK} {E : XK} (m : Met S M H) (mir : R.le r (runS n g ss)) (p : Post S K ec (dV K M) M E H Q r) :
    PostS K ec (fun _ => E) ⟨hid S H, hid M H, S⟩ M [] [] [] ⟨fun _ H' => Q .non H', fun v H' => Q v H', fun _ _ => False, fun _ _ => False⟩ (g (ss.map some ++ List.replicate (n - ss.length) none)) := by
  have q := mir _ _ p
  unfold runS at q
  rw [R.wp_bind] at q
  refine R.wp_imp q (fun f q => ?_) (fun c x q => ?_)
  · cases f with
    | rf d ρ' => exact fun v σ' P' H' hE' hv => q _ _ (.mk' m.sm hE'.bs hE'.so) (dp_mono (hid_sub fun a z => List.mem_append_right _ z) d v hv.toV)
    | nx ρ' => exact fun σ' P' H' hE' => q _ _ (.mk' m.sm hE'.bs hE'.so) .non
    | rt d ρ' => exact fun v σ' P' H' hE' hv => q _ _ (.mk' m.sm hE'.bs hE'.so) (dp_mono (hid_sub fun a z => List.mem_append_right _ z) d v hv)
    | bk ρ' => exact q.elim
    | ct ρ' => exact q.elim
  · exact fun σ' H' dx s so e => q H' dx (.mk' m.sm s so) e
theorem mirF_of {ec : EC} {S M : List Addr} {n : Nat} {g : Rho → R Fl} {r : R PyData} {ss : List SV} {H : Hp} {Q : VK} {E : XK} (m : Met S M H) (mir : R.le r (runF n g ss)) (p : Post S K ec (dF K H M) M E H Q r) :
    PostS K ec (fun _ => E) ⟨hid S H, hid M H, S⟩ M [] [] [] ⟨fun _ H' => Q .non H', fun v H' => Q v H', fun _ _ => False, fun _ _ => False⟩ (g (ss.map some ++ List.replicate (n - ss.length) none)) := by
  have q := mir _ _ p
  unfold runF at q
  rw [R.wp_bind] at q
  refine R.wp_imp q (fun f q => ?_) (fun c x q => ?_)
  · cases f with
    | rf d ρ' =>
      refine fun v σ' P' H' hE' hv => q _ _ (.mk' m.sm hE'.bs hE'.so) ?_
      obtain ⟨p, vs, ds, e1, e2, e3, e4, e5, e6⟩ := hv
      have np : p ∉ M := fun z => e4 (List.mem_append_right _ z)
      have e3 : hid S H p = none := e3
      rw [hid_out fun z => np (m.sm p z)] at e3
      exact ⟨p, vs, ds, e1, e2, e3, np, e5, dpa_mono (hid_sub fun a z => by
        rcases List.mem_cons.mp z with z | z
        · exact z ▸ List.mem_cons_self
        · exact List.mem_cons_of_mem _ (List.mem_append_right _ z)) ds vs e6⟩
    | nx ρ' => exact q.elim
    | rt d ρ' => exact q.elim
    | bk ρ' => exact q.elim
    | ct ρ' => exact q.elim
  · exact fun σ' H' dx s so e => q H' dx (.mk' m.sm s so) e
/-- a body's derivation -/
abbrev BodyOk (P : Program) (w : World) (K : PySem.W.Frag) (mg : Str → Option Value) (base : Heap) (ec : EC) (qual : Str) (st : Stmt) (f : Addr) (N : List Str) (k : Nat) (g : Rho → R Fl) : Prop :=
  ∀ (cdv : Value) (A : Around) (outer : List Env) (s : Shared) (H : Hp) (E : XK), Room k (A.deeper (envOfC qual (defScope st) s.heap.objs.size f cdv)) → PassE (cxOf (L2.CX P w) P w K mg base N qual (defScope st) f cdv A outer s H E) (fun _ => E) →
      Takes (cxOf (L2.CX P w) P w K mg base N qual (defScope st) f cdv A outer s H E) (fun cls d _ H => E cls d H) →
      DSs (cxOf (L2.CX P w) P w K mg base N qual (defScope st) f cdv A outer s H E) ec (fun _ => E) [] [] [] [] (defBody st) g
theorem okD_of {ec : EC} {x qual : Str} {st : Stmt} {f : Addr} {fd : FuncData} {N ps : List Str} {k n : Nat} {g : Rho → R Fl} {F : List PyData → R PyData} (Fn : FunD K x qual (defArgs st) (defBody st) (defScope st) [] [] f fd) (S : FnScope N ps (defScope st)) (hn : ps.length = n)
    (body : BodyOk P w K mg base ec qual st f N k g) (mir : ∀ ds, ds.length = n → R.le (F ds) (runB N.length g ds)) : FnOk P w K mg base (L2.CX P w) (k + 1) f fd ps (spD K ec n F) := by
  refine Fn.ok S (fun vs H Q E h => by rw [hn]; exact h.1) fun cdv A outer s H vs Q E hr h => ?_
  obtain ⟨hl, S, M, ds, hd, m, p⟩ := h
  have tk : Takes (cxOf (L2.CX P w) P w K mg base N qual (defScope st) f cdv A outer s H E) (fun cls d _ H => E cls d H) := takes_of rfl rfl rfl rfl
  have ps' : PassE (cxOf (L2.CX P w) P w K mg base N qual (defScope st) f cdv A outer s H E) (fun _ => E) := fun σ => passAt tk σ
  exact ⟨_, (body cdv A outer s H E hr ps' tk).ps, ⟨hid S H, hid M H, S⟩, [], M, _, env_start (sall_of hd) m, mir_of m (mir ds ((dpa_len hd).symm.trans hl)) p⟩
theorem fnD_of {ec : EC} {x qual : Str} {st : Stmt} {f : Addr} {fd : FuncData} {N ps : List Str} {k n : Nat} {g : Rho → R Fl} {F : List PyData → R PyData} (Fn : FunD K x qual (defArgs st) (defBody st) (defScope st) [] [] f fd) (S : FnScope N ps (defScope st)) (hb : Binds K fd ps []) (hg : mg x = some (.ref f)) (hn : ps.length = n)
    (body : BodyOk P w K mg base ec qual st f N k g) (mir : ∀ ds, ds.length = n → R.le (F ds) (runB N.length g ds)) : FnD P w K mg base ec (k + 1) n x F :=
  ⟨f, fd, ps, hn, hg, Fn.kp, hb, okD_of Fn S hn body mir⟩
theorem fnN_of {ec : EC} {x qual : Str} {st : Stmt} {f : Addr} {fd : FuncData} {N ps : List Str} {k n : Nat} {g : Rho → R Fl} {F : List PyData → R PyData} (Fn : FunD K x qual (defArgs st) (defBody st) (defScope st) [] [] f fd) (S : FnScope N ps (defScope st)) (hb : Binds K fd ps []) (hg : mg x = some (.ref f)) (hn : ps.length = n)
    (body : BodyOk P w K mg base ec qual st f N k g) (mir : ∀ ds, ds.length + 1 = n → R.le (F ds) (runN N.length g ds)) : FnN P w K mg base ec (k + 1) n x F := by
  refine ⟨f, fd, ps, hn, hg, Fn.kp, hb, Fn.ok S (fun vs H Q E h => by rw [hn]; exact h.1) fun cdv A outer s H vs Q E hr h => ?_⟩
  obtain ⟨hl, S, M, a, us, ds, rfl, ha, hd, m, p⟩ := h
  have tk : Takes (cxOf (L2.CX P w) P w K mg base N qual (defScope st) f cdv A outer s H E) (fun cls d _ H => E cls d H) := takes_of rfl rfl rfl rfl
  have ps' : PassE (cxOf (L2.CX P w) P w K mg base N qual (defScope st) f cdv A outer s H E) (fun _ => E) := fun σ => passAt tk σ
  exact ⟨_, (body cdv A outer s H E hr ps' tk).ps, ⟨hid S H, hid M H, S⟩, [], M, _, env_start (.src ha (sall_of hd)) m, mir_of m (mir ds (by rw [List.length_cons] at hl; rw [← dpa_len hd]; exact hl)) p⟩
theorem fnF_of {ec : EC} {x qual : Str} {st : Stmt} {f : Addr} {fd : FuncData} {N ps : List Str} {k n : Nat} {g : Rho → R Fl} {F : List PyData → R PyData} (Fn : FunD K x qual (defArgs st) (defBody st) (defScope st) [] [] f fd) (S : FnScope N ps (defScope st)) (hb : Binds K fd ps []) (hg : mg x = some (.ref f)) (hn : ps.length = n)
    (body : BodyOk P w K mg base ec qual st f N k g) (mir : ∀ ds, ds.length = n → R.le (F ds) (runF N.length g (ds.map .d))) : FnF P w K mg base ec (k + 1) n x F := by
  refine ⟨f, fd, ps, hn, hg, Fn.kp, hb, Fn.ok S (fun vs H Q E h => by rw [hn]; exact h.1) fun cdv A outer s H vs Q E hr h => ?_⟩
  obtain ⟨hl, S, M, ds, hd, m, p⟩ := h
  have tk : Takes (cxOf (L2.CX P w) P w K mg base N qual (defScope st) f cdv A outer s H E) (fun cls d _ H => E cls d H) := takes_of rfl rfl rfl rfl
  have ps' : PassE (cxOf (L2.CX P w) P w K mg base N qual (defScope st) f cdv A outer s H E) (fun _ => E) := fun σ => passAt tk σ
  exact ⟨_, (body cdv A outer s H E hr ps' tk).ps, ⟨hid S H, hid M H, S⟩, [], M, _, env_start (sall_of hd) m, mirF_of m (mir ds ((dpa_len hd).symm.trans hl)) p⟩
end
end DL
set_option Elab.async false
set_option linter.all false
set_option maxRecDepth 100000
set_option maxHeartbeats 1000000
namespace DL
open PySem PySem.Spec PyProof.Rows L2
/-! ### calls of built-ins, by values -/
def rC1 (K : PySem.W.Frag) (den : Hp → List Addr → List Addr → Hp → V → PyData → Prop) (g : PyData → Option PyData) : List V → Hp → VK → Prop := fun xs H Q =>
  ∃ (B : Hp) (S M : List Addr) (v : V) (dv d : PyData), xs = [v] ∧ (∀ p, H p = none → B p = none) ∧ (∀ m, m ∈ M → H m ≠ none) ∧ dB K S M H v dv ∧ g dv = some d ∧ ∀ z H', Same H H' → den B S M H' z d → Q z H'
abbrev C1D (X : Cx) (f : Value) (g : PyData → Option PyData) : Prop := CallR X f (rC1 X.K (fun _ _ => dV X.K) g)
abbrev C1F (X : Cx) (f : Value) (g : PyData → Option PyData) : Prop := CallR X f (rC1 X.K (fun H _ => dF X.K H) g)
def fC1 (g : PyData → Option PyData) (fa : Rho → R PyData) : Rho → R PyData := fun ρ => (fa ρ).bind fun x => R.ofO (g x)
section
variable {X : Cx} {ec : EC} {Ef : L2.St → XK} {O : List Nat} {a b : Expr} {fa fb : Rho → R PyData} {g : PyData → Option PyData} {x : Str} {p pos : Pos} {id T : String}
theorem c1_imp {den : Hp → List Addr → List Addr → Hp → V → PyData → Prop} (σ : L2.St) (H : Hp) (Q : VK) (h : tG X.K ec Ef O den (fC1 g fa) σ H Q) : tCB (rC1 X.K den g) (tCons (tG X.K ec Ef O (fun _ => dB X.K) fa) tNil) σ H Q := by
  obtain ⟨B, P, Z, ρ, hE, q⟩ := h
  refine ⟨B, P, Z, ρ, hE, (Post.bind q).imp fun v H1 ⟨dx, _, s1, d1, p1⟩ => ?_⟩
  cases hg : g dx with
  | none => rw [hg] at p1; exact p1.elim
  | some d =>
    rw [hg] at p1
    exact ⟨H, B.S, P ++ Z, v, dx, d, rfl, s1.free hE.so, (hE.same s1).trk, d1, hg, fun z H' s3 d3 => p1 z H' (.of s3) d3⟩
theorem de_b1 (hc : C1D X (.builtin id) g) (hg : Gl X x) (hm : X.mg x = none) (hv : bootBuiltins x = some (.builtin id)) (ha : DB X ec Ef O a fa) (hs : starEach [a] X.env = (false, eval a X.env) :: starEach [] X.env := by rfl) (hn : x ≠ "__name__" := by decide) (hdb : (x == ("__debug__" : Str)) = false := by decide) :
    DE X ec Ef O (.Call (.Name x p) [a] [] pos) (fC1 g fa) := ⟨(pe_callB hc hg hm hv (pa_cons ha.pe pa_nil hs) hn hdb hs (by rfl)).imp c1_imp⟩
theorem de_t1 (hc : C1D X (.type T) g) (hg : Gl X x) (hm : X.mg x = none) (hv : bootBuiltins x = some (.type T)) (ha : DB X ec Ef O a fa) (hs : starEach [a] X.env = (false, eval a X.env) :: starEach [] X.env := by rfl) (hn : x ≠ "__name__" := by decide) (hdb : (x == ("__debug__" : Str)) = false := by decide) :
    DE X ec Ef O (.Call (.Name x p) [a] [] pos) (fC1 g fa) := ⟨(pe_callTy hc hg hm hv (pa_cons ha.pe pa_nil hs) hn hdb hs (by rfl)).imp c1_imp⟩
theorem df_t1 (hc : C1F X (.type T) g) (hg : Gl X x) (hm : X.mg x = none) (hv : bootBuiltins x = some (.type T)) (ha : DB X ec Ef O a fa) (hs : starEach [a] X.env = (false, eval a X.env) :: starEach [] X.env := by rfl) (hn : x ≠ "__name__" := by decide) (hdb : (x == ("__debug__" : Str)) = false := by decide) :
    DF X ec Ef O (.Call (.Name x p) [a] [] pos) (fC1 g fa) := ⟨(pe_callTy hc hg hm hv (pa_cons ha.pe pa_nil hs) hn hdb hs (by rfl)).imp c1_imp⟩
end
/-! ### len, all, any, abs, int, tuple, list, sum -/
def gLen : PyData → Option PyData
  | .list ds => some (.int ds.length)
  | .tuple ds => some (.int ds.length)
  | .str s => if s.length ≤ sizeLine then some (.int s.length) else none
  | _ => none
def boolsOf : List PyData → Option (List Bool)
  | [] => some []
  | .bool b :: r => (boolsOf r).map (b :: ·)
  | _ => none
def gAll : PyData → Option PyData
  | .list ds => (boolsOf ds).map fun bs => .bool (bs.all id)
  | _ => none
def gAny : PyData → Option PyData
  | .list ds => (boolsOf ds).map fun bs => .bool (bs.any id)
  | _ => none
def intsOf : List PyData → Option (List Int)
  | [] => some []
  | .int b :: r => (intsOf r).map (b :: ·)
  | _ => none
def gSum : PyData → Option PyData
  | .list ds => (intsOf ds).map fun bs => .int bs.sum
  | _ => none
def gAbs : PyData → Option PyData
  | .int i => some (.int (if i < 0 then -i else i))
  | _ => none
def gInt : PyData → Option PyData
  | .int i => some (.int i)
  | .bool b => some (.int (if b then 1 else 0))
  | _ => none
def gTuple : PyData → Option PyData
  | .list ds => some (.tuple ds)
  | .tuple ds => some (.tuple ds)
  | _ => none
def gList : PyData → Option PyData
  | .list ds => some (.list ds)
  | .tuple ds => some (.list ds)
  | _ => none
section
variable {K : PySem.W.Frag} {H : Hp}
theorem bools_rel : ∀ {vs : List V} {ds : List PyData} {bs : List Bool}, DpAll K H vs ds → boolsOf ds = some bs → vs = bs.map V.bl
  | _, _, _, .nil, e => by cases e; rfl
  | _, d :: ds, bs, .cons r t, e => by
    cases d with
    | bool b =>
      have e : (boolsOf ds).map (b :: ·) = some bs := e
      obtain ⟨bs', h1, h2⟩ := Option.map_eq_some_iff.mp e
      subst h2
      rw [bools_rel t h1]
      cases r
      rfl
    | _ => cases e
theorem ints_rel : ∀ {vs : List V} {ds : List PyData} {bs : List Int}, DpAll K H vs ds → intsOf ds = some bs → vs = bs.map V.int
  | _, _, _, .nil, e => by cases e; rfl
  | _, d :: ds, bs, .cons r t, e => by
    cases d with
    | int b =>
      have e : (intsOf ds).map (b :: ·) = some bs := e
      obtain ⟨bs', h1, h2⟩ := Option.map_eq_some_iff.mp e
      subst h2
      rw [ints_rel t h1]
      cases r
      rfl
    | _ => cases e
end
section
variable {X : Cx}
theorem c_len : C1D X (.builtin "len") gLen := by
  intro pins s σ H xs us Q I r ⟨B, S, M, v, dv, d, e, hB, hM, h1, hg, k⟩
  subst e
  cases dv with
  | list ds =>
    cases hg
    obtain ⟨p, ys, e1, q1, a1⟩ := h1.lst
    exact call_len_seq pins s σ H [v] us Q I r ⟨p, ys, by rw [e1], .inl q1, by rw [dpa_len a1]; exact k _ _ (Same.refl H) (.int _)⟩
  | tuple ds =>
    cases hg
    obtain ⟨p, ys, e1, q1, a1⟩ := h1.tup
    exact call_len_seq pins s σ H [v] us Q I r ⟨p, ys, by rw [e1], .inr q1, by rw [dpa_len a1]; exact k _ _ (Same.refl H) (.int _)⟩
  | str z =>
    have hg : (if z.length ≤ sizeLine then some (PyData.int z.length) else none) = some d := hg
    by_cases hz : z.length ≤ sizeLine
    · rw [if_pos hz] at hg
      cases hg
      exact call_len_str pins s σ H [v] us Q I r ⟨z, by rw [h1.str], hz, k _ _ (Same.refl H) (.int _)⟩
    · rw [if_neg hz] at hg; cases hg
  | _ => cases hg
theorem c_all (hc : X.calm = true) : C1D X (.builtin "all") gAll := by
  intro pins s σ H xs us Q I r ⟨B, S, M, v, dv, d, e, hB, hM, h1, hg, k⟩
  subst e
  cases dv with
  | list ds =>
    obtain ⟨bs, e1, e2⟩ := Option.map_eq_some_iff.mp (show (boolsOf ds).map _ = some d from hg)
    subst e2
    obtain ⟨p, ys, e3, q1, a1⟩ := h1.lst
    exact cr_all hc pins s σ H [v] us Q I r ⟨p, bs, by rw [e3], by rw [← bools_rel a1 e1]; exact q1, k _ _ (Same.refl H) (.bl _)⟩
  | _ => cases hg
theorem c_any (hc : X.calm = true) : C1D X (.builtin "any") gAny := by
  intro pins s σ H xs us Q I r ⟨B, S, M, v, dv, d, e, hB, hM, h1, hg, k⟩
  subst e
  cases dv with
  | list ds =>
    obtain ⟨bs, e1, e2⟩ := Option.map_eq_some_iff.mp (show (boolsOf ds).map _ = some d from hg)
    subst e2
    obtain ⟨p, ys, e3, q1, a1⟩ := h1.lst
    exact cr_any hc pins s σ H [v] us Q I r ⟨p, bs, by rw [e3], by rw [← bools_rel a1 e1]; exact q1, k _ _ (Same.refl H) (.bl _)⟩
  | _ => cases hg
theorem c_sum (hc : X.calm = true) : C1D X (.builtin "sum") gSum := by
  intro pins s σ H xs us Q I r ⟨B, S, M, v, dv, d, e, hB, hM, h1, hg, k⟩
  subst e
  cases dv with
  | list ds =>
    obtain ⟨bs, e1, e2⟩ := Option.map_eq_some_iff.mp (show (intsOf ds).map _ = some d from hg)
    subst e2
    obtain ⟨p, ys, e3, q1, a1⟩ := h1.lst
    exact cr_sum hc pins s σ H [v] us Q I r ⟨p, bs, by rw [e3], by rw [← ints_rel a1 e1]; exact q1, k _ _ (Same.refl H) (.int _)⟩
  | _ => cases hg
theorem c_abs : C1D X (.builtin "abs") gAbs := by
  intro pins s σ H xs us Q I r ⟨B, S, M, v, dv, d, e, hB, hM, h1, hg, k⟩
  subst e
  cases dv with
  | int i =>
    cases hg
    exact call_abs pins s σ H [v] us Q I r ⟨i, by rw [h1.int], k _ _ (Same.refl H) (.int _)⟩
  | _ => cases hg
theorem c_int : C1D X (.type "int") gInt := by
  intro pins s σ H xs us Q I r ⟨B, S, M, v, dv, d, e, hB, hM, h1, hg, k⟩
  subst e
  cases dv with
  | int i =>
    cases hg
    exact call_int1 pins s σ H [v] us Q I r (.inl ⟨i, by rw [h1.int], k _ _ (Same.refl H) (.int _)⟩)
  | bool i =>
    cases hg
    exact call_int1 pins s σ H [v] us Q I r (.inr ⟨i, by rw [h1.bl], k _ _ (Same.refl H) (.int _)⟩)
  | _ => cases hg
theorem c_tuple : C1D X (.type "tuple") gTuple := by
  intro pins s σ H xs us Q I r ⟨B, S, M, v, dv, d, e, hB, hM, h1, hg, k⟩
  subst e
  cases dv with
  | list ds =>
    cases hg
    obtain ⟨p, ys, e1, q1, a1⟩ := h1.lst
    exact call_tuple_of pins s σ H [v] us Q I r ⟨p, ys, by rw [e1], .inl ⟨q1, fun l hl => k _ _ (same_upd hl) (new_tup hM hl a1)⟩⟩
  | tuple ds =>
    cases hg
    have hst : dV X.K M H v (.tuple ds) := by
      rcases h1 with z | ⟨_, _, _, _, e, _⟩
      · exact z
      · cases e
    obtain ⟨p, ys, e1, q1, a1⟩ := h1.tup
    rw [e1] at hst
    exact call_tuple_of pins s σ H [v] us Q I r ⟨p, ys, by rw [e1], .inr ⟨q1, k _ _ (Same.refl H) hst⟩⟩
  | _ => cases hg
theorem c_list : C1F X (.type "list") gList := by
  intro pins s σ H xs us Q I r ⟨B, S, M, v, dv, d, e, hB, hM, h1, hg, k⟩
  subst e
  cases dv with
  | list ds =>
    cases hg
    obtain ⟨p, ys, e1, q1, a1⟩ := h1.lst
    exact call_list_of pins s σ H [v] us Q I r ⟨p, ys, by rw [e1], .inl q1, fun l hl => k _ _ (same_upd hl) (new_lst hB hM hl a1)⟩
  | tuple ds =>
    cases hg
    obtain ⟨p, ys, e1, q1, a1⟩ := h1.tup
    exact call_list_of pins s σ H [v] us Q I r ⟨p, ys, by rw [e1], .inr q1, fun l hl => k _ _ (same_upd hl) (new_lst hB hM hl a1)⟩
  | _ => cases hg
end
/-! ### min(a, b), max(a, b) -/
def gMin (x y : PyData) : Option PyData := match x, y with
  | .int i, .int j => some (.int (if j < i then j else i))
  | _, _ => none
def gMax (x y : PyData) : Option PyData := match x, y with
  | .int i, .int j => some (.int (if j > i then j else i))
  | _, _ => none
section
variable {X : Cx} {ec : EC} {Ef : L2.St → XK} {O : List Nat} {a b : Expr} {fa fb : Rho → R PyData} {p pos : Pos}
theorem b2_imp {g : PyData → PyData → Option PyData} {h : Int → Int → Int} (hg : ∀ x y d, g x y = some d → ∃ i j, x = .int i ∧ y = .int j ∧ d = .int (h i j)) (σ : L2.St) (H : Hp) (Q : VK) (q : tG X.K ec Ef O (fun _ _ => dV X.K) (fBin g fa fb) σ H Q) :
    tCB (fun xs H Q => ∃ i j, xs = [.int i, .int j] ∧ Q (.int (h i j)) H) (tCons (tG X.K ec Ef O (fun _ => dB X.K) fa) (tCons (tG X.K ec Ef O (fun _ => dB X.K) fb) tNil)) σ H Q := by
  obtain ⟨B, P, Z, ρ, hE, q⟩ := q
  refine ⟨B, P, Z, ρ, hE, (Post.bind q).imp fun v H1 ⟨dx, _, s1, d1, p1⟩ => ⟨B, P, Z, ρ, hE.same s1, (Post.bind p1).imp fun u H2 ⟨dy, _, s2, d2, p2⟩ => ?_⟩⟩
  cases e : g dx dy with
  | none => rw [e] at p2; exact p2.elim
  | some d =>
    rw [e] at p2
    obtain ⟨i, j, rfl, rfl, rfl⟩ := hg _ _ _ e
    exact ⟨i, j, by rw [d1.int, d2.int], p2 _ _ (Gr.refl _) (.int _)⟩
theorem de_min2 (hc : X.calm = true) (hg : Gl X "min") (hm : X.mg "min" = none) (ha : DB X ec Ef O a fa) (hb : DB X ec Ef O b fb) (hs : starEach [a, b] X.env = (false, eval a X.env) :: starEach [b] X.env := by rfl) (hs2 : starEach [b] X.env = (false, eval b X.env) :: starEach [] X.env := by rfl)
    (hpl : (backTo pos (starEach [b] X.env)).any (·.1) = false := by rfl) : DE X ec Ef O (.Call (.Name "min" p) [a, b] [] pos) (fBin gMin fa fb) :=
  ⟨(pe_callB (call_min2 hc) hg hm (by decide +kernel) (pa_cons ha.pe (pa_cons hb.pe pa_nil hs2) hs) (by decide) (by decide) hs hpl).imp (b2_imp (h := fun i j => if j < i then j else i) fun x y d e => by
    cases x <;> cases y <;> first | exact ⟨_, _, rfl, rfl, (Option.some.inj e).symm⟩ | cases e)⟩
theorem de_max2 (hc : X.calm = true) (hg : Gl X "max") (hm : X.mg "max" = none) (ha : DB X ec Ef O a fa) (hb : DB X ec Ef O b fb) (hs : starEach [a, b] X.env = (false, eval a X.env) :: starEach [b] X.env := by rfl) (hs2 : starEach [b] X.env = (false, eval b X.env) :: starEach [] X.env := by rfl)
    (hpl : (backTo pos (starEach [b] X.env)).any (·.1) = false := by rfl) : DE X ec Ef O (.Call (.Name "max" p) [a, b] [] pos) (fBin gMax fa fb) :=
  ⟨(pe_callB (call_max2 hc) hg hm (by decide +kernel) (pa_cons ha.pe (pa_cons hb.pe pa_nil hs2) hs) (by decide) (by decide) hs hpl).imp (b2_imp (h := fun i j => if j > i then j else i) fun x y d e => by
    cases x <;> cases y <;> first | exact ⟨_, _, rfl, rfl, (Option.some.inj e).symm⟩ | cases e)⟩
/-! ### list(range(..)) -/
def rgD (a b : Int) : List PyData := (List.range (b - a).toNat).map fun i => PyData.int (a + (i : Nat))
theorem dpa_rg {K : PySem.W.Frag} {H : Hp} (a b : Int) : DpAll K H (rgV a b) (rgD a b) := by
  unfold rgV rgD
  generalize List.range (b - a).toNat = l
  induction l with
  | nil => exact .nil
  | cons x r ih => exact .cons (.int _) ih
instance (a b : Int) : Decidable (RgOk a b) := by unfold RgOk; infer_instance
def gRange (x : PyData) : Option PyData := match x with
  | .int n => if RgOk 0 n then some (.list (rgD 0 n)) else none
  | _ => none
theorem df_range {p2 pos2 : Pos} (hc : X.calm = true) (hg : Gl X "list") (hm : X.mg "list" = none) (hg2 : Gl X "range") (hm2 : X.mg "range" = none) (ha : DB X ec Ef O a fa) (na2 : starEach [a] X.env = (false, eval a X.env) :: starEach [] X.env := by rfl)
    (na : starEach [Expr.Call (.Name "range" p2) [a] [] pos2] X.env = (false, eval (.Call (.Name "range" p2) [a] [] pos2) X.env) :: starEach [] X.env := by rfl) : DF X ec Ef O (.Call (.Name "list" p) [.Call (.Name "range" p2) [a] [] pos2] [] pos) (fC1 gRange fa) :=
  ⟨(pe_listRg hc hg hm (prg_1 hg2 hm2 ha.pe na2) na).imp fun σ H Q ⟨B, P, Z, ρ, hE, q⟩ => ⟨B, P, Z, ρ, hE, (Post.bind q).imp fun v H1 ⟨dx, _, s1, d1, p1⟩ => by
    cases dx with
    | int n =>
      have p1 : Post B.S X.K ec (dF X.K H (P ++ Z)) (P ++ Z) (Ef σ) H1 Q (R.ofO (if RgOk 0 n then some (.list (rgD 0 n)) else none)) := p1
      by_cases hn : RgOk 0 n
      · rw [if_pos hn] at p1
        exact ⟨n, d1.int, hn, fun q hq => p1 _ _ (.of (same_upd hq)) (new_lst (s1.free hE.so) (hE.same s1).trk hq (dpa_rg 0 n))⟩
      · rw [if_neg hn] at p1; exact p1.elim
    | _ => exact p1.elim⟩⟩
/-! ### isinstance -/
def tyD : PyData → String
  | .none => "NoneType"
  | .bool _ => "bool"
  | .int _ => "int"
  | .str _ => "str"
  | .list _ => "list"
  | .tuple _ => "tuple"
  | .dict _ => "dict"
def isiS (T t : String) : Bool := t == T || (t == "bool" && T == "int")
def isiD (T : String) (d : PyData) : Bool := isiS T (tyD d)
/-- the built-in classes asked for here -/
def IsT (T : String) : Prop := T = "int" ∨ T = "bool" ∨ T = "str" ∨ T = "list" ∨ T = "tuple"
instance (T : String) : Decidable (IsT T) := by unfold IsT; infer_instance
theorem kit_some {K : PySem.W.Frag} {T : String} (hT : IsT T) {t : String} (ht : t ∈ ["NoneType", "bool", "int", "str", "list", "tuple", "dict"]) : PySem.W.kitOne K (.type t) (.type T) = some (isiS T t) := by
  simp only [List.mem_cons, List.not_mem_nil, or_false] at ht
  rcases hT with rfl | rfl | rfl | rfl | rfl <;> rcases ht with rfl | rfl | rfl | rfl | rfl | rfl | rfl <;> exact kit_ty (by decide +kernel)
theorem kit_all {K : PySem.W.Frag} {T : String} (hT : IsT T) (d : PyData) : PySem.W.kitOne K (.type (tyD d)) (.type T) = some (isiD T d) := kit_some hT (by cases d <;> simp [tyD])
theorem dp_ty {K : PySem.W.Frag} {H : Hp} {v : V} {d : PyData} (h : Dp K H v d) : TyX K H v (.type (tyD d)) := by
  cases h with
  | non => exact .base .non
  | bl b => exact .base (.bl b)
  | int i => exact .base (.int i)
  | str z => exact .base (.str z)
  | lst hs ha =>
    rcases hs with (h | ⟨o, h⟩) | ⟨o, its, n, h1, h2, _⟩
    · exact .base (.lst h)
    · exact .base (.frz h)
    · exact .kList h1 h2
  | tup hs ha =>
    rcases hs with (h | ⟨o, h⟩) | ⟨o, its, n, h1, h2, _⟩
    · exact .base (.tup h)
    · exact .fTuple h
    · exact .kTuple h1 h2
def fIsi (T : String) (fa : Rho → R PyData) : Rho → R PyData := fun ρ => (fa ρ).bind fun d => .ok (.bool (isiD T d))
theorem de_isi {T : String} {y : Str} {py : Pos} (hT : IsT T) (hg : Gl X "isinstance") (hm : X.mg "isinstance" = none) (hgy : Gl X y) (hmy : X.mg y = none) (hvy : bootBuiltins y = some (.type T)) (ha : DB X ec Ef O a fa) (hny : y ≠ "__name__" := by decide) (hdy : (y == ("__debug__" : Str)) = false := by decide)
    (hs : starEach [a, .Name y py] X.env = (false, eval a X.env) :: starEach [.Name y py] X.env := by rfl) (hs2 : starEach [Expr.Name y py] X.env = (false, eval (.Name y py) X.env) :: starEach [] X.env := by rfl) (hpl : (backTo pos (starEach [Expr.Name y py] X.env)).any (·.1) = false := by rfl) :
    DE X ec Ef O (.Call (.Name "isinstance" p) [a, .Name y py] [] pos) (fIsi T fa) :=
  ⟨(pe_callB call_isi hg hm (by decide +kernel) (pa_cons ha.pe (pa_cons (pe_bltn (v := .ty T) hgy hmy hvy rfl hny hdy) pa_nil hs2) hs) (by decide) (by decide) hs hpl).imp fun σ H Q ⟨B, P, Z, ρ, hE, q⟩ => ⟨B, P, Z, ρ, hE, (Post.bind q).imp fun v H1 ⟨dx, _, s1, d1, p1⟩ =>
    ⟨v, .ty T, _, _, isiD T dx, rfl, .ty T, dp_ty d1.dp, kit_all hT dx, (show Post B.S X.K ec (dV X.K (P ++ Z)) (P ++ Z) (Ef σ) H1 Q (.ok (.bool (isiD T dx))) from p1).ok (.bl _)⟩⟩⟩
end
end DL
set_option Elab.async false
set_option linter.all false
set_option maxRecDepth 100000
set_option maxHeartbeats 1000000
namespace DL
open PySem PySem.Spec PyProof.Rows L2
/-! ### iterators that yield data -/
structure ItD (K : PySem.W.Frag) (C : List Addr → Hp → Prop) (J : It) (ds : List PyData) : Prop where
  go : ∀ i M H2, C M H2 → i < ds.length → J.go i H2
  st : ∀ i M H2, C M H2 → ds.length ≤ i → J.stop i H2
  yl : ∀ i M H2 x H3 d, C M H2 → ds[i]? = some d → J.yld i H2 x H3 → Same H2 H3 ∧ Dp K (hid M H3) x d
/-- what was visible is visible -/
def C1 (G : Hp) (M : List Addr) (H2 : Hp) : Prop := Same G (hid M H2) ∧ ∀ m, m ∈ M → H2 m ≠ none
/-- the heap has grown; what is hidden more is new -/
structure C2 (S M0 : List Addr) (H1 : Hp) (M : List Addr) (H2 : Hp) : Prop where
  sub : ∀ a, a ∈ M0 → a ∈ M
  new : ∀ a, a ∈ M → a ∈ M0 ∨ H1 a = none
  fr : ∀ b o, b ∉ S → H1 b = some o → H2 b = some o
  trk : ∀ m, m ∈ M → H2 m ≠ none
  sm : ∀ a, a ∈ S → a ∈ M0
theorem C2.vis {S M0 M : List Addr} {H1 H2 : Hp} (c : C2 S M0 H1 M H2) : Same (hid M0 H1) (hid M H2) := fun b o e => by
  obtain ⟨e1, e2⟩ := hid_some e
  have nb : b ∉ M := fun z => by
    rcases c.new b z with z | z
    · exact e1 z
    · rw [z] at e2; cases e2
  rw [hid_out nb]
  exact c.fr b o (fun z => e1 (c.sm b z)) e2
theorem C2.c1 {S M0 M : List Addr} {H1 H2 : Hp} (c : C2 S M0 H1 M H2) : C1 (hid M0 H1) M H2 := ⟨c.vis, c.trk⟩
theorem dB.lst' {K : PySem.W.Frag} {S M : List Addr} {H : Hp} {v : V} {ds : List PyData} (h : dB K S M H v (.list ds)) : ∃ p vs, v = .ref p ∧ SqL K H p vs ∧ DpAll K (hid M H) vs ds ∧ ∀ M2 H2, (∀ b o, b ∉ S → H b = some o → H2 b = some o) → Same (hid M H) (hid M2 H2) → SqL K H2 p vs := by
  rcases h with h | ⟨p, vs, ds', e1, e2, e0, e3, e4⟩
  · cases h with
    | lst hs ha => exact ⟨_, _, rfl, hid_le.seq hs, ha, fun M2 H2 _ s => hid_le.seq (s.seq hs)⟩
  · cases e2; exact ⟨p, vs, e1, .inl (.inl e3), e4, fun M2 H2 f _ => .inl (.inl (f _ _ e0 e3))⟩
structure DI (X : Cx) (ec : EC) (Ef : L2.St → XK) (O : List Nat) (tg iter : Expr) (f : Rho → R (List PyData)) : Prop where
  pi : PI X tg iter (tG X.K ec Ef O (fun _ _ M H1 J ds => ItD X.K (C1 (hid M H1)) J ds) f)
structure DJ (X : Cx) (ec : EC) (Ef : L2.St → XK) (O : List Nat) (tg iter : Expr) (f : Rho → R (List PyData)) : Prop where
  pi : PI X tg iter (tG X.K ec Ef O (fun _ S M H1 J ds => ItD X.K (C2 S M H1) J ds) f)
theorem _root_.L2.PI.imp {X : Cx} {tg iter : Expr} {t t' : TI} (h : PI X tg iter t) (hi : ∀ σ H Q, t' σ H Q → t σ H Q) : PI X tg iter t' := ⟨fun pins s σ H R I hw => h.run pins s σ H R I (hi σ H R hw)⟩
section
variable {X : Cx} {ec : EC} {Ef : L2.St → XK} {O : List Nat} {tg iter a : Expr} {f : Rho → R (List PyData)} {fa : Rho → R PyData}
theorem DI.j (h : DI X ec Ef O tg iter f) : DJ X ec Ef O tg iter f := ⟨h.pi.imp fun σ H Q ⟨B, P, Z, ρ, hE, p⟩ => ⟨B, P, Z, ρ, hE, p.den fun H' v a d => ⟨fun i M H2 c => d.go i M H2 c.c1, fun i M H2 c => d.st i M H2 c.c1, fun i M H2 x H3 e c => d.yl i M H2 x H3 e c.c1⟩⟩⟩
/-- a list or a tuple -/
def iSeq (K : PySem.W.Frag) (tl : TE) : TI := fun σ H R => tl σ H fun x H1 => ∃ a, x = .ref a ∧ (((∃ xs, SqL K H1 a xs) ∧ R (Itl K a) H1) ∨ ((∃ xs, SqT K H1 a xs) ∧ R (Itt K a) H1))
theorem pi_seq {l : Expr} {tl : TE} (hl : PE X l tl) : PI X tg l (iSeq X.K tl) := by
  refine ⟨fun pins s σ H R I h => thn (hl.run pins s σ H _ I h) fun v s1 ⟨x, H1, I1, r1, a, e, q⟩ => ?_⟩
  subst e
  cases r1
  have fresh : ∀ {tk : Nat} (ob : Obj), L2.Inv X pins σ H1 { s1 with heap := s1.heap.push ob, toks := tk } := fun {tk} ob => I1.kept fun b o e => Heap.get?_push_of_some _ e
  have fp : ∀ b, b ∈ [s1.heap.objs.size] → FpOk X pins H1 b := fun b hb => by
    have e : b = s1.heap.objs.size := by simpa using hb
    subst e
    exact I1.fpOk (Nat.le_refl _) (I1.hok.fresh (Nat.le_refl _))
  rcases q with ⟨⟨xs, hq⟩, q⟩ | ⟨⟨xs, hq⟩, q⟩
  · obtain ⟨its, rv, p, hz⟩ := I1.list hq
    refine wpAny_pyIter_list p.isList ?_
    exact ⟨s1.heap.objs.size, [s1.heap.objs.size], _, _, H1, rfl, fresh (tk := s1.toks) _, turn_list a _, ⟨_, Heap.get?_push_size _ rfl, rfl, rfl⟩, fp, q⟩
  · obtain ⟨its, rv, p, hz⟩ := I1.tuple hq
    refine wpAny_pyIter_tuple (show s1.heap.IsTuple a its.toArray from p) ?_
    exact ⟨s1.heap.objs.size, [s1.heap.objs.size], _, _, H1, rfl, fresh (tk := s1.toks) _, turn_tuple a _, ⟨_, Heap.get?_push_size _ rfl, rfl, rfl⟩, fp, q⟩
theorem it_list {K : PySem.W.Frag} {C : List Addr → Hp → Prop} {a : Addr} {vs : List V} {ds : List PyData} (h : ∀ M H2, C M H2 → SqL K H2 a vs ∧ DpAll K (hid M H2) vs ds) : ItD K C (Itl K a) ds := by
  refine ⟨fun i M H2 c hi => ?_, fun i M H2 c hi => ?_, fun i M H2 x H3 d c e y => ?_⟩
  · obtain ⟨h1, h2⟩ := h M H2 c
    have hl : i < vs.length := by rw [dpa_len h2]; exact hi
    exact ⟨vs, vs[i], h1, by simp [hl]⟩
  · obtain ⟨h1, h2⟩ := h M H2 c
    exact ⟨vs, h1, by rw [dpa_len h2]; exact hi⟩
  · obtain ⟨h1, h2⟩ := h M H2 c
    obtain ⟨e1, y⟩ := y
    subst e1
    obtain ⟨d', e2, e3⟩ := dpa_get h2 (y vs h1)
    rw [e] at e2
    cases e2
    exact ⟨Same.refl _, e3⟩
theorem it_tup {K : PySem.W.Frag} {C : List Addr → Hp → Prop} {a : Addr} {vs : List V} {ds : List PyData} (h : ∀ M H2, C M H2 → SqT K H2 a vs ∧ DpAll K (hid M H2) vs ds) : ItD K C (Itt K a) ds := by
  refine ⟨fun i M H2 c hi => ?_, fun i M H2 c hi => ?_, fun i M H2 x H3 d c e y => ?_⟩
  · obtain ⟨h1, h2⟩ := h M H2 c
    have hl : i < vs.length := by rw [dpa_len h2]; exact hi
    exact ⟨vs, vs[i], h1, by simp [hl]⟩
  · obtain ⟨h1, h2⟩ := h M H2 c
    exact ⟨vs, h1, by rw [dpa_len h2]; exact hi⟩
  · obtain ⟨h1, h2⟩ := h M H2 c
    obtain ⟨e1, y⟩ := y
    subst e1
    obtain ⟨d', e2, e3⟩ := dpa_get h2 (y vs h1)
    rw [e] at e2
    cases e2
    exact ⟨Same.refl _, e3⟩
def seqOf (d : PyData) : R (List PyData) := match d with
  | .list ds => .ok ds
  | .tuple ds => .ok ds
  | _ => .bad
theorem di_seq (ha : DE X ec Ef O a fa) : DI X ec Ef O tg a (fun ρ => (fa ρ).bind seqOf) := ⟨(pi_seq ha.pe).imp fun σ H Q ⟨B, P, Z, ρ, hE, q⟩ => ⟨B, P, Z, ρ, hE, (Post.bind q).imp fun v H1 ⟨dx, _, s1, d1, p1⟩ => by
  cases dx with
  | list ds =>
    cases d1 with
    | lst hs ha =>
      exact ⟨_, rfl, .inl ⟨⟨_, hid_le.seq hs⟩, p1.ok (a := ds) (it_list fun M H2 c => ⟨hid_le.seq (c.1.seq hs), dpa_mono c.1 ds _ ha⟩)⟩⟩
  | tuple ds =>
    cases d1 with
    | tup hs ha =>
      exact ⟨_, rfl, .inr ⟨⟨_, same_seqT hid_le hs⟩, p1.ok (a := ds) (it_tup fun M H2 c => ⟨same_seqT hid_le (same_seqT c.1 hs), dpa_mono c.1 ds _ ha⟩)⟩⟩
  | _ => exact p1.elim⟩⟩
theorem dj_seq (ha : DB X ec Ef O a fa) : DJ X ec Ef O tg a (fun ρ => (fa ρ).bind seqOf) := ⟨(pi_seq ha.pe).imp fun σ H Q ⟨B, P, Z, ρ, hE, q⟩ => ⟨B, P, Z, ρ, hE, (Post.bind q).imp fun v H1 ⟨dx, _, s1, d1, p1⟩ => by
  cases dx with
  | list ds =>
    obtain ⟨p, xs, rfl, q1, a1, a2⟩ := d1.lst'
    exact ⟨_, rfl, .inl ⟨⟨_, q1⟩, p1.ok (a := ds) (it_list fun M H2 c => ⟨a2 M H2 c.fr c.vis, dpa_mono c.vis ds _ a1⟩)⟩⟩
  | tuple ds =>
    have d1 : Dp X.K (hid (P ++ Z) H1) v (.tuple ds) := by
      rcases d1 with z | ⟨_, _, _, _, e, _⟩
      · exact z
      · cases e
    cases d1 with
    | tup hs ha =>
      exact ⟨_, rfl, .inr ⟨⟨_, same_seqT hid_le hs⟩, p1.ok (a := ds) (it_tup fun M H2 c => ⟨same_seqT hid_le (same_seqT c.vis hs), dpa_mono c.vis ds _ ha⟩)⟩⟩
  | _ => exact p1.elim⟩⟩
/-- range(n) -/
def rgOf (d : PyData) : R (List PyData) := match d with
  | .int n => if -(2 ^ 62) ≤ n ∧ n < 2 ^ 62 then .ok (rgD 0 n) else .bad
  | _ => .bad
theorem it_range {K : PySem.W.Frag} {C : List Addr → Hp → Prop} (a b : Int) : ItD K C (Itr a (b - a).toNat) (rgD a b) := by
  have hl : (rgD a b).length = (b - a).toNat := by unfold rgD; rw [List.length_map, List.length_range]
  refine ⟨fun i M H2 c hi => (by rw [hl] at hi; exact hi), fun i M H2 c hi => (by rw [hl] at hi; exact hi), fun i M H2 x H3 d c e y => ?_⟩
  obtain ⟨e1, e2⟩ := y
  subst e1 e2
  refine ⟨Same.refl _, ?_⟩
  unfold rgD at e
  rw [List.getElem?_map] at e
  obtain ⟨j, h1, h2⟩ := Option.map_eq_some_iff.mp e
  obtain ⟨h3, h4⟩ := List.getElem?_eq_some_iff.mp h1
  rw [List.getElem_range] at h4
  subst h4 h2
  exact .int _
theorem di_range {p pos : Pos} (hg : Gl X "range") (hm : X.mg "range" = none) (ha : DB X ec Ef O a fa) (hs1 : starEach [a] X.env = (false, eval a X.env) :: starEach [] X.env := by rfl) (hs : starEach [a] X.env = [(false, eval a X.env)] := by rfl) :
    DI X ec Ef O tg (.Call (.Name "range" p) [a] [] pos) (fun ρ => (fa ρ).bind rgOf) := ⟨(pi_range1 hg hm (pa_cons ha.pe pa_nil hs1) hs).imp fun σ H Q ⟨B, P, Z, ρ, hE, q⟩ => ⟨B, P, Z, ρ, hE, (Post.bind q).imp fun v H1 ⟨dx, _, s1, d1, p1⟩ => by
  cases dx with
  | int n =>
    unfold rgOf at p1
    by_cases hn : -(2 ^ 62) ≤ n ∧ n < 2 ^ 62
    · simp only [hn, and_self, if_true] at p1
      have e := it_range (K := X.K) (C := C1 (hid (P ++ Z) H1)) 0 n
      rw [Int.sub_zero] at e
      exact ⟨n, by rw [d1.int], hn.1, hn.2, p1.ok e⟩
    · simp only [hn, if_false] at p1
      exact p1.elim
  | _ => exact p1.elim⟩⟩
end
/-! ### targets -/
def wipeR (ρ : Rho) : List Nat → Rho
  | [] => ρ
  | v :: vs => (wipeR ρ vs).set v none
/-- what a target does -/
def DGo (K : PySem.W.Frag) (S : List Nat) (t : PyData → Rho → Option Rho) (g : TG) : Prop := ∀ (B : BB) O P Z σ H ρ d v (Q : L2.St → Hp → Prop), (∀ i, i ∈ S → i ∉ O) → EnvOk K B O P Z σ H ρ → Dp K (hid (P ++ Z) H) v d →
    ∀ ρ', t d ρ = some ρ' → (∀ σ', EnvOk K B O P Z σ' H ρ' → (∀ vs, (∀ i, i ∈ S → i ∈ vs) → wipe σ' vs = wipe σ vs) → Q σ' H) → g v σ H Q
structure DG (X : Cx) (S : List Nat) (tg : Expr) (t : PyData → Rho → Option Rho) : Prop where
  ex : ∃ g, PG X tg g ∧ DGo X.K S t g
theorem wipe_set {σ : L2.St} {i : Nat} {o : Option V} : ∀ {vs : List Nat}, i ∈ vs → wipe (σ.set i o) vs = wipe σ vs
  | v :: vs, h => by
    have L : ∀ (w : List Nat), (wipe (σ.set i o) w).set i none = (wipe σ w).set i none := by
      intro w
      induction w with
      | nil => exact List.set_set ..
      | cons u w ih =>
        show ((wipe (σ.set i o) w).set u none).set i none = ((wipe σ w).set u none).set i none
        by_cases e : u = i
        · subst e
          rw [List.set_set, List.set_set]; exact ih
        · rw [List.set_comm _ _ e, List.set_comm _ _ e, ih]
    rcases List.mem_cons.mp h with e | h
    · subst e
      exact L vs
    · show (wipe (σ.set i o) vs).set v none = (wipe σ vs).set v none
      rw [wipe_set h]
def tg1 (i : Nat) : PyData → Rho → Option Rho := fun d ρ => some (ρ.set i (some (.d d)))
def tg2 (i j : Nat) : PyData → Rho → Option Rho := fun d ρ => match d with
  | .tuple [a, b] => some ((ρ.set i (some (.d a))).set j (some (.d b)))
  | _ => none
section
variable {X : Cx} {pos p1 p2 : Pos} {x y : Str} {i j k : Nat}
theorem dg_name (h : PG X (.Name x pos) (gName i)) : DG X [i] (.Name x pos) (tg1 i) := ⟨_, h, fun B O P Z σ H ρ d v Q hS hE hv ρ' ht hq => by
  cases ht
  exact hq _ (hE.setV (hS i (by simp)) hv) fun vs hvs => wipe_set (hvs i (by simp))⟩
theorem dg_tup2 (hc : X.calm = true) (h1 : PG X (.Name x p1) (gName i)) (h2 : PG X (.Name y p2) (gName j))
    (hs : (assignEach [Expr.Name x p1, .Name y p2] X.env).map (·.2) = assign (.Name x p1) X.env :: (assignEach [Expr.Name y p2] X.env).map (·.2) := by rfl) (hs2 : (assignEach [Expr.Name y p2] X.env).map (·.2) = assign (.Name y p2) X.env :: (assignEach [] X.env).map (·.2) := by rfl)
    (hn : (assignEach [Expr.Name x p1, .Name y p2] X.env).length = 2 := by rfl) (hst : (assignEach [Expr.Name x p1, .Name y p2] X.env).findIdx? (·.1) = none := by rfl) :
    DG X [i, j] (.Tuple [.Name x p1, .Name y p2] k pos) (tg2 i j) := ⟨_, pg_tup hc (pgs_cons h1 (pgs_cons h2 pgs_nil hs2) hs) hn hst, fun B O P Z σ H ρ d v Q hS hE hv ρ' ht hq => by
  cases d with
  | tuple ds =>
    match ds, ht with
    | [a, b], ht =>
      cases ht
      cases hv with
      | tup hs ha =>
        cases ha with
        | cons r1 t =>
          cases t with
          | cons r2 t =>
            cases t
            refine ⟨_, _, rfl, same_seqT hid_le hs, rfl, _, _, rfl, _, _, rfl, rfl, ?_⟩
            refine hq _ ((hE.setV (hS i (by simp)) r1).setV (hS j (by simp)) r2) fun vs hvs => ?_
            rw [wipe_set (hvs j (by simp)), wipe_set (hvs i (by simp))]
  | _ => cases ht⟩
end
/-! ### for -/
def forL (b : PyData → Rho → R Fl) : List PyData → Rho → R Fl
  | [], ρ => .ok (.nx ρ)
  | d :: ds, ρ => (b d ρ).bind fun f => match f with
    | .nx ρ' => forL b ds ρ'
    | .ct ρ' => forL b ds ρ'
    | .bk ρ' => .ok (.nx ρ')
    | .rt e ρ' => .ok (.rt e ρ')
    | .rf e ρ' => .ok (.rf e ρ')
def fFor (fi : Rho → R (List PyData)) (t : PyData → Rho → Option Rho) (g : Rho → R Fl) : Rho → R Fl := fun ρ => (fi ρ).bind fun ds => forL (fun d ρ => (R.ofO (t d ρ)).bind g) ds ρ
section
variable {K : PySem.W.Frag} {B : BB} {G H : Hp} {O : List Nat} {P Z : List Addr} {σ : L2.St} {ρ : Rho}
theorem EnvOk.back (h : EnvOk K ⟨B.1, G, B.S⟩ O P Z σ H ρ) (s : Same B.2 G) : EnvOk K B O P Z σ H ρ := ⟨h.len, h.bs, s.trans h.gs, h.own, h.nd, h.pb, h.zt, h.pz, h.sz, h.sb, h.so, h.src, h.fns, h.oth⟩
theorem EnvOk.here (h : EnvOk K B O P Z σ H ρ) : EnvOk K ⟨B.1, hid (P ++ Z) H, B.S⟩ O P Z σ H ρ := ⟨h.len, h.bs, Same.refl _, h.own, h.nd, h.pb, h.zt, h.pz, h.sz, h.sb, h.so, h.src, h.fns, h.oth⟩
end
section
variable {X : Cx} {ec : EC} {Ef : L2.St → XK} {io Ol O S : List Nat} {tg iter : Expr} {fi : Rho → R (List PyData)} {t : PyData → Rho → Option Rho} {g : Rho → R Fl} {body : List Stmt} {pos : Pos}
theorem ds_for (fl : Flat Ef) (hp : PassesOwn (model X.prog X.w) X.A X.env X.xe) (hc : X.calm = true) (hi : DI X ec Ef O tg iter fi) (hg : DG X S tg t) (hb : DSs X ec Ef io O O O body g) (hS : ∀ i, i ∈ S → i ∉ O := by decide)
    (hs : ∀ x, foldedSetIterable iter X.env x = pure x := by intro _; rfl) : DS X ec Ef io Ol O O (.For tg iter body [] pos) (fFor fi t g) := by
  obtain ⟨gg, hgg, hgo⟩ := hg.ex
  refine ⟨(ps_for hp hc hi.pi hgg hb.ps hs).imp fun D σ H ⟨B, P, Z, ρ, hE, q⟩ => ⟨B, P, Z, ρ, hE, PostS.of fl hE q fun ds J H1 _ s1 d1 hE1 q1 => ?_⟩⟩
  have hvis : Same B.2 (hid (P ++ Z) H1) := hE1.gs
  have cc : ∀ {P2 : List Addr} {σ2 : L2.St} {H2 : Hp} {ρ2 : Rho}, EnvOk X.K ⟨B.1, hid (P ++ Z) H1, B.S⟩ O P2 Z σ2 H2 ρ2 → C1 (hid (P ++ Z) H1) (P2 ++ Z) H2 := fun e => ⟨e.gs, e.trk⟩
  refine ⟨fun i m σ2 H2 => m = ds.length - i ∧ i ≤ ds.length ∧ ∃ P2 ρ2, EnvOk X.K ⟨B.1, hid (P ++ Z) H1, B.S⟩ O P2 Z σ2 H2 ρ2 ∧ PostS X.K ec Ef B Z io Ol O D (forL (fun d ρ => (R.ofO (t d ρ)).bind g) (ds.drop i) ρ2), ⟨ds.length, by omega, Nat.zero_le _, P, ρ, hE1.here, q1⟩, ?_⟩
  rintro i m σ2 H2 ⟨rfl, hi, P2, ρ2, hE2, q2⟩
  by_cases hlt : i < ds.length
  · have hd : ds[i]? = some ds[i] := by simp [hlt]
    rw [List.drop_eq_getElem_cons hlt] at q2
    refine .inr ⟨d1.go i _ H2 (cc hE2) hlt, fun σ' H' => ∃ P' ρ', EnvOk X.K ⟨B.1, hid (P ++ Z) H1, B.S⟩ O P' Z σ' H' ρ' ∧ PostS X.K ec Ef B Z io Ol O D (forL (fun d ρ => (R.ofO (t d ρ)).bind g) (ds.drop (i + 1)) ρ'), fun σ' H' ⟨P', ρ', hE', q'⟩ => ⟨ds.length - (i + 1), by omega, rfl, hlt, P', ρ', hE', q'⟩, fun x H3 y => ?_⟩
    obtain ⟨s3, d3⟩ := d1.yl i _ H2 x H3 ds[i] (cc hE2) hd y
    have q3 : PostS X.K ec Ef B Z io Ol O D (((R.ofO (t ds[i] ρ2)).bind g).bind fun f => match f with
      | .nx ρ' => forL (fun d ρ => (R.ofO (t d ρ)).bind g) (ds.drop (i + 1)) ρ'
      | .ct ρ' => forL (fun d ρ => (R.ofO (t d ρ)).bind g) (ds.drop (i + 1)) ρ'
      | .bk ρ' => .ok (.nx ρ')
      | .rt e ρ' => .ok (.rt e ρ')
      | .rf e ρ' => .ok (.rf e ρ')) := q2
    cases ht : t ds[i] ρ2 with
    | none => rw [ht] at q3; exact q3.elim
    | some ρ3 =>
      rw [ht] at q3
      refine hgo ⟨B.1, hid (P ++ Z) H1, B.S⟩ O P2 Z σ2 H3 ρ2 ds[i] x _ hS (hE2.same (.of s3)) d3 ρ3 ht fun σ4 hE4 _ => ⟨⟨B.1, hid (P ++ Z) H1, B.S⟩, P2, Z, ρ3, hE4, ?_⟩
      have q3 : PostS X.K ec Ef B Z io Ol O D ((g ρ3).bind fun f => match f with
        | .nx ρ' => forL (fun d ρ => (R.ofO (t d ρ)).bind g) (ds.drop (i + 1)) ρ'
        | .ct ρ' => forL (fun d ρ => (R.ofO (t d ρ)).bind g) (ds.drop (i + 1)) ρ'
        | .bk ρ' => .ok (.nx ρ')
        | .rt e ρ' => .ok (.rt e ρ')
        | .rf e ρ' => .ok (.rf e ρ')) := q3
      unfold PostS at q3
      rw [R.wp_bind] at q3
      refine R.wp_imp q3 (fun f q3 => ?_) (fun c z q3 => q3)
      cases f with
      | nx ρ' => exact fun σ' P' H' hE' => ⟨P', ρ', hE', q3⟩
      | ct ρ' => exact fun σ' P' H' hE' => ⟨P', ρ', hE', q3⟩
      | bk ρ' => exact fun σ' P' H' hE' => (show PostS X.K ec Ef B Z io Ol O D (.ok (.nx ρ')) from q3) _ _ _ (hE'.back hvis)
      | rf e ρ' => exact fun v σ' P' H' hE' hv => (show PostS X.K ec Ef B Z io Ol O D (.ok (.rf e ρ')) from q3) _ _ _ _ (hE'.back hvis) hv
      | rt e ρ' => exact fun v σ' P' H' hE' hv => (show PostS X.K ec Ef B Z io Ol O D (.ok (.rt e ρ')) from q3) _ _ _ _ (hE'.back hvis) hv
  · have e : i = ds.length := by omega
    subst e
    rw [List.drop_length] at q2
    exact .inl ⟨d1.st _ _ H2 (cc hE2) (Nat.le_refl _), (show PostS X.K ec Ef B Z io Ol O D (.ok (.nx ρ2)) from q2) _ _ _ (hE2.back hvis)⟩
end
end DL
set_option Elab.async false
set_option linter.all false
set_option maxRecDepth 100000
set_option maxHeartbeats 1000000
namespace DL
open PySem PySem.Spec PyProof.Rows L2
/-! ### no exceptions -/
def R.noX {α : Type} : R α → R α
  | .ok a => .ok a
  | .exc _ _ => .bad
  | .bad => .bad
  | .pick P k => .pick P fun d => (k d).noX
@[simp] theorem R.noX_ok {α : Type} (a : α) : (R.ok a).noX = .ok a := rfl
@[simp] theorem R.noX_exc {α : Type} (c : Nat) (x : Option PyData) : (R.exc c x : R α).noX = .bad := rfl
@[simp] theorem R.noX_bad {α : Type} : (R.bad : R α).noX = .bad := rfl
@[simp] theorem R.noX_pick {α : Type} (P : PyData → Prop) (k : PyData → R α) : (R.pick P k).noX = .pick P fun d => (k d).noX := rfl
theorem R.wp_noX {α : Type} (r : R α) (Q : α → Prop) (E : Nat → Option PyData → Prop) : r.noX.wp Q E = r.wp Q (fun _ _ => False) := by
  induction r with
  | pick P f ih => simp only [R.noX_pick, R.wp_pick]; exact forall_congr fun d => by rw [ih d]
  | _ => rfl
@[simp] theorem R.noX_bind {α β : Type} (r : R α) (k : α → R β) : (r.bind k).noX = r.noX.bind fun a => (k a).noX := by
  induction r with
  | pick P f ih => simp only [R.pick_bind, R.noX_pick]; congr 1; funext d; exact ih d
  | _ => rfl
def E0 : XK := fun _ _ _ => False
theorem passE0 {X : Cx} : PassE X (fun _ => E0) := fun σ pins H s e s' I ⟨_, _, _, _, _, _, _, _, _, _, _, _, h⟩ => h.elim
/-! ### the block -/
theorem Gr.mk2 {S M : List Addr} {H H' : Hp} (hs : ∀ a, a ∈ S → a ∈ M) (fr : ∀ b o, b ∉ S → H b = some o → H' b = some o) (so : SrcOk S H') : Gr S M H H' := ⟨fr, fun b o e => by
  obtain ⟨h1, h2⟩ := hid_some e
  rw [hid_out h1]
  exact fr b o (fun z => h1 (hs b z)) h2, fun _ => so⟩
theorem Gr.trk {S M : List Addr} {H H' : Hp} (so : SrcOk S H) (s : Gr S M H H') {a : Addr} (h : H a ≠ none) : H' a ≠ none := fun e => h (s.free so a e)
theorem wipe_wipe {σ : L2.St} : ∀ (us vs : List Nat), (∀ u, u ∈ us → u ∈ vs) → wipe (wipe σ us) vs = wipe σ vs
  | [], vs, _ => rfl
  | u :: us, vs, h => by
    show wipe ((wipe σ us).set u none) vs = wipe σ vs
    rw [wipe_set (h u List.mem_cons_self)]
    exact wipe_wipe us vs fun w hw => h w (List.mem_cons_of_mem _ hw)
theorem wipe_get {σ : L2.St} {i : Nat} : ∀ {vs : List Nat}, i ∉ vs → (wipe σ vs)[i]? = σ[i]?
  | [], _ => rfl
  | v :: vs, h => by
    have h' : i ≠ v ∧ i ∉ vs := by simpa only [List.mem_cons, not_or] using h
    show ((wipe σ vs).set v none)[i]? = _
    rw [List.getElem?_set_ne (Ne.symm h'.1)]
    exact wipe_get h'.2
theorem wipeR_len {ρ : Rho} : ∀ vs : List Nat, (wipeR ρ vs).length = ρ.length
  | [] => rfl
  | v :: vs => by unfold wipeR; rw [List.length_set, wipeR_len vs]
theorem wipeR_get {ρ : Rho} {i : Nat} : ∀ {vs : List Nat}, i ∉ vs → (wipeR ρ vs)[i]? = ρ[i]?
  | [], _ => rfl
  | v :: vs, h => by
    have h' : i ≠ v ∧ i ∉ vs := by simpa only [List.mem_cons, not_or] using h
    show ((wipeR ρ vs).set v none)[i]? = _
    rw [List.getElem?_set_ne (Ne.symm h'.1)]
    exact wipeR_get h'.2
theorem wipeR_some {ρ : Rho} {i : Nat} {x : SV} : ∀ {vs : List Nat}, (wipeR ρ vs)[i]? = some (some x) → ρ[i]? = some (some x) ∧ i ∉ vs
  | [], h => ⟨h, by simp⟩
  | v :: vs, h => by
    unfold wipeR at h
    rcases set_get h with ⟨_, e⟩ | ⟨ne, h⟩
    · cases e
    · obtain ⟨h1, h2⟩ := wipeR_some h
      exact ⟨h1, by simp only [List.mem_cons, not_or]; exact ⟨Ne.symm ne, h2⟩⟩
section
variable {K : PySem.W.Frag} {B : BB} {H H' : Hp} {O : List Nat} {P Z : List Addr} {σ : L2.St} {ρ : Rho}
/-- within a block: the new list is another's, the block's names are forgotten -/
theorem EnvOk.blk (h : EnvOk K B O P Z σ H ρ) {D : Addr} {o : HO} (hD : H D = none) {vs : List Nat} (hv : ∀ i, i ∈ vs → i ∉ O) :
    EnvOk K ⟨fun _ => none, fun _ => none, B.S⟩ O P (D :: Z) (wipe σ vs) (upd H D o) (wipeR ρ vs) := by
  have nt : ∀ m, m ∈ P ++ Z → m ≠ D := fun m hm e => h.trk m hm (e ▸ hD)
  have nD : ∀ b u, H b = some u → b ≠ D := fun b u e => ne_of_none e hD
  have vis : Same (hid (P ++ Z) H) (hid (P ++ D :: Z) (upd H D o)) := fun b u e => by
    obtain ⟨e1, e2⟩ := hid_some e
    have hb : b ∉ P ++ D :: Z := fun z => by
      rcases List.mem_append.mp z with z | z
      · exact e1 (List.mem_append_left _ z)
      · rcases List.mem_cons.mp z with z | z
        · exact nD b u e2 z
        · exact e1 (List.mem_append_right _ z)
    rw [hid_out hb, upd_ne (nD b u e2)]
    exact e2
  refine ⟨by rw [wipeR_len, wipe_length]; exact h.len, (fun b u e => by cases e), (fun b u e => by cases e), ?_, h.nd, fun _ _ => rfl, fun z hz q => ?_, fun p hp z => ?_, fun a ha => List.mem_cons_of_mem _ (h.sz a ha), fun _ _ => rfl, fun a ha => ?_, fun i hi e => ?_, fun i x hi e => ?_, fun i d hi e => ?_⟩
  · have key : ∀ {l : List Nat} {m : List Addr}, (∀ j, j ∈ l → j ∈ O) → (∀ q, q ∈ m → q ∈ P) → Paired (Own1 K (P ++ Z) H σ ρ) l m → Paired (Own1 K (P ++ D :: Z) (upd H D o) (wipe σ vs) (wipeR ρ vs)) l m := by
      intro l m hl hm pr
      induction pr with
      | nil => exact .nil
      | @cons j q l m r t ih =>
        obtain ⟨x1, o', d', x2, x3, x4⟩ := r
        have nj : j ∉ vs := fun z => hv j z (hl _ List.mem_cons_self)
        exact .cons ⟨by rw [wipe_get nj]; exact x1, o', d', by rw [wipeR_get nj]; exact x2, by rw [upd_ne (nD _ _ x3)]; exact x3, x4.mono vis⟩ (ih (fun j hj => hl j (List.mem_cons_of_mem _ hj)) fun j hj => hm j (List.mem_cons_of_mem _ hj))
    exact key (fun _ z => z) (fun _ z => z) h.own
  · rcases List.mem_cons.mp hz with e | hz
    · rw [e, upd_same] at q; cases q
    · rw [upd_ne (nt z (List.mem_append_right _ hz))] at q
      exact h.zt z hz q
  · rcases List.mem_cons.mp z with e | z
    · exact nt p (List.mem_append_left _ hp) e
    · exact h.pz p hp z
  · obtain ⟨x, y, x1, x2, x3⟩ := h.so a ha
    exact ⟨x, y, x1, x2, by rw [upd_ne (nD _ _ x3)]; exact x3⟩
  · obtain ⟨e1, ni⟩ := wipeR_some e
    obtain ⟨a, x1, x2⟩ := h.src i hi e1
    exact ⟨a, x1, by rw [wipe_get ni]; exact x2⟩
  · obtain ⟨e1, ni⟩ := wipeR_some e
    rw [wipe_get ni]; exact h.fns i x hi e1
  · obtain ⟨e1, ni⟩ := wipeR_some e
    obtain ⟨v, x1, x2⟩ := h.oth i d hi e1
    exact ⟨v, by rw [wipe_get ni]; exact x1, dp_mono vis d v x2⟩
theorem hid_upd {M : List Addr} {H : Hp} {p : Addr} {o : HO} (hp : p ∈ M) : hid M (upd H p o) = hid M H := by
  funext b
  by_cases hb : b ∈ M
  · rw [hid_in hb, hid_in hb]
  · have nb : b ≠ p := fun e => hb (e ▸ hp)
    rw [hid_out hb, hid_out hb, upd_ne nb]
/-- what is another's is changed -/
theorem EnvOk.hidU (h : EnvOk K B O P Z σ H ρ) {D : Addr} {o : HO} (hD : D ∈ Z) (hS : D ∉ B.S) (hB : B.1 D = none) : EnvOk K B O P Z σ (upd H D o) ρ := by
  have hm : D ∈ P ++ Z := List.mem_append_right _ hD
  refine ⟨h.len, fun b u e => ?_, by rw [hid_upd hm]; exact h.gs, Paired.mapPR h.own fun i p hp ⟨x1, o', d', x2, x3, x4⟩ => ⟨x1, o', d', x2, ?_, ?_⟩, h.nd, h.pb, fun z hz q => ?_, h.pz, h.sz, h.sb, fun a ha => ?_, h.src, h.fns, fun i d hi e => ?_⟩
  · have nb : b ≠ D := fun z => by rw [z, hB] at e; cases e
    rw [upd_ne nb]; exact h.bs b u e
  · have np : p ≠ D := fun z => h.pz p hp (z ▸ hD)
    rw [upd_ne np]; exact x3
  · exact x4.mono (by rw [hid_upd hm]; exact Same.refl _)
  · by_cases e : z = D
    · rw [e, upd_same] at q; cases q
    · rw [upd_ne e] at q; exact h.zt z hz q
  · obtain ⟨x, y, x1, x2, x3⟩ := h.so a ha
    have na : a ≠ D := fun e => hS (e ▸ ha)
    exact ⟨x, y, x1, x2, by rw [upd_ne na]; exact x3⟩
  · obtain ⟨v, x1, x2⟩ := h.oth i d hi e
    exact ⟨v, x1, by rw [hid_upd hm]; exact x2⟩
end
/-! ### tests -/
structure DTs (X : Cx) (ec : EC) (Ef : L2.St → XK) (O : List Nat) (ifs : List Expr) (f : Rho → R Bool) : Prop where
  pt : PTs X ifs (tG X.K ec Ef O (fun _ _ _ => dT) f)
theorem _root_.L2.PTs.imp {X : Cx} {e : List Expr} {t t' : TT} (h : PTs X e t) (hi : ∀ σ H Q, t' σ H Q → t σ H Q) : PTs X e t' := ⟨fun pins s σ H Q I hw => h.run pins s σ H Q I (hi σ H Q hw)⟩
section
variable {X : Cx} {ec : EC} {Ef : L2.St → XK} {O : List Nat}
theorem dts_nil : DTs X ec Ef O [] (fun _ => .ok true) := ⟨pts_nil.imp fun σ H Q ⟨B, P, Z, ρ, hE, p⟩ => (show Post B.S X.K ec dT (P ++ Z) (Ef σ) H Q (.ok true) from p).ok rfl⟩
theorem dts_one {c : Expr} {f : Rho → R Bool} (h : DT X ec Ef O c f) : DTs X ec Ef O [c] f := ⟨pts_one h.pt⟩
end
/-! ### [e for x in xs if c] -/
def compL (t : PyData → Rho → Option Rho) (ft : Rho → R Bool) (fe : Rho → R PyData) (ρ : Rho) : List PyData → R (List PyData)
  | [] => .ok []
  | d :: ds => (R.ofO (t d ρ)).bind fun ρ1 => (ft ρ1).bind fun b => if b = true then (fe ρ1).bind fun y => (compL t ft fe ρ ds).bind fun ys => .ok (y :: ys) else compL t ft fe ρ ds
def fComp (vs : List Nat) (fi : Rho → R (List PyData)) (t : PyData → Rho → Option Rho) (ft : Rho → R Bool) (fe : Rho → R PyData) : Rho → R PyData := fun ρ => (fi ρ).bind fun ds =>
  if ds.length ≤ sizeLine then (compL t ft fe (wipeR ρ vs) ds).noX.bind fun ys => .ok (.list ys) else .bad
abbrev blkX (X : Cx) (scope : Scope) (s : Shared) (H : Hp) (C : Addr) (cl : List (Str × Addr)) (fp : List Addr) : Cx := X.blk s H scope (compEnvC scope cl C X.env) fp
section
variable {X : Cx} {ec : EC} {Ef : L2.St → XK} {O S : List Nat} {tg iter elt : Expr} {ifs : List Expr} {scope : Scope} {own : List (Str × Nat)} {pos : Pos} {fi : Rho → R (List PyData)} {t : PyData → Rho → Option Rho} {ft : Rho → R Bool} {fe : Rho → R PyData}
theorem comp_imp {gg : TG} (hv : ∀ i, i ∈ own.map (·.2) → i ∉ O) (hSv : ∀ i, i ∈ S → i ∈ own.map (·.2)) (hgo : DGo X.K S t gg) (σ : L2.St) (H : Hp) (Q : VK)
    (h : tG X.K ec Ef O (fun H _ => dF X.K H) (fComp (own.map (·.2)) fi t ft fe) σ H Q) :
    tLc (tG X.K ec Ef O (fun _ S M H1 J ds => ItD X.K (C2 S M H1) J ds) fi) gg (tG X.K ec (fun _ => E0) O (fun _ _ _ => dT) ft) (tG X.K ec (fun _ => E0) O (fun _ _ => dV X.K) fe) (own.map (·.2)) σ H Q := by
  obtain ⟨B, P, Z, ρ, hE, q⟩ := h
  refine ⟨B, P, Z, ρ, hE, (Post.bind q).imp fun J H1 ⟨ds, _, s1, d1, p1⟩ D hD => ?_⟩
  have hE1 := hE.same s1
  by_cases hl : ds.length ≤ sizeLine
  · rw [if_pos hl] at p1
    have hDM : D ∉ P ++ Z := fun z => hE1.trk D z hD
    have hDS : D ∉ B.S := fun z => hDM (List.mem_append_right _ (hE1.sz D z))
    generalize hvs : own.map (·.2) = vs at *
    unfold Post at p1
    rw [R.wp_bind, R.wp_noX] at p1
    -- the invariant
    let Fin : List PyData → Prop := fun ys => ∀ v H', Gr B.S (P ++ Z) H1 H' → dF X.K H (P ++ Z) H' v (.list ys) → Q v H'
    refine ⟨fun i m H2 => m = ds.length - i ∧ i ≤ ds.length ∧ EnvOk X.K ⟨fun _ => none, fun _ => none, B.S⟩ O P (D :: Z) (wipe σ vs) H2 (wipeR ρ vs) ∧ (∀ b o, b ∉ B.S → H1 b = some o → H2 b = some o) ∧
      ∃ acc accD, H2 D = some (.lst acc) ∧ DpAll X.K (hid (P ++ D :: Z) H2) acc accD ∧ accD.length ≤ i ∧ (compL t ft fe (wipeR ρ vs) (ds.drop i)).wp (fun ys => Fin (accD ++ ys)) (fun _ _ => False),
      ⟨ds.length, by omega, Nat.zero_le _, hE1.blk hD hv, fun b o _ e => by rw [upd_ne (ne_of_none e hD)]; exact e, [], [], upd_same, .nil, Nat.le_refl _, p1⟩, ?_⟩
    rintro i m H2 ⟨rfl, hi, hE2, hfr, acc, accD, hacc, ha, hlen, hc⟩
    have cc : C2 B.S (P ++ Z) H1 (P ++ D :: Z) H2 := ⟨fun a z => by
      rcases List.mem_append.mp z with z | z
      · exact List.mem_append_left _ z
      · exact List.mem_append_right _ (List.mem_cons_of_mem _ z), fun a z => by
      rcases List.mem_append.mp z with z | z
      · exact .inl (List.mem_append_left _ z)
      · rcases List.mem_cons.mp z with z | z
        · exact .inr (z ▸ hD)
        · exact .inl (List.mem_append_right _ z), hfr, hE2.trk, fun a z => List.mem_append_right _ (hE1.sz a z)⟩
    by_cases hlt : i < ds.length
    · refine .inr ⟨d1.go i _ H2 cc hlt, fun H' => EnvOk X.K ⟨fun _ => none, fun _ => none, B.S⟩ O P (D :: Z) (wipe σ vs) H' (wipeR ρ vs) ∧ (∀ b o, b ∉ B.S → H1 b = some o → H' b = some o) ∧
        ∃ acc accD, H' D = some (.lst acc) ∧ DpAll X.K (hid (P ++ D :: Z) H') acc accD ∧ accD.length ≤ i + 1 ∧ (compL t ft fe (wipeR ρ vs) (ds.drop (i + 1))).wp (fun ys => Fin (accD ++ ys)) (fun _ _ => False),
        fun H' w => ⟨ds.length - (i + 1), by omega, rfl, hlt, w⟩, fun x H3 y => ?_⟩
      have hd : ds[i]? = some ds[i] := by simp [hlt]
      rw [List.drop_eq_getElem_cons hlt] at hc
      obtain ⟨s3, d3⟩ := d1.yl i _ H2 x H3 ds[i] cc hd y
      have g3 : Gr B.S (P ++ D :: Z) H2 H3 := .of s3
      have hE3 := EnvOk.same (B := ⟨fun _ => none, fun _ => none, B.S⟩) g3 hE2
      cases ht : t ds[i] (wipeR ρ vs) with
      | none => unfold compL at hc; rw [ht] at hc; exact hc.elim
      | some ρ1 =>
        unfold compL at hc
        rw [ht] at hc
        have hc : ((ft ρ1).bind fun b => if b = true then (fe ρ1).bind fun y => (compL t ft fe (wipeR ρ vs) (ds.drop (i + 1))).bind fun ys => .ok (y :: ys) else compL t ft fe (wipeR ρ vs) (ds.drop (i + 1))).wp (fun ys => Fin (accD ++ ys)) (fun _ _ => False) := hc
        rw [R.wp_bind] at hc
        refine hgo ⟨fun _ => none, fun _ => none, B.S⟩ O P (D :: Z) (wipe σ vs) H3 (wipeR ρ vs) ds[i] x _ (fun i hi => hv i (hSv i hi)) hE3 d3 ρ1 ht fun σ2 hE4 hw => ⟨by rw [hw vs hSv]; exact wipe_wipe vs vs fun _ z => z, ⟨fun _ => none, fun _ => none, B.S⟩, P, D :: Z, ρ1, hE4, ?_⟩
        refine R.wp_imp hc (fun b hc k H4 g4 e4 => ?_) (fun c z hc => hc.elim)
        cases e4
        have hE5 := EnvOk.same (B := ⟨fun _ => none, fun _ => none, B.S⟩) g4 hE3
        have fr4 : ∀ b o, b ∉ B.S → H1 b = some o → H4 b = some o := fun b o n e => g4.fr b o n (s3 b o (hfr b o n e))
        have acc4 : H4 D = some (.lst acc) := g4.fr D _ hDS (s3 D _ hacc)
        have a4 := dpa_mono g4.vis accD acc (dpa_mono g3.vis accD acc ha)
        cases b with
        | false => rw [if_neg Bool.false_ne_true] at hc ⊢; exact ⟨hE5, fr4, acc, accD, acc4, a4, by omega, hc⟩
        | true =>
          rw [if_pos rfl] at hc ⊢
          rw [R.wp_bind] at hc
          refine ⟨⟨fun _ => none, fun _ => none, B.S⟩, P, D :: Z, ρ1, EnvOk.same (B := ⟨fun _ => none, fun _ => none, B.S⟩) g4 hE4, ?_⟩
          refine R.wp_imp hc (fun yd hc yv H5 g5 d5 => ?_) (fun c z hc => hc.elim)
          rw [R.wp_bind] at hc
          have acc5 : H5 D = some (.lst acc) := g5.fr D _ hDS acc4
          have hE6 := EnvOk.same (B := ⟨fun _ => none, fun _ => none, B.S⟩) g5 hE5
          have hDm : D ∈ P ++ D :: Z := List.mem_append_right _ List.mem_cons_self
          refine ⟨acc, acc5, by rw [dpa_len ha]; omega, hE6.hidU List.mem_cons_self hDS rfl, fun b o n e => ?_, acc ++ [yv], accD ++ [yd], upd_same, ?_, by rw [List.length_append]; simp only [List.length_cons, List.length_nil]; omega, ?_⟩
          · rw [upd_ne (ne_of_none e hD)]
            exact g5.fr b o n (fr4 b o n e)
          · rw [hid_upd hDm]
            exact dpa_append (dpa_mono g5.vis accD acc a4) (.cons d5 .nil)
          · refine R.wp_imp hc (fun ys hc => ?_) (fun _ _ h => h)
            rw [List.append_assoc]
            exact hc
    · have e : i = ds.length := by omega
      subst e
      rw [List.drop_length] at hc
      have hc : Fin (accD ++ []) := hc
      rw [List.append_nil] at hc
      refine .inl ⟨d1.st _ _ H2 cc (Nat.le_refl _), hc _ _ (.mk2 (fun a z => List.mem_append_right _ (hE1.sz a z)) hfr hE2.so) ⟨D, acc, accD, rfl, rfl, s1.free hE.so D hD, hDM, hacc, dpa_mono (hid_sub fun a z => ?_) accD acc ha⟩⟩
      rcases List.mem_cons.mp z with e | z
      · exact List.mem_append_right _ (e ▸ List.mem_cons_self)
      · exact cc.sub a z
  · rw [if_neg hl] at p1; exact p1.elim
theorem df_comp (hc : X.calm = true) (hN : X.N.Nodup) (hi : DJ X ec Ef O tg iter fi) (ok : BlkOk X.N X.env.scope scope own) (hg : ∃ gg, (∀ s H C cl fp, PG (blkX X scope s H C cl fp) tg gg) ∧ DGo X.K S t gg)
    (ht : ∀ s H C cl fp, DTs (blkX X scope s H C cl fp) ec (fun _ => E0) O ifs ft) (he : ∀ s H C cl fp, DE (blkX X scope s H C cl fp) ec (fun _ => E0) O elt fe) (hv : ∀ i, i ∈ own.map (·.2) → i ∉ O := by decide) (hSv : ∀ i, i ∈ S → i ∈ own.map (·.2) := by decide)
    (hs : ∀ x, foldedSetIterable iter X.env x = pure x := by intro _; rfl) : DF X ec Ef O (.ListComp elt [⟨tg, iter, ifs, 0⟩] scope pos) (fComp (own.map (·.2)) fi t ft fe) := by
  obtain ⟨gg, h1, h2⟩ := hg
  exact ⟨(pe_lc hc hN hi.pi ok h1 (fun s H C cl fp => (ht s H C cl fp).pt) (fun s H C cl fp => (he s H C cl fp).pe) hs).imp (comp_imp hv hSv h2)⟩
end
end DL
set_option Elab.async false
set_option linter.all false
set_option maxRecDepth 100000
set_option maxHeartbeats 1000000
namespace DL
open PySem PySem.Spec PyProof.Rows L2
/-! ### sources: read, written, made -/
/-- what may stand at a place of a source -/
def SrcAt (k x : Int) : Prop := 0 ≤ x ∧ (k = 1 → x < 2 ^ 32)
instance (k x : Int) : Decidable (SrcAt k x) := by unfold SrcAt; infer_instance
def srcD (k : Int) : R PyData := .pick (fun d => ∃ x : Int, d = .int x ∧ SrcAt k x) .ok
def getSrc (i : Nat) (k : Int) : Rho → R PyData := fun ρ => (getS ρ i).bind fun _ => srcD k
def putSrc (k : Int) (f : Rho → R PyData) (i : Nat) : Rho → R Fl := fun ρ => (f ρ).bind fun d => (getS ρ i).bind fun _ => match d with
  | .int x => if SrcAt k x then .ok (.nx ρ) else .bad
  | _ => .bad
theorem src_at {a : Addr} {x y : Int} {k : Int} (hk : k = 0 ∨ k = 1) (hx : 0 ≤ x) (hy : 0 ≤ y ∧ y < 2 ^ 32) : ∃ z, atI [V.int x, .int y] k = some (.int z) ∧ SrcAt k z := by
  rcases hk with rfl | rfl
  · exact ⟨x, rfl, hx, fun e => by cases e⟩
  · exact ⟨y, rfl, hy.1, fun _ => hy.2⟩
section
variable {K : PySem.W.Frag} {B : BB} {H H' : Hp} {O : List Nat} {P Z : List Addr} {σ : L2.St} {ρ : Rho}
theorem EnvOk.updS (h : EnvOk K B O P Z σ H ρ) {a : Addr} {x y : Int} (ha : a ∈ B.S) (hx : 0 ≤ x) (hy : 0 ≤ y ∧ y < 2 ^ 32) : EnvOk K B O P Z σ (upd H a (.lst [.int x, .int y])) ρ :=
  h.same ⟨fun b o n e => by
    have nb : b ≠ a := fun z => n (z ▸ ha)
    rw [upd_ne nb]; exact e, fun b o e => by rw [hid_upd (List.mem_append_right _ (h.sz a ha))]; exact e, fun so b hb => by
    by_cases e : b = a
    · subst e; exact ⟨x, y, hx, hy, upd_same⟩
    · obtain ⟨x', y', h1, h2, h3⟩ := so b hb
      exact ⟨x', y', h1, h2, by rw [upd_ne e]; exact h3⟩⟩
end
section
variable {X : Cx} {ec : EC} {Ef : L2.St → XK} {io Ol O O' : List Nat} {s e : Expr} {f : Rho → R PyData} {i j : Nat} {k : Int} {pos cp : Pos}
theorem de_src (hsrc : PE X s (tVar i)) (hk : k = 0 ∨ k = 1 := by decide) (hi : i ∉ O := by decide) (hs : PlainIx (.Constant (.int k) j cp) := by intro _ _; rfl) : DE X ec Ef O (.Subscript s (.Constant (.int k) j cp) pos) (getSrc i k) :=
  ⟨(pe_ix ix_list hsrc pe_int hs).imp fun σ H Q ⟨B, P, Z, ρ, hE, q⟩ => by
    have q : Post B.S X.K ec (dV X.K (P ++ Z)) (P ++ Z) (Ef σ) H Q ((getS ρ i).bind fun _ => srcD k) := q
    rcases getS_case (ρ := ρ) (i := i) with ⟨h1, h2⟩ | h2
    · rw [h2] at q
      obtain ⟨a, a1, a2⟩ := hE.src i hi h1
      obtain ⟨x, y, hx, hy, hH⟩ := hE.so a a1
      obtain ⟨z, e1, e2⟩ := src_at (a := a) hk hx hy
      exact ⟨.ref a, a2, a, _, k, _, rfl, rfl, .inl (.inl hH), e1, (show Post B.S X.K ec (dV X.K (P ++ Z)) (P ++ Z) (Ef σ) H Q (.ok (.int z)) from q (.int z) ⟨z, rfl, e2⟩).ok (.int z)⟩
    · rw [h2] at q; exact q.elim⟩
theorem ds_srcPut {tpos : Pos} (fl : Flat Ef) (hsrc : PE X s (tVar i)) (he : DE X ec Ef O e f) (hk : k = 0 ∨ k = 1 := by decide) (hi : i ∉ O := by decide)
    (ha : ∀ v, assign (.Subscript s (.Constant (.int k) j cp) tpos) X.env v = (do
      let ov ← holding [v] (eval s X.env)
      let iv ← holding [v, ov] (eval (.Constant (.int k) j cp) X.env)
      standAt tpos
      holding [v, ov, iv] (setItem ov iv v)
      release [v, ov, iv] []) := by intro _; rfl)
    (hs : swapsWithSole [.Subscript s (.Constant (.int k) j cp) tpos] e pos.line X.env = pure false := by rfl) (hw : swappedStores [.Subscript s (.Constant (.int k) j cp) tpos] e X.env = pure none := by rfl) (h1 : (assignEach [.Subscript s (.Constant (.int k) j cp) tpos] X.env).map (·.2) = [assign (.Subscript s (.Constant (.int k) j cp) tpos) X.env] := by rfl) :
    DS X ec Ef io Ol O O (.Assign [.Subscript s (.Constant (.int k) j cp) tpos] e pos) (putSrc k f i) :=
  ⟨(ps_asg he.pe (pg_sub hsrc pe_int set_list ha) hs hw h1).imp fun D σ H ⟨B, P, Z, ρ, hE, p⟩ => ⟨B, P, Z, ρ, hE, PostS.of fl hE p fun d v H1 _ s d1 hE1 p1 => by
    rcases getS_case (ρ := ρ) (i := i) with ⟨h1, h2⟩ | h2
    · rw [h2] at p1
      obtain ⟨a, a1, a2⟩ := hE1.src i hi h1
      obtain ⟨x, y, hx, hy, hH⟩ := hE1.so a a1
      cases d with
      | int z =>
        have p2 : PostS X.K ec Ef B Z io Ol O D (if SrcAt k z then .ok (.nx ρ) else .bad) := p1
        by_cases hz : SrcAt k z
        · rw [if_pos hz] at p2
          have p3 : PostS X.K ec Ef B Z io Ol O D (.ok (.nx ρ)) := p2
          have e1 : v = .int z := by cases d1; rfl
          subst e1
          rcases hk with rfl | rfl
          · exact ⟨.ref a, a2, a, _, 0, 0, rfl, rfl, hH, rfl, p3 _ _ _ (hE1.updS a1 hz.1 hy)⟩
          · exact ⟨.ref a, a2, a, _, 1, 1, rfl, rfl, hH, rfl, p3 _ _ _ (hE1.updS a1 hx ⟨hz.1, hz.2 rfl⟩)⟩
        · rw [if_neg hz] at p2; exact p2.elim
      | _ => exact p1.elim
    · rw [h2] at p1; exact p1.elim⟩⟩
end
/-! ### a source is made -/
def unS : Option SV → Option SV
  | some .src => none
  | x => x
def Fl.fgt : Fl → Fl
  | .nx ρ => .nx (ρ.map unS)
  | .rt d ρ => .rt d (ρ.map unS)
  | .rf d ρ => .rf d (ρ.map unS)
  | .bk ρ => .bk (ρ.map unS)
  | .ct ρ => .ct (ρ.map unS)
theorem unS_some {ρ : Rho} {i : Nat} {d : SV} (h : (ρ.map unS)[i]? = some (some d)) : ρ[i]? = some (some d) ∧ d ≠ .src := by
  rw [List.getElem?_map] at h
  obtain ⟨o, h1, h2⟩ := Option.map_eq_some_iff.mp h
  unfold unS at h2
  split at h2
  · cases h2
  · rename_i h3
    subst h2
    exact ⟨h1, fun e => h3 (by rw [e])⟩
theorem unS_keep {ρ : Rho} {i : Nat} {d : SV} (h : ρ[i]? = some (some d)) (hd : d ≠ .src) : (ρ.map unS)[i]? = some (some d) := by
  rw [List.getElem?_map, h]
  show some (unS (some d)) = _
  unfold unS
  split
  · rename_i h3; exact absurd (Option.some.inj h3) hd
  · rfl
theorem own_src {K : PySem.W.Frag} {M : List Addr} {H : Hp} {o : HO} (h : OwnV K M H o .src) : False := by cases h
def fSrc (i : Nat) (f : Rho → R PyData) (g : Rho → R Fl) : Rho → R Fl := fun ρ => (f ρ).bind fun d => match d with
  | .list [.int x, .int y] => if 0 ≤ x ∧ (0 ≤ y ∧ y < 2 ^ 32) then (g (ρ.set i (some .src))).bind fun r => .ok r.fgt else .bad
  | _ => .bad
section
variable {K : PySem.W.Frag} {B : BB} {H H' : Hp} {O : List Nat} {P Z : List Addr} {σ : L2.St} {ρ : Rho}
theorem EnvOk.newS (h : EnvOk K B O P Z σ H ρ) (s : Gr B.S (P ++ Z) H H') {i : Nat} {p : Addr} {x y : Int} (hi : i ∉ O) (hl : i < σ.length) (hp : H p = none) (np : p ∉ P ++ Z) (hx : 0 ≤ x) (hy : 0 ≤ y ∧ y < 2 ^ 32) (e : H' p = some (.lst [.int x, .int y])) :
    EnvOk K ⟨B.1, B.2, p :: B.S⟩ O P (p :: Z) (σ.set i (some (.ref p))) H' (ρ.set i (some .src)) := by
  have vs' : Same (hid (P ++ Z) H) (hid (P ++ p :: Z) H') := fun b o q => by
    obtain ⟨y1, y2⟩ := hid_some q
    have nb : b ≠ p := ne_of_none y2 hp
    rw [hid_out (fun z => by
      rcases List.mem_append.mp z with z | z
      · exact y1 (List.mem_append_left _ z)
      · rcases List.mem_cons.mp z with z | z
        · exact nb z
        · exact y1 (List.mem_append_right _ z))]
    exact s.fr b o (fun z => y1 (List.mem_append_right _ (h.sz b z))) y2
  refine ⟨by rw [List.length_set, List.length_set]; exact h.len, EnvOk.bs' (B := B) s h, h.gs.trans vs', ?_, h.nd, h.pb, fun z hz => ?_, fun q hq z => ?_, fun a ha => ?_, fun a ha => ?_, fun a ha => ?_, fun j hj q => ?_, fun j x hj q => ?_, fun j d hj q => ?_⟩
  · have key : ∀ {l : List Nat} {m : List Addr}, (∀ j, j ∈ l → j ∈ O) → (∀ q, q ∈ m → q ∈ P) → Paired (Own1 K (P ++ Z) H σ ρ) l m → Paired (Own1 K (P ++ p :: Z) H' (σ.set i (some (.ref p))) (ρ.set i (some .src))) l m := by
      intro l m hl hm pr
      induction pr with
      | nil => exact .nil
      | cons r t ih =>
        obtain ⟨x1, o, d', x2, x3, x4⟩ := r
        have ne : i ≠ _ := fun z => hi (z ▸ hl _ List.mem_cons_self)
        exact .cons ⟨by rw [List.getElem?_set_ne ne]; exact x1, o, d', by rw [List.getElem?_set_ne ne]; exact x2, s.fr _ _ (h.ps (hm _ List.mem_cons_self)) x3, x4.mono vs'⟩ (ih (fun j hj => hl j (List.mem_cons_of_mem _ hj)) fun j hj => hm j (List.mem_cons_of_mem _ hj))
    exact key (fun _ z => z) (fun _ z => z) h.own
  · rcases List.mem_cons.mp hz with q | hz
    · rw [q, e]; intro z; cases z
    · exact EnvOk.zt' (B := B) s h z hz
  · rcases List.mem_cons.mp z with e2 | z
    · exact np (List.mem_append_left _ (e2 ▸ hq))
    · exact h.pz q hq z
  · rcases List.mem_cons.mp ha with q | ha
    · exact q ▸ List.mem_cons_self
    · exact List.mem_cons_of_mem _ (h.sz a ha)
  · rcases List.mem_cons.mp ha with q | ha
    · subst q
      cases q1 : B.1 a with
      | none => rfl
      | some o => rw [h.bs a o q1] at hp; cases hp
    · exact h.sb a ha
  · rcases List.mem_cons.mp ha with q | ha
    · subst q; exact ⟨x, y, hx, hy, e⟩
    · exact s.so h.so a ha
  · have q0 := q
    rcases set_get q with ⟨e1, _⟩ | ⟨ne, q⟩
    · subst e1
      exact ⟨p, List.mem_cons_self, List.getElem?_set_self hl⟩
    · obtain ⟨a, x1, x2⟩ := h.src j hj q
      exact ⟨a, List.mem_cons_of_mem _ x1, by rw [List.getElem?_set_ne ne]; exact x2⟩
  · rcases set_get q with ⟨e1, e2⟩ | ⟨ne, q⟩
    · cases e2
    · rw [List.getElem?_set_ne ne]; exact h.fns j x hj q
  · rcases set_get q with ⟨e1, e2⟩ | ⟨ne, q⟩
    · cases e2
    · obtain ⟨w, x1, x2⟩ := h.oth j d hj q
      exact ⟨w, by rw [List.getElem?_set_ne ne]; exact x1, dp_mono vs' d w x2⟩
theorem EnvOk.oldS {p : Addr} (h : EnvOk K ⟨B.1, B.2, p :: B.S⟩ O P (p :: Z) σ H ρ) (hsz : ∀ a, a ∈ B.S → a ∈ Z) : EnvOk K B O P Z σ H (ρ.map unS) := by
  have sub : ∀ a, a ∈ P ++ Z → a ∈ P ++ p :: Z := fun a z => by
    rcases List.mem_append.mp z with z | z
    · exact List.mem_append_left _ z
    · exact List.mem_append_right _ (List.mem_cons_of_mem _ z)
  refine ⟨by rw [List.length_map]; exact h.len, h.bs, h.gs.trans (hid_sub sub), ?_, h.nd, h.pb, fun z hz => h.zt z (List.mem_cons_of_mem _ hz), fun q hq z => h.pz q hq (List.mem_cons_of_mem _ z), hsz, fun a ha => h.sb a (List.mem_cons_of_mem _ ha), fun a ha => h.so a (List.mem_cons_of_mem _ ha), fun j hj q => ?_, fun j x hj q => h.fns j x hj (unS_some q).1, fun j d hj q => ?_⟩
  · exact Paired.mapP h.own fun i q ⟨x1, o, d', x2, x3, x4⟩ => ⟨x1, o, d', unS_keep x2 (fun e => own_src (e ▸ x4)), x3, x4.mono (hid_sub sub)⟩
  · exact absurd rfl (unS_some q).2
  · obtain ⟨w, x1, x2⟩ := h.oth j d hj (unS_some q).1
    exact ⟨w, x1, dp_mono (hid_sub sub) d w x2⟩
end
section
variable {X : Cx} {ec : EC} {Ef : L2.St → XK} {io Ol O O' : List Nat} {e : Expr} {rest : List Stmt} {f : Rho → R PyData} {g : Rho → R Fl} {pos : Pos}
/-- x = a new source; what follows -/
theorem dss_src {x : Str} {i : Nat} {pos' : Pos} (fl : Flat Ef) (hN : X.N.Nodup) (hix : X.N[i]? = some x) (hx : Loc X.env.scope x) (he : DF X ec Ef O e f) (hr : DSs X ec Ef io Ol O O' rest g) (hl : ∀ σ : L2.St, σ.length = X.N.length → i < σ.length) (hO : i ∉ O := by decide) (hs : swapsWith e (some (.Name x pos')) pos.line X.env = pure false := by rfl)
    (hf : X.fn x = true ∨ X.env.scope.names.lookup x = some .local := by first | exact .inl rfl | exact .inr rfl | assumption) : DSs X ec Ef io Ol O O' (.Assign [.Name x pos'] e pos :: rest) (fSrc i f g) := by
  refine ⟨⟨fun pins s σ H D I hw => (pss_cons (ps_set (i := i) hN hix hx he.pe hs hf) hr.ps).run pins s σ H D I ?_⟩⟩
  obtain ⟨B, P, Z, ρ, hE, p⟩ := hw
  refine ⟨B, P, Z, ρ, hE, PostS.of (k := fun d => match d with
    | .list [.int x, .int y] => if 0 ≤ x ∧ (0 ≤ y ∧ y < 2 ^ 32) then (g (ρ.set i (some .src))).bind fun r => .ok r.fgt else .bad
    | _ => .bad) fl hE p fun d v H1 _ s d1 hE1 p1 => ?_⟩
  obtain ⟨q, vs, ds, rfl, rfl, hB, np, hp, ha⟩ := d1
  split at p1
  · rename_i x y e
    cases e
    cases ha with
    | cons a1 ha =>
      cases ha with
      | cons a2 ha =>
        cases ha
        cases a1
        cases a2
        split at p1
        · rename_i hxy
          refine ⟨⟨B.1, B.2, q :: B.S⟩, P, q :: Z, _, hE.newS s hO (hl σ I.len) hB np hxy.1 hxy.2 hp, ?_⟩
          unfold PostS at p1
          rw [R.wp_bind] at p1
          refine R.wp_imp p1 (fun r p1 => ?_) (fun c z p1 => ?_)
          · cases r with
            | nx ρ' => exact fun σ' P' H' hE' => p1 _ _ _ (hE'.oldS hE.sz)
            | rt d ρ' => exact fun w σ' P' H' hE' hw => p1 _ _ _ _ (hE'.oldS hE.sz) (dp_mono (hid_sub fun a z => by
                rcases List.mem_append.mp z with z | z
                · exact List.mem_append_left _ z
                · exact List.mem_append_right _ (List.mem_cons_of_mem _ z)) d w hw)
            | rf d ρ' =>
              refine fun w σ' P' H' hE' hw => p1 _ _ _ _ (hE'.oldS hE.sz) ?_
              obtain ⟨p, vs, ds, e1, e2, e3, e4, e5, e6⟩ := hw
              have sub : ∀ a, a ∈ P' ++ Z → a ∈ P' ++ q :: Z := fun a z => by
                rcases List.mem_append.mp z with z | z
                · exact List.mem_append_left _ z
                · exact List.mem_append_right _ (List.mem_cons_of_mem _ z)
              exact ⟨p, vs, ds, e1, e2, e3, fun z => e4 (sub p z), e5, dpa_mono (hid_sub fun a z => by
                rcases List.mem_cons.mp z with z | z
                · exact z ▸ List.mem_cons_self
                · exact List.mem_cons_of_mem _ (sub a z)) ds vs e6⟩
            | bk ρ' => exact fun σ' P' H' hE' => p1 _ _ _ (hE'.oldS hE.sz)
            | ct ρ' => exact fun σ' P' H' hE' => p1 _ _ _ (hE'.oldS hE.sz)
          · exact fun σ' H' dx s so ex => p1 σ' H' dx s (fun a ha => so a (List.mem_cons_of_mem _ ha)) (exOk_sub (fun a z => List.mem_cons_of_mem _ z) ex)
        · exact p1.elim
  · exact p1.elim
end
end DL
set_option Elab.async false
set_option linter.all false
set_option maxRecDepth 100000
set_option maxHeartbeats 1000000
namespace DL
open PySem PySem.Spec PyProof.Rows L2
/-! ### dicts with ints and texts as keys -/
def keyOf : PyData → Option Key
  | .int i => some (.inl i)
  | .str s => some (.inr s)
  | _ => none
theorem keyOf_D (k : Key) : keyOf (keyD k) = some k := by cases k <;> rfl
theorem keyOf_some {d : PyData} {k : Key} (h : keyOf d = some k) : d = keyD k := by
  cases d <;> first | (cases h; done) | (cases h; rfl)
theorem dp_key {K : PySem.W.Frag} {H : Hp} {v : V} {d : PyData} {k : Key} (h : Dp K H v d) (e : keyOf d = some k) : v = kV k := by
  have := keyOf_some e
  subst this
  cases k <;> (cases h; rfl)
def lookD (ds : List (PyData × PyData)) (k : Key) : Option PyData := (ds.find? fun e => decide (keyOf e.1 = some k)).map (·.2)
abbrev PrK (K : PySem.W.Frag) (H : Hp) : List (Key × V) → List (PyData × PyData) → Prop := Paired (fun (q : Key × V) (e : PyData × PyData) => keyD q.1 = e.1 ∧ Dp K H q.2 e.2)
theorem look_rel {K : PySem.W.Frag} {H : Hp} {k : Key} : ∀ {kvs : List (Key × V)} {ds : List (PyData × PyData)}, PrK K H kvs ds → (valV kvs k = none ∧ lookD ds k = none) ∨ ∃ v d, valV kvs k = some v ∧ lookD ds k = some d ∧ Dp K H v d
  | _, _, .nil => .inl ⟨rfl, rfl⟩
  | q :: kvs, e :: ds, .cons r t => by
    by_cases h : q.1 = k
    · refine .inr ⟨q.2, e.2, valV_pos h, ?_, r.2⟩
      unfold lookD
      rw [List.find?_cons, decide_eq_true (show keyOf e.1 = some k by rw [← r.1, keyOf_D, h])]
      rfl
    · have h2 : lookD (e :: ds) k = lookD ds k := by
        unfold lookD
        rw [List.find?_cons, decide_eq_false (show ¬ keyOf e.1 = some k by rw [← r.1, keyOf_D]; exact fun z => h (Option.some.inj z))]
      rw [valV_neg h, h2]
      exact look_rel t
def dD (K : PySem.W.Frag) (B : Hp) (S M : List Addr) (H : Hp) (v : V) (ds : List (PyData × PyData)) : Prop :=
  ∃ p kvs, v = .ref p ∧ B p = none ∧ p ∉ M ∧ p ∉ S ∧ H p = some (.dK kvs) ∧ PrK K (hid (p :: M) H) kvs ds
structure DD (X : Cx) (ec : EC) (Ef : L2.St → XK) (O : List Nat) (e : Expr) (f : Rho → R (List (PyData × PyData))) : Prop where
  pe : PE X e (tG X.K ec Ef O (dD X.K) f)
theorem prk_mono {K : PySem.W.Frag} {H H' : Hp} (s : Same H H') {kvs : List (Key × V)} {ds : List (PyData × PyData)} (h : PrK K H kvs ds) : PrK K H' kvs ds := Paired.mapP h fun q e z => ⟨z.1, dp_mono s _ _ z.2⟩
/-! ### displays -/
structure DKs (X : Cx) (ec : EC) (Ef : L2.St → XK) (O : List Nat) (pos : Pos) (keys : List (Option Expr)) (values : List Expr) (f : Rho → R (List (PyData × PyData))) : Prop where
  ex : ∃ trs, PPs X pos keys values trs ∧ ∀ σ H Rr, tG X.K ec Ef O (fun _ _ M H' (kvs : List (Key × V)) ds => PrK X.K (hid M H') kvs ds) f σ H (fun kvs H' => Rr (kvs.map fun kv => (kV kv.1, kv.2)) H') → tPairs trs σ H Rr
section
variable {X : Cx} {ec : EC} {Ef : L2.St → XK} {O : List Nat} {pos : Pos} {keys : List (Option Expr)} {values : List Expr} {e : Expr} {fe : Rho → R PyData} {f : Rho → R (List (PyData × PyData))}
theorem dks_nil : DKs X ec Ef O pos [] [] (fun _ => .ok []) := ⟨[], pps_nil, fun σ H Rr ⟨B, P, Z, ρ, hE, p⟩ => (show Post B.S X.K ec (fun H' (kvs : List (Key × V)) ds => PrK X.K (hid (P ++ Z) H') kvs ds) (P ++ Z) (Ef σ) H _ (.ok []) from p).ok (v := []) .nil⟩
theorem dks_cons {ke : Expr} (k : Key) (hk : PE X ke (tC (kV k))) (he : DE X ec Ef O e fe) (t : DKs X ec Ef O pos keys values f) : DKs X ec Ef O pos (some ke :: keys) (e :: values) (fun ρ => (fe ρ).bind fun d => (f ρ).bind fun ds => .ok ((keyD k, d) :: ds)) := by
  obtain ⟨trs, h1, h2⟩ := t.ex
  refine ⟨_, pps_cons hk he.pe h1, fun σ H Rr ⟨B, P, Z, ρ, hE, p⟩ => ⟨B, P, Z, ρ, hE, (Post.bind p).imp fun v H1 ⟨d, _, s1, d1, p1⟩ => h2 σ H1 _ ⟨B, P, Z, ρ, hE.same s1, (Post.bind p1).imp fun kvs H2 ⟨ds, _, s2, d2, p2⟩ => ?_⟩⟩⟩
  exact p2.ok (v := (k, v) :: kvs) (.cons ⟨rfl, d1.mono s2⟩ d2)
end
def distK : List (PyData × PyData) → Bool
  | [] => true
  | e :: r => (r.all fun q => decide (keyOf q.1 ≠ keyOf e.1)) && distK r
def mkDict (ds : List (PyData × PyData)) : R (List (PyData × PyData)) := if ds.length ≤ 15 ∧ distK ds = true then .ok ds else .bad
theorem merge_dist : ∀ (more acc : List (Key × V)), (∀ q, q ∈ acc → ∀ r, r ∈ more → q.1 ≠ r.1) → more.Pairwise (fun a b => a.1 ≠ b.1) → mergeK acc more = acc ++ more
  | [], acc, _, _ => (List.append_nil acc).symm
  | p :: r, acc, h, hp => by
    obtain ⟨h1, h2⟩ := List.pairwise_cons.mp hp
    have e : putK acc p.1 p.2 = acc ++ [p] := by
      unfold putK
      rw [if_neg]
      intro z
      obtain ⟨q, hq, hd⟩ := List.any_eq_true.mp z
      exact h q hq p List.mem_cons_self (of_decide_eq_true hd)
    show mergeK (putK acc p.1 p.2) r = _
    rw [e, merge_dist r (acc ++ [p]) (fun q hq z hz => ?_) h2, List.append_assoc]
    · rfl
    · rcases List.mem_append.mp hq with hq | hq
      · exact h q hq z (List.mem_cons_of_mem _ hz)
      · have : q = p := by simpa using hq
        subst this
        exact h1 z hz
theorem dist_pw {K : PySem.W.Frag} {H : Hp} : ∀ {kvs : List (Key × V)} {ds : List (PyData × PyData)}, PrK K H kvs ds → distK ds = true → kvs.Pairwise (fun a b => a.1 ≠ b.1)
  | _, _, .nil, _ => .nil
  | q :: kvs, e :: ds, .cons r t, h => by
    obtain ⟨h1, h2⟩ := Bool.and_eq_true_iff.mp h
    refine .cons (fun q' hq' z => ?_) (dist_pw t h2)
    obtain ⟨e', he', r'⟩ := paired_left t q' hq'
    have := of_decide_eq_true (List.all_eq_true.mp h1 e' he')
    rw [← r'.1, ← r.1, keyOf_D, keyOf_D] at this
    exact this (by rw [z])
section
variable {X : Cx} {ec : EC} {Ef : L2.St → XK} {O : List Nat} {pos : Pos} {keys : List (Option Expr)} {values : List Expr} {e : Expr} {fe : Rho → R PyData} {f : Rho → R (List (PyData × PyData))}
theorem paired_len {α β : Type} {F : α → β → Prop} : ∀ {l : List α} {m : List β}, Paired F l m → l.length = m.length
  | _, _, .nil => rfl
  | _, _, .cons _ t => by rw [List.length_cons, List.length_cons, paired_len t]
theorem dd_disp (h : DKs X ec Ef O pos keys values f) (hall : keys.all (·.isSome) = true := by rfl) (hl : keys.length = values.length := by rfl) (h0 : keys ≠ [] := by simp) (h15 : keys.length ≤ 15 := by decide) : DD X ec Ef O (.Dict keys values pos) (fun ρ => (f ρ).bind mkDict) := by
  obtain ⟨trs, h1, h2⟩ := h.ex
  refine ⟨(pe_disp h1 hall hl h0 h15).imp fun σ H Q ⟨B, P, Z, ρ, hE, q⟩ p hp => ?_⟩
  have hE0 : EnvOk X.K ⟨fun _ => none, fun _ => none, B.S⟩ O P (p :: Z) σ (upd H p (.dK [])) ρ := hE.blk (vs := []) hp (fun i hi => by cases hi)
  have np : p ∉ P ++ Z := fun z => hE.trk p z hp
  have nS : p ∉ B.S := fun z => np (List.mem_append_right _ (hE.sz p z))
  have hm : p ∈ P ++ p :: Z := List.mem_append_right _ List.mem_cons_self
  have sub : ∀ a, a ∈ P ++ Z → a ∈ P ++ p :: Z := fun a z => by
    rcases List.mem_append.mp z with z | z
    · exact List.mem_append_left _ z
    · exact List.mem_append_right _ (List.mem_cons_of_mem _ z)
  have sub2 : ∀ a, a ∈ p :: (P ++ Z) → a ∈ P ++ p :: Z := fun a z => by
    rcases List.mem_cons.mp z with z | z
    · exact z ▸ hm
    · exact sub a z
  have hSM : ∀ a, a ∈ B.S → a ∈ P ++ Z := fun a z => List.mem_append_right _ (hE.sz a z)
  unfold Post at q
  rw [R.wp_bind] at q
  refine h2 σ _ _ ⟨⟨fun _ => none, fun _ => none, B.S⟩, P, p :: Z, ρ, hE0, R.wp_imp q (fun ds q kvs H2 s2 d2 => ?_) (fun c x q H' dx s e => q H' dx (.mk2 hSM (fun b o n e => s.fr b o n (by rw [upd_ne (ne_of_none e hp)]; exact e)) (s.so hE0.so)) (exOk_sub sub e))⟩
  unfold mkDict at q
  by_cases hd : ds.length ≤ 15 ∧ distK ds = true
  · rw [if_pos hd] at q
    have e2 : H2 p = some (.dK []) := s2.fr p _ nS upd_same
    refine ⟨e2, kvs, rfl, by rw [paired_len d2]; exact hd.1, ?_⟩
    rw [merge_dist kvs [] (fun q hq => by cases hq) (dist_pw d2 hd.2), List.nil_append]
    refine q _ _ (.mk2 hSM (fun b o n e => ?_) fun a ha => ?_) ⟨p, kvs, rfl, hp, np, nS, upd_same, prk_mono (H := hid (P ++ p :: Z) H2) (fun b o e => ?_) d2⟩
    · have nb : b ≠ p := ne_of_none e hp
      rw [upd_ne nb]
      exact s2.fr b o n (by rw [upd_ne nb]; exact e)
    · obtain ⟨x, y, x1, x2, x3⟩ := s2.so hE0.so a ha
      have na : a ≠ p := fun e => nS (e ▸ ha)
      exact ⟨x, y, x1, x2, by rw [upd_ne na]; exact x3⟩
    · obtain ⟨y1, y2⟩ := hid_some e
      have nb : b ≠ p := fun e => y1 (e ▸ hm)
      rw [hid_out fun z => y1 (sub2 b z), upd_ne nb]
      exact y2
  · rw [if_neg hd] at q; exact q.elim
end
/-! ### get -/
def getD2 (ds : List (PyData × PyData)) (k d : PyData) : R PyData := match keyOf k with
  | some k => .ok ((lookD ds k).getD d)
  | none => .bad
section
variable {X : Cx} {ec : EC} {Ef : L2.St → XK} {O : List Nat} {o e b : Expr} {fe fb : Rho → R PyData} {f : Rho → R (List (PyData × PyData))} {apos cpos : Pos}
theorem get_rel {K : PySem.W.Frag} {H : Hp} {a : Addr} {kvs : List (Key × V)} {ds : List (PyData × PyData)} {G : Hp} {y z : V} {k d : PyData} (hH : H a = some (.dK kvs)) (h : PrK K G kvs ds) (hy : Dp K G y k) (hz : Dp K G z d) {r : PyData} (e : getD2 ds k d = .ok r) :
    ∃ o, DGet H a y o ∧ Dp K G (o.getD z) r := by
  unfold getD2 at e
  cases hk : keyOf k with
  | none => rw [hk] at e; cases e
  | some kk =>
    rw [hk] at e
    cases e
    refine ⟨valV kvs kk, .inl ⟨kvs, kk, .inl hH, dp_key hy hk, rfl⟩, ?_⟩
    rcases look_rel (k := kk) h with ⟨h1, h2⟩ | ⟨v, d', h1, h2, h3⟩
    · rw [h1, h2]; exact hz
    · rw [h1, h2]; exact h3
theorem getD2_case {ds : List (PyData × PyData)} {k d : PyData} : (∃ r, getD2 ds k d = .ok r) ∨ getD2 ds k d = .bad := by
  unfold getD2
  cases keyOf k with
  | none => exact .inr rfl
  | some kk => exact .inl ⟨_, rfl⟩
/-- {..}.get(k, d) -/
theorem de_dget2 (hu : X.A.units + 1 < cLine) (ho : DD X ec Ef O o f) (he : DE X ec Ef O e fe) (hb : DE X ec Ef O b fb) (m : M2 X o "get" apos e b cpos) : DE X ec Ef O (.Call (.Attribute o "get" apos) [e, b] [] cpos) (fun ρ => (f ρ).bind fun ds => (fe ρ).bind fun k => (fb ρ).bind fun d => getD2 ds k d) :=
  ⟨(pe_dget2 hu ho.pe he.pe hb.pe m).imp fun σ H Q ⟨B, P, Z, ρ, hE, q⟩ => ⟨B, P, Z, ρ, hE, (Post.bind q).imp fun v H1 ⟨ds, _, s1, d1, p1⟩ => by
    obtain ⟨p, kvs, rfl, _, np, nS, hp, hk⟩ := d1
    refine ⟨p, rfl, .inl ⟨kvs, .inl hp⟩, B, P, Z, ρ, hE.same s1, (Post.bind p1).imp fun y H2 ⟨k, _, s2, d2, p2⟩ => ⟨B, P, Z, ρ, (hE.same s1).same s2, (Post.bind p2).imp fun z H3 ⟨d, _, s3, d3, p3⟩ => ?_⟩⟩
    have hp3 : H3 p = some (.dK kvs) := s3.fr p _ nS (s2.fr p _ nS hp)
    rcases getD2_case (ds := ds) (k := k) (d := d) with ⟨r, e⟩ | e
    · rw [e] at p3
      have hk1 : PrK X.K (hid (P ++ Z) H1) kvs ds := prk_mono (hid_sub fun a z => List.mem_cons_of_mem _ z) hk
      obtain ⟨o, g1, g2⟩ := get_rel hp3 (prk_mono s3.vis (prk_mono s2.vis hk1)) (d2.mono s3) d3 e
      exact ⟨o, g1, p3.ok g2⟩
    · rw [e] at p3; exact p3.elim⟩⟩
/-- a dict in a slot that owns it -/
def getO (ρ : Rho) (i : Nat) : R (List (PyData × PyData)) := match ρ[i]? with
  | some (some (.dict ds)) => .ok ds
  | _ => .bad
theorem getO_case {ρ : Rho} {i : Nat} : (∃ ds, ρ[i]? = some (some (.dict ds)) ∧ getO ρ i = .ok ds) ∨ getO ρ i = .bad := by
  unfold getO
  split
  · rename_i ds h; exact .inl ⟨ds, h, rfl⟩
  · exact .inr rfl
theorem own_dict {K : PySem.W.Frag} {B : BB} {H : Hp} {P Z : List Addr} {σ : L2.St} {ρ : Rho} (hE : EnvOk K B O P Z σ H ρ) {i : Nat} (hi : i ∈ O) {ds : List (PyData × PyData)} (h : ρ[i]? = some (some (.dict ds))) :
    ∃ p kvs, p ∈ P ∧ σ[i]? = some (some (.ref p)) ∧ H p = some (.dK kvs) ∧ PrK K (hid (P ++ Z) H) kvs ds := by
  obtain ⟨q, hq, x1, o, d', x2, x3, x4⟩ := paired_left hE.own i hi
  rw [h] at x2
  cases x2
  cases x4 with
  | dk x4 => exact ⟨q, _, hq, x1, x3, x4⟩
theorem de_dget2O {i : Nat} (hu : X.A.units + 1 < cLine) (ho : PE X o (tVar i)) (he : DE X ec Ef O e fe) (hb : DE X ec Ef O b fb) (m : M2 X o "get" apos e b cpos) (hi : i ∈ O := by decide) : DE X ec Ef O (.Call (.Attribute o "get" apos) [e, b] [] cpos) (fun ρ => (getO ρ i).bind fun ds => (fe ρ).bind fun k => (fb ρ).bind fun d => getD2 ds k d) :=
  ⟨(pe_dget2 hu ho he.pe hb.pe m).imp fun σ H Q ⟨B, P, Z, ρ, hE, q⟩ => by
    have q : Post B.S X.K ec (dV X.K (P ++ Z)) (P ++ Z) (Ef σ) H Q ((getO ρ i).bind fun ds => (fe ρ).bind fun k => (fb ρ).bind fun d => getD2 ds k d) := q
    rcases getO_case (ρ := ρ) (i := i) with ⟨ds, h1, h2⟩ | h2
    · rw [h2] at q
      have q : Post B.S X.K ec (dV X.K (P ++ Z)) (P ++ Z) (Ef σ) H Q ((fe ρ).bind fun k => (fb ρ).bind fun d => getD2 ds k d) := q
      obtain ⟨p, kvs, hpP, x1, hp, hk⟩ := own_dict hE hi h1
      refine ⟨.ref p, x1, p, rfl, .inl ⟨kvs, .inl hp⟩, B, P, Z, ρ, hE, (Post.bind (den := dV X.K (P ++ Z)) q).imp fun y H2 ⟨k, _, s2, d2, p2⟩ => ⟨B, P, Z, ρ, hE.same s2, (Post.bind (den := dV X.K (P ++ Z)) p2).imp fun z H3 ⟨d, _, s3, d3, p3⟩ => ?_⟩⟩
      have nS := hE.ps hpP
      have hp3 : H3 p = some (.dK kvs) := s3.fr p _ nS (s2.fr p _ nS hp)
      rcases getD2_case (ds := ds) (k := k) (d := d) with ⟨r, e⟩ | e
      · rw [e] at p3
        obtain ⟨o, g1, g2⟩ := get_rel hp3 (prk_mono s3.vis (prk_mono s2.vis hk)) (d2.mono s3) d3 e
        exact ⟨o, g1, p3.ok g2⟩
      · rw [e] at p3; exact p3.elim
    · rw [h2] at q; exact q.elim⟩
end
/-! ### a dict comes into a slot -/
theorem EnvOk.setFD {K : PySem.W.Frag} {B : BB} {H H' : Hp} {O : List Nat} {P Z : List Addr} {σ : L2.St} {ρ : Rho} (h : EnvOk K B O P Z σ H ρ) (s : Gr B.S (P ++ Z) H H') {i : Nat} {v : V} {ds : List (PyData × PyData)} (hi : i ∉ O) (hl : i < σ.length) (hv : dD K H B.S (P ++ Z) H' v ds) : ∃ p, EnvOk K B (i :: O) (p :: P) Z (σ.set i (some v)) H' (ρ.set i (some (.dict ds))) := by
  obtain ⟨p, kvs, rfl, hB, np, nS, hp, hk⟩ := hv
  exact ⟨p, h.setNew s hi hl hB np hp (.dk hk)⟩
section
variable {X : Cx} {ec : EC} {Ef : L2.St → XK} {io Ol O O' : List Nat} {e : Expr} {f : Rho → R (List (PyData × PyData))} {pos : Pos}
theorem ds_ownD {x : Str} {i : Nat} {pos' : Pos} (fl : Flat Ef) (hN : X.N.Nodup) (hi : X.N[i]? = some x) (hx : Loc X.env.scope x) (he : DD X ec Ef O e f) (hl : ∀ σ : L2.St, σ.length = X.N.length → i < σ.length) (hO : i ∉ O := by decide) (hs : swapsWith e (some (.Name x pos')) pos.line X.env = pure false := by rfl)
    (hf : X.fn x = true ∨ X.env.scope.names.lookup x = some .local := by first | exact .inl rfl | exact .inr rfl | assumption) : DS X ec Ef io Ol O (i :: O) (.Assign [.Name x pos'] e pos) (fun ρ => (f ρ).bind fun ds => .ok (.nx (ρ.set i (some (.dict ds))))) := by
  refine ⟨⟨fun pins s σ H D I hw => (ps_set (i := i) hN hi hx he.pe hs hf).run pins s σ H D I ?_⟩⟩
  obtain ⟨B, P, Z, ρ, hE, p⟩ := hw
  refine ⟨B, P, Z, ρ, hE, PostS.of fl hE p fun d v H1 _ s d1 hE1 p1 => ?_⟩
  obtain ⟨q, hq⟩ := hE.setFD s hO (hl σ I.len) d1
  exact p1 _ _ _ hq
end
end DL
set_option Elab.async false
set_option linter.all false
set_option maxRecDepth 100000
set_option maxHeartbeats 1000000
namespace DL
open PySem PySem.Spec PyProof.Rows L2
/-! ### targets: tuples -/
def DGso (K : PySem.W.Frag) (S : List Nat) (t : List PyData → Rho → Option Rho) (g : TGs) : Prop := ∀ (B : BB) O P Z σ H ρ ds vs (Q : L2.St → Hp → Prop), (∀ i, i ∈ S → i ∉ O) → EnvOk K B O P Z σ H ρ → DpAll K (hid (P ++ Z) H) vs ds →
    ∀ ρ', t ds ρ = some ρ' → (∀ σ', EnvOk K B O P Z σ' H ρ' → (∀ vs, (∀ i, i ∈ S → i ∈ vs) → wipe σ' vs = wipe σ vs) → Q σ' H) → g vs σ H Q
structure DGs (X : Cx) (S : List Nat) (es : List Expr) (t : List PyData → Rho → Option Rho) : Prop where
  ex : ∃ g, PGs X es g ∧ DGso X.K S t g
def tgNil : List PyData → Rho → Option Rho
  | [], ρ => some ρ
  | _, _ => none
def tgCons (t : PyData → Rho → Option Rho) (u : List PyData → Rho → Option Rho) : List PyData → Rho → Option Rho
  | d :: ds, ρ => (t d ρ).bind (u ds)
  | [], _ => none
def tgTup (n : Nat) (u : List PyData → Rho → Option Rho) : PyData → Rho → Option Rho
  | .tuple ds, ρ => if ds.length = n then u ds ρ else none
  | _, _ => none
section
variable {X : Cx} {S S' : List Nat} {e : Expr} {es : List Expr} {t : PyData → Rho → Option Rho} {u : List PyData → Rho → Option Rho} {pos : Pos} {k n : Nat}
theorem dgs_nil : DGs X [] [] tgNil := ⟨_, pgs_nil, fun B O P Z σ H ρ ds vs Q hS hE hv ρ' ht hq => by
  cases ds with
  | nil =>
    cases ht
    cases hv
    exact ⟨rfl, hq σ hE fun _ _ => rfl⟩
  | cons _ _ => cases ht⟩
theorem dgs_cons (h : DG X S e t) (r : DGs X S' es u) (hs : (assignEach (e :: es) X.env).map (·.2) = assign e X.env :: (assignEach es X.env).map (·.2) := by rfl) : DGs X (S ++ S') (e :: es) (tgCons t u) := by
  obtain ⟨g, h1, h2⟩ := h.ex
  obtain ⟨gs, h3, h4⟩ := r.ex
  refine ⟨_, pgs_cons h1 h3 hs, fun B O P Z σ H ρ ds vs Q hS hE hv ρ' ht hq => ?_⟩
  cases ds with
  | nil => cases ht
  | cons d ds =>
    cases hv with
    | cons r t' =>
      have ht : (t d ρ).bind (u ds) = some ρ' := ht
      cases h5 : t d ρ with
      | none => rw [h5] at ht; cases ht
      | some ρ1 =>
        rw [h5] at ht
        refine ⟨_, _, rfl, h2 B O P Z σ H ρ d _ _ (fun i hi => hS i (List.mem_append_left _ hi)) hE r ρ1 h5 fun σ1 hE1 hw1 => ?_⟩
        refine h4 B O P Z σ1 H ρ1 ds _ _ (fun i hi => hS i (List.mem_append_right _ hi)) hE1 t' ρ' ht fun σ2 hE2 hw2 => hq σ2 hE2 fun ws hws => ?_
        rw [hw2 ws fun i hi => hws i (List.mem_append_right _ hi), hw1 ws fun i hi => hws i (List.mem_append_left _ hi)]
theorem dg_tup (hc : X.calm = true) (h : DGs X S es u) (hn : (assignEach es X.env).length = n := by rfl) (hst : (assignEach es X.env).findIdx? (·.1) = none := by rfl) : DG X S (.Tuple es k pos) (tgTup n u) := by
  obtain ⟨gs, h3, h4⟩ := h.ex
  refine ⟨_, pg_tup hc h3 hn hst, fun B O P Z σ H ρ d v Q hS hE hv ρ' ht hq => ?_⟩
  cases d with
  | tuple ds =>
    have ht : (if ds.length = n then u ds ρ else none) = some ρ' := ht
    by_cases hl : ds.length = n
    · rw [if_pos hl] at ht
      cases hv with
      | tup hs ha => exact ⟨_, _, rfl, same_seqT hid_le hs, by rw [dpa_len ha]; exact hl, h4 B O P Z σ H ρ ds _ Q hS hE ha ρ' ht hq⟩
    · rw [if_neg hl] at ht; cases ht
  | _ => cases ht
end
theorem dgo_name {K : PySem.W.Frag} (i : Nat) : DGo K [i] (tg1 i) (gName i) := fun B O P Z σ H ρ d v Q hS hE hv ρ' ht hq => by
  cases ht
  exact hq _ (hE.setV (hS i (by simp)) hv) fun vs hvs => wipe_set (hvs i (by simp))
theorem dgo_nil {K : PySem.W.Frag} : DGso K [] tgNil gNil := fun B O P Z σ H ρ ds vs Q hS hE hv ρ' ht hq => by
  cases ds with
  | nil =>
    cases ht
    cases hv
    exact ⟨rfl, hq σ hE fun _ _ => rfl⟩
  | cons _ _ => cases ht
theorem dgo_cons {K : PySem.W.Frag} {S S' : List Nat} {t : PyData → Rho → Option Rho} {u : List PyData → Rho → Option Rho} {g : TG} {gs : TGs} (h2 : DGo K S t g) (h4 : DGso K S' u gs) : DGso K (S ++ S') (tgCons t u) (gCons g gs) := fun B O P Z σ H ρ ds vs Q hS hE hv ρ' ht hq => by
  cases ds with
  | nil => cases ht
  | cons d ds =>
    cases hv with
    | cons r t' =>
      have ht : (t d ρ).bind (u ds) = some ρ' := ht
      cases h5 : t d ρ with
      | none => rw [h5] at ht; cases ht
      | some ρ1 =>
        rw [h5] at ht
        refine ⟨_, _, rfl, h2 B O P Z σ H ρ d _ _ (fun i hi => hS i (List.mem_append_left _ hi)) hE r ρ1 h5 fun σ1 hE1 hw1 => ?_⟩
        refine h4 B O P Z σ1 H ρ1 ds _ _ (fun i hi => hS i (List.mem_append_right _ hi)) hE1 t' ρ' ht fun σ2 hE2 hw2 => hq σ2 hE2 fun ws hws => ?_
        rw [hw2 ws fun i hi => hws i (List.mem_append_right _ hi), hw1 ws fun i hi => hws i (List.mem_append_left _ hi)]
theorem dgo_tup {K : PySem.W.Frag} {S : List Nat} {u : List PyData → Rho → Option Rho} {gs : TGs} {n : Nat} (h4 : DGso K S u gs) : DGo K S (tgTup n u) (gTup K n gs) := fun B O P Z σ H ρ d v Q hS hE hv ρ' ht hq => by
  cases d with
  | tuple ds =>
    have ht : (if ds.length = n then u ds ρ else none) = some ρ' := ht
    by_cases hl : ds.length = n
    · rw [if_pos hl] at ht
      cases hv with
      | tup hs ha => exact ⟨_, _, rfl, same_seqT hid_le hs, by rw [dpa_len ha]; exact hl, h4 B O P Z σ H ρ ds _ Q hS hE ha ρ' ht hq⟩
    · rw [if_neg hl] at ht; cases ht
  | _ => cases ht
section
variable {X : Cx} {ec : EC} {Ef : L2.St → XK} {io Ol O S : List Nat} {tg e a b c : Expr} {t : PyData → Rho → Option Rho} {f : Rho → R PyData} {fa : Rho → R (List PyData)} {pos : Pos}
def asgT (t : PyData → Rho → Option Rho) (f : Rho → R PyData) : Rho → R Fl := fun ρ => (f ρ).bind fun d => (R.ofO (t d ρ)).bind fun ρ' => .ok (.nx ρ')
/-- a, b = e -/
theorem ds_asgT (fl : Flat Ef) (he : DE X ec Ef O e f) (hg : DG X S tg t) (hS : ∀ i, i ∈ S → i ∉ O := by decide) (hs : swapsWithSole [tg] e pos.line X.env = pure false := by rfl) (hw : swappedStores [tg] e X.env = pure none := by rfl)
    (h1 : (assignEach [tg] X.env).map (·.2) = [assign tg X.env] := by rfl) : DS X ec Ef io Ol O O (.Assign [tg] e pos) (asgT t f) := by
  obtain ⟨g, h2, h3⟩ := hg.ex
  refine ⟨(ps_asg he.pe h2 hs hw h1).imp fun D σ H ⟨B, P, Z, ρ, hE, p⟩ => ⟨B, P, Z, ρ, hE, PostS.of fl hE p fun d v H1 _ s d1 hE1 p1 => ?_⟩⟩
  cases ht : t d ρ with
  | none => rw [ht] at p1; exact p1.elim
  | some ρ' =>
    rw [ht] at p1
    exact h3 B O P Z σ H1 ρ d v _ hS hE1 d1 ρ' ht fun σ' hE' _ => p1 _ _ _ hE'
def par2 (i j : Nat) (fa : Rho → R (List PyData)) : Rho → R Fl := fun ρ => (fa ρ).bind fun ds => match ds with
  | [x, y] => .ok (.nx ((ρ.set i (some (.d x))).set j (some (.d y))))
  | _ => .bad
def par3 (i j l : Nat) (fa : Rho → R (List PyData)) : Rho → R Fl := fun ρ => (fa ρ).bind fun ds => match ds with
  | [x, y, z] => .ok (.nx (((ρ.set i (some (.d x))).set j (some (.d y))).set l (some (.d z))))
  | _ => .bad
theorem ds_par2 {i j : Nat} {x y : Str} {px py pt : Pos} {kt k2 pt2} (fl : Flat Ef) (hc : X.calm = true) (hN : X.N.Nodup) (hi : X.N[i]? = some x) (hj : X.N[j]? = some y) (ha : DA X ec Ef O [a, b] fa) (hij : i ≠ j := by decide) (hiO : i ∉ O := by decide) (hjO : j ∉ O := by decide)
    (hx : X.env.scope.names.lookup x = some .local := by rfl) (hy : X.env.scope.names.lookup y = some .local := by rfl)
    (hw : swappedStores [.Tuple [.Name x px, .Name y py] kt pt] (.Tuple [a, b] k2 pt2) X.env = pure (some [x, y]) := by rfl)
    (hs : swapsWithSole [.Tuple [.Name x px, .Name y py] kt pt] (.Tuple [a, b] k2 pt2) pos.line X.env = pure false := by rfl) :
    DS X ec Ef io Ol O O (.Assign [.Tuple [.Name x px, .Name y py] kt pt] (.Tuple [a, b] k2 pt2) pos) (par2 i j fa) :=
  ⟨(ps_par hc hN hi hj hij hx hy ha.pa hw hs).imp fun D σ H ⟨B, P, Z, ρ, hE, p⟩ => ⟨B, P, Z, ρ, hE, PostS.of fl hE p fun ds vs H1 _ s d1 hE1 p1 => by
    match ds, p1 with
    | [dx, dy], p1 =>
      cases d1 with
      | cons r1 t =>
        cases t with
        | cons r2 t =>
          cases t
          exact ⟨_, _, rfl, p1 _ _ _ ((hE1.setV hiO r1).setV hjO r2)⟩
    | [], p1 => exact p1.elim
    | [_], p1 => exact p1.elim
    | _ :: _ :: _ :: _, p1 => exact p1.elim⟩⟩
theorem ds_par3 {i j l : Nat} {x y z : Str} {px py pz pt : Pos} {kt k2 pt2} (fl : Flat Ef) (hc : X.calm = true) (hN : X.N.Nodup) (hi : X.N[i]? = some x) (hj : X.N[j]? = some y) (hl : X.N[l]? = some z) (ha : DA X ec Ef O [a, b, c] fa) (hij : i ≠ j := by decide) (hil : i ≠ l := by decide) (hjl : j ≠ l := by decide) (hiO : i ∉ O := by decide) (hjO : j ∉ O := by decide) (hlO : l ∉ O := by decide)
    (hx : X.env.scope.names.lookup x = some .local := by rfl) (hy : X.env.scope.names.lookup y = some .local := by rfl) (hz : X.env.scope.names.lookup z = some .local := by rfl)
    (hw : swappedStores [.Tuple [.Name x px, .Name y py, .Name z pz] kt pt] (.Tuple [a, b, c] k2 pt2) X.env = pure (some [x, y, z]) := by rfl)
    (hs : swapsWithSole [.Tuple [.Name x px, .Name y py, .Name z pz] kt pt] (.Tuple [a, b, c] k2 pt2) pos.line X.env = pure false := by rfl) :
    DS X ec Ef io Ol O O (.Assign [.Tuple [.Name x px, .Name y py, .Name z pz] kt pt] (.Tuple [a, b, c] k2 pt2) pos) (par3 i j l fa) :=
  ⟨(ps_par3 hc hN hi hj hl hij hil hjl hx hy hz ha.pa hw hs).imp fun D σ H ⟨B, P, Z, ρ, hE, p⟩ => ⟨B, P, Z, ρ, hE, PostS.of fl hE p fun ds vs H1 _ s d1 hE1 p1 => by
    match ds, p1 with
    | [dx, dy, dz], p1 =>
      cases d1 with
      | cons r1 t =>
        cases t with
        | cons r2 t =>
          cases t with
          | cons r3 t =>
            cases t
            exact ⟨_, _, _, rfl, p1 _ _ _ (((hE1.setV hiO r1).setV hjO r2).setV hlO r3)⟩
    | [], p1 => exact p1.elim
    | [_], p1 => exact p1.elim
    | [_, _], p1 => exact p1.elim
    | _ :: _ :: _ :: _ :: _, p1 => exact p1.elim⟩⟩
/-- name = [..]: on one line the name is stored within the block -/
theorem ds_setLc {elt tgc iter : Expr} {ifs : List Expr} {scope : Scope} {own : List (Str × Nat)} {i : Nat} {y : Str} {py spos : Pos} {fi : Rho → R (List PyData)} {tc : PyData → Rho → Option Rho} {ft : Rho → R Bool} {fe : Rho → R PyData} (fl : Flat Ef) (hc : X.calm = true) (hN : X.N.Nodup) (hy : X.N[i]? = some y) (hi : DJ X ec Ef O tgc iter fi) (ok : BlkOk X.N X.env.scope scope own) (hg : ∃ gg, (∀ s H C cl fp, PG (blkX X scope s H C cl fp) tgc gg) ∧ DGo X.K S tc gg)
    (ht : ∀ s H C cl fp, DTs (blkX X scope s H C cl fp) ec (fun _ => E0) O ifs ft) (he : ∀ s H C cl fp, DE (blkX X scope s H C cl fp) ec (fun _ => E0) O elt fe) (hsw : swapsWith (.ListComp elt [⟨tgc, iter, ifs, 0⟩] scope pos) (some (.Name y py)) spos.line X.env = pure true) (hyl : X.env.scope.names.lookup y = some .local := by rfl) (hiO : i ∉ O := by decide) (hv : ∀ i, i ∈ own.map (·.2) → i ∉ O := by decide) (hSv : ∀ i, i ∈ S → i ∈ own.map (·.2) := by decide)
    (hs : ∀ x, foldedSetIterable iter X.env x = pure x := by intro _; rfl) : DS X ec Ef io Ol O O (.Assign [.Name y py] (.ListComp elt [⟨tgc, iter, ifs, 0⟩] scope pos) spos) (setE i (fComp (own.map (·.2)) fi tc ft fe)) := by
  obtain ⟨gg, h1, h2⟩ := hg
  refine ⟨(ps_setLc hc hN hy hyl hsw hi.pi ok h1 (fun s H C cl fp => (ht s H C cl fp).pt) (fun s H C cl fp => (he s H C cl fp).pe) hs).imp fun D σ H ⟨B, P, Z, ρ, hE, p⟩ => comp_imp (ec := ec) (Ef := Ef) hv hSv h2 σ H _ ⟨B, P, Z, ρ, hE, PostS.of fl hE p fun d v H1 _ s d1 hE1 p1 => p1 _ _ _ (hE1.setV hiO d1.toV)⟩⟩
theorem ds_ownLc {elt tgc iter : Expr} {ifs : List Expr} {scope : Scope} {own : List (Str × Nat)} {i : Nat} {y : Str} {py spos : Pos} {fi : Rho → R (List PyData)} {tc : PyData → Rho → Option Rho} {ft : Rho → R Bool} {fe : Rho → R PyData} (fl : Flat Ef) (hc : X.calm = true) (hN : X.N.Nodup) (hy : X.N[i]? = some y) (hi : DJ X ec Ef O tgc iter fi) (ok : BlkOk X.N X.env.scope scope own) (hg : ∃ gg, (∀ s H C cl fp, PG (blkX X scope s H C cl fp) tgc gg) ∧ DGo X.K S tc gg)
    (ht : ∀ s H C cl fp, DTs (blkX X scope s H C cl fp) ec (fun _ => E0) O ifs ft) (he : ∀ s H C cl fp, DE (blkX X scope s H C cl fp) ec (fun _ => E0) O elt fe) (hsw : swapsWith (.ListComp elt [⟨tgc, iter, ifs, 0⟩] scope pos) (some (.Name y py)) spos.line X.env = pure true) (hl : ∀ σ : L2.St, σ.length = X.N.length → i < σ.length) (hyl : X.env.scope.names.lookup y = some .local := by rfl) (hiO : i ∉ O := by decide) (hv : ∀ i, i ∈ own.map (·.2) → i ∉ O := by decide) (hSv : ∀ i, i ∈ S → i ∈ own.map (·.2) := by decide)
    (hs : ∀ x, foldedSetIterable iter X.env x = pure x := by intro _; rfl) : DS X ec Ef io Ol O (i :: O) (.Assign [.Name y py] (.ListComp elt [⟨tgc, iter, ifs, 0⟩] scope pos) spos) (setE i (fComp (own.map (·.2)) fi tc ft fe)) := by
  obtain ⟨gg, h1, h2⟩ := hg
  refine ⟨⟨fun pins s σ H D I hw => (ps_setLc (tt := tG X.K ec (fun _ => E0) O (fun _ _ _ => dT) ft) (te := tG X.K ec (fun _ => E0) O (fun _ _ => dV X.K) fe) hc hN hy hyl hsw hi.pi ok h1 (fun s H C cl fp => (ht s H C cl fp).pt) (fun s H C cl fp => (he s H C cl fp).pe) hs).run pins s σ H D I ?_⟩⟩
  obtain ⟨B, P, Z, ρ, hE, p⟩ := hw
  refine comp_imp (ec := ec) (Ef := Ef) hv hSv h2 σ H _ ⟨B, P, Z, ρ, hE, PostS.of fl hE p fun d v H1 _ s d1 hE1 p1 => ?_⟩
  obtain ⟨q, hq⟩ := hE.setF s hiO (hl σ I.len) d1
  exact p1 _ _ _ hq
end
end DL
set_option Elab.async false
set_option linter.all false
set_option maxRecDepth 100000
set_option maxHeartbeats 1000000
namespace DL
open PySem PySem.Spec PyProof.Rows L2
/-! ### the Hook: no lists, tuples by name -/
def noL (g : Addr → Option Obj) (a : Addr) : Option Obj := match g a with
  | some o => if decide (o.cls = .type "list") = true then none else some o
  | none => none
theorem noL_some {g : Addr → Option Obj} {a : Addr} {o : Obj} (h : noL g a = some o) : g a = some o ∧ o.cls ≠ .type "list" := by
  unfold noL at h
  cases e : g a with
  | none => rw [e] at h; cases h
  | some o' =>
    rw [e] at h
    have h : (if decide (o'.cls = .type "list") = true then none else some o') = some o := h
    split at h
    · cases h
    · rename_i hn
      cases h
      exact ⟨rfl, fun z => hn (decide_eq_true z)⟩
abbrev Tup : Type := Str × List He.Dv
abbrev Chk : Type := PySem.W.Frag → Bool
def obsX (ta : List Tup) (xs : List Chk) (fa : List He.Fa) (fn : List He.DefD) (K : PySem.W.Frag) : He.AlD := (((ta.all fun q => He.tupB K q.1 q.2) && xs.all fun f => f K) && ((fa.all fun f => f.ok K) && fn.all fun d => d.ok K), fn.map fun d => He.fnW K d.at_)
def obsXG (n : Nat) (ta : List Tup) (xs : List Chk) (fa : List He.Fa) (fn : List He.DefD) (g : Addr → Option Obj) : He.AlD := obsX ta xs fa fn (He.frG (noL g) (He.asD g n))
structure SaysX (ta : List Tup) (xs : List Chk) (fa : List He.Fa) (fn : List He.DefD) (K : PySem.W.Frag) : Prop where
  says : He.SaysD fa fn K
  tup : ∀ q, q ∈ ta → He.tupB K q.1 q.2 = true
  chk : ∀ f, f ∈ xs → f K = true
  nl : NoList K
theorem saysX_of {ta : List Tup} {xs : List Chk} {fa : List He.Fa} {fn : List He.DefD} {g : Addr → Option Obj} {n : Nat} (h : obsXG n ta xs fa fn g = He.valD fn) : SaysX ta xs fa fn (He.frG (noL g) (He.asD g n)) := by
  unfold obsXG obsX He.valD at h
  obtain ⟨h1, h2⟩ := Prod.mk.inj h
  obtain ⟨h3, h4⟩ := Bool.and_eq_true_iff.mp h1
  obtain ⟨h5, h6⟩ := Bool.and_eq_true_iff.mp h3
  exact ⟨Prod.ext h4 h2, fun q hq => List.all_eq_true.mp h5 q hq, fun f hf => List.all_eq_true.mp h6 f hf, fun a o e => (noL_some (He.frG_at _ e)).2⟩
def hookX (n : Nat) (ta : List Tup) (xs : List Chk) (fa : List He.Fa) (fn : List He.DefD) : PySem.W.Hook where
  α := He.AlD
  obs := fun s => obsXG n ta xs fa fn s.heap.get?
  val := fun _ => He.valD fn
  says := fun _ h => ∃ K : PySem.W.Frag, K.In h ∧ SaysX ta xs fa fn K
  of := fun _ s e => ⟨_, fun a o q => (noL_some (He.frG_at _ q)).1, saysX_of e⟩
  keeps := fun _ _ _ ⟨K, hK, c⟩ k => ⟨K, PySem.W.Frag.In.keeps hK k, c⟩
theorem obsXG_eq {n : Nat} {ta : List Tup} {xs : List Chk} {fa : List He.Fa} {fn : List He.DefD} {g : Addr → Option Obj} {s : Shared} (h : ∀ a, g a = s.heap.get? a) : obsXG n ta xs fa fn g = (hookX n ta xs fa fn).obs s := by
  have e : g = s.heap.get? := funext h
  rw [e] <;> rfl
theorem u65 {k : Nat} {A : Around} (r : Room k A) : A.units + 65 < cLine := by have := r.un; omega
theorem u1 {k : Nat} {A : Around} (r : Room k A) : A.units + 1 < cLine := by have := r.un; omega
/-! ### what is not reached -/
section
variable {X : Cx} {ec : EC} {Ef : L2.St → XK} {io Ol O O' : List Nat} {st : Stmt} {sts : List Stmt} {e : Expr}
theorem ds_bad : DS X ec Ef io Ol O O' st (fun _ => .bad) := ⟨⟨fun pins s σ H D I ⟨_, _, _, _, _, p⟩ => p.elim⟩⟩
theorem dss_bad : DSs X ec Ef io Ol O O' sts (fun _ => .bad) := ⟨⟨fun pins s σ H D I ⟨_, _, _, _, _, p⟩ => p.elim⟩⟩
theorem de_bad : DE X ec Ef O e (fun _ => .bad) := ⟨⟨fun pins s σ H Q I ⟨_, _, _, _, _, p⟩ => p.elim⟩⟩
end
/-! ### a module's constants -/
section
variable {X : Cx} {ec : EC} {Ef : L2.St → XK} {O : List Nat}
/-- a tuple of plain values -/
theorem de_globT {x : Str} {vs : List He.Dv} {ds : List PyData} {pos : Pos} (hg : Gl X x) (hm : X.mg x = some (.ref (He.ga X.K x))) (ht : He.tupB X.K x vs = true) (hd : ∀ H, DpAll X.K H (vs.map (He.Dv.v X.K)) ds) (hdb : (x == ("__debug__" : Str)) = false := by decide) : DE X ec Ef O (.Name x pos) (fC (.tuple ds)) :=
  de_glob (v := .ref (He.ga X.K x)) hg ⟨_, hm, rfl⟩ (fun H => .tup (He.tupB_ok ht H) (hd H)) hdb
end
end DL
set_option Elab.async false
set_option linter.all false
set_option maxRecDepth 100000
set_option maxHeartbeats 1000000
namespace DL
open PySem PySem.Spec PyProof.Rows L2
/-! ### try .. except -/
/-- what follows, and what an exception brings -/
def R.tryc {α β : Type} (r : R α) (k : α → R β) (h : Nat → Option PyData → R β) : R β := match r with
  | .ok a => k a
  | .exc c x => h c x
  | .bad => .bad
  | .pick P f => .pick P fun d => (f d).tryc k h
@[simp] theorem R.tryc_ok {α β : Type} (a : α) (k : α → R β) (h : Nat → Option PyData → R β) : (R.ok a).tryc k h = k a := id rfl
@[simp] theorem R.tryc_exc {α β : Type} (c : Nat) (x : Option PyData) (k : α → R β) (h : Nat → Option PyData → R β) : (R.exc c x).tryc k h = h c x := id rfl
@[simp] theorem R.tryc_bad {α β : Type} (k : α → R β) (h : Nat → Option PyData → R β) : (R.bad).tryc k h = .bad := id rfl
@[simp] theorem R.tryc_pick {α β : Type} (P : PyData → Prop) (f : PyData → R α) (k : α → R β) (h : Nat → Option PyData → R β) : (R.pick P f).tryc k h = .pick P fun d => (f d).tryc k h := id rfl
theorem R.wp_tryc {α β : Type} (r : R α) (k : α → R β) (h : Nat → Option PyData → R β) (Q : β → Prop) (E : Nat → Option PyData → Prop) : (r.tryc k h).wp Q E = r.wp (fun a => (k a).wp Q E) (fun c x => (h c x).wp Q E) := by
  induction r with
  | pick P f ih => simp only [tryc_pick, wp_pick]; exact forall_congr fun d => by rw [ih d]
  | _ => rfl
/-- the clauses, one after the other; what none takes goes on -/
structure DHs (X : Cx) (ec : EC) (Ef : L2.St → XK) (io Ol O O' : List Nat) (hds : List ExceptHandler) (hf : Nat → Option PyData → Rho → R Fl) : Prop where
  ex : ∃ l, HdsOk X hds l ∧ ∀ (B : BB) P Z ρ σ H D c y dx, EnvOk X.K B O P Z σ H ρ → ExOk X.K (P ++ Z) ec H c dx y → PostS X.K ec Ef B Z io Ol O' D (hf c y ρ) → wMany X.K (fun cls d σ H => Ef σ cls d H) D l (ec.cls c) dx σ H
section
variable {X : Cx} {ec : EC} {Ef : L2.St → XK} {io Ol O O' : List Nat} {hds : List ExceptHandler} {hf : Nat → Option PyData → Rho → R Fl}
theorem dhs_nil : DHs X ec Ef io Ol O O' [] (fun c y _ => .exc c y) := ⟨[], .nil, fun B P Z ρ σ H D c y dx hE e q => (show PostS X.K ec Ef B Z io Ol O' D (.exc c y) from q) σ H dx hE.bs hE.so (exOk_sub (fun a z => List.mem_append_right _ z) e)⟩
theorem dhs_cons {x : Str} {C : Value} {j : Nat} {b₀ : Stmt} {suite : List Stmt} {np pos' : Pos} {g : Rho → R Fl} (hc : Names X x C) (hm : ∀ c, PySem.W.exmOne X.K (ec.cls c) C = some (decide (c = j)))
    (hsu : ∀ (a : Addr) (pn : List (Addr × Obj)), DSs (X.suite a pn) ec Ef io Ol O O' (b₀ :: suite) g) (r : DHs X ec Ef io Ol O O' hds hf) :
    DHs X ec Ef io Ol O O' (.ExceptHandler (some (.Name x np)) none (b₀ :: suite) pos' :: hds) (fun c y ρ => if c = j then g ρ else hf c y ρ) := by
  obtain ⟨l, hl, hq⟩ := r.ex
  refine ⟨(C, fun _ _ _ => tS X.K ec Ef io Ol O O' g) :: l, .cons hc (fun a oe cls d pn _ _ => (hsu a ((a, oe) :: pn)).ps) hl, fun B P Z ρ σ H D c y dx hE e q => ⟨decide (c = j), hm c, fun hb a _ => ?_, fun hb => ?_⟩⟩
  · have q : PostS X.K ec Ef B Z io Ol O' D (if c = j then g ρ else hf c y ρ) := q
    rw [if_pos (of_decide_eq_true hb)] at q
    exact ⟨B, P, Z, ρ, hE, q⟩
  · have q : PostS X.K ec Ef B Z io Ol O' D (if c = j then g ρ else hf c y ρ) := q
    rw [if_neg (of_decide_eq_false hb)] at q
    exact hq B P Z ρ σ H D c y dx hE e q
/-- the body is one statement over one expression -/
theorem try_core {K : PySem.W.Frag} {B : BB} {P Z : List Addr} {ρ : Rho} {σ : L2.St} {H : Hp} {D : Ends} {l : List (Value × (Addr → Value → Option Addr → TS))} {r : R PyData} {k : PyData → R Fl} {hf : Nat → Option PyData → Rho → R Fl} {Q : V → Hp → Prop} (hE : EnvOk K B O P Z σ H ρ)
    (hq : ∀ (B : BB) P Z ρ σ H D c y dx, EnvOk K B O P Z σ H ρ → ExOk K (P ++ Z) ec H c dx y → PostS K ec Ef B Z io Ol O' D (hf c y ρ) → wMany K (fun cls d σ H => Ef σ cls d H) D l (ec.cls c) dx σ H)
    (p : PostS K ec Ef B Z io Ol O' D (r.tryc k fun c y => hf c y ρ)) (hk : ∀ a v H1, Gr B.S (P ++ Z) H H1 → dV K (P ++ Z) H1 v a → EnvOk K B O P Z σ H1 ρ → PostS K ec Ef B Z io Ol O' D (k a) → Q v H1) :
    Post B.S K ec (dV K (P ++ Z)) (P ++ Z) (fun cls d H => wMany K (fun cls d σ H => Ef σ cls d H) D l cls d σ H) H Q r := by
  unfold PostS at p
  rw [R.wp_tryc] at p
  exact R.wp_imp p (fun a p v H1 s d => hk a v H1 s d (hE.same s) p) (fun c y p H1 dx s e => hq B P Z ρ σ H1 D c y dx (hE.same s) e p)
variable {e : Expr} {f : Rho → R PyData} {pos : Pos}
def fTryE (f : Rho → R PyData) (hf : Nat → Option PyData → Rho → R Fl) : Rho → R Fl := fun ρ => (f ρ).tryc (fun _ => .ok (.nx ρ)) fun c y => hf c y ρ
/-- try: e except .. -/
theorem ds_tryE {h₀ : ExceptHandler} {epos : Pos} (hs : X.stack = X.env :: X.outer) (hfr : X.env.frame = some X.env.locals) (tk : Takes X (fun cls d σ H => Ef σ cls d H))
    (he : ∀ (W : WX) (pn : List (Addr × Obj)) (xe : Value → Shared → Prop), Takes (X.tr pn xe) W → PassesOwn (model X.prog X.w) X.A X.env xe → DE (X.tr pn xe) ec (WE W) O e f) (hh : DHs X ec Ef io Ol O O (h₀ :: hds) hf)
    (hsw : swapsWith e none epos.line X.env = pure false := by rfl) : DS X ec Ef io Ol O O (.Try [.Expr e epos] (h₀ :: hds) [] [] pos) (fTryE f hf) := by
  obtain ⟨l, hl, hq⟩ := hh.ex
  refine ⟨(ps_try_many hs hfr tk (tb := fun W D σ H => tG X.K ec (WE W) O (fun _ _ => dV X.K) f σ H fun v H1 => D.nx σ H1) (fun W pn xe tk2 pw => ?_) hl).imp fun D σ H ⟨B, P, Z, ρ, hE, p⟩ => ⟨B, P, Z, ρ, hE, ?_⟩⟩
  · exact pss_one (ps_expr (X := X.tr pn xe) (he W pn xe tk2 pw).pe hsw)
  · exact try_core hE hq p fun a v H1 s d hE1 p1 => (show PostS X.K ec Ef B Z io Ol O D (.ok (.nx ρ)) from p1) _ _ _ hE1
def fTryA (i : Nat) (f : Rho → R PyData) (hf : Nat → Option PyData → Rho → R Fl) : Rho → R Fl := fun ρ => (f ρ).tryc (fun d => .ok (.nx (ρ.set i (some (.d d))))) fun c y => hf c y ρ
/-- try: x = e except .. -/
theorem ds_tryA {h₀ : ExceptHandler} {x : Str} {i : Nat} {pos' apos : Pos} (hs : X.stack = X.env :: X.outer) (hfr : X.env.frame = some X.env.locals) (tk : Takes X (fun cls d σ H => Ef σ cls d H)) (hN : X.N.Nodup) (hi : X.N[i]? = some x) (hx : Loc X.env.scope x)
    (he : ∀ (W : WX) (pn : List (Addr × Obj)) (xe : Value → Shared → Prop), Takes (X.tr pn xe) W → PassesOwn (model X.prog X.w) X.A X.env xe → DE (X.tr pn xe) ec (WE W) O e f) (hh : DHs X ec Ef io Ol O O (h₀ :: hds) hf) (hO : i ∉ O := by decide)
    (hsw : swapsWith e (some (.Name x pos')) apos.line X.env = pure false := by rfl) (hff : X.fn x = true ∨ X.env.scope.names.lookup x = some .local := by first | exact .inl rfl | exact .inr rfl | assumption) :
    DS X ec Ef io Ol O O (.Try [.Assign [.Name x pos'] e apos] (h₀ :: hds) [] [] pos) (fTryA i f hf) := by
  obtain ⟨l, hl, hq⟩ := hh.ex
  refine ⟨(ps_try_many hs hfr tk (tb := fun W D σ H => tG X.K ec (WE W) O (fun _ _ => dV X.K) f σ H fun v H1 => D.nx (σ.set i (some v)) H1) (fun W pn xe tk2 pw => ?_) hl).imp fun D σ H ⟨B, P, Z, ρ, hE, p⟩ => ⟨B, P, Z, ρ, hE, ?_⟩⟩
  · exact pss_one (ps_set (X := X.tr pn xe) (i := i) hN hi hx (he W pn xe tk2 pw).pe hsw hff)
  · exact try_core hE hq p fun a v H1 s d hE1 p1 => (show PostS X.K ec Ef B Z io Ol O D (.ok (.nx (ρ.set i (some (.d a))))) from p1) _ _ _ (hE1.setV hO d)
def fTryR (f : Rho → R PyData) (hf : Nat → Option PyData → Rho → R Fl) : Rho → R Fl := fun ρ => (f ρ).tryc (fun d => .ok (.rt d ρ)) fun c y => hf c y ρ
/-- try: return e except .. -/
theorem ds_tryR {h₀ : ExceptHandler} {rpos : Pos} (hs : X.stack = X.env :: X.outer) (hfr : X.env.frame = some X.env.locals) (tk : Takes X (fun cls d σ H => Ef σ cls d H))
    (he : ∀ (W : WX) (pn : List (Addr × Obj)) (xe : Value → Shared → Prop), Takes (X.tr pn xe) W → PassesOwn (model X.prog X.w) X.A X.env xe → DE (X.tr pn xe) ec (WE W) O e f) (hh : DHs X ec Ef io Ol O O' (h₀ :: hds) hf) (hsub : List.Sublist io O := by decide) :
    DS X ec Ef io Ol O O' (.Try [.Return (some e) rpos] (h₀ :: hds) [] [] pos) (fTryR f hf) := by
  obtain ⟨l, hl, hq⟩ := hh.ex
  refine ⟨(ps_try_many hs hfr tk (tb := fun W D σ H => tG X.K ec (WE W) O (fun _ _ => dV X.K) f σ H fun v H1 => D.rt v H1) (fun W pn xe tk2 pw => ?_) hl).imp fun D σ H ⟨B, P, Z, ρ, hE, p⟩ => ⟨B, P, Z, ρ, hE, ?_⟩⟩
  · exact pss_one (ps_ret (X := X.tr pn xe) (he W pn xe tk2 pw).pe)
  · exact try_core hE hq p fun a v H1 s d hE1 p1 => by
      obtain ⟨P', h1, hE'⟩ := hE1.release hsub
      exact (show PostS X.K ec Ef B Z io Ol O' D (.ok (.rt a ρ)) from p1) _ _ _ _ hE' (dp_mono (hid_sub (mask_sub h1)) a v d)
end
/-! ### defs in slots -/
def getF (ρ : Rho) (i : Nat) : R Str := match ρ[i]? with
  | some (some (.fn x)) => .ok x
  | _ => .bad
theorem getF_case {ρ : Rho} {i : Nat} : (∃ x, ρ[i]? = some (some (.fn x)) ∧ getF ρ i = .ok x) ∨ getF ρ i = .bad := by
  unfold getF
  split
  · rename_i x h; exact .inl ⟨x, h, rfl⟩
  · exact .inr rfl
abbrev FTab := List (Str × Nat × (List PyData → R PyData))
def findT : FTab → Str → Option (Nat × (List PyData → R PyData))
  | [], _ => none
  | q :: T, x => if q.1 = x then some q.2 else findT T x
/-- the defs of a table, at their addresses -/
def TabOk (P : Program) (w : World) (K : PySem.W.Frag) (mg : Str → Option Value) (base : Heap) (ec : EC) (k : Nat) (T : FTab) : Prop := ∀ q, q ∈ T → FnD P w K mg base ec k q.2.1 q.1 q.2.2 ∧ mg q.1 = some (.ref (He.ga K q.1))
section
variable {X : Cx} {ec : EC} {Ef : L2.St → XK} {io Ol O O' : List Nat} {e : Expr} {es : List Expr} {fa : Rho → R (List PyData)} {k i : Nat} {x : Str} {p pos : Pos} {T : FTab}
/-- a local name's def called -/
theorem pe_callLS {E : L2.St → XK} {S : Addr → Sp → Prop} {t : TA} (A : ∀ f s, S f s → ∃ (fd : FuncData) (ps : List Str), FnOk X.prog X.w X.K X.mg X.base (L2.CX X.prog X.w) k f fd ps s ∧ PySem.W.keepIn X.K (.ref f) = true ∧ Binds X.K fd ps []) (hr : Room k X.A) (hN : X.N[i]? = some x) (hv : Vis X.env.scope x) (hx : ∀ σ, PassesAt (L2.CX X.prog X.w) X σ (E σ)) (ha : PA X (e :: es) t)
    (hdb : (x == ("__debug__" : Str)) = false := by decide) (hcd : (x == ("__classdict__" : Str)) = false := by decide)
    (he : starEach (e :: es) X.env = (false, eval e X.env) :: starEach es X.env := by rfl) (hpl : (backTo pos (starEach es X.env)).any (·.1) = false := by rfl) :
    PE X (.Call (.Name x p) (e :: es) [] pos) (fun σ H Q => ∃ f s, σ[i]? = some (some (.ref f)) ∧ S f s ∧ t σ H fun vs H1 => s vs H1 Q (E σ)) := by
  refine ⟨fun pins s σ H Q I h => ?_⟩
  obtain ⟨f, sq, hs, hS, ht⟩ := h
  obtain ⟨fd, ps, F, hk, hb⟩ := A f sq hS
  refine wpAny_Call_Name_kw (thn ((pe_var (pos := p) hN hv hdb hcd).run pins s σ H (fun v H1 => v = .ref f ∧ H1 = H) I ⟨.ref f, hs, rfl, rfl⟩) fun u s1 ⟨v, H1, I1, r1, q1⟩ => ?_)
  obtain ⟨rfl, rfl⟩ := q1
  cases r1
  refine PySem.W.callWith_K (h₀ := X.base) I.ok.mod.kin hk (thn (ha.run pos pins s1 σ _ _ I1 ht) fun us s2 ⟨vs, H2, I2, r, q⟩ => ⟨I2.kIn, ?_⟩) he hpl
  exact run_fnS F hr hb (hx σ) I2 r q
theorem findT_mem : ∀ {T : FTab} {y : Str} {q : Nat × (List PyData → R PyData)}, findT T y = some q → (y, q) ∈ T
  | [], _, _, h => by cases h
  | a :: T, y, q, h => by
    unfold findT at h
    split at h
    · rename_i e
      cases h
      rw [← e]
      exact List.mem_cons_self
    · exact List.mem_cons_of_mem _ (findT_mem h)
def callF (T : FTab) (i : Nat) (fa : Rho → R (List PyData)) : Rho → R PyData := fun ρ => (getF ρ i).bind fun y => match findT T y with
  | some q => (fa ρ).bind (chk q.1 q.2)
  | none => .bad
theorem de_callF (A : TabOk X.prog X.w X.K X.mg X.base ec k T) (hr : Room k X.A) (hp : PassE X Ef) (hN : X.N[i]? = some x) (hv : Vis X.env.scope x) (ha : DA X ec Ef O (e :: es) fa) (hi : i ∉ O := by decide)
    (hdb : (x == ("__debug__" : Str)) = false := by decide) (hcd : (x == ("__classdict__" : Str)) = false := by decide)
    (he : starEach (e :: es) X.env = (false, eval e X.env) :: starEach es X.env := by rfl) (hpl : (backTo pos (starEach es X.env)).any (·.1) = false := by rfl) :
    DE X ec Ef O (.Call (.Name x p) (e :: es) [] pos) (callF T i fa) :=
  ⟨(pe_callLS (S := fun f s => ∃ q, q ∈ T ∧ f = He.ga X.K q.1 ∧ s = spD X.K ec q.2.1 q.2.2) (fun f s ⟨q, hq, ef, es⟩ => by
      subst ef
      subst es
      obtain ⟨⟨f, fd, ps, h1, h2, h3, h4, h5⟩, hm⟩ := A q hq
      rw [hm] at h2
      cases h2
      exact ⟨fd, ps, h5, h3, h4⟩) hr hN hv hp ha.pa hdb hcd he hpl).imp fun σ H Q ⟨B, P, Z, ρ, hE, q⟩ => by
    have q : Post B.S X.K ec (dV X.K (P ++ Z)) (P ++ Z) (Ef σ) H Q ((getF ρ i).bind fun y => match findT T y with
      | some q => (fa ρ).bind (chk q.1 q.2)
      | none => .bad) := q
    rcases getF_case (ρ := ρ) (i := i) with ⟨y, h1, h2⟩ | h2
    · rw [h2, R.ok_bind] at q
      cases hf : findT T y with
      | none => rw [hf] at q; exact q.elim
      | some z =>
        rw [hf] at q
        have q : Post B.S X.K ec (dV X.K (P ++ Z)) (P ++ Z) (Ef σ) H Q ((fa ρ).bind (chk z.1 z.2)) := q
        refine ⟨He.ga X.K y, spD X.K ec z.1 z.2, hE.fns i y hi h1, ⟨(y, z), findT_mem hf, rfl, rfl⟩, B, P, Z, ρ, hE, (Post.bind q).imp fun vs H1 ⟨ds, _, s1, d1, p1⟩ => ?_⟩
        unfold chk at p1
        by_cases hn : ds.length = z.1
        · rw [if_pos hn] at p1
          exact ⟨(dpa_len d1).trans hn, B.S, P ++ Z, ds, d1, (hE.same s1).met, p1⟩
        · rw [if_neg hn] at p1; exact p1.elim
    · rw [h2] at q
      exact q.elim⟩
/-- names of defs, one after the other -/
structure DNs (X : Cx) (es : List Expr) (xs : List Str) : Prop where
  pa : PA X es (fun _ H Q => Q (xs.map fun x => V.ref (He.ga X.K x)) H)
theorem dn_nil : DNs X [] [] := ⟨pa_nil.imp fun _ _ _ h => h⟩
theorem dn_cons {xs : List Str} (hg : Gl X x) (hm : X.mg x = some (.ref (He.ga X.K x))) (r : DNs X es xs) (hdb : (x == ("__debug__" : Str)) = false := by decide) (hs : starEach (.Name x p :: es) X.env = (false, eval (.Name x p) X.env) :: starEach es X.env := by rfl) :
    DNs X (.Name x p :: es) (x :: xs) := ⟨(pa_cons (pe_glob (v := .ref (He.ga X.K x)) hg hm rfl hdb) r.pa hs).imp fun _ _ _ h => h⟩
def forN (i : Nat) (u : Rho → R Fl) : List Str → Rho → R Fl
  | [], ρ => .ok (.nx ρ)
  | x :: xs, ρ => (u (ρ.set i (some (.fn x)))).bind fun f => match f with
    | .nx ρ' => forN i u xs ρ'
    | .ct ρ' => forN i u xs ρ'
    | .bk ρ' => .ok (.nx ρ')
    | .rt e ρ' => .ok (.rt e ρ')
    | .rf e ρ' => .ok (.rf e ρ')
end
theorem EnvOk.setFn {K : PySem.W.Frag} {B : BB} {H : Hp} {O : List Nat} {P Z : List Addr} {σ : L2.St} {ρ : Rho} (h : EnvOk K B O P Z σ H ρ) {i : Nat} {x : Str} (hi : i ∉ O) : EnvOk K B O P Z (σ.set i (some (.ref (He.ga K x)))) H (ρ.set i (some (.fn x))) := by
  refine ⟨by rw [List.length_set, List.length_set]; exact h.len, h.bs, h.gs, ?_, h.nd, h.pb, h.zt, h.pz, h.sz, h.sb, h.so, fun j hj q => ?_, fun j y hj q => ?_, fun j e hj q => ?_⟩
  · have key : ∀ {l : List Nat} {m : List Addr}, (∀ j, j ∈ l → j ∈ O) → Paired (Own1 K (P ++ Z) H σ ρ) l m → Paired (Own1 K (P ++ Z) H (σ.set i (some (.ref (He.ga K x)))) (ρ.set i (some (.fn x)))) l m := by
      intro l m hl p
      induction p with
      | nil => exact .nil
      | cons r t ih =>
        obtain ⟨x1, o, d', x2, x3, x4⟩ := r
        have ne : i ≠ _ := fun z => hi (z ▸ hl _ List.mem_cons_self)
        exact .cons ⟨by rw [List.getElem?_set_ne ne]; exact x1, o, d', by rw [List.getElem?_set_ne ne]; exact x2, x3, x4⟩ (ih fun j hj => hl j (List.mem_cons_of_mem _ hj))
    exact key (fun _ z => z) h.own
  · rcases set_get q with ⟨e1, e2⟩ | ⟨ne, q⟩
    · cases e2
    · obtain ⟨a, x1, x2⟩ := h.src j hj q
      exact ⟨a, x1, by rw [List.getElem?_set_ne ne]; exact x2⟩
  · have q0 := q
    rcases set_get q with ⟨e1, e2⟩ | ⟨ne, q⟩
    · subst e1
      cases e2
      have hl : i < σ.length := by
        rw [← h.len]
        have := (List.getElem?_eq_some_iff.mp q0).1
        rwa [List.length_set] at this
      exact List.getElem?_set_self hl
    · rw [List.getElem?_set_ne ne]; exact h.fns j y hj q
  · rcases set_get q with ⟨e1, e2⟩ | ⟨ne, q⟩
    · cases e2
    · obtain ⟨w, x1, x2⟩ := h.oth j e hj q
      exact ⟨w, by rw [List.getElem?_set_ne ne]; exact x1, x2⟩
section
variable {X : Cx} {ec : EC} {Ef : L2.St → XK} {io Ol O O' : List Nat} {es : List Expr} {i : Nat} {x : Str} {pos tpos p1 : Pos} {kt} {xs : List Str} {g : Rho → R Fl} {body : List Stmt}
/-- for x in (f, g, h): .. -/
theorem ds_forN (fl : Flat Ef) (hp : PassesOwn (model X.prog X.w) X.A X.env X.xe) (hc : X.calm = true) (hn : DNs X es xs) (hz : xs.length ≤ sizeLine) (hg : PG X (.Name x p1) (gName i)) (hb : DSs X ec Ef io O O O body g) (hO : i ∉ O := by decide)
    (hs : ∀ x, foldedSetIterable (.Tuple es kt tpos) X.env x = pure x := by intro _; rfl) : DS X ec Ef io Ol O O (.For (.Name x p1) (.Tuple es kt tpos) body [] pos) (forN i g xs) := by
  refine ⟨(ps_for hp hc (pi_seq (pe_tup hn.pa)) hg hb.ps hs).imp fun D σ H ⟨B, P, Z, ρ, hE, q⟩ => ?_⟩
  refine ⟨by rw [List.length_map]; exact hz, fun a ha => ⟨a, rfl, .inr ⟨⟨_, .inl (.inl upd_same)⟩, ?_⟩⟩⟩
  have hE1 : EnvOk X.K B O P Z σ (upd H a (.tup (xs.map fun x => V.ref (He.ga X.K x)))) ρ := hE.same (.of (same_upd ha))
  have nS : a ∉ B.S := fun z => hE.trk a (List.mem_append_right _ (hE.sz a z)) ha
  have nM : a ∉ P ++ Z := fun z => hE.trk a z ha
  have hvis : Same B.2 (hid (P ++ Z) (upd H a (.tup (xs.map fun x => V.ref (He.ga X.K x))))) := hE1.gs
  have at_ : ∀ {P2 : List Addr} {σ2 : L2.St} {H2 : Hp} {ρ2 : Rho}, EnvOk X.K ⟨B.1, hid (P ++ Z) (upd H a (.tup (xs.map fun x => V.ref (He.ga X.K x)))), B.S⟩ O P2 Z σ2 H2 ρ2 → SqT X.K H2 a (xs.map fun x => V.ref (He.ga X.K x)) := fun e => by
    have e2 := e.gs a _ (show hid (P ++ Z) (upd H a (.tup (xs.map fun x => V.ref (He.ga X.K x)))) a = some _ by rw [hid_out nM]; exact upd_same)
    exact .inl (.inl (hid_some e2).2)
  refine ⟨fun j m σ2 H2 => m = xs.length - j ∧ j ≤ xs.length ∧ ∃ P2 ρ2, EnvOk X.K ⟨B.1, hid (P ++ Z) (upd H a (.tup (xs.map fun x => V.ref (He.ga X.K x)))), B.S⟩ O P2 Z σ2 H2 ρ2 ∧ PostS X.K ec Ef B Z io Ol O D (forN i g (xs.drop j) ρ2), ⟨xs.length, by omega, Nat.zero_le _, P, ρ, hE1.here, q⟩, ?_⟩
  rintro j m σ2 H2 ⟨rfl, hj, P2, ρ2, hE2, q2⟩
  by_cases hlt : j < xs.length
  · rw [List.drop_eq_getElem_cons hlt] at q2
    have hv : (xs.map fun x => V.ref (He.ga X.K x))[j]? = some (.ref (He.ga X.K xs[j])) := by simp [hlt]
    refine .inr ⟨⟨_, _, at_ hE2, hv⟩, fun σ' H' => ∃ P' ρ', EnvOk X.K ⟨B.1, hid (P ++ Z) (upd H a (.tup (xs.map fun x => V.ref (He.ga X.K x)))), B.S⟩ O P' Z σ' H' ρ' ∧ PostS X.K ec Ef B Z io Ol O D (forN i g (xs.drop (j + 1)) ρ'), fun σ' H' ⟨P', ρ', hE', q'⟩ => ⟨xs.length - (j + 1), by omega, rfl, hlt, P', ρ', hE', q'⟩, fun y H3 yl => ?_⟩
    obtain ⟨e1, yl⟩ := yl
    subst e1
    have ey : y = .ref (He.ga X.K xs[j]) := by
      have := yl _ (at_ hE2)
      rw [hv] at this
      exact (Option.some.inj this).symm
    subst ey
    refine ⟨⟨B.1, hid (P ++ Z) (upd H a (.tup (xs.map fun x => V.ref (He.ga X.K x)))), B.S⟩, P2, Z, _, hE2.setFn hO, ?_⟩
    have q3 : PostS X.K ec Ef B Z io Ol O D ((g (ρ2.set i (some (.fn xs[j])))).bind fun f => match f with
      | .nx ρ' => forN i g (xs.drop (j + 1)) ρ'
      | .ct ρ' => forN i g (xs.drop (j + 1)) ρ'
      | .bk ρ' => .ok (.nx ρ')
      | .rt e ρ' => .ok (.rt e ρ')
      | .rf e ρ' => .ok (.rf e ρ')) := q2
    unfold PostS at q3
    rw [R.wp_bind] at q3
    refine R.wp_imp q3 (fun f q3 => ?_) (fun c z q3 => q3)
    cases f with
    | nx ρ' => exact fun σ' P' H' hE' => ⟨P', ρ', hE', q3⟩
    | ct ρ' => exact fun σ' P' H' hE' => ⟨P', ρ', hE', q3⟩
    | bk ρ' => exact fun σ' P' H' hE' => (show PostS X.K ec Ef B Z io Ol O D (.ok (.nx ρ')) from q3) _ _ _ (hE'.back hvis)
    | rf e ρ' => exact fun v σ' P' H' hE' hv => (show PostS X.K ec Ef B Z io Ol O D (.ok (.rf e ρ')) from q3) _ _ _ _ (hE'.back hvis) hv
    | rt e ρ' => exact fun v σ' P' H' hE' hv => (show PostS X.K ec Ef B Z io Ol O D (.ok (.rt e ρ')) from q3) _ _ _ _ (hE'.back hvis) hv
  · have e : j = xs.length := by omega
    subst e
    rw [List.drop_length] at q2
    exact .inl ⟨⟨_, at_ hE2, by rw [List.length_map]; exact Nat.le_refl _⟩, (show PostS X.K ec Ef B Z io Ol O D (.ok (.nx ρ2)) from q2) _ _ _ (hE2.back hvis)⟩
end
end DL
set_option Elab.async false
set_option linter.all false
set_option maxRecDepth 100000
set_option maxHeartbeats 1000000
namespace DL
open PySem PySem.Spec PyProof.Rows L2
/-! ### several values at once, some of them new objects -/
/-- news: the new objects, MM: what is hidden -/
inductive MRel (K : PySem.W.Frag) (MM : List Addr) (H : Hp) : List V → List SV → List Bool → List Addr → Prop
  | nil : MRel K MM H [] [] [] []
  | d {v : V} {d : PyData} {vs : List V} {xs : List SV} {fs : List Bool} {news : List Addr} (h : Dp K (hid MM H) v d) (t : MRel K MM H vs xs fs news) : MRel K MM H (v :: vs) (.d d :: xs) (false :: fs) news
  | o {p : Addr} {ob : HO} {x : SV} {vs : List V} {xs : List SV} {fs : List Bool} {news : List Addr} (hp : H p = some ob) (h : OwnV K MM H ob x) (t : MRel K MM H vs xs fs news) : MRel K MM H (.ref p :: vs) (x :: xs) (true :: fs) (p :: news)
theorem MRel.mono {K : PySem.W.Frag} {MM MM' : List Addr} {H H' : Hp} (s : Same (hid MM H) (hid MM' H')) : ∀ {vs : List V} {xs : List SV} {fs : List Bool} {news : List Addr}, (∀ p o, p ∈ news → H p = some o → H' p = some o) → MRel K MM H vs xs fs news → MRel K MM' H' vs xs fs news
  | _, _, _, _, _, .nil => .nil
  | _, _, _, _, hn, .d h t => .d (dp_mono s _ _ h) (MRel.mono s hn t)
  | _, _, _, _, hn, .o hp h t => .o (hn _ _ List.mem_cons_self hp) (h.mono s) (MRel.mono s (fun p o z => hn p o (List.mem_cons_of_mem _ z)) t)
theorem MRel.len {K : PySem.W.Frag} {MM : List Addr} {H : Hp} : ∀ {vs : List V} {xs : List SV} {fs : List Bool} {news : List Addr}, MRel K MM H vs xs fs news → vs.length = xs.length ∧ xs.length = fs.length
  | _, _, _, _, .nil => ⟨rfl, rfl⟩
  | _, _, _, _, .d _ t => by have := t.len; simp [this]
  | _, _, _, _, .o _ _ t => by have := t.len; simp [this]
def dM (K : PySem.W.Frag) (fs : List Bool) (B : Hp) (M : List Addr) (H : Hp) (vs : List V) (xs : List SV) : Prop :=
  ∃ news, news.Nodup ∧ (∀ p, p ∈ news → B p = none ∧ p ∉ M ∧ H p ≠ none) ∧ MRel K (news ++ M) H vs xs fs news
structure DM (X : Cx) (ec : EC) (Ef : L2.St → XK) (O : List Nat) (es : List Expr) (fs : List Bool) (f : Rho → R (List SV)) : Prop where
  pa : PA X es (tG X.K ec Ef O (fun H _ M => dM X.K fs H M) f)
section
variable {X : Cx} {ec : EC} {Ef : L2.St → XK} {O : List Nat} {e : Expr} {es : List Expr} {fs : List Bool} {f : Rho → R PyData} {g : Rho → R (List SV)}
theorem dm_nil : DM X ec Ef O [] [] (fun _ => .ok []) := ⟨pa_nil.imp fun σ H Q ⟨B, P, Z, ρ, hE, p⟩ => (show Post B.S X.K ec (dM X.K [] H (P ++ Z)) (P ++ Z) (Ef σ) H Q (.ok []) from p).ok ⟨[], List.nodup_nil, (fun p z => by cases z), .nil⟩⟩
theorem dm_d (h : DE X ec Ef O e f) (t : DM X ec Ef O es fs g) (hs : starEach (e :: es) X.env = (false, eval e X.env) :: starEach es X.env := by rfl) :
    DM X ec Ef O (e :: es) (false :: fs) (fun ρ => (f ρ).bind fun d => (g ρ).bind fun xs => .ok (.d d :: xs)) :=
  ⟨(pa_cons h.pe t.pa hs).imp fun σ H Q ⟨B, P, Z, ρ, hE, p⟩ => ⟨B, P, Z, ρ, hE, (Post.bind p).imp fun v H1 ⟨d, _, s1, d1, p1⟩ => ⟨B, P, Z, ρ, hE.same s1, (Post.bind p1).imp fun vs H2 ⟨xs, _, s2, ⟨news, hn, hd, hr⟩, p2⟩ => p2.ok ⟨news, hn, (fun p hp => ⟨s1.free hE.so p (hd p hp).1, (hd p hp).2⟩), .d (dp_mono (fun b o z => by
      obtain ⟨z1, z2⟩ := hid_some z
      have nb : b ∉ news := fun q => by rw [(hd b q).1] at z2; cases z2
      rw [hid_out (fun q => (List.mem_append.mp q).elim nb z1)]
      exact s2.fr b o (fun q => z1 (List.mem_append_right _ (hE.sz b q))) z2) d v d1) hr⟩⟩⟩⟩
end
section
variable {K : PySem.W.Frag} {B : BB} {H H' : Hp} {O : List Nat} {P Z : List Addr} {σ : L2.St} {ρ : Rho}
/-- new objects come into view, as others' -/
theorem EnvOk.newZ (h : EnvOk K B O P Z σ H ρ) (s : Gr B.S (P ++ Z) H H') {news : List Addr} (hp : ∀ p, p ∈ news → H p = none ∧ H' p ≠ none) : EnvOk K B O P (news ++ Z) σ H' ρ := by
  have vs' : Same (hid (P ++ Z) H) (hid (P ++ (news ++ Z)) H') := fun b o q => by
    obtain ⟨y1, y2⟩ := hid_some q
    rw [hid_out (fun z => by
      rcases List.mem_append.mp z with z | z
      · exact y1 (List.mem_append_left _ z)
      · rcases List.mem_append.mp z with z | z
        · rw [(hp b z).1] at y2; cases y2
        · exact y1 (List.mem_append_right _ z))]
    exact s.fr b o (fun z => y1 (List.mem_append_right _ (h.sz b z))) y2
  refine ⟨h.len, h.bs' s, h.gs.trans vs', Paired.mapPR h.own fun i p hb ⟨x1, o, d', x2, x3, x4⟩ => ⟨x1, o, d', x2, s.fr _ _ (h.ps hb) x3, x4.mono vs'⟩, h.nd, h.pb, fun z hz => ?_, fun q hq z => ?_, fun a ha => List.mem_append_right _ (h.sz a ha), h.sb, s.so h.so, h.src, h.fns, fun i d hi e => ?_⟩
  · rcases List.mem_append.mp hz with hz | hz
    · exact (hp z hz).2
    · exact h.zt' s z hz
  · rcases List.mem_append.mp z with z | z
    · exact h.trk q (List.mem_append_left _ hq) (hp q z).1
    · exact h.pz q hq z
  · obtain ⟨w, x1, x2⟩ := h.oth i d hi e
    exact ⟨w, x1, dp_mono vs' d w x2⟩
/-- one of them comes into a slot -/
theorem EnvOk.takeZ {p : Addr} {ob : HO} {x : SV} {i : Nat} (h : EnvOk K B O P (p :: Z) σ H ρ) (npZ : p ∉ Z) (hB : B.1 p = none) (nS : p ∉ B.S) (hp : H p = some ob) (ho : OwnV K (P ++ p :: Z) H ob x) (hi : i ∉ O) (hl : i < σ.length) :
    EnvOk K B (i :: O) (p :: P) Z (σ.set i (some (.ref p))) H (ρ.set i (some x)) := by
  have hlr : i < ρ.length := by rw [h.len]; exact hl
  have np : p ∉ P := fun z => h.pz p z List.mem_cons_self
  have vs' : Same (hid (P ++ p :: Z) H) (hid (p :: P ++ Z) H) := hid_sub fun a z => by
    rcases List.mem_cons.mp (show a ∈ p :: (P ++ Z) from z) with z | z
    · exact z ▸ List.mem_append_right _ List.mem_cons_self
    · rcases List.mem_append.mp z with z | z
      · exact List.mem_append_left _ z
      · exact List.mem_append_right _ (List.mem_cons_of_mem _ z)
  refine ⟨by rw [List.length_set, List.length_set]; exact h.len, h.bs, h.gs.trans vs', .cons ⟨List.getElem?_set_self hl, _, _, List.getElem?_set_self hlr, hp, ho.mono vs'⟩ ?_, List.nodup_cons.mpr ⟨np, h.nd⟩, fun q hq => ?_, fun z hz => h.zt z (List.mem_cons_of_mem _ hz), fun q hq => ?_, fun a ha => ?_, h.sb, h.so, fun j hj q => ?_, fun j y hj q => ?_, fun j e hj q => ?_⟩
  · have key : ∀ {l : List Nat} {m : List Addr}, (∀ j, j ∈ l → j ∈ O) → Paired (Own1 K (P ++ p :: Z) H σ ρ) l m → Paired (Own1 K (p :: P ++ Z) H (σ.set i (some (.ref p))) (ρ.set i (some x))) l m := by
      intro l m hl pr
      induction pr with
      | nil => exact .nil
      | cons r t ih =>
        obtain ⟨x1, o, d', x2, x3, x4⟩ := r
        have ne : i ≠ _ := fun z => hi (z ▸ hl _ List.mem_cons_self)
        exact .cons ⟨by rw [List.getElem?_set_ne ne]; exact x1, o, d', by rw [List.getElem?_set_ne ne]; exact x2, x3, x4.mono vs'⟩ (ih fun j hj => hl j (List.mem_cons_of_mem _ hj))
    exact key (fun _ z => z) h.own
  · rcases List.mem_cons.mp hq with rfl | hq
    · exact hB
    · exact h.pb q hq
  · rcases List.mem_cons.mp hq with rfl | hq
    · exact npZ
    · exact fun z => h.pz q hq (List.mem_cons_of_mem _ z)
  · rcases List.mem_cons.mp (h.sz a ha) with e | z
    · exact absurd (e ▸ ha) nS
    · exact z
  · have hj' : j ≠ i ∧ j ∉ O := by simpa only [List.mem_cons, not_or] using hj
    rcases set_get q with ⟨e1, _⟩ | ⟨ne, q⟩
    · exact absurd e1.symm hj'.1
    · obtain ⟨a, x1, x2⟩ := h.src j hj'.2 q
      exact ⟨a, x1, by rw [List.getElem?_set_ne ne]; exact x2⟩
  · have hj' : j ≠ i ∧ j ∉ O := by simpa only [List.mem_cons, not_or] using hj
    rcases set_get q with ⟨e1, _⟩ | ⟨ne, q⟩
    · exact absurd e1.symm hj'.1
    · rw [List.getElem?_set_ne ne]; exact h.fns j y hj'.2 q
  · have hj' : j ≠ i ∧ j ∉ O := by simpa only [List.mem_cons, not_or] using hj
    rcases set_get q with ⟨e1, _⟩ | ⟨ne, q⟩
    · exact absurd e1.symm hj'.1
    · obtain ⟨w, x1, x2⟩ := h.oth j e hj'.2 q
      exact ⟨w, by rw [List.getElem?_set_ne ne]; exact x1, dp_mono vs' e w x2⟩
def setsV : List Nat → List V → L2.St → L2.St
  | i :: is, v :: vs, σ => setsV is vs (σ.set i (some v))
  | _, _, σ => σ
def setsR : List Nat → List SV → Rho → Rho
  | i :: is, x :: xs, ρ => setsR is xs (ρ.set i (some x))
  | _, _, ρ => ρ
def ownS : List Nat → List Bool → List Nat → List Nat
  | i :: is, true :: fs, O => ownS is fs (i :: O)
  | _ :: is, false :: fs, O => ownS is fs O
  | _, _, O => O
theorem EnvOk.setM {MM : List Addr} : ∀ {vs : List V} {xs : List SV} {fs : List Bool} {news : List Addr}, MRel K MM H vs xs fs news → ∀ (is : List Nat) (P : List Addr) (O : List Nat) (σ : L2.St) (ρ : Rho), EnvOk K B O P (news ++ Z) σ H ρ → (∀ a, a ∈ P ++ (news ++ Z) → a ∈ MM) → news.Nodup → (∀ p, p ∈ news → p ∉ Z ∧ B.1 p = none ∧ p ∉ B.S) →
    is.length = vs.length → is.Nodup → (∀ i, i ∈ is → i ∉ O ∧ i < σ.length) → ∃ P', EnvOk K B (ownS is fs O) P' Z (setsV is vs σ) H (setsR is xs ρ)
  | _, _, _, _, .nil, [], P, O, σ, ρ, h, _, _, _, _, _, _ => ⟨P, h⟩
  | _, _, _, _, .nil, _ :: _, _, _, _, _, _, _, _, _, hl, _, _ => by cases hl
  | _, _, _, _, .d _ _, [], _, _, _, _, _, _, _, _, hl, _, _ => by cases hl
  | _, _, _, _, .o _ _ _, [], _, _, _, _, _, _, _, _, hl, _, _ => by cases hl
  | _, _, _, _, .d (v := v) (d := d) hd t, i :: is, P, O, σ, ρ, h, sub, hn, hz, hl, hi, ho => by
    obtain ⟨n1, n2⟩ := List.nodup_cons.mp hi
    exact EnvOk.setM t is P O _ _ (h.setV (ho i List.mem_cons_self).1 (dp_mono (hid_sub sub) d v hd)) sub hn hz (Nat.succ.inj hl) n2 fun j hj => ⟨(ho j (List.mem_cons_of_mem _ hj)).1, by rw [List.length_set]; exact (ho j (List.mem_cons_of_mem _ hj)).2⟩
  | _, _, _, _, .o (p := p) (ob := ob) (x := x) hp ho' t, i :: is, P, O, σ, ρ, h, sub, hn, hz, hl, hi, ho => by
    obtain ⟨n1, n2⟩ := List.nodup_cons.mp hi
    obtain ⟨m1, m2⟩ := List.nodup_cons.mp hn
    obtain ⟨z1, z2, z3⟩ := hz p List.mem_cons_self
    refine EnvOk.setM t is (p :: P) (i :: O) _ _ (EnvOk.takeZ (Z := _ ++ Z) h (fun z => (List.mem_append.mp z).elim m1 z1) z2 z3 hp (ho'.mono (hid_sub sub)) (ho i List.mem_cons_self).1 (ho i List.mem_cons_self).2) (fun a z => sub a ?_) m2 (fun q hq => hz q (List.mem_cons_of_mem _ hq)) (Nat.succ.inj hl) n2 fun j hj => ⟨?_, by rw [List.length_set]; exact (ho j (List.mem_cons_of_mem _ hj)).2⟩
    · rcases List.mem_cons.mp (show a ∈ p :: (P ++ _) from z) with z | z
      · exact z ▸ List.mem_append_right _ (List.mem_append_left _ List.mem_cons_self)
      · rcases List.mem_append.mp z with z | z
        · exact List.mem_append_left _ z
        · rcases List.mem_append.mp z with z | z
          · exact List.mem_append_right _ (List.mem_append_left _ (List.mem_cons_of_mem _ z))
          · exact List.mem_append_right _ (List.mem_append_right _ z)
    · intro z
      rcases List.mem_cons.mp z with z | z
      · exact n1 (z ▸ hj)
      · exact (ho j (List.mem_cons_of_mem _ hj)).1 z
end
theorem Post.up {S : List Addr} {K : PySem.W.Frag} {ec : EC} {M M' : List Addr} {E : XK} {H : Hp} {ν α : Type} {den : Hp → ν → α → Prop} {Q : ν → Hp → Prop} {r : R α} (sub : ∀ a, a ∈ M → a ∈ M') (sm : ∀ a, a ∈ S → a ∈ M) (h : Post S K ec den M E H Q r) : Post S K ec den M' E H Q r := by
  have up : ∀ {H'}, Gr S M' H H' → Gr S M H H' := fun {H'} s => ⟨s.fr, fun b o e => by
    obtain ⟨e1, e2⟩ := hid_some e
    rw [hid_out e1]
    exact s.fr b o (fun z => e1 (sm b z)) e2, s.so⟩
  exact R.wp_imp h (fun a h v H' s d => h v H' (up s) d) (fun c x h H' dx s e => h H' dx (up s) (exOk_sub sub e))
section
variable {X : Cx} {ec : EC} {Ef : L2.St → XK} {io Ol O : List Nat} {e : Expr} {es : List Expr} {fs : List Bool} {f : Rho → R PyData} {g : Rho → R (List SV)}
/-- a new object at the head -/
theorem dm_new {α : Type} {fo : Rho → R α} {mk : α → SV}
    (h : PE X e (tG X.K ec Ef O (fun H _ M H1 v a => ∃ p ob, v = .ref p ∧ H p = none ∧ p ∉ M ∧ H1 p = some ob ∧ OwnV X.K (p :: M) H1 ob (mk a)) fo)) (t : DM X ec Ef O es fs g) (hs : starEach (e :: es) X.env = (false, eval e X.env) :: starEach es X.env := by rfl) :
    DM X ec Ef O (e :: es) (true :: fs) (fun ρ => (fo ρ).bind fun a => (g ρ).bind fun xs => .ok (mk a :: xs)) :=
  ⟨(pa_cons h t.pa hs).imp fun σ H Q ⟨B, P, Z, ρ, hE, p⟩ => ⟨B, P, Z, ρ, hE, (Post.bind p).imp fun v H1 ⟨a, _, s1, ⟨p, ob, ev, hp0, hpM, hp1, ho⟩, p1⟩ => by
    subst ev
    have hE1 : EnvOk X.K B O P (p :: Z) σ H1 ρ := hE.newZ (news := [p]) s1 fun q hq => by
      rw [List.mem_singleton.mp hq]
      exact ⟨hp0, by rw [hp1]; intro z; cases z⟩
    refine ⟨B, P, p :: Z, ρ, hE1, Post.up (fun a z => ?_) (fun a z => List.mem_append_right _ (hE.sz a z)) ((Post.bind p1).imp fun vs H2 ⟨xs, _, s2, ⟨news, hn, hd, hr⟩, p2⟩ => p2.ok ?_)⟩
    · rcases List.mem_append.mp z with z | z
      · exact List.mem_append_left _ z
      · exact List.mem_append_right _ (List.mem_cons_of_mem _ z)
    have hd' : ∀ q, q ∈ news → H1 q = none ∧ q ∉ P ++ p :: Z ∧ H2 q ≠ none := hd
    have npn : p ∉ news := fun q => by rw [(hd' p q).1] at hp1; cases hp1
    have nS : p ∉ B.S := fun q => hpM (List.mem_append_right _ (hE.sz p q))
    have hp2 : H2 p = some ob := s2.fr p ob nS hp1
    refine ⟨p :: news, List.nodup_cons.mpr ⟨npn, hn⟩, (fun q hq => ?_), .o hp2 (ho.mono fun b o z => ?_) (hr.mono (hid_sub fun b z => ?_) fun q o hq z => z)⟩
    · rcases List.mem_cons.mp hq with rfl | hq
      · exact ⟨hp0, hpM, by rw [hp2]; intro z; cases z⟩
      · refine ⟨s1.free hE.so q (hd' q hq).1, fun z => (hd' q hq).2.1 ?_, (hd' q hq).2.2⟩
        rcases List.mem_append.mp z with z | z
        · exact List.mem_append_left _ z
        · exact List.mem_append_right _ (List.mem_cons_of_mem _ z)
    · obtain ⟨z1, z2⟩ := hid_some z
      have nb : b ∉ news := fun q => by rw [(hd' b q).1] at z2; cases z2
      rw [hid_out (fun q => by
        rcases List.mem_cons.mp q with q | q
        · exact z1 (q ▸ List.mem_cons_self)
        · exact (List.mem_append.mp q).elim nb fun q => z1 (List.mem_cons_of_mem _ q))]
      exact s2.fr b o (fun q => z1 (List.mem_cons_of_mem _ (List.mem_append_right _ (hE.sz b q)))) z2
    · rcases List.mem_cons.mp (show b ∈ p :: (news ++ (P ++ Z)) from z) with z | z
      · exact z ▸ List.mem_append_right _ (List.mem_append_right _ List.mem_cons_self)
      · rcases List.mem_append.mp z with z | z
        · exact List.mem_append_left _ z
        · rcases List.mem_append.mp z with z | z
          · exact List.mem_append_right _ (List.mem_append_left _ z)
          · exact List.mem_append_right _ (List.mem_append_right _ (List.mem_cons_of_mem _ z))⟩⟩
theorem dm_f (h : DF X ec Ef O e f) (t : DM X ec Ef O es fs g) (hs : starEach (e :: es) X.env = (false, eval e X.env) :: starEach es X.env := by rfl) :
    DM X ec Ef O (e :: es) (true :: fs) (fun ρ => (f ρ).bind fun a => (g ρ).bind fun xs => .ok (.d a :: xs)) :=
  dm_new (mk := .d) (h.pe.imp fun σ H Q ⟨B, P, Z, ρ, hE, p⟩ => ⟨B, P, Z, ρ, hE, p.den fun H1 v a ⟨p, vs, ds, e1, e2, e3, e4, e5, e6⟩ => by
    subst e2
    exact ⟨p, _, e1, e3, e4, e5, .lst e6⟩⟩) t hs
theorem dm_dict {fd : Rho → R (List (PyData × PyData))} (h : DD X ec Ef O e fd) (t : DM X ec Ef O es fs g) (hs : starEach (e :: es) X.env = (false, eval e X.env) :: starEach es X.env := by rfl) :
    DM X ec Ef O (e :: es) (true :: fs) (fun ρ => (fd ρ).bind fun a => (g ρ).bind fun xs => .ok (.dict a :: xs)) :=
  dm_new (mk := .dict) (h.pe.imp fun σ H Q ⟨B, P, Z, ρ, hE, p⟩ => ⟨B, P, Z, ρ, hE, p.den fun H1 v a ⟨p, kvs, e1, e2, e3, e4, e5, e6⟩ => ⟨p, _, e1, e2, e3, e5, .dk e6⟩⟩) t hs
theorem EnvOk.par {K : PySem.W.Frag} {B : BB} {H H1 : Hp} {P Z : List Addr} {σ : L2.St} {ρ : Rho} (hE : EnvOk K B O P Z σ H ρ) (s : Gr B.S (P ++ Z) H H1) {vs : List V} {xs : List SV} (d : dM K fs H (P ++ Z) H1 vs xs) (is : List Nat) (hl : is.length = fs.length) (hn : is.Nodup) (ho : ∀ i, i ∈ is → i ∉ O ∧ i < σ.length) :
    ∃ P', EnvOk K B (ownS is fs O) P' Z (setsV is vs σ) H1 (setsR is xs ρ) := by
  obtain ⟨news, h1, h2, h3⟩ := d
  have hE1 := hE.newZ (news := news) s fun p hp => ⟨(h2 p hp).1, (h2 p hp).2.2⟩
  refine EnvOk.setM h3 is P O σ ρ hE1 (fun a z => ?_) h1 (fun p hp => ⟨fun z => (h2 p hp).2.1 (List.mem_append_right _ z), ?_, fun z => (h2 p hp).2.1 (List.mem_append_right _ (hE.sz p z))⟩) ?_ hn ho
  · rcases List.mem_append.mp z with z | z
    · exact List.mem_append_right _ (List.mem_append_left _ z)
    · rcases List.mem_append.mp z with z | z
      · exact List.mem_append_left _ z
      · exact List.mem_append_right _ (List.mem_append_right _ z)
  · cases q : B.1 p with
    | none => rfl
    | some o => have := hE.bs p o q; rw [(h2 p hp).1] at this; cases this
  · rw [h3.len.1, h3.len.2, hl]
def parM (is : List Nat) (fa : Rho → R (List SV)) : Rho → R Fl := fun ρ => (fa ρ).bind fun xs => .ok (.nx (setsR is xs ρ))
variable {a b c : Expr} {fa : Rho → R (List SV)} {pos : Pos}
theorem ds_parM2 {i j : Nat} {x y : Str} {px py pt : Pos} {kt k2 pt2} (fl : Flat Ef) (hc : X.calm = true) (hN : X.N.Nodup) (hi : X.N[i]? = some x) (hj : X.N[j]? = some y) (ha : DM X ec Ef O [a, b] fs fa) (hfs : fs.length = 2 := by decide) (hij : i ≠ j := by decide) (hiO : i ∉ O := by decide) (hjO : j ∉ O := by decide)
    (hlen : ∀ σ : L2.St, σ.length = X.N.length → i < σ.length ∧ j < σ.length) (hx : X.env.scope.names.lookup x = some .local := by rfl) (hy : X.env.scope.names.lookup y = some .local := by rfl)
    (hw : swappedStores [.Tuple [.Name x px, .Name y py] kt pt] (.Tuple [a, b] k2 pt2) X.env = pure (some [x, y]) := by rfl)
    (hs : swapsWithSole [.Tuple [.Name x px, .Name y py] kt pt] (.Tuple [a, b] k2 pt2) pos.line X.env = pure false := by rfl) :
    DS X ec Ef io Ol O (ownS [i, j] fs O) (.Assign [.Tuple [.Name x px, .Name y py] kt pt] (.Tuple [a, b] k2 pt2) pos) (parM [i, j] fa) := by
  refine ⟨⟨fun pins s σ H D I hw2 => (ps_par hc hN hi hj hij hx hy ha.pa hw hs).run pins s σ H D I ?_⟩⟩
  obtain ⟨B, P, Z, ρ, hE, p⟩ := hw2
  obtain ⟨l1, l2⟩ := hlen σ I.len
  refine ⟨B, P, Z, ρ, hE, PostS.of fl hE p fun xs vs H1 _ s d1 hE1 p1 => ?_⟩
  have hln : vs.length = 2 := by
    obtain ⟨_, _, _, h3⟩ := d1
    rw [h3.len.1, h3.len.2, hfs]
  obtain ⟨P', hP⟩ := hE.par s d1 [i, j] (by rw [hfs]; rfl) (by simp [hij]) fun m hm => by
    simp at hm
    rcases hm with rfl | rfl
    · exact ⟨hiO, l1⟩
    · exact ⟨hjO, l2⟩
  match vs, hln with
  | [v, w], _ => exact ⟨v, w, rfl, p1 _ _ _ hP⟩
theorem ds_parM3 {i j l : Nat} {x y z : Str} {px py pz pt : Pos} {kt k2 pt2} (fl : Flat Ef) (hc : X.calm = true) (hN : X.N.Nodup) (hi : X.N[i]? = some x) (hj : X.N[j]? = some y) (hl : X.N[l]? = some z) (ha : DM X ec Ef O [a, b, c] fs fa) (hfs : fs.length = 3 := by decide) (hij : i ≠ j := by decide) (hil : i ≠ l := by decide) (hjl : j ≠ l := by decide) (hiO : i ∉ O := by decide) (hjO : j ∉ O := by decide) (hlO : l ∉ O := by decide)
    (hlen : ∀ σ : L2.St, σ.length = X.N.length → i < σ.length ∧ j < σ.length ∧ l < σ.length) (hx : X.env.scope.names.lookup x = some .local := by rfl) (hy : X.env.scope.names.lookup y = some .local := by rfl) (hz : X.env.scope.names.lookup z = some .local := by rfl)
    (hw : swappedStores [.Tuple [.Name x px, .Name y py, .Name z pz] kt pt] (.Tuple [a, b, c] k2 pt2) X.env = pure (some [x, y, z]) := by rfl)
    (hs : swapsWithSole [.Tuple [.Name x px, .Name y py, .Name z pz] kt pt] (.Tuple [a, b, c] k2 pt2) pos.line X.env = pure false := by rfl) :
    DS X ec Ef io Ol O (ownS [i, j, l] fs O) (.Assign [.Tuple [.Name x px, .Name y py, .Name z pz] kt pt] (.Tuple [a, b, c] k2 pt2) pos) (parM [i, j, l] fa) := by
  refine ⟨⟨fun pins s σ H D I hw2 => (ps_par3 hc hN hi hj hl hij hil hjl hx hy hz ha.pa hw hs).run pins s σ H D I ?_⟩⟩
  obtain ⟨B, P, Z, ρ, hE, p⟩ := hw2
  obtain ⟨l1, l2, l3⟩ := hlen σ I.len
  refine ⟨B, P, Z, ρ, hE, PostS.of fl hE p fun xs vs H1 _ s d1 hE1 p1 => ?_⟩
  have hln : vs.length = 3 := by
    obtain ⟨_, _, _, h3⟩ := d1
    rw [h3.len.1, h3.len.2, hfs]
  obtain ⟨P', hP⟩ := hE.par s d1 [i, j, l] (by rw [hfs]; rfl) (by simp [hij, hil, hjl]) fun m hm => by
    simp at hm
    rcases hm with rfl | rfl | rfl
    · exact ⟨hiO, l1⟩
    · exact ⟨hjO, l2⟩
    · exact ⟨hlO, l3⟩
  match vs, hln with
  | [v, w, u], _ => exact ⟨v, w, u, rfl, p1 _ _ _ hP⟩
end
end DL
set_option Elab.async false
set_option linter.all false
set_option maxRecDepth 100000
set_option maxHeartbeats 1000000
namespace DL
open PySem PySem.Spec PyProof.Rows L2
/-! ### the text's own exceptions -/
def exCls (names : List Str) (K : PySem.W.Frag) (c : Nat) : Value := match names[c]? with
  | some n => .ref (He.ga K n)
  | none => .type "KeyError"
def ecOf (names : List Str) (att : Nat → Str) (K : PySem.W.Frag) : EC := ⟨exCls names K, att⟩
abbrev veB : List Value := [.type "ValueError", .type "Exception", .type "BaseException", .type "object"]
/-- a class over ValueError without an own __init__ -/
def exB (n : Str) (K : PySem.W.Frag) : Bool := PySem.W.excIn K (He.ga K n) veB "ValueError.__new__" && (PySem.W.keepIn K (.ref (He.ga K n)) && ((PySem.W.subIn K (.ref (He.ga K n)) (.type "BaseException") == some true) && (PySem.W.typeIn K (.ref (He.ga K n)) == some (.type "type"))))
/-- which class takes which -/
def exmB (names : List Str) (K : PySem.W.Frag) : Bool := (List.range (names.length + 1)).all fun c => (List.range names.length).all fun j => match names[j]? with
  | some n => PySem.W.exmOne K (exCls names K c) (.ref (He.ga K n)) == some (decide (c = j))
  | none => true
theorem exm_ok {names : List Str} {att : Nat → Str} {K : PySem.W.Frag} (h : exmB names K = true) {j : Nat} {n : Str} (hj : names[j]? = some n) : ∀ c, PySem.W.exmOne K ((ecOf names att K).cls c) (.ref (He.ga K n)) = some (decide (c = j)) := by
  intro c
  have hl := (List.getElem?_eq_some_iff.mp hj).1
  have key : ∀ c, c < names.length + 1 → PySem.W.exmOne K (exCls names K c) (.ref (He.ga K n)) = some (decide (c = j)) := fun c hc => by
    have h1 := List.all_eq_true.mp (List.all_eq_true.mp h c (List.mem_range.mpr hc)) j (List.mem_range.mpr hl)
    rw [hj] at h1
    exact eq_of_beq h1
  show PySem.W.exmOne K (exCls names K c) _ = _
  by_cases hc : c < names.length + 1
  · exact key c hc
  · have e : exCls names K c = exCls names K names.length := by
      unfold exCls
      rw [List.getElem?_eq_none (by omega), List.getElem?_eq_none (Nat.le_refl _)]
    rw [e, key _ (Nat.lt_succ_self _)]
    have n1 : ¬ names.length = j := by omega
    have n2 : ¬ c = j := by omega
    rw [decide_eq_false n1, decide_eq_false n2]
section
variable {X : Cx} {ec : EC} {Ef : L2.St → XK} {io Ol O O' : List Nat} {x m : Str} {j c : Nat} {p p2 pos rpos : Pos}
/-- raise X('..') -/
theorem ds_raiseX (hc : X.calm = true) (tk : Takes X (fun cls d σ H => Ef σ cls d H)) (hm : X.mg x = some (.ref (He.ga X.K x))) (hB : exB x X.K = true) (hcls : ec.cls c = .ref (He.ga X.K x)) (hg : Gl X x) (hdb : (x == ("__debug__" : Str)) = false := by decide) :
    DS X ec Ef io Ol O O' (.Raise (some (.Call (.Name x p) [.Constant (.str m) j p2] [] pos)) none rpos) (fun _ => .exc c none) := by
  unfold exB at hB
  simp only [Bool.and_eq_true, beq_iff_eq] at hB
  obtain ⟨h1, h2, h3, h4⟩ := hB
  exact ds_raise (W := fun _ _ _ _ => True) (t := fun _ _ _ => True) hc tk (by rw [hcls]; exact pmk_own PySem.F.excBase_ValueError h1 hm h2 (raises_own h3 h4) hg hdb)
end
end DL
set_option Elab.async false
set_option linter.all false
set_option maxRecDepth 100000
set_option maxHeartbeats 0
namespace G
open PySem PySem.Spec PyProof.Rows L2 DL
def top (i : Nat) : Stmt := PySem.Challenge.pw_longcorridor_k02_whole_walks_along_corri.main.body.getD i (.Pass ⟨0, 0, 0, 0⟩)
def V_SIDES : List He.Dv := [.str "left", .str "right"]
def D_SIDES : List PyData := [.str "left", .str "right"]
theorem d_SIDES {K : PySem.W.Frag} (H : Hp) : DpAll K H (V_SIDES.map (He.Dv.v K)) D_SIDES := .cons (.str _) (.cons (.str _) .nil)
def N_is_from : List Str := ["value", "low", "high"]
theorem sc_is_from : FnScope N_is_from ["value", "low", "high"] (defScope (top 9)) := ⟨rfl, rfl, rfl, by decide +kernel, rfl, by decide +kernel, by decide +kernel⟩
def g_is_from : Rho → R Fl := (retE (fun ρ => ((fIsi "int" (fun ρ => getV ρ 0)) ρ).bind fun x => (tru x).bind fun k => if k = true then (fun ρ => ((fun ρ => ((fIsi "bool" (fun ρ => getV ρ 0)) ρ).bind fun x => (tru x).bind fun b => R.ok (.bool (!b))) ρ).bind fun x => (tru x).bind fun k => if k = true then (fChain gLe gLe (fun ρ => getV ρ 1) (fun ρ => getV ρ 0) (fun ρ => getV ρ 2)) ρ else R.ok x) ρ else R.ok x))
theorem b_is_from {P : Program} {w : World} {K : PySem.W.Frag} {mg : Str → Option Value} {base : Heap} {ec : EC} {f : Addr} (n_bool : mg "bool" = none) (n_int : mg "int" = none) (n_isinstance : mg "isinstance" = none) : BodyOk P w K mg base ec "is_from" (top 9) f N_is_from 0 (g_is_from) := by
  intro cdv A outer s H E hr hp tk
  have nd := sc_is_from.nd
  exact (dss_one (ds_ret flatE (de_and (de_isi (T := "int") (by decide) (by rfl) n_isinstance (by rfl) n_int (by decide +kernel) (db_name (pv 0))) (de_and (de_not (DE.b (de_isi (T := "bool") (by decide) (by rfl) n_isinstance (by rfl) n_bool (by decide +kernel) (db_name (pv 0))))) (de_one (de_chain od_le od_le (db_name (pv 1)) (db_name (pv 0)) (db_name (pv 2))))))))
def F_is_from : List PyData → R PyData := fun ds => runB N_is_from.length (g_is_from) ds
def N_is_tuple : List Str := ["value", "low", "high"]
theorem sc_is_tuple : FnScope N_is_tuple ["value", "low", "high"] (defScope (top 10)) := ⟨rfl, rfl, rfl, by decide +kernel, rfl, by decide +kernel, by decide +kernel⟩
def g_is_tuple : Rho → R Fl := (retE (fun ρ => ((fIsi "tuple" (fun ρ => getV ρ 0)) ρ).bind fun x => (tru x).bind fun k => if k = true then (fChain gLe gLe (fun ρ => getV ρ 1) (fC1 gLen (fun ρ => getV ρ 0)) (fun ρ => getV ρ 2)) ρ else R.ok x))
theorem b_is_tuple {P : Program} {w : World} {K : PySem.W.Frag} {mg : Str → Option Value} {base : Heap} {ec : EC} {f : Addr} (n_isinstance : mg "isinstance" = none) (n_len : mg "len" = none) (n_tuple : mg "tuple" = none) : BodyOk P w K mg base ec "is_tuple" (top 10) f N_is_tuple 0 (g_is_tuple) := by
  intro cdv A outer s H E hr hp tk
  have nd := sc_is_tuple.nd
  exact (dss_one (ds_ret flatE (de_and (de_isi (T := "tuple") (by decide) (by rfl) n_isinstance (by rfl) n_tuple (by decide +kernel) (db_name (pv 0))) (de_one (de_chain od_le od_le (db_name (pv 1)) (DE.b (de_b1 c_len (by rfl) n_len (by decide +kernel) (db_name (pv 0)))) (db_name (pv 2)))))))
def F_is_tuple : List PyData → R PyData := fun ds => runB N_is_tuple.length (g_is_tuple) ds
def N_is_side : List Str := ["value"]
theorem sc_is_side : FnScope N_is_side ["value"] (defScope (top 11)) := ⟨rfl, rfl, rfl, by decide +kernel, rfl, by decide +kernel, by decide +kernel⟩
def g_is_side : Rho → R Fl := (retE (fun ρ => ((fIsi "str" (fun ρ => getV ρ 0)) ρ).bind fun x => (tru x).bind fun k => if k = true then (fBin gIn (fun ρ => getV ρ 0) (fC (.tuple D_SIDES))) ρ else R.ok x))
theorem b_is_side {P : Program} {w : World} {K : PySem.W.Frag} {mg : Str → Option Value} {base : Heap} {ec : EC} {f : Addr} (n_isinstance : mg "isinstance" = none) (n_str : mg "str" = none) (m_SIDES : mg "SIDES" = some (.ref (He.ga K "SIDES"))) (t_SIDES : He.tupB K "SIDES" V_SIDES = true) : BodyOk P w K mg base ec "is_side" (top 11) f N_is_side 0 (g_is_side) := by
  intro cdv A outer s H E hr hp tk
  have nd := sc_is_side.nd
  exact (dss_one (ds_ret flatE (de_and (de_isi (T := "str") (by decide) (by rfl) n_isinstance (by rfl) n_str (by decide +kernel) (db_name (pv 0))) (de_one (de_cmp (od_in (u65 hr)) (db_name (pv 0)) (DE.b (de_globT (by rfl) m_SIDES t_SIDES d_SIDES)) (by rfl))))))
def F_is_side : List PyData → R PyData := fun ds => runB N_is_side.length (g_is_side) ds
def N_is_line : List Str := ["many", "notes", "value", "stand", "note", "pair"]
theorem sc_is_line : FnScope N_is_line ["many", "notes", "value"] (defScope (top 12)) := ⟨rfl, rfl, rfl, by decide +kernel, rfl, by decide +kernel, by decide +kernel⟩
def g_is_line (F_is_tuple F_is_from : List PyData → R PyData) : Rho → R Fl := (fSeq (fun ρ => ((fun ρ => ((fun ρ => ((fun ρ => ((fun ρ => ((fun ρ => ((fun ρ => getV ρ 2) ρ).bind fun d => ((fun ρ => ((fun ρ => getV ρ 0) ρ).bind fun d => ((fun ρ => ((fun ρ => getV ρ 0) ρ).bind fun d => ((fun _ => R.ok []) ρ).bind fun ds => R.ok (d :: ds)) ρ).bind fun ds => R.ok (d :: ds)) ρ).bind fun ds => R.ok (d :: ds)) ρ).bind (chk 3 F_is_tuple)) ρ).bind tru) ρ).bind fun b => R.ok (!b)) ρ).bind fun k => if k = true then R.ok true else (fun ρ => ((fun ρ => ((fC1 gAll (fComp [5] (fun ρ => ((fun ρ => getV ρ 2) ρ).bind seqOf) (tg1 5) (fun _ => R.ok true) (fun ρ => ((fun ρ => ((fun ρ => getV ρ 5) ρ).bind fun d => ((fun ρ => ((fC (.int 2)) ρ).bind fun d => ((fun ρ => ((fC (.int 2)) ρ).bind fun d => ((fun _ => R.ok []) ρ).bind fun ds => R.ok (d :: ds)) ρ).bind fun ds => R.ok (d :: ds)) ρ).bind fun ds => R.ok (d :: ds)) ρ).bind (chk 3 F_is_tuple)))) ρ).bind tru) ρ).bind fun b => R.ok (!b)) ρ) ρ).bind fun k => if k = true then (retE (fC (.bool false))) ρ else (fun ρ => R.ok (.nx ρ)) ρ) (retE (fC1 gAll (fComp [3, 4] (fun ρ => ((fun ρ => getV ρ 2) ρ).bind seqOf) (tgTup 2 (tgCons (tg1 3) (tgCons (tg1 4) tgNil))) (fun _ => R.ok true) (fun ρ => ((fun ρ => ((fun ρ => ((fun ρ => getV ρ 3) ρ).bind fun d => ((fun ρ => ((fC (.int 0)) ρ).bind fun d => ((fun ρ => ((fBin gSub (fun ρ => getV ρ 0) (fC (.int 1))) ρ).bind fun d => ((fun _ => R.ok []) ρ).bind fun ds => R.ok (d :: ds)) ρ).bind fun ds => R.ok (d :: ds)) ρ).bind fun ds => R.ok (d :: ds)) ρ).bind (chk 3 F_is_from)) ρ).bind fun x => (tru x).bind fun k => if k = true then (fun ρ => ((fun ρ => ((fun ρ => getV ρ 4) ρ).bind fun d => ((fun ρ => ((fC (.int 0)) ρ).bind fun d => ((fun ρ => ((fBin gSub (fun ρ => getV ρ 1) (fC (.int 1))) ρ).bind fun d => ((fun _ => R.ok []) ρ).bind fun ds => R.ok (d :: ds)) ρ).bind fun ds => R.ok (d :: ds)) ρ).bind fun ds => R.ok (d :: ds)) ρ).bind (chk 3 F_is_from)) ρ else R.ok x)))))
theorem b_is_line {P : Program} {w : World} {K : PySem.W.Frag} {mg : Str → Option Value} {base : Heap} {ec : EC} {f : Addr} {F_is_tuple F_is_from : List PyData → R PyData} (G_is_tuple : FnD P w K mg base ec 1 3 "is_tuple" F_is_tuple) (G_is_from : FnD P w K mg base ec 1 3 "is_from" F_is_from) (n_all : mg "all" = none) : BodyOk P w K mg base ec "is_line" (top 12) f N_is_line 1 (g_is_line F_is_tuple F_is_from) := by
  intro cdv A outer s H E hr hp tk
  have nd := sc_is_line.nd
  exact (dss_cons (ds_if (O' := []) flatE (DW.t (dw_or (dt_not (dt_of (DE.b (de_call G_is_tuple (hr.mono (by decide)) hp (by rfl) (da_cons (de_name (pv 2)) (da_cons (de_name (pv 0)) (da_cons (de_name (pv 0)) da_nil))))))) (dw_or1 (dt_not (dt_of (DE.b (de_b1 (c_all (by rfl)) (by rfl) n_all (by decide +kernel) (DF.b (df_comp (own := [("pair", 5)]) (by rfl) nd (dj_seq (db_name (pv 2))) (blkOk_by (N := N_is_line) (sc := defScope (top 12)) (own := [("pair", 5)]) (by decide +kernel)) ⟨_, fun _ _ _ _ _ => pg_name (i := 5) nd (by rfl) (by first | exact Or.inl rfl | exact Or.inr rfl), dgo_name 5⟩ (fun _ _ _ _ _ => dts_nil) (fun _ _ _ _ _ => (de_call G_is_tuple (hr.mono (by decide)) passE0 (by rfl) (da_cons (de_name (pv 5)) (da_cons de_int (da_cons de_int da_nil)))))))))))))) (dss_one (ds_ret flatE de_bl)) dss_nil) (dss_one (ds_ret flatE (de_b1 (c_all (by rfl)) (by rfl) n_all (by decide +kernel) (DF.b (df_comp (own := [("stand", 3), ("note", 4)]) (by rfl) nd (dj_seq (db_name (pv 2))) (blkOk_by (N := N_is_line) (sc := defScope (top 12)) (own := [("stand", 3), ("note", 4)]) (by decide +kernel)) ⟨_, fun _ _ _ _ _ => pg_tup (n := 2) (by rfl) (pgs_cons (pg_name (i := 3) nd (by rfl) (by first | exact Or.inl rfl | exact Or.inr rfl)) (pgs_cons (pg_name (i := 4) nd (by rfl) (by first | exact Or.inl rfl | exact Or.inr rfl)) pgs_nil)), dgo_tup (dgo_cons (dgo_name 3) (dgo_cons (dgo_name 4) dgo_nil))⟩ (fun _ _ _ _ _ => dts_nil) (fun _ _ _ _ _ => (de_and (de_call G_is_from (hr.mono (by decide)) passE0 (by rfl) (da_cons (de_name (pv 3)) (da_cons de_int (da_cons (de_bin od_sub (db_name (pv 0)) (DE.b de_int)) da_nil)))) (de_one (de_call G_is_from (hr.mono (by decide)) passE0 (by rfl) (da_cons (de_name (pv 4)) (da_cons de_int (da_cons (de_bin od_sub (db_name (pv 1)) (DE.b de_int)) da_nil)))))))))))))
def F_is_line : List PyData → R PyData := fun ds => runB N_is_line.length (g_is_line F_is_tuple F_is_from) ds
def N_is_table : List Str := ["many", "value", "line"]
theorem sc_is_table : FnScope N_is_table ["many", "value"] (defScope (top 13)) := ⟨rfl, rfl, rfl, by decide +kernel, rfl, by decide +kernel, by decide +kernel⟩
def g_is_table (F_is_tuple F_is_line : List PyData → R PyData) : Rho → R Fl := (retE (fun ρ => ((fun ρ => ((fun ρ => ((fun ρ => getV ρ 1) ρ).bind fun d => ((fun ρ => ((fC (.int 1)) ρ).bind fun d => ((fun ρ => ((fC (.int 3)) ρ).bind fun d => ((fun _ => R.ok []) ρ).bind fun ds => R.ok (d :: ds)) ρ).bind fun ds => R.ok (d :: ds)) ρ).bind fun ds => R.ok (d :: ds)) ρ).bind (chk 3 F_is_tuple)) ρ).bind fun x => (tru x).bind fun k => if k = true then (fC1 gAll (fComp [2] (fun ρ => ((fun ρ => getV ρ 1) ρ).bind seqOf) (tg1 2) (fun _ => R.ok true) (fun ρ => ((fun ρ => ((fun ρ => getV ρ 0) ρ).bind fun d => ((fun ρ => ((fC1 gLen (fun ρ => getV ρ 1)) ρ).bind fun d => ((fun ρ => ((fun ρ => getV ρ 2) ρ).bind fun d => ((fun _ => R.ok []) ρ).bind fun ds => R.ok (d :: ds)) ρ).bind fun ds => R.ok (d :: ds)) ρ).bind fun ds => R.ok (d :: ds)) ρ).bind (chk 3 F_is_line)))) ρ else R.ok x))
theorem b_is_table {P : Program} {w : World} {K : PySem.W.Frag} {mg : Str → Option Value} {base : Heap} {ec : EC} {f : Addr} {F_is_tuple F_is_line : List PyData → R PyData} (G_is_tuple : FnD P w K mg base ec 1 3 "is_tuple" F_is_tuple) (G_is_line : FnD P w K mg base ec 2 3 "is_line" F_is_line) (n_all : mg "all" = none) (n_len : mg "len" = none) : BodyOk P w K mg base ec "is_table" (top 13) f N_is_table 2 (g_is_table F_is_tuple F_is_line) := by
  intro cdv A outer s H E hr hp tk
  have nd := sc_is_table.nd
  exact (dss_one (ds_ret flatE (de_and (de_call G_is_tuple (hr.mono (by decide)) hp (by rfl) (da_cons (de_name (pv 1)) (da_cons de_int (da_cons de_int da_nil)))) (de_one (de_b1 (c_all (by rfl)) (by rfl) n_all (by decide +kernel) (DF.b (df_comp (own := [("line", 2)]) (by rfl) nd (dj_seq (db_name (pv 1))) (blkOk_by (N := N_is_table) (sc := defScope (top 13)) (own := [("line", 2)]) (by decide +kernel)) ⟨_, fun _ _ _ _ _ => pg_name (i := 2) nd (by rfl) (by first | exact Or.inl rfl | exact Or.inr rfl), dgo_name 2⟩ (fun _ _ _ _ _ => dts_nil) (fun _ _ _ _ _ => (de_call G_is_line (hr.mono (by decide)) passE0 (by rfl) (da_cons (de_name (pv 0)) (da_cons (de_b1 c_len (by rfl) n_len (by decide +kernel) (db_name (pv 1))) (da_cons (de_name (pv 2)) da_nil))))))))))))
def F_is_table : List PyData → R PyData := fun ds => runB N_is_table.length (g_is_table F_is_tuple F_is_line) ds
def N_is_plain : List Str := ["many", "value", "wanted", "stand"]
theorem sc_is_plain : FnScope N_is_plain ["many", "value"] (defScope (top 14)) := ⟨rfl, rfl, rfl, by decide +kernel, rfl, by decide +kernel, by decide +kernel⟩
def g_is_plain (F_is_tuple F_is_from F_is_side F_is_table : List PyData → R PyData) : Rho → R Fl := (fSeq (fun ρ => ((fun ρ => ((fun ρ => ((fun ρ => ((fun ρ => ((fun ρ => ((fun ρ => getV ρ 1) ρ).bind fun d => ((fun ρ => ((fC (.int 3)) ρ).bind fun d => ((fun ρ => ((fC (.int 5)) ρ).bind fun d => ((fun _ => R.ok []) ρ).bind fun ds => R.ok (d :: ds)) ρ).bind fun ds => R.ok (d :: ds)) ρ).bind fun ds => R.ok (d :: ds)) ρ).bind (chk 3 F_is_tuple)) ρ).bind tru) ρ).bind fun b => R.ok (!b)) ρ).bind fun k => if k = true then R.ok true else (fun ρ => ((fun ρ => ((fIsi "str" (fBin gIx (fun ρ => getV ρ 1) (fC (.int 0)))) ρ).bind tru) ρ).bind fun b => R.ok (!b)) ρ) ρ).bind fun k => if k = true then (retE (fC (.bool false))) ρ else (fun ρ => R.ok (.nx ρ)) ρ) (fSeq (fun ρ => ((fun ρ => (fBin gEq (fBin gIx (fun ρ => getV ρ 1) (fC (.int 0))) (fC (.str "each")) ρ).bind tr) ρ).bind fun k => if k = true then (retE (fun ρ => ((fBin gEq (fC1 gLen (fun ρ => getV ρ 1)) (fC (.int 3))) ρ).bind fun x => (tru x).bind fun k => if k = true then (fC1 gAll (fComp [3] (fun ρ => ((fSl gSl (fun ρ => getV ρ 1) (fun ρ => ((fC (.int 1)) ρ).bind toI) (fun _ => R.ok none)) ρ).bind seqOf) (tg1 3) (fun _ => R.ok true) (fun ρ => ((fun ρ => ((fun ρ => getV ρ 3) ρ).bind fun d => ((fun ρ => ((fC (.int 0)) ρ).bind fun d => ((fun ρ => ((fBin gSub (fun ρ => getV ρ 0) (fC (.int 1))) ρ).bind fun d => ((fun _ => R.ok []) ρ).bind fun ds => R.ok (d :: ds)) ρ).bind fun ds => R.ok (d :: ds)) ρ).bind fun ds => R.ok (d :: ds)) ρ).bind (chk 3 F_is_from)))) ρ else R.ok x)) ρ else (fun ρ => R.ok (.nx ρ)) ρ) (fSeq (fun ρ => ((fun ρ => ((fun ρ => ((fun ρ => ((fun ρ => ((fBin gIx (fun ρ => getV ρ 1) (fC (.int 1))) ρ).bind fun d => ((fun _ => R.ok []) ρ).bind fun ds => R.ok (d :: ds)) ρ).bind (chk 1 F_is_side)) ρ).bind tru) ρ).bind fun b => R.ok (!b)) ρ).bind fun k => if k = true then (retE (fC (.bool false))) ρ else (fun ρ => R.ok (.nx ρ)) ρ) (fSeq (fun ρ => ((fun ρ => (fBin gEq (fBin gIx (fun ρ => getV ρ 1) (fC (.int 0))) (fC (.str "walk")) ρ).bind tr) ρ).bind fun k => if k = true then (retE (fun ρ => ((fBin gEq (fC1 gLen (fun ρ => getV ρ 1)) (fC (.int 3))) ρ).bind fun x => (tru x).bind fun k => if k = true then (fun ρ => ((fun ρ => ((fun ρ => getV ρ 0) ρ).bind fun d => ((fun ρ => ((fBin gIx (fun ρ => getV ρ 1) (fC (.int 2))) ρ).bind fun d => ((fun _ => R.ok []) ρ).bind fun ds => R.ok (d :: ds)) ρ).bind fun ds => R.ok (d :: ds)) ρ).bind (chk 2 F_is_table)) ρ else R.ok x)) ρ else (fun ρ => R.ok (.nx ρ)) ρ) (fSeq (setE 2 (fun ρ => ((fun ρ => ((fun ρ => ((fC (.int 4)) ρ).bind fun d => ((fun ρ => ((fC (.int 4)) ρ).bind fun d => ((fun ρ => ((fC (.int 5)) ρ).bind fun d => ((fun ρ => ((fC (.int 5)) ρ).bind fun d => ((fun _ => R.ok []) ρ).bind fun ds => R.ok ((keyD (.inr "behind"), d) :: ds)) ρ).bind fun ds => R.ok ((keyD (.inr "until"), d) :: ds)) ρ).bind fun ds => R.ok ((keyD (.inr "second"), d) :: ds)) ρ).bind fun ds => R.ok ((keyD (.inr "first"), d) :: ds)) ρ).bind mkDict) ρ).bind fun ds => ((fBin gIx (fun ρ => getV ρ 1) (fC (.int 0))) ρ).bind fun k => ((fC (.int 0)) ρ).bind fun d => getD2 ds k d)) (retE (fun ρ => ((fBin gEq (fC1 gLen (fun ρ => getV ρ 1)) (fun ρ => getV ρ 2)) ρ).bind fun x => (tru x).bind fun k => if k = true then (fC1 gAll (fComp [3] (fun ρ => ((fSl gSl (fun ρ => getV ρ 1) (fun ρ => ((fC (.int 2)) ρ).bind toI) (fun _ => R.ok none)) ρ).bind seqOf) (tg1 3) (fun _ => R.ok true) (fun ρ => ((fun ρ => ((fun ρ => getV ρ 3) ρ).bind fun d => ((fun ρ => ((fC (.int 0)) ρ).bind fun d => ((fun ρ => ((fBin gSub (fun ρ => getV ρ 0) (fC (.int 1))) ρ).bind fun d => ((fun _ => R.ok []) ρ).bind fun ds => R.ok (d :: ds)) ρ).bind fun ds => R.ok (d :: ds)) ρ).bind fun ds => R.ok (d :: ds)) ρ).bind (chk 3 F_is_from)))) ρ else R.ok x)))))))
theorem b_is_plain {P : Program} {w : World} {K : PySem.W.Frag} {mg : Str → Option Value} {base : Heap} {ec : EC} {f : Addr} {F_is_tuple F_is_from F_is_side F_is_table : List PyData → R PyData} (G_is_tuple : FnD P w K mg base ec 1 3 "is_tuple" F_is_tuple) (G_is_from : FnD P w K mg base ec 1 3 "is_from" F_is_from) (G_is_side : FnD P w K mg base ec 1 1 "is_side" F_is_side) (G_is_table : FnD P w K mg base ec 3 2 "is_table" F_is_table) (n_all : mg "all" = none) (n_isinstance : mg "isinstance" = none) (n_len : mg "len" = none) (n_str : mg "str" = none) : BodyOk P w K mg base ec "is_plain" (top 14) f N_is_plain 3 (g_is_plain F_is_tuple F_is_from F_is_side F_is_table) := by
  intro cdv A outer s H E hr hp tk
  have nd := sc_is_plain.nd
  exact (dss_cons (ds_if (O' := []) flatE (DW.t (dw_or (dt_not (dt_of (DE.b (de_call G_is_tuple (hr.mono (by decide)) hp (by rfl) (da_cons (de_name (pv 1)) (da_cons de_int (da_cons de_int da_nil))))))) (dw_or1 (dt_not (dt_of (DE.b (de_isi (T := "str") (by decide) (by rfl) n_isinstance (by rfl) n_str (by decide +kernel) (DE.b (de_ix (db_name (pv 1)) (DE.b de_int) (fun _ _ => rfl)))))))))) (dss_one (ds_ret flatE de_bl)) dss_nil) (dss_cons (ds_if (O' := []) flatE (dt_cmp (od_eq hr.units) (DE.b (de_ix (db_name (pv 1)) (DE.b de_int) (fun _ _ => rfl))) (DE.b de_str) (nomark _)) (dss_one (ds_ret flatE (de_and (de_cmp (od_eq hr.units) (DE.b (de_b1 c_len (by rfl) n_len (by decide +kernel) (db_name (pv 1)))) (DE.b de_int) (nomark _)) (de_one (de_b1 (c_all (by rfl)) (by rfl) n_all (by decide +kernel) (DF.b (df_comp (own := [("stand", 3)]) (by rfl) nd (dj_seq (DE.b (de_sl (db_name (pv 1)) (dp_some (DE.b de_int)) dp_none))) (blkOk_by (N := N_is_plain) (sc := defScope (top 14)) (own := [("stand", 3)]) (by decide +kernel)) ⟨_, fun _ _ _ _ _ => pg_name (i := 3) nd (by rfl) (by first | exact Or.inl rfl | exact Or.inr rfl), dgo_name 3⟩ (fun _ _ _ _ _ => dts_nil) (fun _ _ _ _ _ => (de_call G_is_from (hr.mono (by decide)) passE0 (by rfl) (da_cons (de_name (pv 3)) (da_cons de_int (da_cons (de_bin od_sub (db_name (pv 0)) (DE.b de_int)) da_nil)))))))))))) dss_nil) (dss_cons (ds_if (O' := []) flatE (dt_not (dt_of (DE.b (de_call G_is_side (hr.mono (by decide)) hp (by rfl) (da_cons (de_ix (db_name (pv 1)) (DE.b de_int) (fun _ _ => rfl)) da_nil))))) (dss_one (ds_ret flatE de_bl)) dss_nil) (dss_cons (ds_if (O' := []) flatE (dt_cmp (od_eq hr.units) (DE.b (de_ix (db_name (pv 1)) (DE.b de_int) (fun _ _ => rfl))) (DE.b de_str) (nomark _)) (dss_one (ds_ret flatE (de_and (de_cmp (od_eq hr.units) (DE.b (de_b1 c_len (by rfl) n_len (by decide +kernel) (db_name (pv 1)))) (DE.b de_int) (nomark _)) (de_one (de_call G_is_table (hr.mono (by decide)) hp (by rfl) (da_cons (de_name (pv 0)) (da_cons (de_ix (db_name (pv 1)) (DE.b de_int) (fun _ _ => rfl)) da_nil))))))) dss_nil) (dss_cons (ds_asg flatE nd (by rfl) (by first | exact Or.inl rfl | exact Or.inr rfl) (de_dget2 (u1 hr) (dd_disp (dks_cons (.inr "first") pe_str de_int (dks_cons (.inr "second") pe_str de_int (dks_cons (.inr "until") pe_str de_int (dks_cons (.inr "behind") pe_str de_int dks_nil))))) (de_ix (db_name (pv 1)) (DE.b de_int) (fun _ _ => rfl)) de_int ⟨rfl, rfl, rfl, rfl⟩)) (dss_one (ds_ret flatE (de_and (de_cmp (od_eq hr.units) (DE.b (de_b1 c_len (by rfl) n_len (by decide +kernel) (db_name (pv 1)))) (db_name (pv 2)) (nomark _)) (de_one (de_b1 (c_all (by rfl)) (by rfl) n_all (by decide +kernel) (DF.b (df_comp (own := [("stand", 3)]) (by rfl) nd (dj_seq (DE.b (de_sl (db_name (pv 1)) (dp_some (DE.b de_int)) dp_none))) (blkOk_by (N := N_is_plain) (sc := defScope (top 14)) (own := [("stand", 3)]) (by decide +kernel)) ⟨_, fun _ _ _ _ _ => pg_name (i := 3) nd (by rfl) (by first | exact Or.inl rfl | exact Or.inr rfl), dgo_name 3⟩ (fun _ _ _ _ _ => dts_nil) (fun _ _ _ _ _ => (de_call G_is_from (hr.mono (by decide)) passE0 (by rfl) (da_cons (de_name (pv 3)) (da_cons de_int (da_cons (de_bin od_sub (db_name (pv 0)) (DE.b de_int)) da_nil)))))))))))))))))
def F_is_plain : List PyData → R PyData := fun ds => runB N_is_plain.length (g_is_plain F_is_tuple F_is_from F_is_side F_is_table) ds
def N_has_step : List Str := ["many", "value", "part"]
theorem sc_has_step : FnScope N_has_step ["many", "value"] (defScope (top 15)) := ⟨rfl, rfl, rfl, by decide +kernel, rfl, by decide +kernel, by decide +kernel⟩
def g_has_step (F_is_tuple F_is_from F_is_plain : List PyData → R PyData) : Rho → R Fl := (fSeq (fun ρ => ((fun ρ => ((fun ρ => ((fun ρ => ((fun ρ => ((fun ρ => getV ρ 1) ρ).bind fun d => ((fun ρ => ((fC (.int 3)) ρ).bind fun d => ((fun ρ => ((fC (.int 3)) ρ).bind fun d => ((fun _ => R.ok []) ρ).bind fun ds => R.ok (d :: ds)) ρ).bind fun ds => R.ok (d :: ds)) ρ).bind fun ds => R.ok (d :: ds)) ρ).bind (chk 3 F_is_tuple)) ρ).bind tru) ρ).bind fun k => if k = true then (fun ρ => ((fun ρ => ((fIsi "str" (fBin gIx (fun ρ => getV ρ 1) (fC (.int 0)))) ρ).bind tru) ρ).bind fun k => if k = true then (fun ρ => (fBin gEq (fBin gIx (fun ρ => getV ρ 1) (fC (.int 0))) (fC (.str "again")) ρ).bind tr) ρ else R.ok false) ρ else R.ok false) ρ).bind fun k => if k = true then (retE (fun ρ => ((fun ρ => ((fun ρ => ((fBin gIx (fun ρ => getV ρ 1) (fC (.int 1))) ρ).bind fun d => ((fun ρ => ((fC (.int 2)) ρ).bind fun d => ((fun ρ => ((fC (.int 4)) ρ).bind fun d => ((fun _ => R.ok []) ρ).bind fun ds => R.ok (d :: ds)) ρ).bind fun ds => R.ok (d :: ds)) ρ).bind fun ds => R.ok (d :: ds)) ρ).bind (chk 3 F_is_from)) ρ).bind fun x => (tru x).bind fun k => if k = true then (fun ρ => ((fun ρ => ((fun ρ => ((fBin gIx (fun ρ => getV ρ 1) (fC (.int 2))) ρ).bind fun d => ((fun ρ => ((fC (.int 1)) ρ).bind fun d => ((fun ρ => ((fC (.int 3)) ρ).bind fun d => ((fun _ => R.ok []) ρ).bind fun ds => R.ok (d :: ds)) ρ).bind fun ds => R.ok (d :: ds)) ρ).bind fun ds => R.ok (d :: ds)) ρ).bind (chk 3 F_is_tuple)) ρ).bind fun x => (tru x).bind fun k => if k = true then (fC1 gAll (fComp [2] (fun ρ => ((fBin gIx (fun ρ => getV ρ 1) (fC (.int 2))) ρ).bind seqOf) (tg1 2) (fun _ => R.ok true) (fun ρ => ((fun ρ => ((fun ρ => getV ρ 0) ρ).bind fun d => ((fun ρ => ((fun ρ => getV ρ 2) ρ).bind fun d => ((fun _ => R.ok []) ρ).bind fun ds => R.ok (d :: ds)) ρ).bind fun ds => R.ok (d :: ds)) ρ).bind (chk 2 F_is_plain)))) ρ else R.ok x) ρ else R.ok x)) ρ else (fun ρ => R.ok (.nx ρ)) ρ) (retE (fun ρ => ((fun ρ => ((fun ρ => getV ρ 0) ρ).bind fun d => ((fun ρ => ((fun ρ => getV ρ 1) ρ).bind fun d => ((fun _ => R.ok []) ρ).bind fun ds => R.ok (d :: ds)) ρ).bind fun ds => R.ok (d :: ds)) ρ).bind (chk 2 F_is_plain))))
theorem b_has_step {P : Program} {w : World} {K : PySem.W.Frag} {mg : Str → Option Value} {base : Heap} {ec : EC} {f : Addr} {F_is_tuple F_is_from F_is_plain : List PyData → R PyData} (G_is_tuple : FnD P w K mg base ec 1 3 "is_tuple" F_is_tuple) (G_is_from : FnD P w K mg base ec 1 3 "is_from" F_is_from) (G_is_plain : FnD P w K mg base ec 4 2 "is_plain" F_is_plain) (n_all : mg "all" = none) (n_isinstance : mg "isinstance" = none) (n_str : mg "str" = none) : BodyOk P w K mg base ec "has_step" (top 15) f N_has_step 4 (g_has_step F_is_tuple F_is_from F_is_plain) := by
  intro cdv A outer s H E hr hp tk
  have nd := sc_has_step.nd
  exact (dss_cons (ds_if (O' := []) flatE (DW.t (dw_and (dt_of (DE.b (de_call G_is_tuple (hr.mono (by decide)) hp (by rfl) (da_cons (de_name (pv 1)) (da_cons de_int (da_cons de_int da_nil)))))) (dw_and (dt_of (DE.b (de_isi (T := "str") (by decide) (by rfl) n_isinstance (by rfl) n_str (by decide +kernel) (DE.b (de_ix (db_name (pv 1)) (DE.b de_int) (fun _ _ => rfl)))))) (dw_and1 (dt_cmp (od_eq hr.units) (DE.b (de_ix (db_name (pv 1)) (DE.b de_int) (fun _ _ => rfl))) (DE.b de_str) (nomark _)))))) (dss_one (ds_ret flatE (de_and (de_call G_is_from (hr.mono (by decide)) hp (by rfl) (da_cons (de_ix (db_name (pv 1)) (DE.b de_int) (fun _ _ => rfl)) (da_cons de_int (da_cons de_int da_nil)))) (de_and (de_call G_is_tuple (hr.mono (by decide)) hp (by rfl) (da_cons (de_ix (db_name (pv 1)) (DE.b de_int) (fun _ _ => rfl)) (da_cons de_int (da_cons de_int da_nil)))) (de_one (de_b1 (c_all (by rfl)) (by rfl) n_all (by decide +kernel) (DF.b (df_comp (own := [("part", 2)]) (by rfl) nd (dj_seq (DE.b (de_ix (db_name (pv 1)) (DE.b de_int) (fun _ _ => rfl)))) (blkOk_by (N := N_has_step) (sc := defScope (top 15)) (own := [("part", 2)]) (by decide +kernel)) ⟨_, fun _ _ _ _ _ => pg_name (i := 2) nd (by rfl) (by first | exact Or.inl rfl | exact Or.inr rfl), dgo_name 2⟩ (fun _ _ _ _ _ => dts_nil) (fun _ _ _ _ _ => (de_call G_is_plain (hr.mono (by decide)) passE0 (by rfl) (da_cons (de_name (pv 0)) (da_cons (de_name (pv 2)) da_nil)))))))))))) dss_nil) (dss_one (ds_ret flatE (de_call G_is_plain (hr.mono (by decide)) hp (by rfl) (da_cons (de_name (pv 0)) (da_cons (de_name (pv 1)) da_nil))))))
def F_has_step : List PyData → R PyData := fun ds => runB N_has_step.length (g_has_step F_is_tuple F_is_from F_is_plain) ds
def N_table_of : List Str := ["many", "step", "stands", "old", "new", "stay", "first", "later", "going", "stand"]
theorem sc_table_of : FnScope N_table_of ["many", "step"] (defScope (top 16)) := ⟨rfl, rfl, rfl, by decide +kernel, rfl, by decide +kernel, by decide +kernel⟩
def g_table_of : Rho → R Fl := (fSeq (setE 2 (fC1 gRange (fun ρ => getV ρ 0))) (fSeq (fun ρ => ((fun ρ => (fBin gEq (fBin gIx (fun ρ => getV ρ 1) (fC (.int 0))) (fC (.str "walk")) ρ).bind tr) ρ).bind fun k => if k = true then (retE (fBin gIx (fun ρ => getV ρ 1) (fC (.int 2)))) ρ else (fun ρ => R.ok (.nx ρ)) ρ) (fSeq (fun ρ => ((fun ρ => (fBin gEq (fBin gIx (fun ρ => getV ρ 1) (fC (.int 0))) (fC (.str "each")) ρ).bind tr) ρ).bind fun k => if k = true then (retE (fun ρ => ((fun ρ => ((fC1 gTuple (fComp [9] (fun ρ => ((fun ρ => getV ρ 2) ρ).bind seqOf) (tg1 9) (fun _ => R.ok true) (fun ρ => ((fun ρ => ((fun ρ => ((fun ρ => (fBin gEq (fun ρ => getV ρ 9) (fBin gIx (fun ρ => getV ρ 1) (fC (.int 1))) ρ).bind tr) ρ).bind fun k => if k = true then (fBin gIx (fun ρ => getV ρ 1) (fC (.int 2))) ρ else (fun ρ => getV ρ 9) ρ) ρ).bind fun d => ((fun ρ => ((fC (.int 0)) ρ).bind fun d => ((fun _ => R.ok []) ρ).bind fun ds => R.ok (d :: ds)) ρ).bind fun ds => R.ok (d :: ds)) ρ).bind mkTup))) ρ).bind fun d => ((fun _ => R.ok []) ρ).bind fun ds => R.ok (d :: ds)) ρ).bind mkTup)) ρ else (fun ρ => R.ok (.nx ρ)) ρ) (fSeq (asgT (tgTup 2 (tgCons (tg1 3) (tgCons (tg1 4) tgNil))) (fSl gSl (fun ρ => getV ρ 1) (fun ρ => ((fun ρ => ((fC (.int 2)) ρ).bind gNeg) ρ).bind toI) (fun _ => R.ok none))) (fSeq (setE 5 (fC1 gTuple (fComp [9] (fun ρ => ((fun ρ => getV ρ 2) ρ).bind seqOf) (tg1 9) (fun _ => R.ok true) (fun ρ => ((fun ρ => ((fun ρ => getV ρ 9) ρ).bind fun d => ((fun ρ => ((fC (.int 1)) ρ).bind fun d => ((fun _ => R.ok []) ρ).bind fun ds => R.ok (d :: ds)) ρ).bind fun ds => R.ok (d :: ds)) ρ).bind mkTup)))) (fSeq (fun ρ => ((fun ρ => (fBin gEq (fBin gIx (fun ρ => getV ρ 1) (fC (.int 0))) (fC (.str "first")) ρ).bind tr) ρ).bind fun k => if k = true then (retE (fun ρ => ((fun ρ => ((fC1 gTuple (fComp [9] (fun ρ => ((fun ρ => getV ρ 2) ρ).bind seqOf) (tg1 9) (fun _ => R.ok true) (fun ρ => ((fun ρ => (fBin gEq (fun ρ => getV ρ 9) (fun ρ => getV ρ 3) ρ).bind tr) ρ).bind fun k => if k = true then (fun ρ => ((fun ρ => ((fun ρ => getV ρ 4) ρ).bind fun d => ((fun ρ => ((fC (.int 1)) ρ).bind fun d => ((fun _ => R.ok []) ρ).bind fun ds => R.ok (d :: ds)) ρ).bind fun ds => R.ok (d :: ds)) ρ).bind mkTup) ρ else (fun ρ => ((fun ρ => ((fun ρ => getV ρ 9) ρ).bind fun d => ((fun ρ => ((fC (.int 0)) ρ).bind fun d => ((fun _ => R.ok []) ρ).bind fun ds => R.ok (d :: ds)) ρ).bind fun ds => R.ok (d :: ds)) ρ).bind mkTup) ρ))) ρ).bind fun d => ((fun ρ => ((fun ρ => getV ρ 5) ρ).bind fun d => ((fun _ => R.ok []) ρ).bind fun ds => R.ok (d :: ds)) ρ).bind fun ds => R.ok (d :: ds)) ρ).bind mkTup)) ρ else (fun ρ => R.ok (.nx ρ)) ρ) (fSeq (fun ρ => ((fun ρ => (fBin gEq (fBin gIx (fun ρ => getV ρ 1) (fC (.int 0))) (fC (.str "second")) ρ).bind tr) ρ).bind fun k => if k = true then (fSeq (setE 7 (fC1 gTuple (fComp [9] (fun ρ => ((fun ρ => getV ρ 2) ρ).bind seqOf) (tg1 9) (fun _ => R.ok true) (fun ρ => ((fun ρ => (fBin gEq (fun ρ => getV ρ 9) (fun ρ => getV ρ 3) ρ).bind tr) ρ).bind fun k => if k = true then (fun ρ => ((fun ρ => ((fun ρ => getV ρ 4) ρ).bind fun d => ((fun ρ => ((fC (.int 0)) ρ).bind fun d => ((fun _ => R.ok []) ρ).bind fun ds => R.ok (d :: ds)) ρ).bind fun ds => R.ok (d :: ds)) ρ).bind mkTup) ρ else (fun ρ => ((fun ρ => ((fun ρ => getV ρ 9) ρ).bind fun d => ((fun ρ => ((fC (.int 1)) ρ).bind fun d => ((fun _ => R.ok []) ρ).bind fun ds => R.ok (d :: ds)) ρ).bind fun ds => R.ok (d :: ds)) ρ).bind mkTup) ρ)))) (retE (fun ρ => ((fun ρ => ((fC1 gTuple (fComp [9] (fun ρ => ((fun ρ => getV ρ 2) ρ).bind seqOf) (tg1 9) (fun _ => R.ok true) (fun ρ => ((fun ρ => ((fun ρ => getV ρ 9) ρ).bind fun d => ((fun ρ => ((fC1 gInt (fBin gEq (fun ρ => getV ρ 9) (fun ρ => getV ρ 3))) ρ).bind fun d => ((fun _ => R.ok []) ρ).bind fun ds => R.ok (d :: ds)) ρ).bind fun ds => R.ok (d :: ds)) ρ).bind mkTup))) ρ).bind fun d => ((fun ρ => ((fun ρ => getV ρ 7) ρ).bind fun d => ((fun _ => R.ok []) ρ).bind fun ds => R.ok (d :: ds)) ρ).bind fun ds => R.ok (d :: ds)) ρ).bind mkTup))) ρ else (fun ρ => R.ok (.nx ρ)) ρ) (fSeq (fun ρ => ((fun ρ => (fBin gEq (fBin gIx (fun ρ => getV ρ 1) (fC (.int 0))) (fC (.str "until")) ρ).bind tr) ρ).bind fun k => if k = true then (fSeq (setE 8 (fComp [9] (fun ρ => ((fun ρ => getV ρ 2) ρ).bind seqOf) (tg1 9) (fun _ => R.ok true) (fun ρ => ((fun ρ => (fBin gEq (fun ρ => getV ρ 9) (fBin gIx (fun ρ => getV ρ 1) (fC (.int 2))) ρ).bind tr) ρ).bind fun k => if k = true then (fun ρ => ((fun ρ => ((fun ρ => getV ρ 9) ρ).bind fun d => ((fun ρ => ((fC (.int 1)) ρ).bind fun d => ((fun _ => R.ok []) ρ).bind fun ds => R.ok (d :: ds)) ρ).bind fun ds => R.ok (d :: ds)) ρ).bind mkTup) ρ else (fun ρ => ((fun ρ => ((fun ρ => ((fun ρ => (fBin gEq (fun ρ => getV ρ 9) (fun ρ => getV ρ 3) ρ).bind tr) ρ).bind fun k => if k = true then (fun ρ => getV ρ 4) ρ else (fun ρ => getV ρ 9) ρ) ρ).bind fun d => ((fun ρ => ((fC (.int 0)) ρ).bind fun d => ((fun _ => R.ok []) ρ).bind fun ds => R.ok (d :: ds)) ρ).bind fun ds => R.ok (d :: ds)) ρ).bind mkTup) ρ))) (retE (fun ρ => ((fun ρ => ((fC1 gTuple (fun ρ => getV ρ 8)) ρ).bind fun d => ((fun ρ => ((fun ρ => getV ρ 5) ρ).bind fun d => ((fun _ => R.ok []) ρ).bind fun ds => R.ok (d :: ds)) ρ).bind fun ds => R.ok (d :: ds)) ρ).bind mkTup))) ρ else (fun ρ => R.ok (.nx ρ)) ρ) (fSeq (setE 6 (fC1 gTuple (fComp [9] (fun ρ => ((fun ρ => getV ρ 2) ρ).bind seqOf) (tg1 9) (fun _ => R.ok true) (fun ρ => ((fun ρ => ((fun ρ => getV ρ 9) ρ).bind fun d => ((fun ρ => ((fC1 gInt (fBin gEq (fun ρ => getV ρ 9) (fBin gIx (fun ρ => getV ρ 1) (fC (.int 2))))) ρ).bind fun d => ((fun _ => R.ok []) ρ).bind fun ds => R.ok (d :: ds)) ρ).bind fun ds => R.ok (d :: ds)) ρ).bind mkTup)))) (retE (fun ρ => ((fun ρ => ((fun ρ => getV ρ 6) ρ).bind fun d => ((fun ρ => ((fC1 gTuple (fComp [9] (fun ρ => ((fun ρ => getV ρ 2) ρ).bind seqOf) (tg1 9) (fun _ => R.ok true) (fun ρ => ((fun ρ => ((fun ρ => ((fun ρ => (fBin gEq (fun ρ => getV ρ 9) (fun ρ => getV ρ 3) ρ).bind tr) ρ).bind fun k => if k = true then (fun ρ => getV ρ 4) ρ else (fun ρ => getV ρ 9) ρ) ρ).bind fun d => ((fun ρ => ((fC1 gInt (fBin gEq (fun ρ => getV ρ 9) (fBin gIx (fun ρ => getV ρ 1) (fC (.int 2))))) ρ).bind fun d => ((fun _ => R.ok []) ρ).bind fun ds => R.ok (d :: ds)) ρ).bind fun ds => R.ok (d :: ds)) ρ).bind mkTup))) ρ).bind fun d => ((fun _ => R.ok []) ρ).bind fun ds => R.ok (d :: ds)) ρ).bind fun ds => R.ok (d :: ds)) ρ).bind mkTup)))))))))))
theorem b_table_of {P : Program} {w : World} {K : PySem.W.Frag} {mg : Str → Option Value} {base : Heap} {ec : EC} {f : Addr} (n_int : mg "int" = none) (n_list : mg "list" = none) (n_range : mg "range" = none) (n_tuple : mg "tuple" = none) : BodyOk P w K mg base ec "table_of" (top 16) f N_table_of 0 (g_table_of) := by
  intro cdv A outer s H E hr hp tk
  have nd := sc_table_of.nd
  exact (dss_cons (ds_asg flatE nd (by rfl) (by first | exact Or.inl rfl | exact Or.inr rfl) (DF.toE (df_range (by rfl) (by rfl) n_list (by rfl) n_range (db_name (pv 0))))) (dss_cons (ds_if (O' := []) flatE (dt_cmp (od_eq hr.units) (DE.b (de_ix (db_name (pv 1)) (DE.b de_int) (fun _ _ => rfl))) (DE.b de_str) (nomark _)) (dss_one (ds_ret flatE (de_ix (db_name (pv 1)) (DE.b de_int) (fun _ _ => rfl)))) dss_nil) (dss_cons (ds_if (O' := []) flatE (dt_cmp (od_eq hr.units) (DE.b (de_ix (db_name (pv 1)) (DE.b de_int) (fun _ _ => rfl))) (DE.b de_str) (nomark _)) (dss_one (ds_ret flatE (de_tup (da_cons (de_t1 c_tuple (by rfl) n_tuple (by decide +kernel) (DF.b (df_comp (own := [("stand", 9)]) (by rfl) nd (dj_seq (db_name (pv 2))) (blkOk_by (N := N_table_of) (sc := defScope (top 16)) (own := [("stand", 9)]) (by decide +kernel)) ⟨_, fun _ _ _ _ _ => pg_name (i := 9) nd (by rfl) (by first | exact Or.inl rfl | exact Or.inr rfl), dgo_name 9⟩ (fun _ _ _ _ _ => dts_nil) (fun _ _ _ _ _ => (de_tup (da_cons (de_if (dt_cmp (od_eq hr.units) (db_name (pv 9)) (DE.b (de_ix (db_name (pv 1)) (DE.b de_int) (fun _ _ => rfl))) (nomark _)) (de_ix (db_name (pv 1)) (DE.b de_int) (fun _ _ => rfl)) (de_name (pv 9))) (da_cons de_int da_nil))))))) da_nil)))) dss_nil) (dss_cons (ds_asgT flatE (de_sl (db_name (pv 1)) (dp_some (DE.b (de_neg (DE.b de_int)))) dp_none) (dg_tup (by rfl) (dgs_cons (dg_name (pg_name (i := 3) nd (by rfl) (by first | exact Or.inl rfl | exact Or.inr rfl))) (dgs_cons (dg_name (pg_name (i := 4) nd (by rfl) (by first | exact Or.inl rfl | exact Or.inr rfl))) dgs_nil)))) (dss_cons (ds_asg flatE nd (by rfl) (by first | exact Or.inl rfl | exact Or.inr rfl) (de_t1 c_tuple (by rfl) n_tuple (by decide +kernel) (DF.b (df_comp (own := [("stand", 9)]) (by rfl) nd (dj_seq (db_name (pv 2))) (blkOk_by (N := N_table_of) (sc := defScope (top 16)) (own := [("stand", 9)]) (by decide +kernel)) ⟨_, fun _ _ _ _ _ => pg_name (i := 9) nd (by rfl) (by first | exact Or.inl rfl | exact Or.inr rfl), dgo_name 9⟩ (fun _ _ _ _ _ => dts_nil) (fun _ _ _ _ _ => (de_tup (da_cons (de_name (pv 9)) (da_cons de_int da_nil)))))))) (dss_cons (ds_if (O' := []) flatE (dt_cmp (od_eq hr.units) (DE.b (de_ix (db_name (pv 1)) (DE.b de_int) (fun _ _ => rfl))) (DE.b de_str) (nomark _)) (dss_one (ds_ret flatE (de_tup (da_cons (de_t1 c_tuple (by rfl) n_tuple (by decide +kernel) (DF.b (df_comp (own := [("stand", 9)]) (by rfl) nd (dj_seq (db_name (pv 2))) (blkOk_by (N := N_table_of) (sc := defScope (top 16)) (own := [("stand", 9)]) (by decide +kernel)) ⟨_, fun _ _ _ _ _ => pg_name (i := 9) nd (by rfl) (by first | exact Or.inl rfl | exact Or.inr rfl), dgo_name 9⟩ (fun _ _ _ _ _ => dts_nil) (fun _ _ _ _ _ => (de_if (dt_cmp (od_eq hr.units) (db_name (pv 9)) (db_name (pv 3)) (nomark _)) (de_tup (da_cons (de_name (pv 4)) (da_cons de_int da_nil))) (de_tup (da_cons (de_name (pv 9)) (da_cons de_int da_nil)))))))) (da_cons (de_name (pv 5)) da_nil))))) dss_nil) (dss_cons (ds_if (O' := []) flatE (dt_cmp (od_eq hr.units) (DE.b (de_ix (db_name (pv 1)) (DE.b de_int) (fun _ _ => rfl))) (DE.b de_str) (nomark _)) (dss_cons (ds_asg flatE nd (by rfl) (by first | exact Or.inl rfl | exact Or.inr rfl) (de_t1 c_tuple (by rfl) n_tuple (by decide +kernel) (DF.b (df_comp (own := [("stand", 9)]) (by rfl) nd (dj_seq (db_name (pv 2))) (blkOk_by (N := N_table_of) (sc := defScope (top 16)) (own := [("stand", 9)]) (by decide +kernel)) ⟨_, fun _ _ _ _ _ => pg_name (i := 9) nd (by rfl) (by first | exact Or.inl rfl | exact Or.inr rfl), dgo_name 9⟩ (fun _ _ _ _ _ => dts_nil) (fun _ _ _ _ _ => (de_if (dt_cmp (od_eq hr.units) (db_name (pv 9)) (db_name (pv 3)) (nomark _)) (de_tup (da_cons (de_name (pv 4)) (da_cons de_int da_nil))) (de_tup (da_cons (de_name (pv 9)) (da_cons de_int da_nil))))))))) (dss_one (ds_ret flatE (de_tup (da_cons (de_t1 c_tuple (by rfl) n_tuple (by decide +kernel) (DF.b (df_comp (own := [("stand", 9)]) (by rfl) nd (dj_seq (db_name (pv 2))) (blkOk_by (N := N_table_of) (sc := defScope (top 16)) (own := [("stand", 9)]) (by decide +kernel)) ⟨_, fun _ _ _ _ _ => pg_name (i := 9) nd (by rfl) (by first | exact Or.inl rfl | exact Or.inr rfl), dgo_name 9⟩ (fun _ _ _ _ _ => dts_nil) (fun _ _ _ _ _ => (de_tup (da_cons (de_name (pv 9)) (da_cons (de_t1 c_int (by rfl) n_int (by decide +kernel) (DE.b (de_cmp (od_eq hr.units) (db_name (pv 9)) (db_name (pv 3)) (nomark _)))) da_nil))))))) (da_cons (de_name (pv 7)) da_nil)))))) dss_nil) (dss_cons (ds_if (O' := []) flatE (dt_cmp (od_eq hr.units) (DE.b (de_ix (db_name (pv 1)) (DE.b de_int) (fun _ _ => rfl))) (DE.b de_str) (nomark _)) (dss_cons (ds_setLc flatE (own := [("stand", 9)]) (by rfl) nd (by rfl) (dj_seq (db_name (pv 2))) (blkOk_by (N := N_table_of) (sc := defScope (top 16)) (own := [("stand", 9)]) (by decide +kernel)) ⟨_, fun _ _ _ _ _ => pg_name (i := 9) nd (by rfl) (by first | exact Or.inl rfl | exact Or.inr rfl), dgo_name 9⟩ (fun _ _ _ _ _ => dts_nil) (fun _ _ _ _ _ => (de_if (dt_cmp (od_eq hr.units) (db_name (pv 9)) (DE.b (de_ix (db_name (pv 1)) (DE.b de_int) (fun _ _ => rfl))) (nomark _)) (de_tup (da_cons (de_name (pv 9)) (da_cons de_int da_nil))) (de_tup (da_cons (de_if (dt_cmp (od_eq hr.units) (db_name (pv 9)) (db_name (pv 3)) (nomark _)) (de_name (pv 4)) (de_name (pv 9))) (da_cons de_int da_nil))))) (sw_true rfl rfl rfl (by decide +kernel))) (dss_one (ds_ret flatE (de_tup (da_cons (de_t1 c_tuple (by rfl) n_tuple (by decide +kernel) (db_name (pv 8))) (da_cons (de_name (pv 5)) da_nil)))))) dss_nil) (dss_cons (ds_asg flatE nd (by rfl) (by first | exact Or.inl rfl | exact Or.inr rfl) (de_t1 c_tuple (by rfl) n_tuple (by decide +kernel) (DF.b (df_comp (own := [("stand", 9)]) (by rfl) nd (dj_seq (db_name (pv 2))) (blkOk_by (N := N_table_of) (sc := defScope (top 16)) (own := [("stand", 9)]) (by decide +kernel)) ⟨_, fun _ _ _ _ _ => pg_name (i := 9) nd (by rfl) (by first | exact Or.inl rfl | exact Or.inr rfl), dgo_name 9⟩ (fun _ _ _ _ _ => dts_nil) (fun _ _ _ _ _ => (de_tup (da_cons (de_name (pv 9)) (da_cons (de_t1 c_int (by rfl) n_int (by decide +kernel) (DE.b (de_cmp (od_eq hr.units) (db_name (pv 9)) (DE.b (de_ix (db_name (pv 1)) (DE.b de_int) (fun _ _ => rfl))) (nomark _)))) da_nil)))))))) (dss_one (ds_ret flatE (de_tup (da_cons (de_name (pv 6)) (da_cons (de_t1 c_tuple (by rfl) n_tuple (by decide +kernel) (DF.b (df_comp (own := [("stand", 9)]) (by rfl) nd (dj_seq (db_name (pv 2))) (blkOk_by (N := N_table_of) (sc := defScope (top 16)) (own := [("stand", 9)]) (by decide +kernel)) ⟨_, fun _ _ _ _ _ => pg_name (i := 9) nd (by rfl) (by first | exact Or.inl rfl | exact Or.inr rfl), dgo_name 9⟩ (fun _ _ _ _ _ => dts_nil) (fun _ _ _ _ _ => (de_tup (da_cons (de_if (dt_cmp (od_eq hr.units) (db_name (pv 9)) (db_name (pv 3)) (nomark _)) (de_name (pv 4)) (de_name (pv 9))) (da_cons (de_t1 c_int (by rfl) n_int (by decide +kernel) (DE.b (de_cmp (od_eq hr.units) (db_name (pv 9)) (DE.b (de_ix (db_name (pv 1)) (DE.b de_int) (fun _ _ => rfl))) (nomark _)))) da_nil))))))) da_nil))))))))))))))
def F_table_of : List PyData → R PyData := fun ds => runB N_table_of.length (g_table_of) ds
def N_walk_of : List Str := ["many", "step"]
theorem sc_walk_of : FnScope N_walk_of ["many", "step"] (defScope (top 17)) := ⟨rfl, rfl, rfl, by decide +kernel, rfl, by decide +kernel, by decide +kernel⟩
def g_walk_of (F_table_of : List PyData → R PyData) : Rho → R Fl := (retE (fun ρ => ((fun ρ => ((fun ρ => ((fun ρ => (fBin gEq (fBin gIx (fun ρ => getV ρ 1) (fC (.int 0))) (fC (.str "each")) ρ).bind tr) ρ).bind fun k => if k = true then (fC (.str "left")) ρ else (fBin gIx (fun ρ => getV ρ 1) (fC (.int 1))) ρ) ρ).bind fun d => ((fun ρ => ((fun ρ => ((fun ρ => ((fun ρ => getV ρ 0) ρ).bind fun d => ((fun ρ => ((fun ρ => getV ρ 1) ρ).bind fun d => ((fun _ => R.ok []) ρ).bind fun ds => R.ok (d :: ds)) ρ).bind fun ds => R.ok (d :: ds)) ρ).bind (chk 2 F_table_of)) ρ).bind fun d => ((fun _ => R.ok []) ρ).bind fun ds => R.ok (d :: ds)) ρ).bind fun ds => R.ok (d :: ds)) ρ).bind mkTup))
theorem b_walk_of {P : Program} {w : World} {K : PySem.W.Frag} {mg : Str → Option Value} {base : Heap} {ec : EC} {f : Addr} {F_table_of : List PyData → R PyData} (G_table_of : FnD P w K mg base ec 1 2 "table_of" F_table_of) : BodyOk P w K mg base ec "walk_of" (top 17) f N_walk_of 1 (g_walk_of F_table_of) := by
  intro cdv A outer s H E hr hp tk
  have nd := sc_walk_of.nd
  exact (dss_one (ds_ret flatE (de_tup (da_cons (de_if (dt_cmp (od_eq hr.units) (DE.b (de_ix (db_name (pv 1)) (DE.b de_int) (fun _ _ => rfl))) (DE.b de_str) (nomark _)) de_str (de_ix (db_name (pv 1)) (DE.b de_int) (fun _ _ => rfl))) (da_cons (de_call G_table_of (hr.mono (by decide)) hp (by rfl) (da_cons (de_name (pv 0)) (da_cons (de_name (pv 1)) da_nil))) da_nil)))))
def F_walk_of : List PyData → R PyData := fun ds => runB N_walk_of.length (g_walk_of F_table_of) ds
def N_spread : List Str := ["many", "steps", "found", "step"]
theorem sc_spread : FnScope N_spread ["many", "steps"] (defScope (top 18)) := ⟨rfl, rfl, rfl, by decide +kernel, rfl, by decide +kernel, by decide +kernel⟩
def l_spread_1 (F_spread F_walk_of : List PyData → R PyData) : Rho → R Fl := (fSeq (fun ρ => ((fun ρ => (fBin gEq (fBin gIx (fun ρ => getV ρ 3) (fC (.int 0))) (fC (.str "again")) ρ).bind tr) ρ).bind fun k => if k = true then (fSeq (setE 2 (fBin gCat (fun ρ => getV ρ 2) (fBin gRep (fun ρ => ((fun ρ => ((fun ρ => getV ρ 0) ρ).bind fun d => ((fun ρ => ((fBin gIx (fun ρ => getV ρ 3) (fC (.int 2))) ρ).bind fun d => ((fun _ => R.ok []) ρ).bind fun ds => R.ok (d :: ds)) ρ).bind fun ds => R.ok (d :: ds)) ρ).bind (chk 2 F_spread)) (fBin gIx (fun ρ => getV ρ 3) (fC (.int 1)))))) (fun ρ => R.ok (.nx ρ))) ρ else (fSeq (setE 2 (fBin gCat (fun ρ => getV ρ 2) (fun ρ => ((fun ρ => ((fun ρ => ((fun ρ => ((fun ρ => getV ρ 0) ρ).bind fun d => ((fun ρ => ((fun ρ => getV ρ 3) ρ).bind fun d => ((fun _ => R.ok []) ρ).bind fun ds => R.ok (d :: ds)) ρ).bind fun ds => R.ok (d :: ds)) ρ).bind (chk 2 F_walk_of)) ρ).bind fun d => ((fun _ => R.ok []) ρ).bind fun ds => R.ok (d :: ds)) ρ).bind mkLst))) (fun ρ => R.ok (.nx ρ))) ρ) (fun ρ => R.ok (.nx ρ)))
def g_spread (F_spread F_walk_of : List PyData → R PyData) : Rho → R Fl := (fSeq (setE 2 (fun ρ => ((fun _ => R.ok []) ρ).bind mkLst)) (fSeq (fFor (fun ρ => ((fun ρ => getV ρ 1) ρ).bind seqOf) (tg1 3) (l_spread_1 F_spread F_walk_of)) (retE (fun ρ => getV ρ 2))))
theorem b_spread {P : Program} {w : World} {K : PySem.W.Frag} {mg : Str → Option Value} {base : Heap} {ec : EC} {f : Addr} {F_spread F_walk_of : List PyData → R PyData} {k : Nat} (hk : 2 ≤ k) (G_spread : FnD P w K mg base ec k 2 "spread" F_spread) (G_walk_of : FnD P w K mg base ec 2 2 "walk_of" F_walk_of) (kl : NoList K) : BodyOk P w K mg base ec "spread" (top 18) f N_spread k (g_spread F_spread F_walk_of) := by
  intro cdv A outer s H E hr hp tk
  have nd := sc_spread.nd
  exact (dss_cons (ds_asg flatE nd (by rfl) (by first | exact Or.inl rfl | exact Or.inr rfl) (DF.toE (df_lst da_nil))) (dss_cons (ds_for flatE (passes_of rfl) (by rfl) (di_seq (de_name (pv 1))) (dg_name (pg_name (i := 3) nd (by rfl) (by first | exact Or.inl rfl | exact Or.inr rfl))) (dss_cons (ds_if (O' := []) flatE (dt_cmp (od_eq hr.units) (DE.b (de_ix (db_name (pv 3)) (DE.b de_int) (fun _ _ => rfl))) (DE.b de_str) (nomark _)) (dss_cons (ds_asg flatE nd (by rfl) (by first | exact Or.inl rfl | exact Or.inr rfl) (DF.toE (df_bin (of_cat kl) (db_name (pv 2)) (DF.b (df_bin (of_rep kl) (DE.b (de_call G_spread (hr.mono (by omega)) hp (by rfl) (da_cons (de_name (pv 0)) (da_cons (de_ix (db_name (pv 3)) (DE.b de_int) (fun _ _ => rfl)) da_nil)))) (DE.b (de_ix (db_name (pv 3)) (DE.b de_int) (fun _ _ => rfl)))))))) dss_nil) (dss_cons (ds_asg flatE nd (by rfl) (by first | exact Or.inl rfl | exact Or.inr rfl) (DF.toE (df_bin (of_cat kl) (db_name (pv 2)) (DF.b (df_lst (da_cons (de_call G_walk_of (hr.mono (by omega)) hp (by rfl) (da_cons (de_name (pv 0)) (da_cons (de_name (pv 3)) da_nil))) da_nil)))))) dss_nil)) dss_nil)) (dss_one (ds_ret flatE (de_name (pv 2))))))
def F_spread : Nat → List PyData → R PyData
  | 0, _ => .bad
  | k + 1, ds => runB N_spread.length (g_spread (F_spread k) F_walk_of) ds
def N_notes_of : List Str := ["found", "product", "side", "table"]
theorem sc_notes_of : FnScope N_notes_of ["found"] (defScope (top 19)) := ⟨rfl, rfl, rfl, by decide +kernel, rfl, by decide +kernel, by decide +kernel⟩
def l_notes_of_1 : Rho → R Fl := (fSeq (setE 1 (fBin gMul (fun ρ => getV ρ 1) (fC1 gLen (fun ρ => getV ρ 3)))) (fun ρ => R.ok (.nx ρ)))
def g_notes_of : Rho → R Fl := (fSeq (setE 1 (fC (.int 1))) (fSeq (fFor (fun ρ => ((fun ρ => getV ρ 0) ρ).bind seqOf) (tgTup 2 (tgCons (tg1 2) (tgCons (tg1 3) tgNil))) (l_notes_of_1)) (retE (fun ρ => getV ρ 1))))
theorem b_notes_of {P : Program} {w : World} {K : PySem.W.Frag} {mg : Str → Option Value} {base : Heap} {ec : EC} {f : Addr} (n_len : mg "len" = none) : BodyOk P w K mg base ec "notes_of" (top 19) f N_notes_of 0 (g_notes_of) := by
  intro cdv A outer s H E hr hp tk
  have nd := sc_notes_of.nd
  exact (dss_cons (ds_asg flatE nd (by rfl) (by first | exact Or.inl rfl | exact Or.inr rfl) de_int) (dss_cons (ds_for flatE (passes_of rfl) (by rfl) (di_seq (de_name (pv 0))) (dg_tup (by rfl) (dgs_cons (dg_name (pg_name (i := 2) nd (by rfl) (by first | exact Or.inl rfl | exact Or.inr rfl))) (dgs_cons (dg_name (pg_name (i := 3) nd (by rfl) (by first | exact Or.inl rfl | exact Or.inr rfl))) dgs_nil))) (dss_cons (ds_asg flatE nd (by rfl) (by first | exact Or.inl rfl | exact Or.inr rfl) (de_bin od_mul (db_name (pv 1)) (DE.b (de_b1 c_len (by rfl) n_len (by decide +kernel) (db_name (pv 3)))))) dss_nil)) (dss_one (ds_ret flatE (de_name (pv 1))))))
def F_notes_of : List PyData → R PyData := fun ds => runB N_notes_of.length (g_notes_of) ds
def N_has_script : List Str := ["value", "found", "step"]
theorem sc_has_script : FnScope N_has_script ["value"] (defScope (top 20)) := ⟨rfl, rfl, rfl, by decide +kernel, rfl, by decide +kernel, by decide +kernel⟩
def g_has_script (F_is_tuple F_is_from F_has_step F_spread F_notes_of : List PyData → R PyData) : Rho → R Fl := (fSeq (fun ρ => ((fun ρ => ((fun ρ => ((fun ρ => ((fun ρ => ((fun ρ => ((fun ρ => getV ρ 0) ρ).bind fun d => ((fun ρ => ((fC (.int 2)) ρ).bind fun d => ((fun ρ => ((fC (.int 2)) ρ).bind fun d => ((fun _ => R.ok []) ρ).bind fun ds => R.ok (d :: ds)) ρ).bind fun ds => R.ok (d :: ds)) ρ).bind fun ds => R.ok (d :: ds)) ρ).bind (chk 3 F_is_tuple)) ρ).bind tru) ρ).bind fun b => R.ok (!b)) ρ).bind fun k => if k = true then R.ok true else (fun ρ => ((fun ρ => ((fun ρ => ((fun ρ => ((fun ρ => ((fBin gIx (fun ρ => getV ρ 0) (fC (.int 0))) ρ).bind fun d => ((fun ρ => ((fC (.int 2)) ρ).bind fun d => ((fun ρ => ((fC (.int 3)) ρ).bind fun d => ((fun _ => R.ok []) ρ).bind fun ds => R.ok (d :: ds)) ρ).bind fun ds => R.ok (d :: ds)) ρ).bind fun ds => R.ok (d :: ds)) ρ).bind (chk 3 F_is_from)) ρ).bind tru) ρ).bind fun b => R.ok (!b)) ρ).bind fun k => if k = true then R.ok true else (fun ρ => ((fun ρ => ((fun ρ => ((fun ρ => ((fBin gIx (fun ρ => getV ρ 0) (fC (.int 1))) ρ).bind fun d => ((fun ρ => ((fC (.int 0)) ρ).bind fun d => ((fun ρ => ((fC (.int 6)) ρ).bind fun d => ((fun _ => R.ok []) ρ).bind fun ds => R.ok (d :: ds)) ρ).bind fun ds => R.ok (d :: ds)) ρ).bind fun ds => R.ok (d :: ds)) ρ).bind (chk 3 F_is_tuple)) ρ).bind tru) ρ).bind fun b => R.ok (!b)) ρ) ρ) ρ).bind fun k => if k = true then (retE (fC (.bool false))) ρ else (fun ρ => R.ok (.nx ρ)) ρ) (fSeq (fun ρ => ((fun ρ => ((fun ρ => ((fC1 gAll (fComp [2] (fun ρ => ((fBin gIx (fun ρ => getV ρ 0) (fC (.int 1))) ρ).bind seqOf) (tg1 2) (fun _ => R.ok true) (fun ρ => ((fun ρ => ((fBin gIx (fun ρ => getV ρ 0) (fC (.int 0))) ρ).bind fun d => ((fun ρ => ((fun ρ => getV ρ 2) ρ).bind fun d => ((fun _ => R.ok []) ρ).bind fun ds => R.ok (d :: ds)) ρ).bind fun ds => R.ok (d :: ds)) ρ).bind (chk 2 F_has_step)))) ρ).bind tru) ρ).bind fun b => R.ok (!b)) ρ).bind fun k => if k = true then (retE (fC (.bool false))) ρ else (fun ρ => R.ok (.nx ρ)) ρ) (fSeq (setE 1 (fun ρ => ((fun ρ => ((fBin gIx (fun ρ => getV ρ 0) (fC (.int 0))) ρ).bind fun d => ((fun ρ => ((fBin gIx (fun ρ => getV ρ 0) (fC (.int 1))) ρ).bind fun d => ((fun _ => R.ok []) ρ).bind fun ds => R.ok (d :: ds)) ρ).bind fun ds => R.ok (d :: ds)) ρ).bind (chk 2 F_spread))) (retE (fun ρ => ((fBin gLe (fC1 gLen (fun ρ => getV ρ 1)) (fC (.int 8))) ρ).bind fun x => (tru x).bind fun k => if k = true then (fBin gLe (fun ρ => ((fun ρ => ((fun ρ => getV ρ 1) ρ).bind fun d => ((fun _ => R.ok []) ρ).bind fun ds => R.ok (d :: ds)) ρ).bind (chk 1 F_notes_of)) (fC (.int 16))) ρ else R.ok x)))))
theorem b_has_script {P : Program} {w : World} {K : PySem.W.Frag} {mg : Str → Option Value} {base : Heap} {ec : EC} {f : Addr} {F_is_tuple F_is_from F_has_step F_spread F_notes_of : List PyData → R PyData} (G_is_tuple : FnD P w K mg base ec 1 3 "is_tuple" F_is_tuple) (G_is_from : FnD P w K mg base ec 1 3 "is_from" F_is_from) (G_has_step : FnD P w K mg base ec 5 2 "has_step" F_has_step) (G_spread : FnD P w K mg base ec 6 2 "spread" F_spread) (G_notes_of : FnD P w K mg base ec 1 1 "notes_of" F_notes_of) (n_all : mg "all" = none) (n_len : mg "len" = none) (i_MOST_NOTES : ∃ u, mg "MOST_NOTES" = some u ∧ RelV (.int 16) u) (i_MOST_STEPS : ∃ u, mg "MOST_STEPS" = some u ∧ RelV (.int 6) u) (i_MOST_WALKS : ∃ u, mg "MOST_WALKS" = some u ∧ RelV (.int 8) u) : BodyOk P w K mg base ec "has_script" (top 20) f N_has_script 6 (g_has_script F_is_tuple F_is_from F_has_step F_spread F_notes_of) := by
  intro cdv A outer s H E hr hp tk
  have nd := sc_has_script.nd
  exact (dss_cons (ds_if (O' := []) flatE (DW.t (dw_or (dt_not (dt_of (DE.b (de_call G_is_tuple (hr.mono (by decide)) hp (by rfl) (da_cons (de_name (pv 0)) (da_cons de_int (da_cons de_int da_nil))))))) (dw_or (dt_not (dt_of (DE.b (de_call G_is_from (hr.mono (by decide)) hp (by rfl) (da_cons (de_ix (db_name (pv 0)) (DE.b de_int) (fun _ _ => rfl)) (da_cons de_int (da_cons de_int da_nil))))))) (dw_or1 (dt_not (dt_of (DE.b (de_call G_is_tuple (hr.mono (by decide)) hp (by rfl) (da_cons (de_ix (db_name (pv 0)) (DE.b de_int) (fun _ _ => rfl)) (da_cons de_int (da_cons (de_glob (v := .int 6) (d := .int 6) (by rfl) i_MOST_STEPS (fun _ => .int _)) da_nil))))))))))) (dss_one (ds_ret flatE de_bl)) dss_nil) (dss_cons (ds_if (O' := []) flatE (dt_not (dt_of (DE.b (de_b1 (c_all (by rfl)) (by rfl) n_all (by decide +kernel) (DF.b (df_comp (own := [("step", 2)]) (by rfl) nd (dj_seq (DE.b (de_ix (db_name (pv 0)) (DE.b de_int) (fun _ _ => rfl)))) (blkOk_by (N := N_has_script) (sc := defScope (top 20)) (own := [("step", 2)]) (by decide +kernel)) ⟨_, fun _ _ _ _ _ => pg_name (i := 2) nd (by rfl) (by first | exact Or.inl rfl | exact Or.inr rfl), dgo_name 2⟩ (fun _ _ _ _ _ => dts_nil) (fun _ _ _ _ _ => (de_call G_has_step (hr.mono (by decide)) passE0 (by rfl) (da_cons (de_ix (db_name (pv 0)) (DE.b de_int) (fun _ _ => rfl)) (da_cons (de_name (pv 2)) da_nil)))))))))) (dss_one (ds_ret flatE de_bl)) dss_nil) (dss_cons (ds_asg flatE nd (by rfl) (by first | exact Or.inl rfl | exact Or.inr rfl) (de_call G_spread (hr.mono (by decide)) hp (by rfl) (da_cons (de_ix (db_name (pv 0)) (DE.b de_int) (fun _ _ => rfl)) (da_cons (de_ix (db_name (pv 0)) (DE.b de_int) (fun _ _ => rfl)) da_nil)))) (dss_one (ds_ret flatE (de_and (de_cmp od_le (DE.b (de_b1 c_len (by rfl) n_len (by decide +kernel) (db_name (pv 1)))) (DE.b (de_glob (v := .int 8) (d := .int 8) (by rfl) i_MOST_WALKS (fun _ => .int _))) (nomark _)) (de_one (de_cmp od_le (DE.b (de_call G_notes_of (hr.mono (by decide)) hp (by rfl) (da_cons (de_name (pv 1)) da_nil))) (DE.b (de_glob (v := .int 16) (d := .int 16) (by rfl) i_MOST_NOTES (fun _ => .int _))) (nomark _)))))))))
def F_has_script : List PyData → R PyData := fun ds => runB N_has_script.length (g_has_script F_is_tuple F_is_from F_has_step (F_spread 3) F_notes_of) ds
def N_need_script : List Str := ["value"]
theorem sc_need_script : FnScope N_need_script ["value"] (defScope (top 21)) := ⟨rfl, rfl, rfl, by decide +kernel, rfl, by decide +kernel, by decide +kernel⟩
def g_need_script (F_has_script : List PyData → R PyData) : Rho → R Fl := (fSeq (fun ρ => ((fun ρ => ((fun ρ => ((fun ρ => ((fun ρ => ((fun ρ => getV ρ 0) ρ).bind fun d => ((fun _ => R.ok []) ρ).bind fun ds => R.ok (d :: ds)) ρ).bind (chk 1 F_has_script)) ρ).bind tru) ρ).bind fun b => R.ok (!b)) ρ).bind fun k => if k = true then (fun _ => .exc 0 none) ρ else (fun ρ => R.ok (.nx ρ)) ρ) (fun ρ => R.ok (.nx ρ)))
theorem b_need_script {P : Program} {w : World} {K : PySem.W.Frag} {mg : Str → Option Value} {base : Heap} {ec : EC} {f : Addr} {F_has_script : List PyData → R PyData} (G_has_script : FnD P w K mg base ec 7 1 "has_script" F_has_script) (m_InvalidScript : mg "InvalidScript" = some (.ref (He.ga K "InvalidScript"))) (r_InvalidScript : exB "InvalidScript" K = true) (c_InvalidScript : ec.cls 0 = .ref (He.ga K "InvalidScript")) : BodyOk P w K mg base ec "need_script" (top 21) f N_need_script 7 (g_need_script F_has_script) := by
  intro cdv A outer s H E hr hp tk
  have nd := sc_need_script.nd
  exact (dss_cons (ds_if (O' := []) flatE (dt_not (dt_of (DE.b (de_call G_has_script (hr.mono (by decide)) hp (by rfl) (da_cons (de_name (pv 0)) da_nil))))) (dss_one (ds_raiseX (by rfl) tk m_InvalidScript r_InvalidScript c_InvalidScript (by rfl))) dss_nil) dss_nil)
def F_need_script : List PyData → R PyData := fun ds => runB N_need_script.length (g_need_script F_has_script) ds
def N_has_corridor : List Str := ["many", "value", "stand"]
theorem sc_has_corridor : FnScope N_has_corridor ["many", "value"] (defScope (top 22)) := ⟨rfl, rfl, rfl, by decide +kernel, rfl, by decide +kernel, by decide +kernel⟩
def g_has_corridor (F_is_tuple F_is_from : List PyData → R PyData) : Rho → R Fl := (retE (fun ρ => ((fun ρ => ((fun ρ => ((fun ρ => getV ρ 1) ρ).bind fun d => ((fun ρ => ((fC (.int 0)) ρ).bind fun d => ((fun ρ => ((fC (.int 60)) ρ).bind fun d => ((fun _ => R.ok []) ρ).bind fun ds => R.ok (d :: ds)) ρ).bind fun ds => R.ok (d :: ds)) ρ).bind fun ds => R.ok (d :: ds)) ρ).bind (chk 3 F_is_tuple)) ρ).bind fun x => (tru x).bind fun k => if k = true then (fC1 gAll (fComp [2] (fun ρ => ((fun ρ => getV ρ 1) ρ).bind seqOf) (tg1 2) (fun _ => R.ok true) (fun ρ => ((fun ρ => ((fun ρ => getV ρ 2) ρ).bind fun d => ((fun ρ => ((fC (.int 0)) ρ).bind fun d => ((fun ρ => ((fBin gSub (fun ρ => getV ρ 0) (fC (.int 1))) ρ).bind fun d => ((fun _ => R.ok []) ρ).bind fun ds => R.ok (d :: ds)) ρ).bind fun ds => R.ok (d :: ds)) ρ).bind fun ds => R.ok (d :: ds)) ρ).bind (chk 3 F_is_from)))) ρ else R.ok x))
theorem b_has_corridor {P : Program} {w : World} {K : PySem.W.Frag} {mg : Str → Option Value} {base : Heap} {ec : EC} {f : Addr} {F_is_tuple F_is_from : List PyData → R PyData} (G_is_tuple : FnD P w K mg base ec 1 3 "is_tuple" F_is_tuple) (G_is_from : FnD P w K mg base ec 1 3 "is_from" F_is_from) (n_all : mg "all" = none) : BodyOk P w K mg base ec "has_corridor" (top 22) f N_has_corridor 1 (g_has_corridor F_is_tuple F_is_from) := by
  intro cdv A outer s H E hr hp tk
  have nd := sc_has_corridor.nd
  exact (dss_one (ds_ret flatE (de_and (de_call G_is_tuple (hr.mono (by decide)) hp (by rfl) (da_cons (de_name (pv 1)) (da_cons de_int (da_cons de_int da_nil)))) (de_one (de_b1 (c_all (by rfl)) (by rfl) n_all (by decide +kernel) (DF.b (df_comp (own := [("stand", 2)]) (by rfl) nd (dj_seq (db_name (pv 1))) (blkOk_by (N := N_has_corridor) (sc := defScope (top 22)) (own := [("stand", 2)]) (by decide +kernel)) ⟨_, fun _ _ _ _ _ => pg_name (i := 2) nd (by rfl) (by first | exact Or.inl rfl | exact Or.inr rfl), dgo_name 2⟩ (fun _ _ _ _ _ => dts_nil) (fun _ _ _ _ _ => (de_call G_is_from (hr.mono (by decide)) passE0 (by rfl) (da_cons (de_name (pv 2)) (da_cons de_int (da_cons (de_bin od_sub (db_name (pv 0)) (DE.b de_int)) da_nil))))))))))))
def F_has_corridor : List PyData → R PyData := fun ds => runB N_has_corridor.length (g_has_corridor F_is_tuple F_is_from) ds
def N_need_corridor : List Str := ["many", "value"]
theorem sc_need_corridor : FnScope N_need_corridor ["many", "value"] (defScope (top 23)) := ⟨rfl, rfl, rfl, by decide +kernel, rfl, by decide +kernel, by decide +kernel⟩
def g_need_corridor (F_has_corridor : List PyData → R PyData) : Rho → R Fl := (fSeq (fun ρ => ((fun ρ => ((fun ρ => ((fun ρ => ((fun ρ => ((fun ρ => getV ρ 0) ρ).bind fun d => ((fun ρ => ((fun ρ => getV ρ 1) ρ).bind fun d => ((fun _ => R.ok []) ρ).bind fun ds => R.ok (d :: ds)) ρ).bind fun ds => R.ok (d :: ds)) ρ).bind (chk 2 F_has_corridor)) ρ).bind tru) ρ).bind fun b => R.ok (!b)) ρ).bind fun k => if k = true then (fun _ => .exc 1 none) ρ else (fun ρ => R.ok (.nx ρ)) ρ) (fun ρ => R.ok (.nx ρ)))
theorem b_need_corridor {P : Program} {w : World} {K : PySem.W.Frag} {mg : Str → Option Value} {base : Heap} {ec : EC} {f : Addr} {F_has_corridor : List PyData → R PyData} (G_has_corridor : FnD P w K mg base ec 2 2 "has_corridor" F_has_corridor) (m_InvalidCorridor : mg "InvalidCorridor" = some (.ref (He.ga K "InvalidCorridor"))) (r_InvalidCorridor : exB "InvalidCorridor" K = true) (c_InvalidCorridor : ec.cls 1 = .ref (He.ga K "InvalidCorridor")) : BodyOk P w K mg base ec "need_corridor" (top 23) f N_need_corridor 2 (g_need_corridor F_has_corridor) := by
  intro cdv A outer s H E hr hp tk
  have nd := sc_need_corridor.nd
  exact (dss_cons (ds_if (O' := []) flatE (dt_not (dt_of (DE.b (de_call G_has_corridor (hr.mono (by decide)) hp (by rfl) (da_cons (de_name (pv 0)) (da_cons (de_name (pv 1)) da_nil)))))) (dss_one (ds_raiseX (by rfl) tk m_InvalidCorridor r_InvalidCorridor c_InvalidCorridor (by rfl))) dss_nil) dss_nil)
def F_need_corridor : List PyData → R PyData := fun ds => runB N_need_corridor.length (g_need_corridor F_has_corridor) ds
def N_walked : List Str := ["walk", "corridor", "side", "table", "note", "found", "stand", "new"]
theorem sc_walked : FnScope N_walked ["walk", "corridor"] (defScope (top 25)) := ⟨rfl, rfl, rfl, by decide +kernel, rfl, by decide +kernel, by decide +kernel⟩
def l_walked_1 : Rho → R Fl := (fSeq (asgT (tgTup 2 (tgCons (tg1 7) (tgCons (tg1 4) tgNil))) (fBin gIx (fBin gIx (fun ρ => getV ρ 3) (fun ρ => getV ρ 4)) (fun ρ => getV ρ 6))) (fSeq (setE 5 (fBin gAdd (fun ρ => getV ρ 5) (fun ρ => ((fun ρ => ((fun ρ => getV ρ 7) ρ).bind fun d => ((fun _ => R.ok []) ρ).bind fun ds => R.ok (d :: ds)) ρ).bind mkTup))) (fun ρ => R.ok (.nx ρ))))
def g_walked : Rho → R Fl := (fSeq (asgT (tgTup 2 (tgCons (tg1 2) (tgCons (tg1 3) tgNil))) (fun ρ => getV ρ 0)) (fSeq (asgT (tgTup 2 (tgCons (tg1 4) (tgCons (tg1 5) tgNil))) (fun ρ => ((fun ρ => ((fC (.int 0)) ρ).bind fun d => ((fun ρ => ((fun ρ => ((fun _ => R.ok []) ρ).bind mkTup) ρ).bind fun d => ((fun _ => R.ok []) ρ).bind fun ds => R.ok (d :: ds)) ρ).bind fun ds => R.ok (d :: ds)) ρ).bind mkTup)) (fSeq (fFor (fun ρ => ((fun ρ => ((fun ρ => (fBin gEq (fun ρ => getV ρ 2) (fC (.str "left")) ρ).bind tr) ρ).bind fun k => if k = true then (fun ρ => getV ρ 1) ρ else (fun ρ => ((fun ρ => getV ρ 1) ρ).bind revT) ρ) ρ).bind seqOf) (tg1 6) (l_walked_1)) (retE (fun ρ => ((fun ρ => ((fun ρ => ((fun ρ => (fBin gEq (fun ρ => getV ρ 2) (fC (.str "left")) ρ).bind tr) ρ).bind fun k => if k = true then (fun ρ => getV ρ 5) ρ else (fun ρ => ((fun ρ => getV ρ 5) ρ).bind revT) ρ) ρ).bind fun d => ((fun ρ => ((fun ρ => getV ρ 4) ρ).bind fun d => ((fun _ => R.ok []) ρ).bind fun ds => R.ok (d :: ds)) ρ).bind fun ds => R.ok (d :: ds)) ρ).bind mkTup)))))
theorem b_walked {P : Program} {w : World} {K : PySem.W.Frag} {mg : Str → Option Value} {base : Heap} {ec : EC} {f : Addr} : BodyOk P w K mg base ec "walked" (top 25) f N_walked 0 (g_walked) := by
  intro cdv A outer s H E hr hp tk
  have nd := sc_walked.nd
  exact (dss_cons (ds_asgT flatE (de_name (pv 0)) (dg_tup (by rfl) (dgs_cons (dg_name (pg_name (i := 2) nd (by rfl) (by first | exact Or.inl rfl | exact Or.inr rfl))) (dgs_cons (dg_name (pg_name (i := 3) nd (by rfl) (by first | exact Or.inl rfl | exact Or.inr rfl))) dgs_nil)))) (dss_cons (ds_asgT flatE (de_tup (da_cons de_int (da_cons (de_tup da_nil) da_nil))) (dg_tup (by rfl) (dgs_cons (dg_name (pg_name (i := 4) nd (by rfl) (by first | exact Or.inl rfl | exact Or.inr rfl))) (dgs_cons (dg_name (pg_name (i := 5) nd (by rfl) (by first | exact Or.inl rfl | exact Or.inr rfl))) dgs_nil)))) (dss_cons (ds_for flatE (passes_of rfl) (by rfl) (di_seq (de_if (dt_cmp (od_eq hr.units) (db_name (pv 2)) (DE.b de_str) (nomark _)) (de_name (pv 1)) (de_revT (db_name (pv 1))))) (dg_name (pg_name (i := 6) nd (by rfl) (by first | exact Or.inl rfl | exact Or.inr rfl))) (dss_cons (ds_asgT flatE (de_ix (DE.b (de_ix (db_name (pv 3)) (db_name (pv 4)) (fun _ _ => rfl))) (db_name (pv 6)) (fun _ _ => rfl)) (dg_tup (by rfl) (dgs_cons (dg_name (pg_name (i := 7) nd (by rfl) (by first | exact Or.inl rfl | exact Or.inr rfl))) (dgs_cons (dg_name (pg_name (i := 4) nd (by rfl) (by first | exact Or.inl rfl | exact Or.inr rfl))) dgs_nil)))) (dss_cons (ds_asg flatE nd (by rfl) (by first | exact Or.inl rfl | exact Or.inr rfl) (de_bin od_add (db_name (pv 5)) (DE.b (de_tup (da_cons (de_name (pv 7)) da_nil))))) dss_nil))) (dss_one (ds_ret flatE (de_tup (da_cons (de_if (dt_cmp (od_eq hr.units) (db_name (pv 2)) (DE.b de_str) (nomark _)) (de_name (pv 5)) (de_revT (db_name (pv 5)))) (da_cons (de_name (pv 4)) da_nil))))))))
def F_walked : List PyData → R PyData := fun ds => runB N_walked.length (g_walked) ds
def N_staged : List Str := ["script", "corridor", "found", "walk", "note"]
theorem sc_staged : FnScope N_staged ["script", "corridor"] (defScope (top 26)) := ⟨rfl, rfl, rfl, by decide +kernel, rfl, by decide +kernel, by decide +kernel⟩
def l_staged_1 (F_spread F_walked : List PyData → R PyData) : Rho → R Fl := (fSeq (asgT (tgTup 2 (tgCons (tg1 1) (tgCons (tg1 4) tgNil))) (fun ρ => ((fun ρ => ((fun ρ => getV ρ 3) ρ).bind fun d => ((fun ρ => ((fun ρ => getV ρ 1) ρ).bind fun d => ((fun _ => R.ok []) ρ).bind fun ds => R.ok (d :: ds)) ρ).bind fun ds => R.ok (d :: ds)) ρ).bind (chk 2 F_walked))) (fSeq (appE 2 (fun ρ => ((fun ρ => ((fun ρ => getV ρ 1) ρ).bind fun d => ((fun ρ => ((fun ρ => getV ρ 4) ρ).bind fun d => ((fun _ => R.ok []) ρ).bind fun ds => R.ok (d :: ds)) ρ).bind fun ds => R.ok (d :: ds)) ρ).bind mkTup)) (fun ρ => R.ok (.nx ρ))))
def g_staged (F_spread F_walked : List PyData → R PyData) : Rho → R Fl := (fSeq (setE 2 (fun ρ => ((fun _ => R.ok []) ρ).bind mkLst)) (fSeq (fFor (fun ρ => ((fun ρ => ((fun ρ => ((fBin gIx (fun ρ => getV ρ 0) (fC (.int 0))) ρ).bind fun d => ((fun ρ => ((fBin gIx (fun ρ => getV ρ 0) (fC (.int 1))) ρ).bind fun d => ((fun _ => R.ok []) ρ).bind fun ds => R.ok (d :: ds)) ρ).bind fun ds => R.ok (d :: ds)) ρ).bind (chk 2 F_spread)) ρ).bind seqOf) (tg1 3) (l_staged_1 F_spread F_walked)) (retE (fun ρ => getV ρ 2))))
theorem b_staged {P : Program} {w : World} {K : PySem.W.Frag} {mg : Str → Option Value} {base : Heap} {ec : EC} {f : Addr} {F_spread F_walked : List PyData → R PyData} (G_spread : FnD P w K mg base ec 6 2 "spread" F_spread) (G_walked : FnD P w K mg base ec 1 2 "walked" F_walked) : BodyOk P w K mg base ec "staged" (top 26) f N_staged 6 (g_staged F_spread F_walked) := by
  intro cdv A outer s H E hr hp tk
  have nd := sc_staged.nd
  exact (dss_cons (ds_own flatE nd (by rfl) (by first | exact Or.inl rfl | exact Or.inr rfl) (df_lst da_nil) (fun σ h => by rw [h]; exact (by decide : 2 < N_staged.length))) (dss_cons (ds_for flatE (passes_of rfl) (by rfl) (di_seq (de_call G_spread (hr.mono (by decide)) hp (by rfl) (da_cons (de_ix (db_name (pv 0)) (DE.b de_int) (fun _ _ => rfl)) (da_cons (de_ix (db_name (pv 0)) (DE.b de_int) (fun _ _ => rfl)) da_nil)))) (dg_name (pg_name (i := 3) nd (by rfl) (by first | exact Or.inl rfl | exact Or.inr rfl))) (dss_cons (ds_asgT flatE (de_call G_walked (hr.mono (by decide)) hp (by rfl) (da_cons (de_name (pv 3)) (da_cons (de_name (pv 1)) da_nil))) (dg_tup (by rfl) (dgs_cons (dg_name (pg_name (i := 1) nd (by rfl) (by first | exact Or.inl rfl | exact Or.inr rfl))) (dgs_cons (dg_name (pg_name (i := 4) nd (by rfl) (by first | exact Or.inl rfl | exact Or.inr rfl))) dgs_nil)))) (dss_cons (ds_append flatE (pv 2) (de_tup (da_cons (de_name (pv 1)) (da_cons (de_name (pv 4)) da_nil)))) dss_nil))) (dss_one (ds_ret flatE (de_name (pv 2))))))
def F_staged : List PyData → R PyData := fun ds => runB N_staged.length (g_staged (F_spread 3) F_walked) ds
def N_need_both : List Str := ["script", "corridor"]
theorem sc_need_both : FnScope N_need_both ["script", "corridor"] (defScope (top 27)) := ⟨rfl, rfl, rfl, by decide +kernel, rfl, by decide +kernel, by decide +kernel⟩
def g_need_both (F_need_script F_need_corridor : List PyData → R PyData) : Rho → R Fl := (fSeq (fun ρ => ((fun ρ => ((fun ρ => ((fun ρ => getV ρ 0) ρ).bind fun d => ((fun _ => R.ok []) ρ).bind fun ds => R.ok (d :: ds)) ρ).bind (chk 1 F_need_script)) ρ).bind fun _ => R.ok (.nx ρ)) (fSeq (fun ρ => ((fun ρ => ((fun ρ => ((fBin gIx (fun ρ => getV ρ 0) (fC (.int 0))) ρ).bind fun d => ((fun ρ => ((fun ρ => getV ρ 1) ρ).bind fun d => ((fun _ => R.ok []) ρ).bind fun ds => R.ok (d :: ds)) ρ).bind fun ds => R.ok (d :: ds)) ρ).bind (chk 2 F_need_corridor)) ρ).bind fun _ => R.ok (.nx ρ)) (fun ρ => R.ok (.nx ρ))))
theorem b_need_both {P : Program} {w : World} {K : PySem.W.Frag} {mg : Str → Option Value} {base : Heap} {ec : EC} {f : Addr} {F_need_script F_need_corridor : List PyData → R PyData} (G_need_script : FnD P w K mg base ec 8 1 "need_script" F_need_script) (G_need_corridor : FnD P w K mg base ec 3 2 "need_corridor" F_need_corridor) : BodyOk P w K mg base ec "need_both" (top 27) f N_need_both 8 (g_need_both F_need_script F_need_corridor) := by
  intro cdv A outer s H E hr hp tk
  have nd := sc_need_both.nd
  exact (dss_cons (ds_expr flatE (de_call G_need_script (hr.mono (by decide)) hp (by rfl) (da_cons (de_name (pv 0)) da_nil))) (dss_cons (ds_expr flatE (de_call G_need_corridor (hr.mono (by decide)) hp (by rfl) (da_cons (de_ix (db_name (pv 0)) (DE.b de_int) (fun _ _ => rfl)) (da_cons (de_name (pv 1)) da_nil)))) dss_nil))
def F_need_both : List PyData → R PyData := fun ds => runB N_need_both.length (g_need_both F_need_script F_need_corridor) ds
def N_run : List Str := ["script", "corridor", "found"]
theorem sc_run : FnScope N_run ["script", "corridor"] (defScope (top 28)) := ⟨rfl, rfl, rfl, by decide +kernel, rfl, by decide +kernel, by decide +kernel⟩
def g_run (F_need_both F_staged : List PyData → R PyData) : Rho → R Fl := (fSeq (fun ρ => ((fun ρ => ((fun ρ => ((fun ρ => getV ρ 0) ρ).bind fun d => ((fun ρ => ((fun ρ => getV ρ 1) ρ).bind fun d => ((fun _ => R.ok []) ρ).bind fun ds => R.ok (d :: ds)) ρ).bind fun ds => R.ok (d :: ds)) ρ).bind (chk 2 F_need_both)) ρ).bind fun _ => R.ok (.nx ρ)) (fSeq (setE 2 (fun ρ => ((fun ρ => ((fun ρ => getV ρ 0) ρ).bind fun d => ((fun ρ => ((fun ρ => getV ρ 1) ρ).bind fun d => ((fun _ => R.ok []) ρ).bind fun ds => R.ok (d :: ds)) ρ).bind fun ds => R.ok (d :: ds)) ρ).bind (chk 2 F_staged))) (retE (fun ρ => ((fun ρ => (fBin gNe (fun ρ => getV ρ 2) (fun ρ => ((fun _ => R.ok []) ρ).bind mkLst) ρ).bind tr) ρ).bind fun k => if k = true then (fBin gIx (fBin gIx (fun ρ => getV ρ 2) (fun ρ => ((fC (.int 1)) ρ).bind gNeg)) (fC (.int 0))) ρ else (fun ρ => getV ρ 1) ρ))))
theorem b_run {P : Program} {w : World} {K : PySem.W.Frag} {mg : Str → Option Value} {base : Heap} {ec : EC} {f : Addr} {F_need_both F_staged : List PyData → R PyData} (G_need_both : FnD P w K mg base ec 9 2 "need_both" F_need_both) (G_staged : FnD P w K mg base ec 7 2 "staged" F_staged) : BodyOk P w K mg base ec "run" (top 28) f N_run 9 (g_run F_need_both F_staged) := by
  intro cdv A outer s H E hr hp tk
  have nd := sc_run.nd
  exact (dss_cons (ds_expr flatE (de_call G_need_both (hr.mono (by decide)) hp (by rfl) (da_cons (de_name (pv 0)) (da_cons (de_name (pv 1)) da_nil)))) (dss_cons (ds_asg flatE nd (by rfl) (by first | exact Or.inl rfl | exact Or.inr rfl) (de_call G_staged (hr.mono (by decide)) hp (by rfl) (da_cons (de_name (pv 0)) (da_cons (de_name (pv 1)) da_nil)))) (dss_one (ds_ret flatE (de_if (dt_cmp (od_ne hr.units) (db_name (pv 2)) (DF.b (df_lst da_nil)) (nomark _)) (de_ix (DE.b (de_ix (db_name (pv 2)) (DE.b (de_neg (DE.b de_int))) (fun _ _ => rfl))) (DE.b de_int) (fun _ _ => rfl)) (de_name (pv 1)))))))
def F_run : List PyData → R PyData := fun ds => runB N_run.length (g_run F_need_both F_staged) ds
def N_stages : List Str := ["script", "corridor", "there", "note"]
theorem sc_stages : FnScope N_stages ["script", "corridor"] (defScope (top 29)) := ⟨rfl, rfl, rfl, by decide +kernel, rfl, by decide +kernel, by decide +kernel⟩
def g_stages (F_need_both F_staged : List PyData → R PyData) : Rho → R Fl := (fSeq (fun ρ => ((fun ρ => ((fun ρ => ((fun ρ => getV ρ 0) ρ).bind fun d => ((fun ρ => ((fun ρ => getV ρ 1) ρ).bind fun d => ((fun _ => R.ok []) ρ).bind fun ds => R.ok (d :: ds)) ρ).bind fun ds => R.ok (d :: ds)) ρ).bind (chk 2 F_need_both)) ρ).bind fun _ => R.ok (.nx ρ)) (retE (fComp [2, 3] (fun ρ => ((fun ρ => ((fun ρ => ((fun ρ => getV ρ 0) ρ).bind fun d => ((fun ρ => ((fun ρ => getV ρ 1) ρ).bind fun d => ((fun _ => R.ok []) ρ).bind fun ds => R.ok (d :: ds)) ρ).bind fun ds => R.ok (d :: ds)) ρ).bind (chk 2 F_staged)) ρ).bind seqOf) (tgTup 2 (tgCons (tg1 2) (tgCons (tg1 3) tgNil))) (fun _ => R.ok true) (fun ρ => getV ρ 2))))
theorem b_stages {P : Program} {w : World} {K : PySem.W.Frag} {mg : Str → Option Value} {base : Heap} {ec : EC} {f : Addr} {F_need_both F_staged : List PyData → R PyData} (G_need_both : FnD P w K mg base ec 9 2 "need_both" F_need_both) (G_staged : FnD P w K mg base ec 7 2 "staged" F_staged) : BodyOk P w K mg base ec "stages" (top 29) f N_stages 9 (g_stages F_need_both F_staged) := by
  intro cdv A outer s H E hr hp tk
  have nd := sc_stages.nd
  exact (dss_cons (ds_expr flatE (de_call G_need_both (hr.mono (by decide)) hp (by rfl) (da_cons (de_name (pv 0)) (da_cons (de_name (pv 1)) da_nil)))) (dss_one (ds_ret flatE (DF.toE (df_comp (own := [("there", 2), ("note", 3)]) (by rfl) nd (dj_seq (DE.b (de_call G_staged (hr.mono (by decide)) hp (by rfl) (da_cons (de_name (pv 0)) (da_cons (de_name (pv 1)) da_nil))))) (blkOk_by (N := N_stages) (sc := defScope (top 29)) (own := [("there", 2), ("note", 3)]) (by decide +kernel)) ⟨_, fun _ _ _ _ _ => pg_tup (n := 2) (by rfl) (pgs_cons (pg_name (i := 2) nd (by rfl) (by first | exact Or.inl rfl | exact Or.inr rfl)) (pgs_cons (pg_name (i := 3) nd (by rfl) (by first | exact Or.inl rfl | exact Or.inr rfl)) pgs_nil)), dgo_tup (dgo_cons (dgo_name 2) (dgo_cons (dgo_name 3) dgo_nil))⟩ (fun _ _ _ _ _ => dts_nil) (fun _ _ _ _ _ => (de_name (pv 2))))))))
def F_stages : List PyData → R PyData := fun ds => runB N_stages.length (g_stages F_need_both F_staged) ds
def N_notes : List Str := ["script", "corridor", "there", "note"]
theorem sc_notes : FnScope N_notes ["script", "corridor"] (defScope (top 30)) := ⟨rfl, rfl, rfl, by decide +kernel, rfl, by decide +kernel, by decide +kernel⟩
def g_notes (F_need_both F_staged : List PyData → R PyData) : Rho → R Fl := (fSeq (fun ρ => ((fun ρ => ((fun ρ => ((fun ρ => getV ρ 0) ρ).bind fun d => ((fun ρ => ((fun ρ => getV ρ 1) ρ).bind fun d => ((fun _ => R.ok []) ρ).bind fun ds => R.ok (d :: ds)) ρ).bind fun ds => R.ok (d :: ds)) ρ).bind (chk 2 F_need_both)) ρ).bind fun _ => R.ok (.nx ρ)) (retE (fComp [2, 3] (fun ρ => ((fun ρ => ((fun ρ => ((fun ρ => getV ρ 0) ρ).bind fun d => ((fun ρ => ((fun ρ => getV ρ 1) ρ).bind fun d => ((fun _ => R.ok []) ρ).bind fun ds => R.ok (d :: ds)) ρ).bind fun ds => R.ok (d :: ds)) ρ).bind (chk 2 F_staged)) ρ).bind seqOf) (tgTup 2 (tgCons (tg1 2) (tgCons (tg1 3) tgNil))) (fun _ => R.ok true) (fun ρ => getV ρ 3))))
theorem b_notes {P : Program} {w : World} {K : PySem.W.Frag} {mg : Str → Option Value} {base : Heap} {ec : EC} {f : Addr} {F_need_both F_staged : List PyData → R PyData} (G_need_both : FnD P w K mg base ec 9 2 "need_both" F_need_both) (G_staged : FnD P w K mg base ec 7 2 "staged" F_staged) : BodyOk P w K mg base ec "notes" (top 30) f N_notes 9 (g_notes F_need_both F_staged) := by
  intro cdv A outer s H E hr hp tk
  have nd := sc_notes.nd
  exact (dss_cons (ds_expr flatE (de_call G_need_both (hr.mono (by decide)) hp (by rfl) (da_cons (de_name (pv 0)) (da_cons (de_name (pv 1)) da_nil)))) (dss_one (ds_ret flatE (DF.toE (df_comp (own := [("there", 2), ("note", 3)]) (by rfl) nd (dj_seq (DE.b (de_call G_staged (hr.mono (by decide)) hp (by rfl) (da_cons (de_name (pv 0)) (da_cons (de_name (pv 1)) da_nil))))) (blkOk_by (N := N_notes) (sc := defScope (top 30)) (own := [("there", 2), ("note", 3)]) (by decide +kernel)) ⟨_, fun _ _ _ _ _ => pg_tup (n := 2) (by rfl) (pgs_cons (pg_name (i := 2) nd (by rfl) (by first | exact Or.inl rfl | exact Or.inr rfl)) (pgs_cons (pg_name (i := 3) nd (by rfl) (by first | exact Or.inl rfl | exact Or.inr rfl)) pgs_nil)), dgo_tup (dgo_cons (dgo_name 2) (dgo_cons (dgo_name 3) dgo_nil))⟩ (fun _ _ _ _ _ => dts_nil) (fun _ _ _ _ _ => (de_name (pv 3))))))))
def F_notes : List PyData → R PyData := fun ds => runB N_notes.length (g_notes F_need_both F_staged) ds
def N__law_source : List Str := ["script", "k", "cell"]
theorem sc__law_source : FnScope N__law_source ["script", "k"] (defScope (top 32)) := ⟨rfl, rfl, rfl, by decide +kernel, rfl, by decide +kernel, by decide +kernel⟩
def g__law_source : Rho → R Fl := (fSeq (setE 2 (fun ρ => ((fun ρ => (fBin gLt (fun ρ => getV ρ 1) (fC1 gLen (fun ρ => getV ρ 0)) ρ).bind tr) ρ).bind fun k => if k = true then (fC1 gAbs (fC1 gInt (fBin gIx (fun ρ => getV ρ 0) (fun ρ => getV ρ 1)))) ρ else (fBin gAdd (fBin gMul (fC (.int 61)) (fun ρ => getV ρ 1)) (fC (.int 13))) ρ)) (retF (fun ρ => ((fun ρ => ((fun ρ => ((fun ρ => (fBin gGt (fun ρ => getV ρ 2) (fBin gPow (fC (.int 10)) (fC (.int 17))) ρ).bind tr) ρ).bind fun k => if k = true then (fun ρ => getV ρ 2) ρ else (fC (.int 0)) ρ) ρ).bind fun d => ((fun ρ => ((fBin gMod (fC1 gInt (fBin gAdd (fBin gAdd (fBin gMul (fun ρ => getV ρ 2) (fC (.int 16807))) (fBin gMul (fC (.int 9001)) (fun ρ => getV ρ 1))) (fC (.int 23)))) (fC (.int 2147483353))) ρ).bind fun d => ((fun _ => R.ok []) ρ).bind fun ds => R.ok (d :: ds)) ρ).bind fun ds => R.ok (d :: ds)) ρ).bind mkLst)))
theorem b__law_source {P : Program} {w : World} {K : PySem.W.Frag} {mg : Str → Option Value} {base : Heap} {ec : EC} {f : Addr} (n_abs : mg "abs" = none) (n_int : mg "int" = none) (n_len : mg "len" = none) : BodyOk P w K mg base ec "_law_source" (top 32) f N__law_source 0 (g__law_source) := by
  intro cdv A outer s H E hr hp tk
  have nd := sc__law_source.nd
  exact (dss_cons (ds_asg flatE nd (by rfl) (by first | exact Or.inl rfl | exact Or.inr rfl) (de_if (dt_cmp od_lt (db_name (pv 1)) (DE.b (de_b1 c_len (by rfl) n_len (by decide +kernel) (db_name (pv 0)))) (nomark _)) (de_b1 c_abs (by rfl) n_abs (by decide +kernel) (DE.b (de_t1 c_int (by rfl) n_int (by decide +kernel) (DE.b (de_ix (db_name (pv 0)) (db_name (pv 1)) (fun _ _ => rfl)))))) (de_bin od_add (DE.b (de_bin od_mul (DE.b de_int) (db_name (pv 1)))) (DE.b de_int)))) (dss_one (ds_retF flatE (df_lst (da_cons (de_if (dt_cmp od_gt (db_name (pv 2)) (DE.b (de_bin od_pow (DE.b de_int) (DE.b de_int))) (nomark _)) (de_name (pv 2)) de_int) (da_cons (de_bin od_mod (DE.b (de_t1 c_int (by rfl) n_int (by decide +kernel) (DE.b (de_bin od_add (DE.b (de_bin od_add (DE.b (de_bin od_mul (db_name (pv 2)) (DE.b de_int))) (DE.b (de_bin od_mul (DE.b de_int) (db_name (pv 1)))))) (DE.b de_int))))) (DE.b de_int)) da_nil))))))
def F__law_source : List PyData → R PyData := fun ds => runF N__law_source.length (g__law_source) (ds.map .d)
def N__law_draw : List Str := ["source", "many", "wide", "rest"]
theorem sc__law_draw : FnScope N__law_draw ["source", "many"] (defScope (top 33)) := ⟨rfl, rfl, rfl, by decide +kernel, rfl, by decide +kernel, by decide +kernel⟩
def g__law_draw : Rho → R Fl := (fSeq (fun ρ => ((fun ρ => (fBin gGt (getSrc 0 0) (fC (.int 0)) ρ).bind tr) ρ).bind fun k => if k = true then (fSeq (setE 3 (fBin gMod (fC1 gInt (getSrc 0 0)) (fun ρ => getV ρ 1))) (fSeq (putSrc 0 (fBin gFdiv (getSrc 0 0) (fun ρ => getV ρ 1)) 0) (retE (fun ρ => getV ρ 3)))) ρ else (fun ρ => R.ok (.nx ρ)) ρ) (fSeq (putSrc 1 (fBin gMod (fC1 gInt (fBin gAdd (fBin gMul (getSrc 0 1) (fC (.int 48271))) (fC (.int 67)))) (fC (.int 2147483353))) 0) (fSeq (setE 2 (fBin gMod (fC1 gInt (fBin gMul (getSrc 0 1) (fBin gAdd (fBin gFdiv (getSrc 0 1) (fC (.int 19))) (fC (.int 12))))) (fC (.int 2147483323)))) (retE (fBin gMod (fC1 gInt (fBin gFdiv (fun ρ => getV ρ 2) (fC (.int 32)))) (fun ρ => getV ρ 1))))))
theorem b__law_draw {P : Program} {w : World} {K : PySem.W.Frag} {mg : Str → Option Value} {base : Heap} {ec : EC} {f : Addr} (n_int : mg "int" = none) : BodyOk P w K mg base ec "_law_draw" (top 33) f N__law_draw 0 (g__law_draw) := by
  intro cdv A outer s H E hr hp tk
  have nd := sc__law_draw.nd
  exact (dss_cons (ds_if (O' := []) flatE (dt_cmp od_gt (DE.b (de_src (pv 0))) (DE.b de_int) (nomark _)) (dss_cons (ds_asg flatE nd (by rfl) (by first | exact Or.inl rfl | exact Or.inr rfl) (de_bin od_mod (DE.b (de_t1 c_int (by rfl) n_int (by decide +kernel) (DE.b (de_src (pv 0))))) (db_name (pv 1)))) (dss_cons (ds_srcPut flatE (pv 0) (de_bin od_fdiv (DE.b (de_src (pv 0))) (db_name (pv 1)))) (dss_one (ds_ret flatE (de_name (pv 3)))))) dss_nil) (dss_cons (ds_srcPut flatE (pv 0) (de_bin od_mod (DE.b (de_t1 c_int (by rfl) n_int (by decide +kernel) (DE.b (de_bin od_add (DE.b (de_bin od_mul (DE.b (de_src (pv 0))) (DE.b de_int))) (DE.b de_int))))) (DE.b de_int))) (dss_cons (ds_asg flatE nd (by rfl) (by first | exact Or.inl rfl | exact Or.inr rfl) (de_bin od_mod (DE.b (de_t1 c_int (by rfl) n_int (by decide +kernel) (DE.b (de_bin od_mul (DE.b (de_src (pv 0))) (DE.b (de_bin od_add (DE.b (de_bin od_fdiv (DE.b (de_src (pv 0))) (DE.b de_int))) (DE.b de_int))))))) (DE.b de_int))) (dss_one (ds_ret flatE (de_bin od_mod (DE.b (de_t1 c_int (by rfl) n_int (by decide +kernel) (DE.b (de_bin od_fdiv (db_name (pv 2)) (DE.b de_int))))) (db_name (pv 1))))))))
def F__law_draw : List PyData → R PyData := fun ds => runN N__law_draw.length (g__law_draw) ds
def N__law_choice : List Str := ["source", "some"]
theorem sc__law_choice : FnScope N__law_choice ["source", "some"] (defScope (top 34)) := ⟨rfl, rfl, rfl, by decide +kernel, rfl, by decide +kernel, by decide +kernel⟩
def g__law_choice (F__law_draw : List PyData → R PyData) : Rho → R Fl := (retE (fBin gIx (fun ρ => getV ρ 1) (fun ρ => (getS ρ 0).bind fun _ => ((fun ρ => ((fC1 gLen (fun ρ => getV ρ 1)) ρ).bind fun d => ((fun _ => R.ok []) ρ).bind fun ds => R.ok (d :: ds)) ρ).bind (chkN 2 F__law_draw))))
theorem b__law_choice {P : Program} {w : World} {K : PySem.W.Frag} {mg : Str → Option Value} {base : Heap} {ec : EC} {f : Addr} {F__law_draw : List PyData → R PyData} (G__law_draw : FnN P w K mg base ec 1 2 "_law_draw" F__law_draw) (n_len : mg "len" = none) : BodyOk P w K mg base ec "_law_choice" (top 34) f N__law_choice 1 (g__law_choice F__law_draw) := by
  intro cdv A outer s H E hr hp tk
  have nd := sc__law_choice.nd
  exact (dss_one (ds_ret flatE (de_ix (db_name (pv 1)) (DE.b (de_callN G__law_draw (hr.mono (by decide)) hp (by rfl) (pv 0) (da_cons (de_b1 c_len (by rfl) n_len (by decide +kernel) (db_name (pv 1))) da_nil))) (fun _ _ => rfl))))
def F__law_choice : List PyData → R PyData := fun ds => runN N__law_choice.length (g__law_choice F__law_draw) ds
def N__law_table : List Str := ["source", "many", "most", "wide", "lines", "note", "order", "line", "plain", "stand", "new", "one"]
theorem sc__law_table : FnScope N__law_table ["source", "many", "most"] (defScope (top 35)) := ⟨rfl, rfl, rfl, by decide +kernel, rfl, by decide +kernel, by decide +kernel⟩
def l__law_table_1 (F__law_draw F__law_choice : List PyData → R PyData) : Rho → R Fl := (fSeq (setE 10 (fun ρ => (getS ρ 0).bind fun _ => ((fun ρ => ((fun ρ => getV ρ 6) ρ).bind fun d => ((fun _ => R.ok []) ρ).bind fun ds => R.ok (d :: ds)) ρ).bind (chkN 2 F__law_choice))) (fSeq (setE 6 (fComp [11] (fun ρ => ((fun ρ => getV ρ 6) ρ).bind seqOf) (tg1 11) (fun ρ => ((fun ρ => (fBin gNe (fun ρ => getV ρ 11) (fun ρ => getV ρ 10) ρ).bind tr) ρ).bind fun k => if k = true then R.ok true else (fun ρ => ((fun ρ => ((fun ρ => getV ρ 8) ρ).bind tru) ρ).bind fun b => R.ok (!b)) ρ) (fun ρ => getV ρ 11))) (fSeq (setE 7 (fBin gAdd (fun ρ => getV ρ 7) (fun ρ => ((fun ρ => ((fun ρ => ((fun ρ => ((fun ρ => getV ρ 10) ρ).bind fun d => ((fun ρ => ((fun ρ => (getS ρ 0).bind fun _ => ((fun ρ => ((fun ρ => getV ρ 3) ρ).bind fun d => ((fun _ => R.ok []) ρ).bind fun ds => R.ok (d :: ds)) ρ).bind (chkN 2 F__law_draw)) ρ).bind fun d => ((fun _ => R.ok []) ρ).bind fun ds => R.ok (d :: ds)) ρ).bind fun ds => R.ok (d :: ds)) ρ).bind mkTup) ρ).bind fun d => ((fun _ => R.ok []) ρ).bind fun ds => R.ok (d :: ds)) ρ).bind mkTup))) (fun ρ => R.ok (.nx ρ)))))
def l__law_table_2 (F__law_draw F__law_choice : List PyData → R PyData) : Rho → R Fl := (fSeq (par2 6 7 (fun ρ => ((fC1 gRange (fun ρ => getV ρ 1)) ρ).bind fun d => ((fun ρ => ((fun ρ => ((fun _ => R.ok []) ρ).bind mkTup) ρ).bind fun d => ((fun _ => R.ok []) ρ).bind fun ds => R.ok (d :: ds)) ρ).bind fun ds => R.ok (d :: ds))) (fSeq (setE 8 (fBin gEq (fun ρ => (getS ρ 0).bind fun _ => ((fun ρ => ((fC (.int 2)) ρ).bind fun d => ((fun _ => R.ok []) ρ).bind fun ds => R.ok (d :: ds)) ρ).bind (chkN 2 F__law_draw)) (fC (.int 0)))) (fSeq (fFor (fun ρ => ((fun ρ => getV ρ 1) ρ).bind rgOf) (tg1 9) (l__law_table_1 F__law_draw F__law_choice)) (fSeq (setE 4 (fBin gAdd (fun ρ => getV ρ 4) (fun ρ => ((fun ρ => ((fun ρ => getV ρ 7) ρ).bind fun d => ((fun _ => R.ok []) ρ).bind fun ds => R.ok (d :: ds)) ρ).bind mkTup))) (fun ρ => R.ok (.nx ρ))))))
def g__law_table (F__law_draw F__law_choice : List PyData → R PyData) : Rho → R Fl := (fSeq (par2 3 4 (fun ρ => ((fBin gAdd (fC (.int 1)) (fun ρ => (getS ρ 0).bind fun _ => ((fun ρ => ((fun ρ => getV ρ 2) ρ).bind fun d => ((fun _ => R.ok []) ρ).bind fun ds => R.ok (d :: ds)) ρ).bind (chkN 2 F__law_draw))) ρ).bind fun d => ((fun ρ => ((fun ρ => ((fun _ => R.ok []) ρ).bind mkTup) ρ).bind fun d => ((fun _ => R.ok []) ρ).bind fun ds => R.ok (d :: ds)) ρ).bind fun ds => R.ok (d :: ds))) (fSeq (fFor (fun ρ => ((fun ρ => getV ρ 3) ρ).bind rgOf) (tg1 5) (l__law_table_2 F__law_draw F__law_choice)) (retE (fun ρ => getV ρ 4))))
theorem b__law_table {P : Program} {w : World} {K : PySem.W.Frag} {mg : Str → Option Value} {base : Heap} {ec : EC} {f : Addr} {F__law_draw F__law_choice : List PyData → R PyData} (G__law_draw : FnN P w K mg base ec 1 2 "_law_draw" F__law_draw) (G__law_choice : FnN P w K mg base ec 2 2 "_law_choice" F__law_choice) (n_list : mg "list" = none) (n_range : mg "range" = none) : BodyOk P w K mg base ec "_law_table" (top 35) f N__law_table 2 (g__law_table F__law_draw F__law_choice) := by
  intro cdv A outer s H E hr hp tk
  have nd := sc__law_table.nd
  exact (dss_cons (ds_par2 flatE (by rfl) nd (by rfl) (by rfl) (da_cons (de_bin od_add (DE.b de_int) (DE.b (de_callN G__law_draw (hr.mono (by decide)) hp (by rfl) (pv 0) (da_cons (de_name (pv 2)) da_nil)))) (da_cons (de_tup da_nil) da_nil))) (dss_cons (ds_for flatE (passes_of rfl) (by rfl) (di_range (by rfl) n_range (db_name (pv 3))) (dg_name (pg_name (i := 5) nd (by rfl) (by first | exact Or.inl rfl | exact Or.inr rfl))) (dss_cons (ds_par2 flatE (by rfl) nd (by rfl) (by rfl) (da_cons (DF.toE (df_range (by rfl) (by rfl) n_list (by rfl) n_range (db_name (pv 1)))) (da_cons (de_tup da_nil) da_nil))) (dss_cons (ds_asg flatE nd (by rfl) (by first | exact Or.inl rfl | exact Or.inr rfl) (de_cmp (od_eq hr.units) (DE.b (de_callN G__law_draw (hr.mono (by decide)) hp (by rfl) (pv 0) (da_cons de_int da_nil))) (DE.b de_int) (nomark _))) (dss_cons (ds_for flatE (passes_of rfl) (by rfl) (di_range (by rfl) n_range (db_name (pv 1))) (dg_name (pg_name (i := 9) nd (by rfl) (by first | exact Or.inl rfl | exact Or.inr rfl))) (dss_cons (ds_asg flatE nd (by rfl) (by first | exact Or.inl rfl | exact Or.inr rfl) (de_callN G__law_choice (hr.mono (by decide)) hp (by rfl) (pv 0) (da_cons (de_name (pv 6)) da_nil))) (dss_cons (ds_setLc flatE (own := [("one", 11)]) (by rfl) nd (by rfl) (dj_seq (db_name (pv 6))) (blkOk_by (N := N__law_table) (sc := defScope (top 35)) (own := [("one", 11)]) (by decide +kernel)) ⟨_, fun _ _ _ _ _ => pg_name (i := 11) nd (by rfl) (by first | exact Or.inl rfl | exact Or.inr rfl), dgo_name 11⟩ (fun _ _ _ _ _ => (dts_one (DW.t (dw_or (dt_cmp (od_ne hr.units) (db_name (pv 11)) (db_name (pv 10)) (nomark _)) (dw_or1 (dt_not (dt_of (db_name (pv 8))))))))) (fun _ _ _ _ _ => (de_name (pv 11))) (sw_true rfl rfl rfl (by decide +kernel))) (dss_cons (ds_asg flatE nd (by rfl) (by first | exact Or.inl rfl | exact Or.inr rfl) (de_bin od_add (db_name (pv 7)) (DE.b (de_tup (da_cons (de_tup (da_cons (de_name (pv 10)) (da_cons (de_callN G__law_draw (hr.mono (by decide)) hp (by rfl) (pv 0) (da_cons (de_name (pv 3)) da_nil)) da_nil))) da_nil))))) dss_nil)))) (dss_cons (ds_asg flatE nd (by rfl) (by first | exact Or.inl rfl | exact Or.inr rfl) (de_bin od_add (db_name (pv 4)) (DE.b (de_tup (da_cons (de_name (pv 7)) da_nil))))) dss_nil))))) (dss_one (ds_ret flatE (de_name (pv 4))))))
def F__law_table : List PyData → R PyData := fun ds => runN N__law_table.length (g__law_table F__law_draw F__law_choice) ds
def N__law_plain : List Str := ["source", "many", "notes_so", "side", "stands", "word", "turn"]
theorem sc__law_plain : FnScope N__law_plain ["source", "many", "notes_so"] (defScope (top 36)) := ⟨rfl, rfl, rfl, by decide +kernel, rfl, by decide +kernel, by decide +kernel⟩
def g__law_plain (F__law_choice F__law_draw F__law_table : List PyData → R PyData) : Rho → R Fl := (fSeq (par2 3 4 (fun ρ => ((fun ρ => (getS ρ 0).bind fun _ => ((fun ρ => ((fun ρ => ((fun ρ => ((fC (.str "left")) ρ).bind fun d => ((fun ρ => ((fC (.str "right")) ρ).bind fun d => ((fun _ => R.ok []) ρ).bind fun ds => R.ok (d :: ds)) ρ).bind fun ds => R.ok (d :: ds)) ρ).bind mkLst) ρ).bind fun d => ((fun _ => R.ok []) ρ).bind fun ds => R.ok (d :: ds)) ρ).bind (chkN 2 F__law_choice)) ρ).bind fun d => ((fun ρ => ((fComp [6] (fun ρ => ((fC (.int 3)) ρ).bind rgOf) (tg1 6) (fun _ => R.ok true) (fun ρ => (getS ρ 0).bind fun _ => ((fun ρ => ((fun ρ => getV ρ 1) ρ).bind fun d => ((fun _ => R.ok []) ρ).bind fun ds => R.ok (d :: ds)) ρ).bind (chkN 2 F__law_draw))) ρ).bind fun d => ((fun _ => R.ok []) ρ).bind fun ds => R.ok (d :: ds)) ρ).bind fun ds => R.ok (d :: ds))) (fSeq (setE 5 (fun ρ => (getS ρ 0).bind fun _ => ((fun ρ => ((fBin gCat (fun ρ => ((fun ρ => ((fC (.str "each")) ρ).bind fun d => ((fun ρ => ((fC (.str "walk")) ρ).bind fun d => ((fun _ => R.ok []) ρ).bind fun ds => R.ok (d :: ds)) ρ).bind fun ds => R.ok (d :: ds)) ρ).bind mkLst) (fBin gRep (fun ρ => ((fun ρ => ((fC (.str "first")) ρ).bind fun d => ((fun ρ => ((fC (.str "second")) ρ).bind fun d => ((fun ρ => ((fC (.str "until")) ρ).bind fun d => ((fun ρ => ((fC (.str "behind")) ρ).bind fun d => ((fun ρ => ((fC (.str "walk")) ρ).bind fun d => ((fun _ => R.ok []) ρ).bind fun ds => R.ok (d :: ds)) ρ).bind fun ds => R.ok (d :: ds)) ρ).bind fun ds => R.ok (d :: ds)) ρ).bind fun ds => R.ok (d :: ds)) ρ).bind fun ds => R.ok (d :: ds)) ρ).bind mkLst) (fC1 gInt (fBin gGt (fun ρ => getV ρ 2) (fC (.int 1)))))) ρ).bind fun d => ((fun _ => R.ok []) ρ).bind fun ds => R.ok (d :: ds)) ρ).bind (chkN 2 F__law_choice))) (fSeq (fun ρ => ((fun ρ => (fBin gEq (fun ρ => getV ρ 5) (fC (.str "each")) ρ).bind tr) ρ).bind fun k => if k = true then (retE (fun ρ => ((fun ρ => ((fun ρ => getV ρ 5) ρ).bind fun d => ((fun ρ => ((fBin gIx (fun ρ => getV ρ 4) (fC (.int 0))) ρ).bind fun d => ((fun ρ => ((fBin gIx (fun ρ => getV ρ 4) (fC (.int 1))) ρ).bind fun d => ((fun _ => R.ok []) ρ).bind fun ds => R.ok (d :: ds)) ρ).bind fun ds => R.ok (d :: ds)) ρ).bind fun ds => R.ok (d :: ds)) ρ).bind mkTup)) ρ else (fun ρ => R.ok (.nx ρ)) ρ) (fSeq (fun ρ => ((fun ρ => (fBin gEq (fun ρ => getV ρ 5) (fC (.str "walk")) ρ).bind tr) ρ).bind fun k => if k = true then (retE (fun ρ => ((fun ρ => ((fun ρ => getV ρ 5) ρ).bind fun d => ((fun ρ => ((fun ρ => getV ρ 3) ρ).bind fun d => ((fun ρ => ((fun ρ => (getS ρ 0).bind fun _ => ((fun ρ => ((fun ρ => getV ρ 1) ρ).bind fun d => ((fun ρ => ((fBin gMin (fC (.int 3)) (fun ρ => getV ρ 2)) ρ).bind fun d => ((fun _ => R.ok []) ρ).bind fun ds => R.ok (d :: ds)) ρ).bind fun ds => R.ok (d :: ds)) ρ).bind (chkN 3 F__law_table)) ρ).bind fun d => ((fun _ => R.ok []) ρ).bind fun ds => R.ok (d :: ds)) ρ).bind fun ds => R.ok (d :: ds)) ρ).bind fun ds => R.ok (d :: ds)) ρ).bind mkTup)) ρ else (fun ρ => R.ok (.nx ρ)) ρ) (retE (fBin gAdd (fun ρ => ((fun ρ => ((fun ρ => getV ρ 5) ρ).bind fun d => ((fun ρ => ((fun ρ => getV ρ 3) ρ).bind fun d => ((fun _ => R.ok []) ρ).bind fun ds => R.ok (d :: ds)) ρ).bind fun ds => R.ok (d :: ds)) ρ).bind mkTup) (fC1 gTuple (fun ρ => ((fun ρ => (fBin gIn (fun ρ => getV ρ 5) (fun ρ => ((fun ρ => ((fC (.str "first")) ρ).bind fun d => ((fun ρ => ((fC (.str "second")) ρ).bind fun d => ((fun _ => R.ok []) ρ).bind fun ds => R.ok (d :: ds)) ρ).bind fun ds => R.ok (d :: ds)) ρ).bind mkLst) ρ).bind tr) ρ).bind fun k => if k = true then (fSl gSlL (fun ρ => getV ρ 4) (fun _ => R.ok none) (fun ρ => ((fC (.int 2)) ρ).bind toI)) ρ else (fun ρ => getV ρ 4) ρ))))))))
theorem b__law_plain {P : Program} {w : World} {K : PySem.W.Frag} {mg : Str → Option Value} {base : Heap} {ec : EC} {f : Addr} {F__law_choice F__law_draw F__law_table : List PyData → R PyData} (G__law_choice : FnN P w K mg base ec 2 2 "_law_choice" F__law_choice) (G__law_draw : FnN P w K mg base ec 1 2 "_law_draw" F__law_draw) (G__law_table : FnN P w K mg base ec 3 3 "_law_table" F__law_table) (n_int : mg "int" = none) (n_min : mg "min" = none) (n_range : mg "range" = none) (n_tuple : mg "tuple" = none) (kl : NoList K) : BodyOk P w K mg base ec "_law_plain" (top 36) f N__law_plain 3 (g__law_plain F__law_choice F__law_draw F__law_table) := by
  intro cdv A outer s H E hr hp tk
  have nd := sc__law_plain.nd
  exact (dss_cons (ds_par2 flatE (by rfl) nd (by rfl) (by rfl) (da_cons (de_callN G__law_choice (hr.mono (by decide)) hp (by rfl) (pv 0) (da_cons (DF.toE (df_lst (da_cons de_str (da_cons de_str da_nil)))) da_nil)) (da_cons (DF.toE (df_comp (own := [("turn", 6)]) (by rfl) nd (DI.j (di_range (by rfl) n_range (DE.b de_int))) (blkOk_by (N := N__law_plain) (sc := defScope (top 36)) (own := [("turn", 6)]) (by decide +kernel)) ⟨_, fun _ _ _ _ _ => pg_name (i := 6) nd (by rfl) (by first | exact Or.inl rfl | exact Or.inr rfl), dgo_name 6⟩ (fun _ _ _ _ _ => dts_nil) (fun _ _ _ _ _ => (de_callN G__law_draw (hr.mono (by decide)) passE0 (by rfl) (pv 0) (da_cons (de_name (pv 1)) da_nil))))) da_nil))) (dss_cons (ds_asg flatE nd (by rfl) (by first | exact Or.inl rfl | exact Or.inr rfl) (de_callN G__law_choice (hr.mono (by decide)) hp (by rfl) (pv 0) (da_cons (DF.toE (df_bin (of_cat kl) (DF.b (df_lst (da_cons de_str (da_cons de_str da_nil)))) (DF.b (df_bin (of_rep kl) (DF.b (df_lst (da_cons de_str (da_cons de_str (da_cons de_str (da_cons de_str (da_cons de_str da_nil))))))) (DE.b (de_t1 c_int (by rfl) n_int (by decide +kernel) (DE.b (de_cmp od_gt (db_name (pv 2)) (DE.b de_int) (nomark _))))))))) da_nil))) (dss_cons (ds_if (O' := []) flatE (dt_cmp (od_eq hr.units) (db_name (pv 5)) (DE.b de_str) (nomark _)) (dss_one (ds_ret flatE (de_tup (da_cons (de_name (pv 5)) (da_cons (de_ix (db_name (pv 4)) (DE.b de_int) (fun _ _ => rfl)) (da_cons (de_ix (db_name (pv 4)) (DE.b de_int) (fun _ _ => rfl)) da_nil)))))) dss_nil) (dss_cons (ds_if (O' := []) flatE (dt_cmp (od_eq hr.units) (db_name (pv 5)) (DE.b de_str) (nomark _)) (dss_one (ds_ret flatE (de_tup (da_cons (de_name (pv 5)) (da_cons (de_name (pv 3)) (da_cons (de_callN G__law_table (hr.mono (by decide)) hp (by rfl) (pv 0) (da_cons (de_name (pv 1)) (da_cons (de_min2 (by rfl) (by rfl) n_min (DE.b de_int) (db_name (pv 2))) da_nil))) da_nil)))))) dss_nil) (dss_one (ds_ret flatE (de_bin od_add (DE.b (de_tup (da_cons (de_name (pv 5)) (da_cons (de_name (pv 3)) da_nil)))) (DE.b (de_t1 c_tuple (by rfl) n_tuple (by decide +kernel) (db_if (dt_cmp (od_in (u65 hr)) (db_name (pv 5)) (DF.b (df_lst (da_cons de_str (da_cons de_str da_nil)))) (by rfl)) (DF.b (df_sl (db_name (pv 4)) dp_none (dp_some (DE.b de_int)))) (db_name (pv 4))))))))))))
def F__law_plain : List PyData → R PyData := fun ds => runN N__law_plain.length (g__law_plain F__law_choice F__law_draw F__law_table) ds
def N__law_width : List Str := ["step"]
theorem sc__law_width : FnScope N__law_width ["step"] (defScope (top 37)) := ⟨rfl, rfl, rfl, by decide +kernel, rfl, by decide +kernel, by decide +kernel⟩
def g__law_width : Rho → R Fl := (retE (fun ρ => ((fun ρ => ((fun ρ => ((fun ρ => ((fC (.int 1)) ρ).bind fun d => ((fun ρ => ((fC (.int 0)) ρ).bind fun d => ((fun _ => R.ok []) ρ).bind fun ds => R.ok ((keyD (.inr "walk"), d) :: ds)) ρ).bind fun ds => R.ok ((keyD (.inr "each"), d) :: ds)) ρ).bind mkDict) ρ).bind fun ds => ((fBin gIx (fun ρ => getV ρ 0) (fC (.int 0))) ρ).bind fun k => ((fC (.int 2)) ρ).bind fun d => getD2 ds k d) ρ).bind fun x => (tru x).bind fun k => if k = true then R.ok x else (fC1 gLen (fBin gIx (fun ρ => getV ρ 0) (fC (.int 2)))) ρ))
theorem b__law_width {P : Program} {w : World} {K : PySem.W.Frag} {mg : Str → Option Value} {base : Heap} {ec : EC} {f : Addr} (n_len : mg "len" = none) : BodyOk P w K mg base ec "_law_width" (top 37) f N__law_width 0 (g__law_width) := by
  intro cdv A outer s H E hr hp tk
  have nd := sc__law_width.nd
  exact (dss_one (ds_ret flatE (de_or (de_dget2 (u1 hr) (dd_disp (dks_cons (.inr "each") pe_str de_int (dks_cons (.inr "walk") pe_str de_int dks_nil))) (de_ix (db_name (pv 0)) (DE.b de_int) (fun _ _ => rfl)) de_int ⟨rfl, rfl, rfl, rfl⟩) (de_one (de_b1 c_len (by rfl) n_len (by decide +kernel) (DE.b (de_ix (db_name (pv 0)) (DE.b de_int) (fun _ _ => rfl))))))))
def F__law_width : List PyData → R PyData := fun ds => runB N__law_width.length (g__law_width) ds
def N__law_script : List Str := ["source", "most", "cap", "many", "steps", "product", "doubled", "turn", "step", "wide"]
theorem sc__law_script : FnScope N__law_script ["source", "most", "cap"] (defScope (top 38)) := ⟨rfl, rfl, rfl, by decide +kernel, rfl, by decide +kernel, by decide +kernel⟩
def l__law_script_1 (F__law_choice F__law_draw F__law_plain F__law_width : List PyData → R PyData) : Rho → R Fl := (fSeq (setE 8 (fun ρ => (getS ρ 0).bind fun _ => ((fun ρ => ((fun ρ => getV ρ 3) ρ).bind fun d => ((fun ρ => ((fBin gFdiv (fun ρ => getV ρ 2) (fun ρ => getV ρ 5)) ρ).bind fun d => ((fun _ => R.ok []) ρ).bind fun ds => R.ok (d :: ds)) ρ).bind fun ds => R.ok (d :: ds)) ρ).bind (chkN 3 F__law_plain))) (fSeq (setE 9 (fun ρ => ((fun ρ => ((fun ρ => getV ρ 8) ρ).bind fun d => ((fun _ => R.ok []) ρ).bind fun ds => R.ok (d :: ds)) ρ).bind (chk 1 F__law_width))) (fSeq (fun ρ => ((fun ρ => ((fun ρ => (fBin gEq (fun ρ => (getS ρ 0).bind fun _ => ((fun ρ => ((fC (.int 5)) ρ).bind fun d => ((fun _ => R.ok []) ρ).bind fun ds => R.ok (d :: ds)) ρ).bind (chkN 2 F__law_draw)) (fC (.int 0)) ρ).bind tr) ρ).bind fun k => if k = true then (fun ρ => ((fun ρ => (fBin gLe (fBin gMul (fBin gMul (fun ρ => getV ρ 5) (fun ρ => getV ρ 9)) (fun ρ => getV ρ 9)) (fun ρ => getV ρ 2) ρ).bind tr) ρ).bind fun k => if k = true then (fun ρ => (fBin gLt (fun ρ => getV ρ 6) (fC (.int 2)) ρ).bind tr) ρ else R.ok false) ρ else R.ok false) ρ).bind fun k => if k = true then (fSeq (par2 5 6 (fun ρ => ((fBin gMul (fBin gMul (fun ρ => getV ρ 5) (fun ρ => getV ρ 9)) (fun ρ => getV ρ 9)) ρ).bind fun d => ((fun ρ => ((fBin gAdd (fun ρ => getV ρ 6) (fC (.int 1))) ρ).bind fun d => ((fun _ => R.ok []) ρ).bind fun ds => R.ok (d :: ds)) ρ).bind fun ds => R.ok (d :: ds))) (fSeq (setE 4 (fBin gAdd (fun ρ => getV ρ 4) (fun ρ => ((fun ρ => ((fun ρ => ((fun ρ => ((fC (.str "again")) ρ).bind fun d => ((fun ρ => ((fC (.int 2)) ρ).bind fun d => ((fun ρ => ((fun ρ => ((fun ρ => ((fun ρ => getV ρ 8) ρ).bind fun d => ((fun _ => R.ok []) ρ).bind fun ds => R.ok (d :: ds)) ρ).bind mkTup) ρ).bind fun d => ((fun _ => R.ok []) ρ).bind fun ds => R.ok (d :: ds)) ρ).bind fun ds => R.ok (d :: ds)) ρ).bind fun ds => R.ok (d :: ds)) ρ).bind mkTup) ρ).bind fun d => ((fun _ => R.ok []) ρ).bind fun ds => R.ok (d :: ds)) ρ).bind mkTup))) (fun ρ => R.ok (.nx ρ)))) ρ else (fSeq (setE 5 (fBin gMul (fun ρ => getV ρ 5) (fun ρ => getV ρ 9))) (fSeq (setE 4 (fBin gAdd (fun ρ => getV ρ 4) (fun ρ => ((fun ρ => ((fun ρ => getV ρ 8) ρ).bind fun d => ((fun _ => R.ok []) ρ).bind fun ds => R.ok (d :: ds)) ρ).bind mkTup))) (fun ρ => R.ok (.nx ρ)))) ρ) (fun ρ => R.ok (.nx ρ)))))
def g__law_script (F__law_choice F__law_draw F__law_plain F__law_width : List PyData → R PyData) : Rho → R Fl := (fSeq (asgT (tgTup 4 (tgCons (tg1 3) (tgCons (tg1 4) (tgCons (tg1 5) (tgCons (tg1 6) tgNil))))) (fun ρ => ((fun ρ => ((fun ρ => (getS ρ 0).bind fun _ => ((fun ρ => ((fun ρ => ((fun ρ => ((fC (.int 2)) ρ).bind fun d => ((fun ρ => ((fC (.int 2)) ρ).bind fun d => ((fun ρ => ((fC (.int 3)) ρ).bind fun d => ((fun _ => R.ok []) ρ).bind fun ds => R.ok (d :: ds)) ρ).bind fun ds => R.ok (d :: ds)) ρ).bind fun ds => R.ok (d :: ds)) ρ).bind mkLst) ρ).bind fun d => ((fun _ => R.ok []) ρ).bind fun ds => R.ok (d :: ds)) ρ).bind (chkN 2 F__law_choice)) ρ).bind fun d => ((fun ρ => ((fun ρ => ((fun _ => R.ok []) ρ).bind mkTup) ρ).bind fun d => ((fun ρ => ((fC (.int 1)) ρ).bind fun d => ((fun ρ => ((fC (.int 0)) ρ).bind fun d => ((fun _ => R.ok []) ρ).bind fun ds => R.ok (d :: ds)) ρ).bind fun ds => R.ok (d :: ds)) ρ).bind fun ds => R.ok (d :: ds)) ρ).bind fun ds => R.ok (d :: ds)) ρ).bind mkTup)) (fSeq (fFor (fun ρ => ((fun ρ => (getS ρ 0).bind fun _ => ((fun ρ => ((fBin gAdd (fun ρ => getV ρ 1) (fC (.int 1))) ρ).bind fun d => ((fun _ => R.ok []) ρ).bind fun ds => R.ok (d :: ds)) ρ).bind (chkN 2 F__law_draw)) ρ).bind rgOf) (tg1 7) (l__law_script_1 F__law_choice F__law_draw F__law_plain F__law_width)) (retE (fun ρ => ((fun ρ => ((fun ρ => getV ρ 3) ρ).bind fun d => ((fun ρ => ((fun ρ => getV ρ 4) ρ).bind fun d => ((fun _ => R.ok []) ρ).bind fun ds => R.ok (d :: ds)) ρ).bind fun ds => R.ok (d :: ds)) ρ).bind mkTup))))
theorem b__law_script {P : Program} {w : World} {K : PySem.W.Frag} {mg : Str → Option Value} {base : Heap} {ec : EC} {f : Addr} {F__law_choice F__law_draw F__law_plain F__law_width : List PyData → R PyData} (G__law_choice : FnN P w K mg base ec 2 2 "_law_choice" F__law_choice) (G__law_draw : FnN P w K mg base ec 1 2 "_law_draw" F__law_draw) (G__law_plain : FnN P w K mg base ec 4 3 "_law_plain" F__law_plain) (G__law_width : FnD P w K mg base ec 1 1 "_law_width" F__law_width) (n_range : mg "range" = none) : BodyOk P w K mg base ec "_law_script" (top 38) f N__law_script 4 (g__law_script F__law_choice F__law_draw F__law_plain F__law_width) := by
  intro cdv A outer s H E hr hp tk
  have nd := sc__law_script.nd
  exact (dss_cons (ds_asgT flatE (de_tup (da_cons (de_callN G__law_choice (hr.mono (by decide)) hp (by rfl) (pv 0) (da_cons (DF.toE (df_lst (da_cons de_int (da_cons de_int (da_cons de_int da_nil))))) da_nil)) (da_cons (de_tup da_nil) (da_cons de_int (da_cons de_int da_nil))))) (dg_tup (by rfl) (dgs_cons (dg_name (pg_name (i := 3) nd (by rfl) (by first | exact Or.inl rfl | exact Or.inr rfl))) (dgs_cons (dg_name (pg_name (i := 4) nd (by rfl) (by first | exact Or.inl rfl | exact Or.inr rfl))) (dgs_cons (dg_name (pg_name (i := 5) nd (by rfl) (by first | exact Or.inl rfl | exact Or.inr rfl))) (dgs_cons (dg_name (pg_name (i := 6) nd (by rfl) (by first | exact Or.inl rfl | exact Or.inr rfl))) dgs_nil)))))) (dss_cons (ds_for flatE (passes_of rfl) (by rfl) (di_range (by rfl) n_range (DE.b (de_callN G__law_draw (hr.mono (by decide)) hp (by rfl) (pv 0) (da_cons (de_bin od_add (db_name (pv 1)) (DE.b de_int)) da_nil)))) (dg_name (pg_name (i := 7) nd (by rfl) (by first | exact Or.inl rfl | exact Or.inr rfl))) (dss_cons (ds_asg flatE nd (by rfl) (by first | exact Or.inl rfl | exact Or.inr rfl) (de_callN G__law_plain (hr.mono (by decide)) hp (by rfl) (pv 0) (da_cons (de_name (pv 3)) (da_cons (de_bin od_fdiv (db_name (pv 2)) (db_name (pv 5))) da_nil)))) (dss_cons (ds_asg flatE nd (by rfl) (by first | exact Or.inl rfl | exact Or.inr rfl) (de_call G__law_width (hr.mono (by decide)) hp (by rfl) (da_cons (de_name (pv 8)) da_nil))) (dss_cons (ds_if (O' := []) flatE (DW.t (dw_and (dt_cmp (od_eq hr.units) (DE.b (de_callN G__law_draw (hr.mono (by decide)) hp (by rfl) (pv 0) (da_cons de_int da_nil))) (DE.b de_int) (nomark _)) (dw_and (dt_cmp od_le (DE.b (de_bin od_mul (DE.b (de_bin od_mul (db_name (pv 5)) (db_name (pv 9)))) (db_name (pv 9)))) (db_name (pv 2)) (nomark _)) (dw_and1 (dt_cmp od_lt (db_name (pv 6)) (DE.b de_int) (nomark _)))))) (dss_cons (ds_par2 flatE (by rfl) nd (by rfl) (by rfl) (da_cons (de_bin od_mul (DE.b (de_bin od_mul (db_name (pv 5)) (db_name (pv 9)))) (db_name (pv 9))) (da_cons (de_bin od_add (db_name (pv 6)) (DE.b de_int)) da_nil))) (dss_cons (ds_asg flatE nd (by rfl) (by first | exact Or.inl rfl | exact Or.inr rfl) (de_bin od_add (db_name (pv 4)) (DE.b (de_tup (da_cons (de_tup (da_cons de_str (da_cons de_int (da_cons (de_tup (da_cons (de_name (pv 8)) da_nil)) da_nil)))) da_nil))))) dss_nil)) (dss_cons (ds_asg flatE nd (by rfl) (by first | exact Or.inl rfl | exact Or.inr rfl) (de_bin od_mul (db_name (pv 5)) (db_name (pv 9)))) (dss_cons (ds_asg flatE nd (by rfl) (by first | exact Or.inl rfl | exact Or.inr rfl) (de_bin od_add (db_name (pv 4)) (DE.b (de_tup (da_cons (de_name (pv 8)) da_nil))))) dss_nil))) dss_nil)))) (dss_one (ds_ret flatE (de_tup (da_cons (de_name (pv 3)) (da_cons (de_name (pv 4)) da_nil)))))))
def F__law_script : List PyData → R PyData := fun ds => runN N__law_script.length (g__law_script F__law_choice F__law_draw F__law_plain F__law_width) ds
def N__law_pair : List Str := ["step", "note", "stand", "word", "old", "new", "other"]
theorem sc__law_pair : FnScope N__law_pair ["step", "note", "stand"] (defScope (top 40)) := ⟨rfl, rfl, rfl, by decide +kernel, rfl, by decide +kernel, by decide +kernel⟩
def g__law_pair : Rho → R Fl := (fSeq (par3 3 4 5 (fun ρ => ((fBin gIx (fun ρ => getV ρ 0) (fC (.int 0))) ρ).bind fun d => ((fun ρ => ((fBin gIx (fun ρ => getV ρ 0) (fun ρ => ((fC (.int 2)) ρ).bind gNeg)) ρ).bind fun d => ((fun ρ => ((fBin gIx (fun ρ => getV ρ 0) (fun ρ => ((fC (.int 1)) ρ).bind gNeg)) ρ).bind fun d => ((fun _ => R.ok []) ρ).bind fun ds => R.ok (d :: ds)) ρ).bind fun ds => R.ok (d :: ds)) ρ).bind fun ds => R.ok (d :: ds))) (fSeq (setE 6 (fun ρ => ((fun ρ => (fBin gEq (fun ρ => getV ρ 2) (fun ρ => getV ρ 4) ρ).bind tr) ρ).bind fun k => if k = true then (fun ρ => getV ρ 5) ρ else (fun ρ => getV ρ 2) ρ)) (fSeq (fun ρ => ((fun ρ => (fBin gEq (fun ρ => getV ρ 3) (fC (.str "each")) ρ).bind tr) ρ).bind fun k => if k = true then (retE (fun ρ => ((fun ρ => ((fun ρ => getV ρ 6) ρ).bind fun d => ((fun ρ => ((fC (.int 0)) ρ).bind fun d => ((fun _ => R.ok []) ρ).bind fun ds => R.ok (d :: ds)) ρ).bind fun ds => R.ok (d :: ds)) ρ).bind mkTup)) ρ else (fun ρ => R.ok (.nx ρ)) ρ) (fSeq (fun ρ => ((fun ρ => (fBin gEq (fun ρ => getV ρ 3) (fC (.str "first")) ρ).bind tr) ρ).bind fun k => if k = true then (retE (fun ρ => ((fun ρ => (fBin gEq (fun ρ => getV ρ 1) (fC (.int 1)) ρ).bind tr) ρ).bind fun k => if k = true then (fun ρ => ((fun ρ => ((fun ρ => getV ρ 2) ρ).bind fun d => ((fun ρ => ((fC (.int 1)) ρ).bind fun d => ((fun _ => R.ok []) ρ).bind fun ds => R.ok (d :: ds)) ρ).bind fun ds => R.ok (d :: ds)) ρ).bind mkTup) ρ else (fun ρ => ((fun ρ => ((fun ρ => getV ρ 6) ρ).bind fun d => ((fun ρ => ((fC1 gInt (fBin gEq (fun ρ => getV ρ 2) (fun ρ => getV ρ 4))) ρ).bind fun d => ((fun _ => R.ok []) ρ).bind fun ds => R.ok (d :: ds)) ρ).bind fun ds => R.ok (d :: ds)) ρ).bind mkTup) ρ)) ρ else (fun ρ => R.ok (.nx ρ)) ρ) (fSeq (fun ρ => ((fun ρ => (fBin gEq (fun ρ => getV ρ 3) (fC (.str "second")) ρ).bind tr) ρ).bind fun k => if k = true then (retE (fun ρ => ((fun ρ => ((fun ρ => ((fun ρ => (fBin gEq (fun ρ => getV ρ 1) (fC (.int 1)) ρ).bind tr) ρ).bind fun k => if k = true then (fun ρ => getV ρ 6) ρ else (fun ρ => getV ρ 2) ρ) ρ).bind fun d => ((fun ρ => ((fun ρ => ((fun ρ => (fBin gEq (fun ρ => getV ρ 2) (fun ρ => getV ρ 4) ρ).bind tr) ρ).bind fun k => if k = true then (fBin gSub (fC (.int 1)) (fun ρ => getV ρ 1)) ρ else (fun ρ => getV ρ 1) ρ) ρ).bind fun d => ((fun _ => R.ok []) ρ).bind fun ds => R.ok (d :: ds)) ρ).bind fun ds => R.ok (d :: ds)) ρ).bind mkTup)) ρ else (fun ρ => R.ok (.nx ρ)) ρ) (fSeq (fun ρ => ((fun ρ => (fBin gEq (fun ρ => getV ρ 3) (fC (.str "until")) ρ).bind tr) ρ).bind fun k => if k = true then (retE (fun ρ => ((fun ρ => ((fun ρ => (fBin gEq (fun ρ => getV ρ 1) (fC (.int 1)) ρ).bind tr) ρ).bind fun k => if k = true then R.ok true else (fun ρ => (fBin gEq (fun ρ => getV ρ 2) (fBin gIx (fun ρ => getV ρ 0) (fC (.int 2))) ρ).bind tr) ρ) ρ).bind fun k => if k = true then (fun ρ => ((fun ρ => ((fun ρ => getV ρ 2) ρ).bind fun d => ((fun ρ => ((fC (.int 1)) ρ).bind fun d => ((fun _ => R.ok []) ρ).bind fun ds => R.ok (d :: ds)) ρ).bind fun ds => R.ok (d :: ds)) ρ).bind mkTup) ρ else (fun ρ => ((fun ρ => ((fun ρ => getV ρ 6) ρ).bind fun d => ((fun ρ => ((fC (.int 0)) ρ).bind fun d => ((fun _ => R.ok []) ρ).bind fun ds => R.ok (d :: ds)) ρ).bind fun ds => R.ok (d :: ds)) ρ).bind mkTup) ρ)) ρ else (fun ρ => R.ok (.nx ρ)) ρ) (retE (fun ρ => ((fun ρ => ((fun ρ => ((fun ρ => (fBin gEq (fun ρ => getV ρ 1) (fC (.int 1)) ρ).bind tr) ρ).bind fun k => if k = true then (fun ρ => getV ρ 6) ρ else (fun ρ => getV ρ 2) ρ) ρ).bind fun d => ((fun ρ => ((fC1 gInt (fBin gEq (fun ρ => getV ρ 2) (fBin gIx (fun ρ => getV ρ 0) (fC (.int 2))))) ρ).bind fun d => ((fun _ => R.ok []) ρ).bind fun ds => R.ok (d :: ds)) ρ).bind fun ds => R.ok (d :: ds)) ρ).bind mkTup))))))))
theorem b__law_pair {P : Program} {w : World} {K : PySem.W.Frag} {mg : Str → Option Value} {base : Heap} {ec : EC} {f : Addr} (n_int : mg "int" = none) : BodyOk P w K mg base ec "_law_pair" (top 40) f N__law_pair 0 (g__law_pair) := by
  intro cdv A outer s H E hr hp tk
  have nd := sc__law_pair.nd
  exact (dss_cons (ds_par3 flatE (by rfl) nd (by rfl) (by rfl) (by rfl) (da_cons (de_ix (db_name (pv 0)) (DE.b de_int) (fun _ _ => rfl)) (da_cons (de_ix (db_name (pv 0)) (DE.b (de_neg (DE.b de_int))) (fun _ _ => rfl)) (da_cons (de_ix (db_name (pv 0)) (DE.b (de_neg (DE.b de_int))) (fun _ _ => rfl)) da_nil)))) (dss_cons (ds_asg flatE nd (by rfl) (by first | exact Or.inl rfl | exact Or.inr rfl) (de_if (dt_cmp (od_eq hr.units) (db_name (pv 2)) (db_name (pv 4)) (nomark _)) (de_name (pv 5)) (de_name (pv 2)))) (dss_cons (ds_if (O' := []) flatE (dt_cmp (od_eq hr.units) (db_name (pv 3)) (DE.b de_str) (nomark _)) (dss_one (ds_ret flatE (de_tup (da_cons (de_name (pv 6)) (da_cons de_int da_nil))))) dss_nil) (dss_cons (ds_if (O' := []) flatE (dt_cmp (od_eq hr.units) (db_name (pv 3)) (DE.b de_str) (nomark _)) (dss_one (ds_ret flatE (de_if (dt_cmp (od_eq hr.units) (db_name (pv 1)) (DE.b de_int) (nomark _)) (de_tup (da_cons (de_name (pv 2)) (da_cons de_int da_nil))) (de_tup (da_cons (de_name (pv 6)) (da_cons (de_t1 c_int (by rfl) n_int (by decide +kernel) (DE.b (de_cmp (od_eq hr.units) (db_name (pv 2)) (db_name (pv 4)) (nomark _)))) da_nil)))))) dss_nil) (dss_cons (ds_if (O' := []) flatE (dt_cmp (od_eq hr.units) (db_name (pv 3)) (DE.b de_str) (nomark _)) (dss_one (ds_ret flatE (de_tup (da_cons (de_if (dt_cmp (od_eq hr.units) (db_name (pv 1)) (DE.b de_int) (nomark _)) (de_name (pv 6)) (de_name (pv 2))) (da_cons (de_if (dt_cmp (od_eq hr.units) (db_name (pv 2)) (db_name (pv 4)) (nomark _)) (de_bin od_sub (DE.b de_int) (db_name (pv 1))) (de_name (pv 1))) da_nil))))) dss_nil) (dss_cons (ds_if (O' := []) flatE (dt_cmp (od_eq hr.units) (db_name (pv 3)) (DE.b de_str) (nomark _)) (dss_one (ds_ret flatE (de_if (DW.t (dw_or (dt_cmp (od_eq hr.units) (db_name (pv 1)) (DE.b de_int) (nomark _)) (dw_or1 (dt_cmp (od_eq hr.units) (db_name (pv 2)) (DE.b (de_ix (db_name (pv 0)) (DE.b de_int) (fun _ _ => rfl))) (nomark _))))) (de_tup (da_cons (de_name (pv 2)) (da_cons de_int da_nil))) (de_tup (da_cons (de_name (pv 6)) (da_cons de_int da_nil)))))) dss_nil) (dss_one (ds_ret flatE (de_tup (da_cons (de_if (dt_cmp (od_eq hr.units) (db_name (pv 1)) (DE.b de_int) (nomark _)) (de_name (pv 6)) (de_name (pv 2))) (da_cons (de_t1 c_int (by rfl) n_int (by decide +kernel) (DE.b (de_cmp (od_eq hr.units) (db_name (pv 2)) (DE.b (de_ix (db_name (pv 0)) (DE.b de_int) (fun _ _ => rfl))) (nomark _)))) da_nil)))))))))))
def F__law_pair : List PyData → R PyData := fun ds => runB N__law_pair.length (g__law_pair) ds
def N__law_lines : List Str := ["many", "step", "found", "note", "line", "stand"]
theorem sc__law_lines : FnScope N__law_lines ["many", "step"] (defScope (top 39)) := ⟨rfl, rfl, rfl, by decide +kernel, rfl, by decide +kernel, by decide +kernel⟩
def l__law_lines_1 (F__law_pair : List PyData → R PyData) : Rho → R Fl := (fSeq (appE 4 (fun ρ => ((fun ρ => ((fun ρ => getV ρ 1) ρ).bind fun d => ((fun ρ => ((fun ρ => getV ρ 3) ρ).bind fun d => ((fun ρ => ((fun ρ => getV ρ 5) ρ).bind fun d => ((fun _ => R.ok []) ρ).bind fun ds => R.ok (d :: ds)) ρ).bind fun ds => R.ok (d :: ds)) ρ).bind fun ds => R.ok (d :: ds)) ρ).bind (chk 3 F__law_pair))) (fun ρ => R.ok (.nx ρ)))
def l__law_lines_2 (F__law_pair : List PyData → R PyData) : Rho → R Fl := (fSeq (setE 4 (fun ρ => ((fun _ => R.ok []) ρ).bind mkLst)) (fSeq (fFor (fun ρ => ((fun ρ => getV ρ 0) ρ).bind rgOf) (tg1 5) (l__law_lines_1 F__law_pair)) (fSeq (appE 2 (fC1 gTuple (fun ρ => getV ρ 4))) (fun ρ => R.ok (.nx ρ)))))
def g__law_lines (F__law_pair : List PyData → R PyData) : Rho → R Fl := (fSeq (fun ρ => ((fun ρ => (fBin gEq (fBin gIx (fun ρ => getV ρ 1) (fC (.int 0))) (fC (.str "walk")) ρ).bind tr) ρ).bind fun k => if k = true then (retE (fSl gSl (fun ρ => getV ρ 1) (fun ρ => ((fC (.int 1)) ρ).bind toI) (fun _ => R.ok none))) ρ else (fun ρ => R.ok (.nx ρ)) ρ) (fSeq (setE 2 (fun ρ => ((fun _ => R.ok []) ρ).bind mkLst)) (fSeq (fFor (fun ρ => ((fun ρ => ((fun ρ => (fBin gEq (fBin gIx (fun ρ => getV ρ 1) (fC (.int 0))) (fC (.str "each")) ρ).bind tr) ρ).bind fun k => if k = true then (fC (.int 1)) ρ else (fC (.int 2)) ρ) ρ).bind rgOf) (tg1 3) (l__law_lines_2 F__law_pair)) (retE (fun ρ => ((fun ρ => ((fun ρ => ((fun ρ => (fBin gEq (fBin gIx (fun ρ => getV ρ 1) (fC (.int 0))) (fC (.str "each")) ρ).bind tr) ρ).bind fun k => if k = true then (fC (.str "left")) ρ else (fBin gIx (fun ρ => getV ρ 1) (fC (.int 1))) ρ) ρ).bind fun d => ((fun ρ => ((fC1 gTuple (fun ρ => getV ρ 2)) ρ).bind fun d => ((fun _ => R.ok []) ρ).bind fun ds => R.ok (d :: ds)) ρ).bind fun ds => R.ok (d :: ds)) ρ).bind mkTup)))))
theorem b__law_lines {P : Program} {w : World} {K : PySem.W.Frag} {mg : Str → Option Value} {base : Heap} {ec : EC} {f : Addr} {F__law_pair : List PyData → R PyData} (G__law_pair : FnD P w K mg base ec 1 3 "_law_pair" F__law_pair) (n_range : mg "range" = none) (n_tuple : mg "tuple" = none) : BodyOk P w K mg base ec "_law_lines" (top 39) f N__law_lines 1 (g__law_lines F__law_pair) := by
  intro cdv A outer s H E hr hp tk
  have nd := sc__law_lines.nd
  exact (dss_cons (ds_if (O' := []) flatE (dt_cmp (od_eq hr.units) (DE.b (de_ix (db_name (pv 1)) (DE.b de_int) (fun _ _ => rfl))) (DE.b de_str) (nomark _)) (dss_one (ds_ret flatE (de_sl (db_name (pv 1)) (dp_some (DE.b de_int)) dp_none))) dss_nil) (dss_cons (ds_own flatE nd (by rfl) (by first | exact Or.inl rfl | exact Or.inr rfl) (df_lst da_nil) (fun σ h => by rw [h]; exact (by decide : 2 < N__law_lines.length))) (dss_cons (ds_for flatE (passes_of rfl) (by rfl) (di_range (by rfl) n_range (db_if (dt_cmp (od_eq hr.units) (DE.b (de_ix (db_name (pv 1)) (DE.b de_int) (fun _ _ => rfl))) (DE.b de_str) (nomark _)) (DE.b de_int) (DE.b de_int))) (dg_name (pg_name (i := 3) nd (by rfl) (by first | exact Or.inl rfl | exact Or.inr rfl))) (dss_cons (ds_own flatE nd (by rfl) (by first | exact Or.inl rfl | exact Or.inr rfl) (df_lst da_nil) (fun σ h => by rw [h]; exact (by decide : 4 < N__law_lines.length))) (dss_cons (ds_for flatE (passes_of rfl) (by rfl) (di_range (by rfl) n_range (db_name (pv 0))) (dg_name (pg_name (i := 5) nd (by rfl) (by first | exact Or.inl rfl | exact Or.inr rfl))) (dss_cons (ds_append flatE (pv 4) (de_call G__law_pair (hr.mono (by decide)) hp (by rfl) (da_cons (de_name (pv 1)) (da_cons (de_name (pv 3)) (da_cons (de_name (pv 5)) da_nil))))) dss_nil)) (dss_cons (ds_append flatE (pv 2) (de_t1 c_tuple (by rfl) n_tuple (by decide +kernel) (db_name (pv 4)))) dss_nil)))) (dss_one (ds_ret flatE (de_tup (da_cons (de_if (dt_cmp (od_eq hr.units) (DE.b (de_ix (db_name (pv 1)) (DE.b de_int) (fun _ _ => rfl))) (DE.b de_str) (nomark _)) de_str (de_ix (db_name (pv 1)) (DE.b de_int) (fun _ _ => rfl))) (da_cons (de_t1 c_tuple (by rfl) n_tuple (by decide +kernel) (db_name (pv 2))) da_nil))))))))
def F__law_lines : List PyData → R PyData := fun ds => runB N__law_lines.length (g__law_lines F__law_pair) ds
def N__law_walks : List Str := ["script", "found", "step", "part"]
theorem sc__law_walks : FnScope N__law_walks ["script"] (defScope (top 41)) := ⟨rfl, rfl, rfl, by decide +kernel, rfl, by decide +kernel, by decide +kernel⟩
def l__law_walks_1 (F__law_lines : List PyData → R PyData) : Rho → R Fl := (fSeq (fun ρ => ((fun ρ => (fBin gEq (fBin gIx (fun ρ => getV ρ 2) (fC (.int 0))) (fC (.str "again")) ρ).bind tr) ρ).bind fun k => if k = true then (fSeq (setE 1 (fBin gCat (fun ρ => getV ρ 1) (fBin gRep (fComp [3] (fun ρ => ((fBin gIx (fun ρ => getV ρ 2) (fC (.int 2))) ρ).bind seqOf) (tg1 3) (fun _ => R.ok true) (fun ρ => ((fun ρ => ((fBin gIx (fun ρ => getV ρ 0) (fC (.int 0))) ρ).bind fun d => ((fun ρ => ((fun ρ => getV ρ 3) ρ).bind fun d => ((fun _ => R.ok []) ρ).bind fun ds => R.ok (d :: ds)) ρ).bind fun ds => R.ok (d :: ds)) ρ).bind (chk 2 F__law_lines))) (fBin gIx (fun ρ => getV ρ 2) (fC (.int 1)))))) (fun ρ => R.ok (.nx ρ))) ρ else (fSeq (appE 1 (fun ρ => ((fun ρ => ((fBin gIx (fun ρ => getV ρ 0) (fC (.int 0))) ρ).bind fun d => ((fun ρ => ((fun ρ => getV ρ 2) ρ).bind fun d => ((fun _ => R.ok []) ρ).bind fun ds => R.ok (d :: ds)) ρ).bind fun ds => R.ok (d :: ds)) ρ).bind (chk 2 F__law_lines))) (fun ρ => R.ok (.nx ρ))) ρ) (fun ρ => R.ok (.nx ρ)))
def g__law_walks (F__law_lines : List PyData → R PyData) : Rho → R Fl := (fSeq (setE 1 (fun ρ => ((fun _ => R.ok []) ρ).bind mkLst)) (fSeq (fFor (fun ρ => ((fBin gIx (fun ρ => getV ρ 0) (fC (.int 1))) ρ).bind seqOf) (tg1 2) (l__law_walks_1 F__law_lines)) (retE (fun ρ => getV ρ 1))))
theorem b__law_walks {P : Program} {w : World} {K : PySem.W.Frag} {mg : Str → Option Value} {base : Heap} {ec : EC} {f : Addr} {F__law_lines : List PyData → R PyData} (G__law_lines : FnD P w K mg base ec 2 2 "_law_lines" F__law_lines) (kl : NoList K) : BodyOk P w K mg base ec "_law_walks" (top 41) f N__law_walks 2 (g__law_walks F__law_lines) := by
  intro cdv A outer s H E hr hp tk
  have nd := sc__law_walks.nd
  exact (dss_cons (ds_own flatE nd (by rfl) (by first | exact Or.inl rfl | exact Or.inr rfl) (df_lst da_nil) (fun σ h => by rw [h]; exact (by decide : 1 < N__law_walks.length))) (dss_cons (ds_for flatE (passes_of rfl) (by rfl) (di_seq (de_ix (db_name (pv 0)) (DE.b de_int) (fun _ _ => rfl))) (dg_name (pg_name (i := 2) nd (by rfl) (by first | exact Or.inl rfl | exact Or.inr rfl))) (dss_cons (ds_if (O' := [1]) flatE (dt_cmp (od_eq hr.units) (DE.b (de_ix (db_name (pv 2)) (DE.b de_int) (fun _ _ => rfl))) (DE.b de_str) (nomark _)) (dss_cons (ds_rel (O1 := []) (ds_own flatE nd (by rfl) (by first | exact Or.inl rfl | exact Or.inr rfl) (df_bin (of_cat kl) (db_name (pv 1)) (DF.b (df_bin (of_rep kl) (DF.b (df_comp (own := [("part", 3)]) (by rfl) nd (dj_seq (DE.b (de_ix (db_name (pv 2)) (DE.b de_int) (fun _ _ => rfl)))) (blkOk_by (N := N__law_walks) (sc := defScope (top 41)) (own := [("part", 3)]) (by decide +kernel)) ⟨_, fun _ _ _ _ _ => pg_name (i := 3) nd (by rfl) (by first | exact Or.inl rfl | exact Or.inr rfl), dgo_name 3⟩ (fun _ _ _ _ _ => dts_nil) (fun _ _ _ _ _ => (de_call G__law_lines (hr.mono (by decide)) passE0 (by rfl) (da_cons (de_ix (db_name (pv 0)) (DE.b de_int) (fun _ _ => rfl)) (da_cons (de_name (pv 3)) da_nil)))))) (DE.b (de_ix (db_name (pv 2)) (DE.b de_int) (fun _ _ => rfl)))))) (fun σ h => by rw [h]; exact (by decide : 1 < N__law_walks.length)))) dss_nil) (dss_cons (ds_append flatE (pv 1) (de_call G__law_lines (hr.mono (by decide)) hp (by rfl) (da_cons (de_ix (db_name (pv 0)) (DE.b de_int) (fun _ _ => rfl)) (da_cons (de_name (pv 2)) da_nil)))) dss_nil)) dss_nil)) (dss_one (ds_ret flatE (de_name (pv 1))))))
def F__law_walks : List PyData → R PyData := fun ds => runB N__law_walks.length (g__law_walks F__law_lines) ds
def N__law_walked : List Str := ["walk", "corridor", "side", "lines", "note", "found", "stand", "new"]
theorem sc__law_walked : FnScope N__law_walked ["walk", "corridor"] (defScope (top 42)) := ⟨rfl, rfl, rfl, by decide +kernel, rfl, by decide +kernel, by decide +kernel⟩
def l__law_walked_1 : Rho → R Fl := (fSeq (asgT (tgTup 2 (tgCons (tg1 7) (tgCons (tg1 4) tgNil))) (fBin gIx (fBin gIx (fun ρ => getV ρ 3) (fun ρ => getV ρ 4)) (fun ρ => getV ρ 6))) (fSeq (appE 5 (fun ρ => getV ρ 7)) (fun ρ => R.ok (.nx ρ))))
def g__law_walked : Rho → R Fl := (fSeq (asgT (tgTup 2 (tgCons (tg1 2) (tgCons (tg1 3) tgNil))) (fun ρ => getV ρ 0)) (fSeq (parM [4, 5] (fun ρ => ((fC (.int 0)) ρ).bind fun d => ((fun ρ => ((fun ρ => ((fun _ => R.ok []) ρ).bind mkLst) ρ).bind fun a => ((fun _ => R.ok []) ρ).bind fun xs => R.ok (SV.d a :: xs)) ρ).bind fun xs => R.ok (SV.d d :: xs))) (fSeq (fFor (fun ρ => ((fun ρ => ((fun ρ => (fBin gEq (fun ρ => getV ρ 2) (fC (.str "left")) ρ).bind tr) ρ).bind fun k => if k = true then (fun ρ => getV ρ 1) ρ else (fun ρ => ((fun ρ => getV ρ 1) ρ).bind revT) ρ) ρ).bind seqOf) (tg1 6) (l__law_walked_1)) (retE (fun ρ => ((fun ρ => ((fC1 gTuple (fun ρ => ((fun ρ => (fBin gEq (fun ρ => getV ρ 2) (fC (.str "left")) ρ).bind tr) ρ).bind fun k => if k = true then (fun ρ => getV ρ 5) ρ else (fun ρ => ((fun ρ => getV ρ 5) ρ).bind revL) ρ)) ρ).bind fun d => ((fun ρ => ((fun ρ => getV ρ 4) ρ).bind fun d => ((fun _ => R.ok []) ρ).bind fun ds => R.ok (d :: ds)) ρ).bind fun ds => R.ok (d :: ds)) ρ).bind mkTup)))))
theorem b__law_walked {P : Program} {w : World} {K : PySem.W.Frag} {mg : Str → Option Value} {base : Heap} {ec : EC} {f : Addr} (n_tuple : mg "tuple" = none) : BodyOk P w K mg base ec "_law_walked" (top 42) f N__law_walked 0 (g__law_walked) := by
  intro cdv A outer s H E hr hp tk
  have nd := sc__law_walked.nd
  exact (dss_cons (ds_asgT flatE (de_name (pv 0)) (dg_tup (by rfl) (dgs_cons (dg_name (pg_name (i := 2) nd (by rfl) (by first | exact Or.inl rfl | exact Or.inr rfl))) (dgs_cons (dg_name (pg_name (i := 3) nd (by rfl) (by first | exact Or.inl rfl | exact Or.inr rfl))) dgs_nil)))) (dss_cons (ds_parM2 (fs := [false, true]) flatE (by rfl) nd (by rfl) (by rfl) (dm_d de_int (dm_f (df_lst da_nil) dm_nil)) (hlen := (fun σ h => by rw [h]; exact (by decide : 4 < N__law_walked.length ∧ 5 < N__law_walked.length)))) (dss_cons (ds_for flatE (passes_of rfl) (by rfl) (di_seq (de_if (dt_cmp (od_eq hr.units) (db_name (pv 2)) (DE.b de_str) (nomark _)) (de_name (pv 1)) (de_revT (db_name (pv 1))))) (dg_name (pg_name (i := 6) nd (by rfl) (by first | exact Or.inl rfl | exact Or.inr rfl))) (dss_cons (ds_asgT flatE (de_ix (DE.b (de_ix (db_name (pv 3)) (db_name (pv 4)) (fun _ _ => rfl))) (db_name (pv 6)) (fun _ _ => rfl)) (dg_tup (by rfl) (dgs_cons (dg_name (pg_name (i := 7) nd (by rfl) (by first | exact Or.inl rfl | exact Or.inr rfl))) (dgs_cons (dg_name (pg_name (i := 4) nd (by rfl) (by first | exact Or.inl rfl | exact Or.inr rfl))) dgs_nil)))) (dss_cons (ds_append flatE (pv 5) (de_name (pv 7))) dss_nil))) (dss_one (ds_ret flatE (de_tup (da_cons (de_t1 c_tuple (by rfl) n_tuple (by decide +kernel) (db_if (dt_cmp (od_eq hr.units) (db_name (pv 2)) (DE.b de_str) (nomark _)) (db_name (pv 5)) (DF.b (df_revL (db_name (pv 5)))))) (da_cons (de_name (pv 4)) da_nil))))))))
def F__law_walked : List PyData → R PyData := fun ds => runB N__law_walked.length (g__law_walked) ds
def N__law_corridor : List Str := ["source", "many", "most", "some", "turn"]
theorem sc__law_corridor : FnScope N__law_corridor ["source", "many", "most"] (defScope (top 43)) := ⟨rfl, rfl, rfl, by decide +kernel, rfl, by decide +kernel, by decide +kernel⟩
def g__law_corridor (F__law_choice F__law_draw : List PyData → R PyData) : Rho → R Fl := (fSeq (setE 3 (fun ρ => (getS ρ 0).bind fun _ => ((fun ρ => ((fun ρ => ((fun ρ => ((fC1 gRange (fun ρ => getV ρ 1)) ρ).bind fun d => ((fun ρ => ((fC1 gRange (fun ρ => getV ρ 1)) ρ).bind fun d => ((fun ρ => ((fun ρ => ((fun ρ => ((fC (.int 0)) ρ).bind fun d => ((fun ρ => ((fC (.int 0)) ρ).bind fun d => ((fun ρ => ((fC (.int 0)) ρ).bind fun d => ((fun ρ => ((fC (.int 0)) ρ).bind fun d => ((fun ρ => ((fBin gSub (fun ρ => getV ρ 1) (fC (.int 1))) ρ).bind fun d => ((fun _ => R.ok []) ρ).bind fun ds => R.ok (d :: ds)) ρ).bind fun ds => R.ok (d :: ds)) ρ).bind fun ds => R.ok (d :: ds)) ρ).bind fun ds => R.ok (d :: ds)) ρ).bind fun ds => R.ok (d :: ds)) ρ).bind mkLst) ρ).bind fun d => ((fun ρ => ((fBin gCat (fBin gRep (fun ρ => ((fun ρ => ((fBin gSub (fun ρ => getV ρ 1) (fC (.int 1))) ρ).bind fun d => ((fun _ => R.ok []) ρ).bind fun ds => R.ok (d :: ds)) ρ).bind mkLst) (fC (.int 4))) (fun ρ => ((fun ρ => ((fC (.int 0)) ρ).bind fun d => ((fun _ => R.ok []) ρ).bind fun ds => R.ok (d :: ds)) ρ).bind mkLst)) ρ).bind fun d => ((fun _ => R.ok []) ρ).bind fun ds => R.ok (d :: ds)) ρ).bind fun ds => R.ok (d :: ds)) ρ).bind fun ds => R.ok (d :: ds)) ρ).bind fun ds => R.ok (d :: ds)) ρ).bind mkLst) ρ).bind fun d => ((fun _ => R.ok []) ρ).bind fun ds => R.ok (d :: ds)) ρ).bind (chkN 2 F__law_choice))) (retE (fC1 gTuple (fComp [4] (fun ρ => ((fun ρ => (getS ρ 0).bind fun _ => ((fun ρ => ((fBin gAdd (fun ρ => getV ρ 2) (fC (.int 1))) ρ).bind fun d => ((fun _ => R.ok []) ρ).bind fun ds => R.ok (d :: ds)) ρ).bind (chkN 2 F__law_draw)) ρ).bind rgOf) (tg1 4) (fun _ => R.ok true) (fun ρ => (getS ρ 0).bind fun _ => ((fun ρ => ((fun ρ => getV ρ 3) ρ).bind fun d => ((fun _ => R.ok []) ρ).bind fun ds => R.ok (d :: ds)) ρ).bind (chkN 2 F__law_choice))))))
theorem b__law_corridor {P : Program} {w : World} {K : PySem.W.Frag} {mg : Str → Option Value} {base : Heap} {ec : EC} {f : Addr} {F__law_choice F__law_draw : List PyData → R PyData} (G__law_choice : FnN P w K mg base ec 2 2 "_law_choice" F__law_choice) (G__law_draw : FnN P w K mg base ec 1 2 "_law_draw" F__law_draw) (n_list : mg "list" = none) (n_range : mg "range" = none) (n_tuple : mg "tuple" = none) (kl : NoList K) : BodyOk P w K mg base ec "_law_corridor" (top 43) f N__law_corridor 2 (g__law_corridor F__law_choice F__law_draw) := by
  intro cdv A outer s H E hr hp tk
  have nd := sc__law_corridor.nd
  exact (dss_cons (ds_asg flatE nd (by rfl) (by first | exact Or.inl rfl | exact Or.inr rfl) (de_callN G__law_choice (hr.mono (by decide)) hp (by rfl) (pv 0) (da_cons (DF.toE (df_lst (da_cons (DF.toE (df_range (by rfl) (by rfl) n_list (by rfl) n_range (db_name (pv 1)))) (da_cons (DF.toE (df_range (by rfl) (by rfl) n_list (by rfl) n_range (db_name (pv 1)))) (da_cons (DF.toE (df_lst (da_cons de_int (da_cons de_int (da_cons de_int (da_cons de_int (da_cons (de_bin od_sub (db_name (pv 1)) (DE.b de_int)) da_nil))))))) (da_cons (DF.toE (df_bin (of_cat kl) (DF.b (df_bin (of_rep kl) (DF.b (df_lst (da_cons (de_bin od_sub (db_name (pv 1)) (DE.b de_int)) da_nil))) (DE.b de_int))) (DF.b (df_lst (da_cons de_int da_nil))))) da_nil)))))) da_nil))) (dss_one (ds_ret flatE (de_t1 c_tuple (by rfl) n_tuple (by decide +kernel) (DF.b (df_comp (own := [("turn", 4)]) (by rfl) nd (DI.j (di_range (by rfl) n_range (DE.b (de_callN G__law_draw (hr.mono (by decide)) hp (by rfl) (pv 0) (da_cons (de_bin od_add (db_name (pv 2)) (DE.b de_int)) da_nil))))) (blkOk_by (N := N__law_corridor) (sc := defScope (top 43)) (own := [("turn", 4)]) (by decide +kernel)) ⟨_, fun _ _ _ _ _ => pg_name (i := 4) nd (by rfl) (by first | exact Or.inl rfl | exact Or.inr rfl), dgo_name 4⟩ (fun _ _ _ _ _ => dts_nil) (fun _ _ _ _ _ => (de_callN G__law_choice (hr.mono (by decide)) passE0 (by rfl) (pv 0) (da_cons (de_name (pv 3)) da_nil)))))))))
def F__law_corridor : List PyData → R PyData := fun ds => runN N__law_corridor.length (g__law_corridor F__law_choice F__law_draw) ds
def N__law_refused : List Str := ["script_so", "value", "words", "call"]
theorem sc__law_refused : FnScope N__law_refused ["script_so", "value"] (defScope (top 44)) := ⟨rfl, rfl, rfl, by decide +kernel, rfl, by decide +kernel, by decide +kernel⟩
def l__law_refused_1 (F_run F_stages F_notes : List PyData → R PyData) : Rho → R Fl := (fSeq (fTryE (callF ([("run", 2, F_run), ("stages", 2, F_stages), ("notes", 2, F_notes)] : FTab) 3 (fun ρ => ((fun ρ => getV ρ 0) ρ).bind fun d => ((fun ρ => ((fun ρ => getV ρ 1) ρ).bind fun d => ((fun _ => R.ok []) ρ).bind fun ds => R.ok (d :: ds)) ρ).bind fun ds => R.ok (d :: ds))) (fun c y ρ => if c = 1 then (fSeq (appE 2 (fC (.str "corridor"))) (fun ρ => R.ok (.nx ρ))) ρ else (fun c y _ => R.exc c y) c y ρ)) (fun ρ => R.ok (.nx ρ)))
def g__law_refused (F_run F_stages F_notes : List PyData → R PyData) : Rho → R Fl := (fSeq (setE 2 (fun ρ => ((fun _ => R.ok []) ρ).bind mkLst)) (fSeq (forN 3 (l__law_refused_1 F_run F_stages F_notes) ["run", "stages", "notes"]) (retE (fBin gEq (fun ρ => getV ρ 2) (fBin gRep (fun ρ => ((fun ρ => ((fC (.str "corridor")) ρ).bind fun d => ((fun _ => R.ok []) ρ).bind fun ds => R.ok (d :: ds)) ρ).bind mkLst) (fC (.int 3)))))))
theorem b__law_refused {P : Program} {w : World} {K : PySem.W.Frag} {mg : Str → Option Value} {base : Heap} {ec : EC} {f : Addr} {F_run F_stages F_notes : List PyData → R PyData} (G_run : FnD P w K mg base ec 10 2 "run" F_run) (G_stages : FnD P w K mg base ec 10 2 "stages" F_stages) (G_notes : FnD P w K mg base ec 10 2 "notes" F_notes) (a_notes : mg "notes" = some (.ref (He.ga K "notes"))) (a_run : mg "run" = some (.ref (He.ga K "run"))) (a_stages : mg "stages" = some (.ref (He.ga K "stages"))) (m_InvalidCorridor : mg "InvalidCorridor" = some (.ref (He.ga K "InvalidCorridor"))) (h_InvalidCorridor : ∀ c, PySem.W.exmOne K (ec.cls c) (.ref (He.ga K "InvalidCorridor")) = some (decide (c = 1))) (kl : NoList K) : BodyOk P w K mg base ec "_law_refused" (top 44) f N__law_refused 10 (g__law_refused F_run F_stages F_notes) := by
  intro cdv A outer s H E hr hp tk
  have nd := sc__law_refused.nd
  exact (dss_cons (ds_own flatE nd (by rfl) (by first | exact Or.inl rfl | exact Or.inr rfl) (df_lst da_nil) (fun σ h => by rw [h]; exact (by decide : 2 < N__law_refused.length))) (dss_cons (ds_forN flatE (passes_of rfl) (by rfl) (dn_cons (by rfl) a_run (dn_cons (by rfl) a_stages (dn_cons (by rfl) a_notes dn_nil))) (by show _ ≤ 2 ^ 24; decide) (pg_name (i := 3) nd (by rfl) (by first | exact Or.inl rfl | exact Or.inr rfl)) (dss_cons (ds_tryE rfl rfl tk (fun W pn xe tk2 pw => (de_callF (k := 10) (T := [("run", 2, F_run), ("stages", 2, F_stages), ("notes", 2, F_notes)]) (fun q hq => by simp only [List.mem_cons, List.not_mem_nil, or_false] at hq; rcases hq with rfl | rfl | rfl; exact ⟨G_run.mono (by decide), a_run⟩; exact ⟨G_stages.mono (by decide), a_stages⟩; exact ⟨G_notes.mono (by decide), a_notes⟩) (hr.mono (by decide)) (fun σ => passAt tk2 σ) (by rfl) (by first | exact Or.inl rfl | exact Or.inr (Or.inl rfl)) (da_cons (de_name (pv 0)) (da_cons (de_name (pv 1)) da_nil)))) (dhs_cons (hc := ⟨by rfl, by decide, .inl m_InvalidCorridor⟩) h_InvalidCorridor (fun _ _ => (dss_cons (ds_append flatE (pv 2) de_str) dss_nil)) dhs_nil)) dss_nil)) (dss_one (ds_ret flatE (de_cmp (od_eq hr.units) (db_name (pv 2)) (DF.b (df_bin (of_rep kl) (DF.b (df_lst (da_cons de_str da_nil))) (DE.b de_int))) (nomark _))))))
def F__law_refused : List PyData → R PyData := fun ds => runB N__law_refused.length (g__law_refused F_run F_stages F_notes) ds
def N_law : List Str := ["script", "k", "near", "twice", "source", "rule", "turn", "odd", "word", "rows", "there", "walk", "row"]
theorem sc_law : FnScope N_law ["script"] (defScope (top 45)) := ⟨rfl, rfl, rfl, by decide +kernel, rfl, by decide +kernel, by decide +kernel⟩
def l_law_1 (F__law_source F__law_script F__law_corridor F__law_choice F__law_walks F__law_walked F_run F_stages F_notes F__law_refused : List PyData → R PyData) : Rho → R Fl := (setE 5 (fun ρ => (getS ρ 4).bind fun _ => ((fun ρ => ((fC (.int 6)) ρ).bind fun d => ((fun ρ => ((fC (.int 16)) ρ).bind fun d => ((fun _ => R.ok []) ρ).bind fun ds => R.ok (d :: ds)) ρ).bind fun ds => R.ok (d :: ds)) ρ).bind (chkN 3 F__law_script)))
def l_law_2 (F__law_source F__law_script F__law_corridor F__law_choice F__law_walks F__law_walked F_run F_stages F_notes F__law_refused : List PyData → R PyData) : Rho → R Fl := (setE 8 (fun ρ => (getS ρ 4).bind fun _ => ((fun ρ => ((fBin gIx (fun ρ => getV ρ 5) (fC (.int 0))) ρ).bind fun d => ((fun ρ => ((fun ρ => (getS ρ 4).bind fun _ => ((fun ρ => ((fun ρ => ((fun ρ => ((fC (.int 3)) ρ).bind fun d => ((fun ρ => ((fC (.int 12)) ρ).bind fun d => ((fun ρ => ((fC (.int 60)) ρ).bind fun d => ((fun _ => R.ok []) ρ).bind fun ds => R.ok (d :: ds)) ρ).bind fun ds => R.ok (d :: ds)) ρ).bind fun ds => R.ok (d :: ds)) ρ).bind mkLst) ρ).bind fun d => ((fun _ => R.ok []) ρ).bind fun ds => R.ok (d :: ds)) ρ).bind (chkN 2 F__law_choice)) ρ).bind fun d => ((fun _ => R.ok []) ρ).bind fun ds => R.ok (d :: ds)) ρ).bind fun ds => R.ok (d :: ds)) ρ).bind (chkN 3 F__law_corridor)))
def l_law_3 (F__law_source F__law_script F__law_corridor F__law_choice F__law_walks F__law_walked F_run F_stages F_notes F__law_refused : List PyData → R PyData) : Rho → R Fl := (parM [9, 10] (fun ρ => ((fun ρ => ((fun _ => R.ok []) ρ).bind mkLst) ρ).bind fun a => ((fun ρ => ((fun ρ => getV ρ 8) ρ).bind fun d => ((fun _ => R.ok []) ρ).bind fun xs => R.ok (SV.d d :: xs)) ρ).bind fun xs => R.ok (SV.d a :: xs)))
def l_law_4 (F__law_source F__law_script F__law_corridor F__law_choice F__law_walks F__law_walked F_run F_stages F_notes F__law_refused : List PyData → R PyData) : Rho → R Fl := (appE 9 (fun ρ => ((fun ρ => ((fun ρ => getV ρ 11) ρ).bind fun d => ((fun ρ => ((fun ρ => getV ρ 10) ρ).bind fun d => ((fun _ => R.ok []) ρ).bind fun ds => R.ok (d :: ds)) ρ).bind fun ds => R.ok (d :: ds)) ρ).bind (chk 2 F__law_walked)))
def l_law_5 (F__law_source F__law_script F__law_corridor F__law_choice F__law_walks F__law_walked F_run F_stages F_notes F__law_refused : List PyData → R PyData) : Rho → R Fl := (setE 10 (fBin gIx (fBin gIx (fun ρ => getV ρ 9) (fun ρ => ((fC (.int 1)) ρ).bind gNeg)) (fC (.int 0))))
def l_law_6 (F__law_source F__law_script F__law_corridor F__law_choice F__law_walks F__law_walked F_run F_stages F_notes F__law_refused : List PyData → R PyData) : Rho → R Fl := (fSeq (l_law_4 F__law_source F__law_script F__law_corridor F__law_choice F__law_walks F__law_walked F_run F_stages F_notes F__law_refused) (fSeq (l_law_5 F__law_source F__law_script F__law_corridor F__law_choice F__law_walks F__law_walked F_run F_stages F_notes F__law_refused) (fun ρ => R.ok (.nx ρ))))
def l_law_7 (F__law_source F__law_script F__law_corridor F__law_choice F__law_walks F__law_walked F_run F_stages F_notes F__law_refused : List PyData → R PyData) : Rho → R Fl := (fFor (fun ρ => ((fun ρ => ((fun ρ => ((fun ρ => getV ρ 5) ρ).bind fun d => ((fun _ => R.ok []) ρ).bind fun ds => R.ok (d :: ds)) ρ).bind (chk 1 F__law_walks)) ρ).bind seqOf) (tg1 11) (l_law_6 F__law_source F__law_script F__law_corridor F__law_choice F__law_walks F__law_walked F_run F_stages F_notes F__law_refused))
def l_law_8 (F__law_source F__law_script F__law_corridor F__law_choice F__law_walks F__law_walked F_run F_stages F_notes F__law_refused : List PyData → R PyData) : Rho → R Fl := (fun ρ => ((fun ρ => ((fun ρ => (fBin gNe (fun ρ => ((fun ρ => ((fun ρ => getV ρ 5) ρ).bind fun d => ((fun ρ => ((fun ρ => getV ρ 8) ρ).bind fun d => ((fun _ => R.ok []) ρ).bind fun ds => R.ok (d :: ds)) ρ).bind fun ds => R.ok (d :: ds)) ρ).bind (chk 2 F_run)) (fun ρ => getV ρ 10) ρ).bind tr) ρ).bind fun k => if k = true then R.ok true else (fun ρ => (fBin gNe (fun ρ => ((fun ρ => ((fun ρ => getV ρ 5) ρ).bind fun d => ((fun ρ => ((fun ρ => getV ρ 8) ρ).bind fun d => ((fun _ => R.ok []) ρ).bind fun ds => R.ok (d :: ds)) ρ).bind fun ds => R.ok (d :: ds)) ρ).bind (chk 2 F_stages)) (fComp [12] (fun ρ => ((fun ρ => getV ρ 9) ρ).bind seqOf) (tg1 12) (fun _ => R.ok true) (fBin gIx (fun ρ => getV ρ 12) (fC (.int 0)))) ρ).bind tr) ρ) ρ).bind fun k => if k = true then (retE (fC (.bool false))) ρ else (fun ρ => R.ok (.nx ρ)) ρ)
def l_law_9 (F__law_source F__law_script F__law_corridor F__law_choice F__law_walks F__law_walked F_run F_stages F_notes F__law_refused : List PyData → R PyData) : Rho → R Fl := (fun ρ => ((fun ρ => (fBin gNe (fun ρ => ((fun ρ => ((fun ρ => getV ρ 5) ρ).bind fun d => ((fun ρ => ((fun ρ => getV ρ 8) ρ).bind fun d => ((fun _ => R.ok []) ρ).bind fun ds => R.ok (d :: ds)) ρ).bind fun ds => R.ok (d :: ds)) ρ).bind (chk 2 F_notes)) (fComp [12] (fun ρ => ((fun ρ => getV ρ 9) ρ).bind seqOf) (tg1 12) (fun _ => R.ok true) (fBin gIx (fun ρ => getV ρ 12) (fC (.int 1)))) ρ).bind tr) ρ).bind fun k => if k = true then (retE (fC (.bool false))) ρ else (fun ρ => R.ok (.nx ρ)) ρ)
def l_law_10 (F__law_source F__law_script F__law_corridor F__law_choice F__law_walks F__law_walked F_run F_stages F_notes F__law_refused : List PyData → R PyData) : Rho → R Fl := (fSeq (l_law_2 F__law_source F__law_script F__law_corridor F__law_choice F__law_walks F__law_walked F_run F_stages F_notes F__law_refused) (fSeq (l_law_3 F__law_source F__law_script F__law_corridor F__law_choice F__law_walks F__law_walked F_run F_stages F_notes F__law_refused) (fSeq (l_law_7 F__law_source F__law_script F__law_corridor F__law_choice F__law_walks F__law_walked F_run F_stages F_notes F__law_refused) (fSeq (l_law_8 F__law_source F__law_script F__law_corridor F__law_choice F__law_walks F__law_walked F_run F_stages F_notes F__law_refused) (fSeq (l_law_9 F__law_source F__law_script F__law_corridor F__law_choice F__law_walks F__law_walked F_run F_stages F_notes F__law_refused) (fun ρ => R.ok (.nx ρ)))))))
def l_law_11 (F__law_source F__law_script F__law_corridor F__law_choice F__law_walks F__law_walked F_run F_stages F_notes F__law_refused : List PyData → R PyData) : Rho → R Fl := (fun ρ => ((fun ρ => ((fun ρ => ((fun ρ => ((fun ρ => ((fun ρ => getV ρ 5) ρ).bind fun d => ((fun ρ => ((fun ρ => getV ρ 7) ρ).bind fun d => ((fun _ => R.ok []) ρ).bind fun ds => R.ok (d :: ds)) ρ).bind fun ds => R.ok (d :: ds)) ρ).bind (chk 2 F__law_refused)) ρ).bind tru) ρ).bind fun b => R.ok (!b)) ρ).bind fun k => if k = true then (retE (fC (.bool false))) ρ else (fun ρ => R.ok (.nx ρ)) ρ)
def l_law_12 (F__law_source F__law_script F__law_corridor F__law_choice F__law_walks F__law_walked F_run F_stages F_notes F__law_refused : List PyData → R PyData) : Rho → R Fl := (fSeq (l_law_11 F__law_source F__law_script F__law_corridor F__law_choice F__law_walks F__law_walked F_run F_stages F_notes F__law_refused) (fun ρ => R.ok (.nx ρ)))
def l_law_13 (F__law_source F__law_script F__law_corridor F__law_choice F__law_walks F__law_walked F_run F_stages F_notes F__law_refused : List PyData → R PyData) : Rho → R Fl := (fFor (fun ρ => ((fun ρ => ((fun ρ => ((fC .none) ρ).bind fun d => ((fun ρ => ((fun ρ => ((fun _ => R.ok []) ρ).bind mkLst) ρ).bind fun d => ((fun ρ => ((fun ρ => ((fun ρ => ((fBin gIx (fun ρ => getV ρ 5) (fC (.int 0))) ρ).bind fun d => ((fun _ => R.ok []) ρ).bind fun ds => R.ok (d :: ds)) ρ).bind mkTup) ρ).bind fun d => ((fun ρ => ((fun ρ => ((fun ρ => ((fC (.int 0)) ρ).bind fun d => ((fun ρ => ((fC (.bool true)) ρ).bind fun d => ((fun _ => R.ok []) ρ).bind fun ds => R.ok (d :: ds)) ρ).bind fun ds => R.ok (d :: ds)) ρ).bind mkTup) ρ).bind fun d => ((fun ρ => ((fC (.str "01")) ρ).bind fun d => ((fun ρ => ((fBin gMul (fun ρ => ((fun ρ => ((fC (.int 0)) ρ).bind fun d => ((fun _ => R.ok []) ρ).bind fun ds => R.ok (d :: ds)) ρ).bind mkTup) (fC (.int 61))) ρ).bind fun d => ((fun ρ => ((fun ρ => ((fun ρ => ((fun ρ => ((fC (.int 1)) ρ).bind gNeg) ρ).bind fun d => ((fun _ => R.ok []) ρ).bind fun ds => R.ok (d :: ds)) ρ).bind mkTup) ρ).bind fun d => ((fun _ => R.ok []) ρ).bind fun ds => R.ok (d :: ds)) ρ).bind fun ds => R.ok (d :: ds)) ρ).bind fun ds => R.ok (d :: ds)) ρ).bind fun ds => R.ok (d :: ds)) ρ).bind fun ds => R.ok (d :: ds)) ρ).bind fun ds => R.ok (d :: ds)) ρ).bind fun ds => R.ok (d :: ds)) ρ).bind mkLst) ρ).bind seqOf) (tg1 7) (l_law_12 F__law_source F__law_script F__law_corridor F__law_choice F__law_walks F__law_walked F_run F_stages F_notes F__law_refused))
def l_law_14 (F__law_source F__law_script F__law_corridor F__law_choice F__law_walks F__law_walked F_run F_stages F_notes F__law_refused : List PyData → R PyData) : Rho → R Fl := (fSrc 4 (fun ρ => ((fun ρ => ((fun ρ => getV ρ 0) ρ).bind fun d => ((fun ρ => ((fun ρ => getV ρ 1) ρ).bind fun d => ((fun _ => R.ok []) ρ).bind fun ds => R.ok (d :: ds)) ρ).bind fun ds => R.ok (d :: ds)) ρ).bind (chk 2 F__law_source)) (fSeq (l_law_1 F__law_source F__law_script F__law_corridor F__law_choice F__law_walks F__law_walked F_run F_stages F_notes F__law_refused) (fSeq (fFor (fun ρ => ((fC (.int 8)) ρ).bind rgOf) (tg1 6) (l_law_10 F__law_source F__law_script F__law_corridor F__law_choice F__law_walks F__law_walked F_run F_stages F_notes F__law_refused)) (fSeq (l_law_13 F__law_source F__law_script F__law_corridor F__law_choice F__law_walks F__law_walked F_run F_stages F_notes F__law_refused) (fun ρ => R.ok (.nx ρ))))))
def l_law_15 (F__law_source F__law_script F__law_corridor F__law_choice F__law_walks F__law_walked F_run F_stages F_notes F__law_refused : List PyData → R PyData) : Rho → R Fl := (fFor (fun ρ => ((fBin gAdd (fC (.int 1)) (fBin gMin (fC1 gLen (fun ρ => getV ρ 0)) (fC (.int 10)))) ρ).bind rgOf) (tg1 1) (l_law_14 F__law_source F__law_script F__law_corridor F__law_choice F__law_walks F__law_walked F_run F_stages F_notes F__law_refused))
def l_law_16 (F__law_source F__law_script F__law_corridor F__law_choice F__law_walks F__law_walked F_run F_stages F_notes F__law_refused : List PyData → R PyData) : Rho → R Fl := (setE 2 (fun ρ => ((fun ρ => ((fC (.int 3)) ρ).bind fun d => ((fun ρ => ((fun ρ => ((fun ρ => ((fun ρ => ((fun ρ => ((fC (.str "behind")) ρ).bind fun d => ((fun ρ => ((fC (.str "left")) ρ).bind fun d => ((fun ρ => ((fC (.int 1)) ρ).bind fun d => ((fun ρ => ((fC (.int 1)) ρ).bind fun d => ((fun ρ => ((fC (.int 0)) ρ).bind fun d => ((fun _ => R.ok []) ρ).bind fun ds => R.ok (d :: ds)) ρ).bind fun ds => R.ok (d :: ds)) ρ).bind fun ds => R.ok (d :: ds)) ρ).bind fun ds => R.ok (d :: ds)) ρ).bind fun ds => R.ok (d :: ds)) ρ).bind mkTup) ρ).bind fun d => ((fun _ => R.ok []) ρ).bind fun ds => R.ok (d :: ds)) ρ).bind mkTup) ρ).bind fun d => ((fun _ => R.ok []) ρ).bind fun ds => R.ok (d :: ds)) ρ).bind fun ds => R.ok (d :: ds)) ρ).bind mkTup))
def l_law_17 (F__law_source F__law_script F__law_corridor F__law_choice F__law_walks F__law_walked F_run F_stages F_notes F__law_refused : List PyData → R PyData) : Rho → R Fl := (fun ρ => ((fun ρ => (fBin gNe (fun ρ => ((fun ρ => ((fun ρ => getV ρ 2) ρ).bind fun d => ((fun ρ => ((fun ρ => ((fun ρ => ((fC (.int 1)) ρ).bind fun d => ((fun ρ => ((fC (.int 1)) ρ).bind fun d => ((fun ρ => ((fC (.int 1)) ρ).bind fun d => ((fun ρ => ((fC (.int 2)) ρ).bind fun d => ((fun ρ => ((fC (.int 1)) ρ).bind fun d => ((fun _ => R.ok []) ρ).bind fun ds => R.ok (d :: ds)) ρ).bind fun ds => R.ok (d :: ds)) ρ).bind fun ds => R.ok (d :: ds)) ρ).bind fun ds => R.ok (d :: ds)) ρ).bind fun ds => R.ok (d :: ds)) ρ).bind mkTup) ρ).bind fun d => ((fun _ => R.ok []) ρ).bind fun ds => R.ok (d :: ds)) ρ).bind fun ds => R.ok (d :: ds)) ρ).bind (chk 2 F_run)) (fun ρ => ((fun ρ => ((fC (.int 1)) ρ).bind fun d => ((fun ρ => ((fC (.int 0)) ρ).bind fun d => ((fun ρ => ((fC (.int 0)) ρ).bind fun d => ((fun ρ => ((fC (.int 2)) ρ).bind fun d => ((fun ρ => ((fC (.int 1)) ρ).bind fun d => ((fun _ => R.ok []) ρ).bind fun ds => R.ok (d :: ds)) ρ).bind fun ds => R.ok (d :: ds)) ρ).bind fun ds => R.ok (d :: ds)) ρ).bind fun ds => R.ok (d :: ds)) ρ).bind fun ds => R.ok (d :: ds)) ρ).bind mkTup) ρ).bind tr) ρ).bind fun k => if k = true then (retE (fC (.bool false))) ρ else (fun ρ => R.ok (.nx ρ)) ρ)
def l_law_18 (F__law_source F__law_script F__law_corridor F__law_choice F__law_walks F__law_walked F_run F_stages F_notes F__law_refused : List PyData → R PyData) : Rho → R Fl := (fun ρ => ((fun ρ => (fBin gNe (fun ρ => ((fun ρ => ((fun ρ => ((fun ρ => ((fC (.int 3)) ρ).bind fun d => ((fun ρ => ((fun ρ => ((fun ρ => ((fun ρ => ((fun ρ => ((fC (.str "until")) ρ).bind fun d => ((fun ρ => ((fC (.str "right")) ρ).bind fun d => ((fun ρ => ((fC (.int 2)) ρ).bind fun d => ((fun ρ => ((fC (.int 2)) ρ).bind fun d => ((fun ρ => ((fC (.int 0)) ρ).bind fun d => ((fun _ => R.ok []) ρ).bind fun ds => R.ok (d :: ds)) ρ).bind fun ds => R.ok (d :: ds)) ρ).bind fun ds => R.ok (d :: ds)) ρ).bind fun ds => R.ok (d :: ds)) ρ).bind fun ds => R.ok (d :: ds)) ρ).bind mkTup) ρ).bind fun d => ((fun _ => R.ok []) ρ).bind fun ds => R.ok (d :: ds)) ρ).bind mkTup) ρ).bind fun d => ((fun _ => R.ok []) ρ).bind fun ds => R.ok (d :: ds)) ρ).bind fun ds => R.ok (d :: ds)) ρ).bind mkTup) ρ).bind fun d => ((fun ρ => ((fun ρ => ((fun ρ => ((fC (.int 2)) ρ).bind fun d => ((fun ρ => ((fC (.int 0)) ρ).bind fun d => ((fun ρ => ((fC (.int 2)) ρ).bind fun d => ((fun _ => R.ok []) ρ).bind fun ds => R.ok (d :: ds)) ρ).bind fun ds => R.ok (d :: ds)) ρ).bind fun ds => R.ok (d :: ds)) ρ).bind mkTup) ρ).bind fun d => ((fun _ => R.ok []) ρ).bind fun ds => R.ok (d :: ds)) ρ).bind fun ds => R.ok (d :: ds)) ρ).bind (chk 2 F_run)) (fun ρ => ((fun ρ => ((fC (.int 2)) ρ).bind fun d => ((fun ρ => ((fC (.int 0)) ρ).bind fun d => ((fun ρ => ((fC (.int 2)) ρ).bind fun d => ((fun _ => R.ok []) ρ).bind fun ds => R.ok (d :: ds)) ρ).bind fun ds => R.ok (d :: ds)) ρ).bind fun ds => R.ok (d :: ds)) ρ).bind mkTup) ρ).bind tr) ρ).bind fun k => if k = true then (retE (fC (.bool false))) ρ else (fun ρ => R.ok (.nx ρ)) ρ)
def l_law_19 (F__law_source F__law_script F__law_corridor F__law_choice F__law_walks F__law_walked F_run F_stages F_notes F__law_refused : List PyData → R PyData) : Rho → R Fl := (setE 3 (fun ρ => ((fun ρ => ((fC (.int 2)) ρ).bind fun d => ((fun ρ => ((fun ρ => ((fun ρ => ((fun ρ => ((fun ρ => ((fC (.str "again")) ρ).bind fun d => ((fun ρ => ((fC (.int 2)) ρ).bind fun d => ((fun ρ => ((fun ρ => ((fun ρ => ((fun ρ => ((fun ρ => ((fC (.str "first")) ρ).bind fun d => ((fun ρ => ((fC (.str "right")) ρ).bind fun d => ((fun ρ => ((fC (.int 0)) ρ).bind fun d => ((fun ρ => ((fC (.int 1)) ρ).bind fun d => ((fun _ => R.ok []) ρ).bind fun ds => R.ok (d :: ds)) ρ).bind fun ds => R.ok (d :: ds)) ρ).bind fun ds => R.ok (d :: ds)) ρ).bind fun ds => R.ok (d :: ds)) ρ).bind mkTup) ρ).bind fun d => ((fun _ => R.ok []) ρ).bind fun ds => R.ok (d :: ds)) ρ).bind mkTup) ρ).bind fun d => ((fun _ => R.ok []) ρ).bind fun ds => R.ok (d :: ds)) ρ).bind fun ds => R.ok (d :: ds)) ρ).bind fun ds => R.ok (d :: ds)) ρ).bind mkTup) ρ).bind fun d => ((fun ρ => ((fun ρ => ((fun ρ => ((fC (.str "second")) ρ).bind fun d => ((fun ρ => ((fC (.str "left")) ρ).bind fun d => ((fun ρ => ((fC (.int 1)) ρ).bind fun d => ((fun ρ => ((fC (.int 0)) ρ).bind fun d => ((fun _ => R.ok []) ρ).bind fun ds => R.ok (d :: ds)) ρ).bind fun ds => R.ok (d :: ds)) ρ).bind fun ds => R.ok (d :: ds)) ρ).bind fun ds => R.ok (d :: ds)) ρ).bind mkTup) ρ).bind fun d => ((fun _ => R.ok []) ρ).bind fun ds => R.ok (d :: ds)) ρ).bind fun ds => R.ok (d :: ds)) ρ).bind mkTup) ρ).bind fun d => ((fun _ => R.ok []) ρ).bind fun ds => R.ok (d :: ds)) ρ).bind fun ds => R.ok (d :: ds)) ρ).bind mkTup))
def l_law_20 (F__law_source F__law_script F__law_corridor F__law_choice F__law_walks F__law_walked F_run F_stages F_notes F__law_refused : List PyData → R PyData) : Rho → R Fl := (fun ρ => ((fun ρ => ((fun ρ => (fBin gNe (fun ρ => ((fun ρ => ((fun ρ => getV ρ 3) ρ).bind fun d => ((fun ρ => ((fun ρ => ((fun ρ => ((fC (.int 0)) ρ).bind fun d => ((fun ρ => ((fC (.int 0)) ρ).bind fun d => ((fun ρ => ((fC (.int 0)) ρ).bind fun d => ((fun _ => R.ok []) ρ).bind fun ds => R.ok (d :: ds)) ρ).bind fun ds => R.ok (d :: ds)) ρ).bind fun ds => R.ok (d :: ds)) ρ).bind mkTup) ρ).bind fun d => ((fun _ => R.ok []) ρ).bind fun ds => R.ok (d :: ds)) ρ).bind fun ds => R.ok (d :: ds)) ρ).bind (chk 2 F_stages)) (fun ρ => ((fun ρ => ((fun ρ => ((fun ρ => ((fC (.int 0)) ρ).bind fun d => ((fun ρ => ((fC (.int 0)) ρ).bind fun d => ((fun ρ => ((fC (.int 1)) ρ).bind fun d => ((fun _ => R.ok []) ρ).bind fun ds => R.ok (d :: ds)) ρ).bind fun ds => R.ok (d :: ds)) ρ).bind fun ds => R.ok (d :: ds)) ρ).bind mkTup) ρ).bind fun d => ((fun ρ => ((fun ρ => ((fun ρ => ((fC (.int 0)) ρ).bind fun d => ((fun ρ => ((fC (.int 1)) ρ).bind fun d => ((fun ρ => ((fC (.int 1)) ρ).bind fun d => ((fun _ => R.ok []) ρ).bind fun ds => R.ok (d :: ds)) ρ).bind fun ds => R.ok (d :: ds)) ρ).bind fun ds => R.ok (d :: ds)) ρ).bind mkTup) ρ).bind fun d => ((fun ρ => ((fun ρ => ((fun ρ => ((fC (.int 0)) ρ).bind fun d => ((fun ρ => ((fC (.int 1)) ρ).bind fun d => ((fun ρ => ((fC (.int 0)) ρ).bind fun d => ((fun _ => R.ok []) ρ).bind fun ds => R.ok (d :: ds)) ρ).bind fun ds => R.ok (d :: ds)) ρ).bind fun ds => R.ok (d :: ds)) ρ).bind mkTup) ρ).bind fun d => ((fun _ => R.ok []) ρ).bind fun ds => R.ok (d :: ds)) ρ).bind fun ds => R.ok (d :: ds)) ρ).bind fun ds => R.ok (d :: ds)) ρ).bind mkLst) ρ).bind tr) ρ).bind fun k => if k = true then R.ok true else (fun ρ => (fBin gNe (fun ρ => ((fun ρ => ((fun ρ => getV ρ 3) ρ).bind fun d => ((fun ρ => ((fun ρ => ((fun ρ => ((fC (.int 0)) ρ).bind fun d => ((fun ρ => ((fC (.int 0)) ρ).bind fun d => ((fun ρ => ((fC (.int 0)) ρ).bind fun d => ((fun _ => R.ok []) ρ).bind fun ds => R.ok (d :: ds)) ρ).bind fun ds => R.ok (d :: ds)) ρ).bind fun ds => R.ok (d :: ds)) ρ).bind mkTup) ρ).bind fun d => ((fun _ => R.ok []) ρ).bind fun ds => R.ok (d :: ds)) ρ).bind fun ds => R.ok (d :: ds)) ρ).bind (chk 2 F_notes)) (fun ρ => ((fun ρ => ((fC (.int 1)) ρ).bind fun d => ((fun ρ => ((fC (.int 1)) ρ).bind fun d => ((fun ρ => ((fC (.int 0)) ρ).bind fun d => ((fun _ => R.ok []) ρ).bind fun ds => R.ok (d :: ds)) ρ).bind fun ds => R.ok (d :: ds)) ρ).bind fun ds => R.ok (d :: ds)) ρ).bind mkLst) ρ).bind tr) ρ) ρ).bind fun k => if k = true then (retE (fC (.bool false))) ρ else (fun ρ => R.ok (.nx ρ)) ρ)
def l_law_21 (F__law_source F__law_script F__law_corridor F__law_choice F__law_walks F__law_walked F_run F_stages F_notes F__law_refused : List PyData → R PyData) : Rho → R Fl := (retE (fBin gEq (fun ρ => ((fun ρ => ((fun ρ => ((fun ρ => ((fC (.int 2)) ρ).bind fun d => ((fun ρ => ((fun ρ => ((fun ρ => ((fun ρ => ((fun ρ => ((fC (.str "walk")) ρ).bind fun d => ((fun ρ => ((fC (.str "left")) ρ).bind fun d => ((fun ρ => ((fun ρ => ((fun ρ => ((fun ρ => ((fun ρ => ((fun ρ => ((fun ρ => ((fC (.int 0)) ρ).bind fun d => ((fun ρ => ((fC (.int 0)) ρ).bind fun d => ((fun _ => R.ok []) ρ).bind fun ds => R.ok (d :: ds)) ρ).bind fun ds => R.ok (d :: ds)) ρ).bind mkTup) ρ).bind fun d => ((fun ρ => ((fun ρ => ((fun ρ => ((fC (.int 1)) ρ).bind fun d => ((fun ρ => ((fC (.int 1)) ρ).bind fun d => ((fun _ => R.ok []) ρ).bind fun ds => R.ok (d :: ds)) ρ).bind fun ds => R.ok (d :: ds)) ρ).bind mkTup) ρ).bind fun d => ((fun _ => R.ok []) ρ).bind fun ds => R.ok (d :: ds)) ρ).bind fun ds => R.ok (d :: ds)) ρ).bind mkTup) ρ).bind fun d => ((fun ρ => ((fun ρ => ((fun ρ => ((fun ρ => ((fun ρ => ((fC (.int 1)) ρ).bind fun d => ((fun ρ => ((fC (.int 0)) ρ).bind fun d => ((fun _ => R.ok []) ρ).bind fun ds => R.ok (d :: ds)) ρ).bind fun ds => R.ok (d :: ds)) ρ).bind mkTup) ρ).bind fun d => ((fun ρ => ((fun ρ => ((fun ρ => ((fC (.int 0)) ρ).bind fun d => ((fun ρ => ((fC (.int 1)) ρ).bind fun d => ((fun _ => R.ok []) ρ).bind fun ds => R.ok (d :: ds)) ρ).bind fun ds => R.ok (d :: ds)) ρ).bind mkTup) ρ).bind fun d => ((fun _ => R.ok []) ρ).bind fun ds => R.ok (d :: ds)) ρ).bind fun ds => R.ok (d :: ds)) ρ).bind mkTup) ρ).bind fun d => ((fun _ => R.ok []) ρ).bind fun ds => R.ok (d :: ds)) ρ).bind fun ds => R.ok (d :: ds)) ρ).bind mkTup) ρ).bind fun d => ((fun _ => R.ok []) ρ).bind fun ds => R.ok (d :: ds)) ρ).bind fun ds => R.ok (d :: ds)) ρ).bind fun ds => R.ok (d :: ds)) ρ).bind mkTup) ρ).bind fun d => ((fun _ => R.ok []) ρ).bind fun ds => R.ok (d :: ds)) ρ).bind mkTup) ρ).bind fun d => ((fun _ => R.ok []) ρ).bind fun ds => R.ok (d :: ds)) ρ).bind fun ds => R.ok (d :: ds)) ρ).bind mkTup) ρ).bind fun d => ((fun ρ => ((fun ρ => ((fun ρ => ((fC (.int 1)) ρ).bind fun d => ((fun ρ => ((fC (.int 1)) ρ).bind fun d => ((fun ρ => ((fC (.int 0)) ρ).bind fun d => ((fun ρ => ((fC (.int 1)) ρ).bind fun d => ((fun _ => R.ok []) ρ).bind fun ds => R.ok (d :: ds)) ρ).bind fun ds => R.ok (d :: ds)) ρ).bind fun ds => R.ok (d :: ds)) ρ).bind fun ds => R.ok (d :: ds)) ρ).bind mkTup) ρ).bind fun d => ((fun _ => R.ok []) ρ).bind fun ds => R.ok (d :: ds)) ρ).bind fun ds => R.ok (d :: ds)) ρ).bind (chk 2 F_run)) (fun ρ => ((fun ρ => ((fC (.int 1)) ρ).bind fun d => ((fun ρ => ((fC (.int 0)) ρ).bind fun d => ((fun ρ => ((fC (.int 1)) ρ).bind fun d => ((fun ρ => ((fC (.int 1)) ρ).bind fun d => ((fun _ => R.ok []) ρ).bind fun ds => R.ok (d :: ds)) ρ).bind fun ds => R.ok (d :: ds)) ρ).bind fun ds => R.ok (d :: ds)) ρ).bind fun ds => R.ok (d :: ds)) ρ).bind mkTup)))
def g_law (F__law_source F__law_script F__law_corridor F__law_choice F__law_walks F__law_walked F_run F_stages F_notes F__law_refused : List PyData → R PyData) : Rho → R Fl := (fSeq (l_law_15 F__law_source F__law_script F__law_corridor F__law_choice F__law_walks F__law_walked F_run F_stages F_notes F__law_refused) (fSeq (l_law_16 F__law_source F__law_script F__law_corridor F__law_choice F__law_walks F__law_walked F_run F_stages F_notes F__law_refused) (fSeq (l_law_17 F__law_source F__law_script F__law_corridor F__law_choice F__law_walks F__law_walked F_run F_stages F_notes F__law_refused) (fSeq (l_law_18 F__law_source F__law_script F__law_corridor F__law_choice F__law_walks F__law_walked F_run F_stages F_notes F__law_refused) (fSeq (l_law_19 F__law_source F__law_script F__law_corridor F__law_choice F__law_walks F__law_walked F_run F_stages F_notes F__law_refused) (fSeq (l_law_20 F__law_source F__law_script F__law_corridor F__law_choice F__law_walks F__law_walked F_run F_stages F_notes F__law_refused) (l_law_21 F__law_source F__law_script F__law_corridor F__law_choice F__law_walks F__law_walked F_run F_stages F_notes F__law_refused)))))))
theorem b_law {P : Program} {w : World} {K : PySem.W.Frag} {mg : Str → Option Value} {base : Heap} {ec : EC} {f : Addr} {F__law_source F__law_script F__law_corridor F__law_choice F__law_walks F__law_walked F_run F_stages F_notes F__law_refused : List PyData → R PyData} (G__law_source : FnF P w K mg base ec 1 2 "_law_source" F__law_source) (G__law_script : FnN P w K mg base ec 5 3 "_law_script" F__law_script) (G__law_corridor : FnN P w K mg base ec 3 3 "_law_corridor" F__law_corridor) (G__law_choice : FnN P w K mg base ec 2 2 "_law_choice" F__law_choice) (G__law_walks : FnD P w K mg base ec 3 1 "_law_walks" F__law_walks) (G__law_walked : FnD P w K mg base ec 1 2 "_law_walked" F__law_walked) (G_run : FnD P w K mg base ec 10 2 "run" F_run) (G_stages : FnD P w K mg base ec 10 2 "stages" F_stages) (G_notes : FnD P w K mg base ec 10 2 "notes" F_notes) (G__law_refused : FnD P w K mg base ec 11 2 "_law_refused" F__law_refused) (n_len : mg "len" = none) (n_min : mg "min" = none) (n_range : mg "range" = none) : BodyOk P w K mg base ec "law" (top 45) f N_law 11 (g_law F__law_source F__law_script F__law_corridor F__law_choice F__law_walks F__law_walked F_run F_stages F_notes F__law_refused) := by
  intro cdv A outer s H E hr hp tk
  have nd := sc_law.nd
  exact (dss_cons (ds_for flatE (passes_of rfl) (by rfl) (di_range (by rfl) n_range (DE.b (de_bin od_add (DE.b de_int) (DE.b (de_min2 (by rfl) (by rfl) n_min (DE.b (de_b1 c_len (by rfl) n_len (by decide +kernel) (db_name (pv 0)))) (DE.b de_int)))))) (dg_name (pg_name (i := 1) nd (by rfl) (by first | exact Or.inl rfl | exact Or.inr rfl))) (dss_src flatE nd (by rfl) (by first | exact Or.inl rfl | exact Or.inr rfl) (df_call G__law_source (hr.mono (by decide)) hp (by rfl) (da_cons (de_name (pv 0)) (da_cons (de_name (pv 1)) da_nil))) (dss_cons (ds_asg flatE nd (by rfl) (by first | exact Or.inl rfl | exact Or.inr rfl) (de_callN G__law_script (hr.mono (by decide)) hp (by rfl) (pv 4) (da_cons de_int (da_cons de_int da_nil)))) (dss_cons (ds_for flatE (passes_of rfl) (by rfl) (di_range (by rfl) n_range (DE.b de_int)) (dg_name (pg_name (i := 6) nd (by rfl) (by first | exact Or.inl rfl | exact Or.inr rfl))) (dss_cons (ds_asg flatE nd (by rfl) (by first | exact Or.inl rfl | exact Or.inr rfl) (de_callN G__law_corridor (hr.mono (by decide)) hp (by rfl) (pv 4) (da_cons (de_ix (db_name (pv 5)) (DE.b de_int) (fun _ _ => rfl)) (da_cons (de_callN G__law_choice (hr.mono (by decide)) hp (by rfl) (pv 4) (da_cons (DF.toE (df_lst (da_cons de_int (da_cons de_int (da_cons de_int da_nil))))) da_nil)) da_nil)))) (dss_cons (ds_parM2 (fs := [true, false]) flatE (by rfl) nd (by rfl) (by rfl) (dm_f (df_lst da_nil) (dm_d (de_name (pv 8)) dm_nil)) (hlen := (fun σ h => by rw [h]; exact (by decide : 9 < N_law.length ∧ 10 < N_law.length)))) (dss_cons (ds_for flatE (passes_of rfl) (by rfl) (di_seq (de_call G__law_walks (hr.mono (by decide)) hp (by rfl) (da_cons (de_name (pv 5)) da_nil))) (dg_name (pg_name (i := 11) nd (by rfl) (by first | exact Or.inl rfl | exact Or.inr rfl))) (dss_cons (ds_append flatE (pv 9) (de_call G__law_walked (hr.mono (by decide)) hp (by rfl) (da_cons (de_name (pv 11)) (da_cons (de_name (pv 10)) da_nil)))) (dss_cons (ds_asg flatE nd (by rfl) (by first | exact Or.inl rfl | exact Or.inr rfl) (de_ix (DE.b (de_ix (db_name (pv 9)) (DE.b (de_neg (DE.b de_int))) (fun _ _ => rfl))) (DE.b de_int) (fun _ _ => rfl))) dss_nil))) (dss_cons (ds_if (O' := [9]) flatE (DW.t (dw_or (dt_cmp (od_ne hr.units) (DE.b (de_call G_run (hr.mono (by decide)) hp (by rfl) (da_cons (de_name (pv 5)) (da_cons (de_name (pv 8)) da_nil)))) (db_name (pv 10)) (nomark _)) (dw_or1 (dt_cmp (od_ne hr.units) (DE.b (de_call G_stages (hr.mono (by decide)) hp (by rfl) (da_cons (de_name (pv 5)) (da_cons (de_name (pv 8)) da_nil)))) (DF.b (df_comp (own := [("row", 12)]) (by rfl) nd (dj_seq (db_name (pv 9))) (blkOk_by (N := N_law) (sc := defScope (top 45)) (own := [("row", 12)]) (by decide +kernel)) ⟨_, fun _ _ _ _ _ => pg_name (i := 12) nd (by rfl) (by first | exact Or.inl rfl | exact Or.inr rfl), dgo_name 12⟩ (fun _ _ _ _ _ => dts_nil) (fun _ _ _ _ _ => (de_ix (db_name (pv 12)) (DE.b de_int) (fun _ _ => rfl))))) (nomark _))))) (dss_one (ds_ret flatE de_bl)) dss_nil) (dss_cons (ds_if (O' := [9]) flatE (dt_cmp (od_ne hr.units) (DE.b (de_call G_notes (hr.mono (by decide)) hp (by rfl) (da_cons (de_name (pv 5)) (da_cons (de_name (pv 8)) da_nil)))) (DF.b (df_comp (own := [("row", 12)]) (by rfl) nd (dj_seq (db_name (pv 9))) (blkOk_by (N := N_law) (sc := defScope (top 45)) (own := [("row", 12)]) (by decide +kernel)) ⟨_, fun _ _ _ _ _ => pg_name (i := 12) nd (by rfl) (by first | exact Or.inl rfl | exact Or.inr rfl), dgo_name 12⟩ (fun _ _ _ _ _ => dts_nil) (fun _ _ _ _ _ => (de_ix (db_name (pv 12)) (DE.b de_int) (fun _ _ => rfl))))) (nomark _)) (dss_one (ds_ret flatE de_bl)) dss_nil) dss_nil)))))) (dss_cons (ds_for flatE (passes_of rfl) (by rfl) (di_seq (DF.toE (df_lst (da_cons de_non (da_cons (DF.toE (df_lst da_nil)) (da_cons (de_tup (da_cons (de_ix (db_name (pv 5)) (DE.b de_int) (fun _ _ => rfl)) da_nil)) (da_cons (de_tup (da_cons de_int (da_cons de_bl da_nil))) (da_cons de_str (da_cons (de_bin od_mul (DE.b (de_tup (da_cons de_int da_nil))) (DE.b de_int)) (da_cons (de_tup (da_cons (de_neg (DE.b de_int)) da_nil)) da_nil)))))))))) (dg_name (pg_name (i := 7) nd (by rfl) (by first | exact Or.inl rfl | exact Or.inr rfl))) (dss_cons (ds_if (O' := []) flatE (dt_not (dt_of (DE.b (de_call G__law_refused (hr.mono (by decide)) hp (by rfl) (da_cons (de_name (pv 5)) (da_cons (de_name (pv 7)) da_nil)))))) (dss_one (ds_ret flatE de_bl)) dss_nil) dss_nil)) dss_nil))) (fun σ h => by rw [h]; exact (by decide : 4 < N_law.length)))) (dss_cons (ds_asg flatE nd (by rfl) (by first | exact Or.inl rfl | exact Or.inr rfl) (de_tup (da_cons de_int (da_cons (de_tup (da_cons (de_tup (da_cons de_str (da_cons de_str (da_cons de_int (da_cons de_int (da_cons de_int da_nil)))))) da_nil)) da_nil)))) (dss_cons (ds_if (O' := []) flatE (dt_cmp (od_ne hr.units) (DE.b (de_call G_run (hr.mono (by decide)) hp (by rfl) (da_cons (de_name (pv 2)) (da_cons (de_tup (da_cons de_int (da_cons de_int (da_cons de_int (da_cons de_int (da_cons de_int da_nil)))))) da_nil)))) (DE.b (de_tup (da_cons de_int (da_cons de_int (da_cons de_int (da_cons de_int (da_cons de_int da_nil))))))) (nomark _)) (dss_one (ds_ret flatE de_bl)) dss_nil) (dss_cons (ds_if (O' := []) flatE (dt_cmp (od_ne hr.units) (DE.b (de_call G_run (hr.mono (by decide)) hp (by rfl) (da_cons (de_tup (da_cons de_int (da_cons (de_tup (da_cons (de_tup (da_cons de_str (da_cons de_str (da_cons de_int (da_cons de_int (da_cons de_int da_nil)))))) da_nil)) da_nil))) (da_cons (de_tup (da_cons de_int (da_cons de_int (da_cons de_int da_nil)))) da_nil)))) (DE.b (de_tup (da_cons de_int (da_cons de_int (da_cons de_int da_nil))))) (nomark _)) (dss_one (ds_ret flatE de_bl)) dss_nil) (dss_cons (ds_asg flatE nd (by rfl) (by first | exact Or.inl rfl | exact Or.inr rfl) (de_tup (da_cons de_int (da_cons (de_tup (da_cons (de_tup (da_cons de_str (da_cons de_int (da_cons (de_tup (da_cons (de_tup (da_cons de_str (da_cons de_str (da_cons de_int (da_cons de_int da_nil))))) da_nil)) da_nil)))) (da_cons (de_tup (da_cons de_str (da_cons de_str (da_cons de_int (da_cons de_int da_nil))))) da_nil))) da_nil)))) (dss_cons (ds_if (O' := []) flatE (DW.t (dw_or (dt_cmp (od_ne hr.units) (DE.b (de_call G_stages (hr.mono (by decide)) hp (by rfl) (da_cons (de_name (pv 3)) (da_cons (de_tup (da_cons de_int (da_cons de_int (da_cons de_int da_nil)))) da_nil)))) (DF.b (df_lst (da_cons (de_tup (da_cons de_int (da_cons de_int (da_cons de_int da_nil)))) (da_cons (de_tup (da_cons de_int (da_cons de_int (da_cons de_int da_nil)))) (da_cons (de_tup (da_cons de_int (da_cons de_int (da_cons de_int da_nil)))) da_nil))))) (nomark _)) (dw_or1 (dt_cmp (od_ne hr.units) (DE.b (de_call G_notes (hr.mono (by decide)) hp (by rfl) (da_cons (de_name (pv 3)) (da_cons (de_tup (da_cons de_int (da_cons de_int (da_cons de_int da_nil)))) da_nil)))) (DF.b (df_lst (da_cons de_int (da_cons de_int (da_cons de_int da_nil))))) (nomark _))))) (dss_one (ds_ret flatE de_bl)) dss_nil) (dss_one (ds_ret flatE (de_cmp (od_eq hr.units) (DE.b (de_call G_run (hr.mono (by decide)) hp (by rfl) (da_cons (de_tup (da_cons de_int (da_cons (de_tup (da_cons (de_tup (da_cons de_str (da_cons de_str (da_cons (de_tup (da_cons (de_tup (da_cons (de_tup (da_cons de_int (da_cons de_int da_nil))) (da_cons (de_tup (da_cons de_int (da_cons de_int da_nil))) da_nil))) (da_cons (de_tup (da_cons (de_tup (da_cons de_int (da_cons de_int da_nil))) (da_cons (de_tup (da_cons de_int (da_cons de_int da_nil))) da_nil))) da_nil))) da_nil)))) da_nil)) da_nil))) (da_cons (de_tup (da_cons de_int (da_cons de_int (da_cons de_int (da_cons de_int da_nil))))) da_nil)))) (DE.b (de_tup (da_cons de_int (da_cons de_int (da_cons de_int (da_cons de_int da_nil)))))) (nomark _))))))))))
def L_law_1 : Rho → R Fl := (setE 5 (fun ρ => (getS ρ 4).bind fun _ => ((fun ρ => ((fC (.int 6)) ρ).bind fun d => ((fun ρ => ((fC (.int 16)) ρ).bind fun d => ((fun _ => R.ok []) ρ).bind fun ds => R.ok (d :: ds)) ρ).bind fun ds => R.ok (d :: ds)) ρ).bind (chkN 3 F__law_script)))
def L_law_2 : Rho → R Fl := (setE 8 (fun ρ => (getS ρ 4).bind fun _ => ((fun ρ => ((fBin gIx (fun ρ => getV ρ 5) (fC (.int 0))) ρ).bind fun d => ((fun ρ => ((fun ρ => (getS ρ 4).bind fun _ => ((fun ρ => ((fun ρ => ((fun ρ => ((fC (.int 3)) ρ).bind fun d => ((fun ρ => ((fC (.int 12)) ρ).bind fun d => ((fun ρ => ((fC (.int 60)) ρ).bind fun d => ((fun _ => R.ok []) ρ).bind fun ds => R.ok (d :: ds)) ρ).bind fun ds => R.ok (d :: ds)) ρ).bind fun ds => R.ok (d :: ds)) ρ).bind mkLst) ρ).bind fun d => ((fun _ => R.ok []) ρ).bind fun ds => R.ok (d :: ds)) ρ).bind (chkN 2 F__law_choice)) ρ).bind fun d => ((fun _ => R.ok []) ρ).bind fun ds => R.ok (d :: ds)) ρ).bind fun ds => R.ok (d :: ds)) ρ).bind (chkN 3 F__law_corridor)))
def L_law_3 : Rho → R Fl := (parM [9, 10] (fun ρ => ((fun ρ => ((fun _ => R.ok []) ρ).bind mkLst) ρ).bind fun a => ((fun ρ => ((fun ρ => getV ρ 8) ρ).bind fun d => ((fun _ => R.ok []) ρ).bind fun xs => R.ok (SV.d d :: xs)) ρ).bind fun xs => R.ok (SV.d a :: xs)))
def L_law_4 : Rho → R Fl := (appE 9 (fun ρ => ((fun ρ => ((fun ρ => getV ρ 11) ρ).bind fun d => ((fun ρ => ((fun ρ => getV ρ 10) ρ).bind fun d => ((fun _ => R.ok []) ρ).bind fun ds => R.ok (d :: ds)) ρ).bind fun ds => R.ok (d :: ds)) ρ).bind (chk 2 F__law_walked)))
def L_law_5 : Rho → R Fl := (setE 10 (fBin gIx (fBin gIx (fun ρ => getV ρ 9) (fun ρ => ((fC (.int 1)) ρ).bind gNeg)) (fC (.int 0))))
def L_law_6 : Rho → R Fl := (fSeq L_law_4 (fSeq L_law_5 (fun ρ => R.ok (.nx ρ))))
def L_law_7 : Rho → R Fl := (fFor (fun ρ => ((fun ρ => ((fun ρ => ((fun ρ => getV ρ 5) ρ).bind fun d => ((fun _ => R.ok []) ρ).bind fun ds => R.ok (d :: ds)) ρ).bind (chk 1 F__law_walks)) ρ).bind seqOf) (tg1 11) L_law_6)
def L_law_8 : Rho → R Fl := (fun ρ => ((fun ρ => ((fun ρ => (fBin gNe (fun ρ => ((fun ρ => ((fun ρ => getV ρ 5) ρ).bind fun d => ((fun ρ => ((fun ρ => getV ρ 8) ρ).bind fun d => ((fun _ => R.ok []) ρ).bind fun ds => R.ok (d :: ds)) ρ).bind fun ds => R.ok (d :: ds)) ρ).bind (chk 2 F_run)) (fun ρ => getV ρ 10) ρ).bind tr) ρ).bind fun k => if k = true then R.ok true else (fun ρ => (fBin gNe (fun ρ => ((fun ρ => ((fun ρ => getV ρ 5) ρ).bind fun d => ((fun ρ => ((fun ρ => getV ρ 8) ρ).bind fun d => ((fun _ => R.ok []) ρ).bind fun ds => R.ok (d :: ds)) ρ).bind fun ds => R.ok (d :: ds)) ρ).bind (chk 2 F_stages)) (fComp [12] (fun ρ => ((fun ρ => getV ρ 9) ρ).bind seqOf) (tg1 12) (fun _ => R.ok true) (fBin gIx (fun ρ => getV ρ 12) (fC (.int 0)))) ρ).bind tr) ρ) ρ).bind fun k => if k = true then (retE (fC (.bool false))) ρ else (fun ρ => R.ok (.nx ρ)) ρ)
def L_law_9 : Rho → R Fl := (fun ρ => ((fun ρ => (fBin gNe (fun ρ => ((fun ρ => ((fun ρ => getV ρ 5) ρ).bind fun d => ((fun ρ => ((fun ρ => getV ρ 8) ρ).bind fun d => ((fun _ => R.ok []) ρ).bind fun ds => R.ok (d :: ds)) ρ).bind fun ds => R.ok (d :: ds)) ρ).bind (chk 2 F_notes)) (fComp [12] (fun ρ => ((fun ρ => getV ρ 9) ρ).bind seqOf) (tg1 12) (fun _ => R.ok true) (fBin gIx (fun ρ => getV ρ 12) (fC (.int 1)))) ρ).bind tr) ρ).bind fun k => if k = true then (retE (fC (.bool false))) ρ else (fun ρ => R.ok (.nx ρ)) ρ)
def L_law_10 : Rho → R Fl := (fSeq L_law_2 (fSeq L_law_3 (fSeq L_law_7 (fSeq L_law_8 (fSeq L_law_9 (fun ρ => R.ok (.nx ρ)))))))
def L_law_11 : Rho → R Fl := (fun ρ => ((fun ρ => ((fun ρ => ((fun ρ => ((fun ρ => ((fun ρ => getV ρ 5) ρ).bind fun d => ((fun ρ => ((fun ρ => getV ρ 7) ρ).bind fun d => ((fun _ => R.ok []) ρ).bind fun ds => R.ok (d :: ds)) ρ).bind fun ds => R.ok (d :: ds)) ρ).bind (chk 2 F__law_refused)) ρ).bind tru) ρ).bind fun b => R.ok (!b)) ρ).bind fun k => if k = true then (retE (fC (.bool false))) ρ else (fun ρ => R.ok (.nx ρ)) ρ)
def L_law_12 : Rho → R Fl := (fSeq L_law_11 (fun ρ => R.ok (.nx ρ)))
def L_law_13 : Rho → R Fl := (fFor (fun ρ => ((fun ρ => ((fun ρ => ((fC .none) ρ).bind fun d => ((fun ρ => ((fun ρ => ((fun _ => R.ok []) ρ).bind mkLst) ρ).bind fun d => ((fun ρ => ((fun ρ => ((fun ρ => ((fBin gIx (fun ρ => getV ρ 5) (fC (.int 0))) ρ).bind fun d => ((fun _ => R.ok []) ρ).bind fun ds => R.ok (d :: ds)) ρ).bind mkTup) ρ).bind fun d => ((fun ρ => ((fun ρ => ((fun ρ => ((fC (.int 0)) ρ).bind fun d => ((fun ρ => ((fC (.bool true)) ρ).bind fun d => ((fun _ => R.ok []) ρ).bind fun ds => R.ok (d :: ds)) ρ).bind fun ds => R.ok (d :: ds)) ρ).bind mkTup) ρ).bind fun d => ((fun ρ => ((fC (.str "01")) ρ).bind fun d => ((fun ρ => ((fBin gMul (fun ρ => ((fun ρ => ((fC (.int 0)) ρ).bind fun d => ((fun _ => R.ok []) ρ).bind fun ds => R.ok (d :: ds)) ρ).bind mkTup) (fC (.int 61))) ρ).bind fun d => ((fun ρ => ((fun ρ => ((fun ρ => ((fun ρ => ((fC (.int 1)) ρ).bind gNeg) ρ).bind fun d => ((fun _ => R.ok []) ρ).bind fun ds => R.ok (d :: ds)) ρ).bind mkTup) ρ).bind fun d => ((fun _ => R.ok []) ρ).bind fun ds => R.ok (d :: ds)) ρ).bind fun ds => R.ok (d :: ds)) ρ).bind fun ds => R.ok (d :: ds)) ρ).bind fun ds => R.ok (d :: ds)) ρ).bind fun ds => R.ok (d :: ds)) ρ).bind fun ds => R.ok (d :: ds)) ρ).bind fun ds => R.ok (d :: ds)) ρ).bind mkLst) ρ).bind seqOf) (tg1 7) L_law_12)
def L_law_14 : Rho → R Fl := (fSrc 4 (fun ρ => ((fun ρ => ((fun ρ => getV ρ 0) ρ).bind fun d => ((fun ρ => ((fun ρ => getV ρ 1) ρ).bind fun d => ((fun _ => R.ok []) ρ).bind fun ds => R.ok (d :: ds)) ρ).bind fun ds => R.ok (d :: ds)) ρ).bind (chk 2 F__law_source)) (fSeq L_law_1 (fSeq (fFor (fun ρ => ((fC (.int 8)) ρ).bind rgOf) (tg1 6) L_law_10) (fSeq L_law_13 (fun ρ => R.ok (.nx ρ))))))
def L_law_15 : Rho → R Fl := (fFor (fun ρ => ((fBin gAdd (fC (.int 1)) (fBin gMin (fC1 gLen (fun ρ => getV ρ 0)) (fC (.int 10)))) ρ).bind rgOf) (tg1 1) L_law_14)
def L_law_16 : Rho → R Fl := (setE 2 (fun ρ => ((fun ρ => ((fC (.int 3)) ρ).bind fun d => ((fun ρ => ((fun ρ => ((fun ρ => ((fun ρ => ((fun ρ => ((fC (.str "behind")) ρ).bind fun d => ((fun ρ => ((fC (.str "left")) ρ).bind fun d => ((fun ρ => ((fC (.int 1)) ρ).bind fun d => ((fun ρ => ((fC (.int 1)) ρ).bind fun d => ((fun ρ => ((fC (.int 0)) ρ).bind fun d => ((fun _ => R.ok []) ρ).bind fun ds => R.ok (d :: ds)) ρ).bind fun ds => R.ok (d :: ds)) ρ).bind fun ds => R.ok (d :: ds)) ρ).bind fun ds => R.ok (d :: ds)) ρ).bind fun ds => R.ok (d :: ds)) ρ).bind mkTup) ρ).bind fun d => ((fun _ => R.ok []) ρ).bind fun ds => R.ok (d :: ds)) ρ).bind mkTup) ρ).bind fun d => ((fun _ => R.ok []) ρ).bind fun ds => R.ok (d :: ds)) ρ).bind fun ds => R.ok (d :: ds)) ρ).bind mkTup))
def L_law_17 : Rho → R Fl := (fun ρ => ((fun ρ => (fBin gNe (fun ρ => ((fun ρ => ((fun ρ => getV ρ 2) ρ).bind fun d => ((fun ρ => ((fun ρ => ((fun ρ => ((fC (.int 1)) ρ).bind fun d => ((fun ρ => ((fC (.int 1)) ρ).bind fun d => ((fun ρ => ((fC (.int 1)) ρ).bind fun d => ((fun ρ => ((fC (.int 2)) ρ).bind fun d => ((fun ρ => ((fC (.int 1)) ρ).bind fun d => ((fun _ => R.ok []) ρ).bind fun ds => R.ok (d :: ds)) ρ).bind fun ds => R.ok (d :: ds)) ρ).bind fun ds => R.ok (d :: ds)) ρ).bind fun ds => R.ok (d :: ds)) ρ).bind fun ds => R.ok (d :: ds)) ρ).bind mkTup) ρ).bind fun d => ((fun _ => R.ok []) ρ).bind fun ds => R.ok (d :: ds)) ρ).bind fun ds => R.ok (d :: ds)) ρ).bind (chk 2 F_run)) (fun ρ => ((fun ρ => ((fC (.int 1)) ρ).bind fun d => ((fun ρ => ((fC (.int 0)) ρ).bind fun d => ((fun ρ => ((fC (.int 0)) ρ).bind fun d => ((fun ρ => ((fC (.int 2)) ρ).bind fun d => ((fun ρ => ((fC (.int 1)) ρ).bind fun d => ((fun _ => R.ok []) ρ).bind fun ds => R.ok (d :: ds)) ρ).bind fun ds => R.ok (d :: ds)) ρ).bind fun ds => R.ok (d :: ds)) ρ).bind fun ds => R.ok (d :: ds)) ρ).bind fun ds => R.ok (d :: ds)) ρ).bind mkTup) ρ).bind tr) ρ).bind fun k => if k = true then (retE (fC (.bool false))) ρ else (fun ρ => R.ok (.nx ρ)) ρ)
def L_law_18 : Rho → R Fl := (fun ρ => ((fun ρ => (fBin gNe (fun ρ => ((fun ρ => ((fun ρ => ((fun ρ => ((fC (.int 3)) ρ).bind fun d => ((fun ρ => ((fun ρ => ((fun ρ => ((fun ρ => ((fun ρ => ((fC (.str "until")) ρ).bind fun d => ((fun ρ => ((fC (.str "right")) ρ).bind fun d => ((fun ρ => ((fC (.int 2)) ρ).bind fun d => ((fun ρ => ((fC (.int 2)) ρ).bind fun d => ((fun ρ => ((fC (.int 0)) ρ).bind fun d => ((fun _ => R.ok []) ρ).bind fun ds => R.ok (d :: ds)) ρ).bind fun ds => R.ok (d :: ds)) ρ).bind fun ds => R.ok (d :: ds)) ρ).bind fun ds => R.ok (d :: ds)) ρ).bind fun ds => R.ok (d :: ds)) ρ).bind mkTup) ρ).bind fun d => ((fun _ => R.ok []) ρ).bind fun ds => R.ok (d :: ds)) ρ).bind mkTup) ρ).bind fun d => ((fun _ => R.ok []) ρ).bind fun ds => R.ok (d :: ds)) ρ).bind fun ds => R.ok (d :: ds)) ρ).bind mkTup) ρ).bind fun d => ((fun ρ => ((fun ρ => ((fun ρ => ((fC (.int 2)) ρ).bind fun d => ((fun ρ => ((fC (.int 0)) ρ).bind fun d => ((fun ρ => ((fC (.int 2)) ρ).bind fun d => ((fun _ => R.ok []) ρ).bind fun ds => R.ok (d :: ds)) ρ).bind fun ds => R.ok (d :: ds)) ρ).bind fun ds => R.ok (d :: ds)) ρ).bind mkTup) ρ).bind fun d => ((fun _ => R.ok []) ρ).bind fun ds => R.ok (d :: ds)) ρ).bind fun ds => R.ok (d :: ds)) ρ).bind (chk 2 F_run)) (fun ρ => ((fun ρ => ((fC (.int 2)) ρ).bind fun d => ((fun ρ => ((fC (.int 0)) ρ).bind fun d => ((fun ρ => ((fC (.int 2)) ρ).bind fun d => ((fun _ => R.ok []) ρ).bind fun ds => R.ok (d :: ds)) ρ).bind fun ds => R.ok (d :: ds)) ρ).bind fun ds => R.ok (d :: ds)) ρ).bind mkTup) ρ).bind tr) ρ).bind fun k => if k = true then (retE (fC (.bool false))) ρ else (fun ρ => R.ok (.nx ρ)) ρ)
def L_law_19 : Rho → R Fl := (setE 3 (fun ρ => ((fun ρ => ((fC (.int 2)) ρ).bind fun d => ((fun ρ => ((fun ρ => ((fun ρ => ((fun ρ => ((fun ρ => ((fC (.str "again")) ρ).bind fun d => ((fun ρ => ((fC (.int 2)) ρ).bind fun d => ((fun ρ => ((fun ρ => ((fun ρ => ((fun ρ => ((fun ρ => ((fC (.str "first")) ρ).bind fun d => ((fun ρ => ((fC (.str "right")) ρ).bind fun d => ((fun ρ => ((fC (.int 0)) ρ).bind fun d => ((fun ρ => ((fC (.int 1)) ρ).bind fun d => ((fun _ => R.ok []) ρ).bind fun ds => R.ok (d :: ds)) ρ).bind fun ds => R.ok (d :: ds)) ρ).bind fun ds => R.ok (d :: ds)) ρ).bind fun ds => R.ok (d :: ds)) ρ).bind mkTup) ρ).bind fun d => ((fun _ => R.ok []) ρ).bind fun ds => R.ok (d :: ds)) ρ).bind mkTup) ρ).bind fun d => ((fun _ => R.ok []) ρ).bind fun ds => R.ok (d :: ds)) ρ).bind fun ds => R.ok (d :: ds)) ρ).bind fun ds => R.ok (d :: ds)) ρ).bind mkTup) ρ).bind fun d => ((fun ρ => ((fun ρ => ((fun ρ => ((fC (.str "second")) ρ).bind fun d => ((fun ρ => ((fC (.str "left")) ρ).bind fun d => ((fun ρ => ((fC (.int 1)) ρ).bind fun d => ((fun ρ => ((fC (.int 0)) ρ).bind fun d => ((fun _ => R.ok []) ρ).bind fun ds => R.ok (d :: ds)) ρ).bind fun ds => R.ok (d :: ds)) ρ).bind fun ds => R.ok (d :: ds)) ρ).bind fun ds => R.ok (d :: ds)) ρ).bind mkTup) ρ).bind fun d => ((fun _ => R.ok []) ρ).bind fun ds => R.ok (d :: ds)) ρ).bind fun ds => R.ok (d :: ds)) ρ).bind mkTup) ρ).bind fun d => ((fun _ => R.ok []) ρ).bind fun ds => R.ok (d :: ds)) ρ).bind fun ds => R.ok (d :: ds)) ρ).bind mkTup))
def L_law_20 : Rho → R Fl := (fun ρ => ((fun ρ => ((fun ρ => (fBin gNe (fun ρ => ((fun ρ => ((fun ρ => getV ρ 3) ρ).bind fun d => ((fun ρ => ((fun ρ => ((fun ρ => ((fC (.int 0)) ρ).bind fun d => ((fun ρ => ((fC (.int 0)) ρ).bind fun d => ((fun ρ => ((fC (.int 0)) ρ).bind fun d => ((fun _ => R.ok []) ρ).bind fun ds => R.ok (d :: ds)) ρ).bind fun ds => R.ok (d :: ds)) ρ).bind fun ds => R.ok (d :: ds)) ρ).bind mkTup) ρ).bind fun d => ((fun _ => R.ok []) ρ).bind fun ds => R.ok (d :: ds)) ρ).bind fun ds => R.ok (d :: ds)) ρ).bind (chk 2 F_stages)) (fun ρ => ((fun ρ => ((fun ρ => ((fun ρ => ((fC (.int 0)) ρ).bind fun d => ((fun ρ => ((fC (.int 0)) ρ).bind fun d => ((fun ρ => ((fC (.int 1)) ρ).bind fun d => ((fun _ => R.ok []) ρ).bind fun ds => R.ok (d :: ds)) ρ).bind fun ds => R.ok (d :: ds)) ρ).bind fun ds => R.ok (d :: ds)) ρ).bind mkTup) ρ).bind fun d => ((fun ρ => ((fun ρ => ((fun ρ => ((fC (.int 0)) ρ).bind fun d => ((fun ρ => ((fC (.int 1)) ρ).bind fun d => ((fun ρ => ((fC (.int 1)) ρ).bind fun d => ((fun _ => R.ok []) ρ).bind fun ds => R.ok (d :: ds)) ρ).bind fun ds => R.ok (d :: ds)) ρ).bind fun ds => R.ok (d :: ds)) ρ).bind mkTup) ρ).bind fun d => ((fun ρ => ((fun ρ => ((fun ρ => ((fC (.int 0)) ρ).bind fun d => ((fun ρ => ((fC (.int 1)) ρ).bind fun d => ((fun ρ => ((fC (.int 0)) ρ).bind fun d => ((fun _ => R.ok []) ρ).bind fun ds => R.ok (d :: ds)) ρ).bind fun ds => R.ok (d :: ds)) ρ).bind fun ds => R.ok (d :: ds)) ρ).bind mkTup) ρ).bind fun d => ((fun _ => R.ok []) ρ).bind fun ds => R.ok (d :: ds)) ρ).bind fun ds => R.ok (d :: ds)) ρ).bind fun ds => R.ok (d :: ds)) ρ).bind mkLst) ρ).bind tr) ρ).bind fun k => if k = true then R.ok true else (fun ρ => (fBin gNe (fun ρ => ((fun ρ => ((fun ρ => getV ρ 3) ρ).bind fun d => ((fun ρ => ((fun ρ => ((fun ρ => ((fC (.int 0)) ρ).bind fun d => ((fun ρ => ((fC (.int 0)) ρ).bind fun d => ((fun ρ => ((fC (.int 0)) ρ).bind fun d => ((fun _ => R.ok []) ρ).bind fun ds => R.ok (d :: ds)) ρ).bind fun ds => R.ok (d :: ds)) ρ).bind fun ds => R.ok (d :: ds)) ρ).bind mkTup) ρ).bind fun d => ((fun _ => R.ok []) ρ).bind fun ds => R.ok (d :: ds)) ρ).bind fun ds => R.ok (d :: ds)) ρ).bind (chk 2 F_notes)) (fun ρ => ((fun ρ => ((fC (.int 1)) ρ).bind fun d => ((fun ρ => ((fC (.int 1)) ρ).bind fun d => ((fun ρ => ((fC (.int 0)) ρ).bind fun d => ((fun _ => R.ok []) ρ).bind fun ds => R.ok (d :: ds)) ρ).bind fun ds => R.ok (d :: ds)) ρ).bind fun ds => R.ok (d :: ds)) ρ).bind mkLst) ρ).bind tr) ρ) ρ).bind fun k => if k = true then (retE (fC (.bool false))) ρ else (fun ρ => R.ok (.nx ρ)) ρ)
def L_law_21 : Rho → R Fl := (retE (fBin gEq (fun ρ => ((fun ρ => ((fun ρ => ((fun ρ => ((fC (.int 2)) ρ).bind fun d => ((fun ρ => ((fun ρ => ((fun ρ => ((fun ρ => ((fun ρ => ((fC (.str "walk")) ρ).bind fun d => ((fun ρ => ((fC (.str "left")) ρ).bind fun d => ((fun ρ => ((fun ρ => ((fun ρ => ((fun ρ => ((fun ρ => ((fun ρ => ((fun ρ => ((fC (.int 0)) ρ).bind fun d => ((fun ρ => ((fC (.int 0)) ρ).bind fun d => ((fun _ => R.ok []) ρ).bind fun ds => R.ok (d :: ds)) ρ).bind fun ds => R.ok (d :: ds)) ρ).bind mkTup) ρ).bind fun d => ((fun ρ => ((fun ρ => ((fun ρ => ((fC (.int 1)) ρ).bind fun d => ((fun ρ => ((fC (.int 1)) ρ).bind fun d => ((fun _ => R.ok []) ρ).bind fun ds => R.ok (d :: ds)) ρ).bind fun ds => R.ok (d :: ds)) ρ).bind mkTup) ρ).bind fun d => ((fun _ => R.ok []) ρ).bind fun ds => R.ok (d :: ds)) ρ).bind fun ds => R.ok (d :: ds)) ρ).bind mkTup) ρ).bind fun d => ((fun ρ => ((fun ρ => ((fun ρ => ((fun ρ => ((fun ρ => ((fC (.int 1)) ρ).bind fun d => ((fun ρ => ((fC (.int 0)) ρ).bind fun d => ((fun _ => R.ok []) ρ).bind fun ds => R.ok (d :: ds)) ρ).bind fun ds => R.ok (d :: ds)) ρ).bind mkTup) ρ).bind fun d => ((fun ρ => ((fun ρ => ((fun ρ => ((fC (.int 0)) ρ).bind fun d => ((fun ρ => ((fC (.int 1)) ρ).bind fun d => ((fun _ => R.ok []) ρ).bind fun ds => R.ok (d :: ds)) ρ).bind fun ds => R.ok (d :: ds)) ρ).bind mkTup) ρ).bind fun d => ((fun _ => R.ok []) ρ).bind fun ds => R.ok (d :: ds)) ρ).bind fun ds => R.ok (d :: ds)) ρ).bind mkTup) ρ).bind fun d => ((fun _ => R.ok []) ρ).bind fun ds => R.ok (d :: ds)) ρ).bind fun ds => R.ok (d :: ds)) ρ).bind mkTup) ρ).bind fun d => ((fun _ => R.ok []) ρ).bind fun ds => R.ok (d :: ds)) ρ).bind fun ds => R.ok (d :: ds)) ρ).bind fun ds => R.ok (d :: ds)) ρ).bind mkTup) ρ).bind fun d => ((fun _ => R.ok []) ρ).bind fun ds => R.ok (d :: ds)) ρ).bind mkTup) ρ).bind fun d => ((fun _ => R.ok []) ρ).bind fun ds => R.ok (d :: ds)) ρ).bind fun ds => R.ok (d :: ds)) ρ).bind mkTup) ρ).bind fun d => ((fun ρ => ((fun ρ => ((fun ρ => ((fC (.int 1)) ρ).bind fun d => ((fun ρ => ((fC (.int 1)) ρ).bind fun d => ((fun ρ => ((fC (.int 0)) ρ).bind fun d => ((fun ρ => ((fC (.int 1)) ρ).bind fun d => ((fun _ => R.ok []) ρ).bind fun ds => R.ok (d :: ds)) ρ).bind fun ds => R.ok (d :: ds)) ρ).bind fun ds => R.ok (d :: ds)) ρ).bind fun ds => R.ok (d :: ds)) ρ).bind mkTup) ρ).bind fun d => ((fun _ => R.ok []) ρ).bind fun ds => R.ok (d :: ds)) ρ).bind fun ds => R.ok (d :: ds)) ρ).bind (chk 2 F_run)) (fun ρ => ((fun ρ => ((fC (.int 1)) ρ).bind fun d => ((fun ρ => ((fC (.int 0)) ρ).bind fun d => ((fun ρ => ((fC (.int 1)) ρ).bind fun d => ((fun ρ => ((fC (.int 1)) ρ).bind fun d => ((fun _ => R.ok []) ρ).bind fun ds => R.ok (d :: ds)) ρ).bind fun ds => R.ok (d :: ds)) ρ).bind fun ds => R.ok (d :: ds)) ρ).bind fun ds => R.ok (d :: ds)) ρ).bind mkTup)))
def LG_law : Rho → R Fl := (fSeq L_law_15 (fSeq L_law_16 (fSeq L_law_17 (fSeq L_law_18 (fSeq L_law_19 (fSeq L_law_20 L_law_21))))))
def F_law : List PyData → R PyData := fun ds => runB N_law.length LG_law ds
end G
set_option Elab.async false
set_option linter.all false
set_option maxRecDepth 100000
set_option maxHeartbeats 400000
namespace DL
open PySem PySem.Spec PyProof.Rows L2
/-! ### reckoning with the plain functions -/
theorem R.ite_bind {α β : Type} {c : Prop} [Decidable c] (a b : R α) (k : α → R β) : (if c then a else b).bind k = if c then a.bind k else b.bind k := by split <;> rfl
theorem R.ite_wp {α : Type} {c : Prop} [Decidable c] (a b : R α) (Q : α → Prop) (E : Nat → Option PyData → Prop) : (if c then a else b).wp Q E = if c then a.wp Q E else b.wp Q E := by split <;> rfl
theorem R.noX_ite {α : Type} {c : Prop} [Decidable c] (a b : R α) : (if c then a else b).noX = if c then a.noX else b.noX := by split <;> rfl
/-- [h d for d in ds] -/
theorem compL_map {t : PyData → Rho → Option Rho} {fe : Rho → R PyData} {ρ : Rho} (h : PyData → PyData) : ∀ {ds : List PyData}, (∀ d, d ∈ ds → (R.ofO (t d ρ)).bind fe = .ok (h d)) → compL t (fun _ => .ok true) fe ρ ds = .ok (ds.map h)
  | [], _ => rfl
  | d :: ds, H => by
    have h1 := H d List.mem_cons_self
    have h2 := compL_map (t := t) (fe := fe) (ρ := ρ) h (ds := ds) fun x hx => H x (List.mem_cons_of_mem _ hx)
    unfold compL
    cases ht : t d ρ with
    | none => rw [ht] at h1; cases h1
    | some ρ1 =>
      rw [ht] at h1
      have h1 : fe ρ1 = .ok (h d) := h1
      simp only [R.ofO_some, R.ok_bind, if_true, h1, h2, List.map_cons]
/-- [d for d in ds if p d] -/
theorem compL_filter {t : PyData → Rho → Option Rho} {ft : Rho → R Bool} {fe : Rho → R PyData} {ρ : Rho} (p : PyData → Bool) (h : PyData → PyData) : ∀ {ds : List PyData}, (∀ d, d ∈ ds → (R.ofO (t d ρ)).bind ft = .ok (p d)) → (∀ d, d ∈ ds → p d = true → (R.ofO (t d ρ)).bind fe = .ok (h d)) →
    compL t ft fe ρ ds = .ok ((ds.filter p).map h)
  | [], _, _ => rfl
  | d :: ds, H, H2 => by
    have h1 := H d List.mem_cons_self
    have h3 := H2 d List.mem_cons_self
    have h2 := compL_filter (t := t) (ft := ft) (fe := fe) (ρ := ρ) p h (ds := ds) (fun x hx => H x (List.mem_cons_of_mem _ hx)) fun x hx => H2 x (List.mem_cons_of_mem _ hx)
    unfold compL
    cases ht : t d ρ with
    | none => rw [ht] at h1; cases h1
    | some ρ1 =>
      rw [ht] at h1 h3
      have h1 : ft ρ1 = .ok (p d) := h1
      simp only [R.ofO_some, R.ok_bind, h1, h2]
      cases hp : p d with
      | false => simp [hp]
      | true =>
        have h4 : fe ρ1 = .ok (h d) := h3 hp
        simp [hp, h4]
theorem compL_len {t : PyData → Rho → Option Rho} {ft : Rho → R Bool} {fe : Rho → R PyData} {ρ : Rho} : ∀ {ds : List PyData} {ys : List PyData}, compL t ft fe ρ ds = .ok ys → True := fun _ => trivial
/-- a comprehension of which one knows what each item fulfils -/
theorem compL_wp {t : PyData → Rho → Option Rho} {fe : Rho → R PyData} {ρ : Rho} {E : Nat → Option PyData → Prop} (T : PyData → Prop) : ∀ {ds : List PyData}, (∀ d, d ∈ ds → ((R.ofO (t d ρ)).bind fe).wp T E) → (compL t (fun _ => .ok true) fe ρ ds).wp (fun ys => ys.length = ds.length ∧ ∀ y, y ∈ ys → T y) E
  | [], _ => ⟨rfl, fun y hy => by cases hy⟩
  | d :: ds, H => by
    have h1 := H d List.mem_cons_self
    have h2 := compL_wp (t := t) (fe := fe) (ρ := ρ) (E := E) T (ds := ds) fun x hx => H x (List.mem_cons_of_mem _ hx)
    unfold compL
    rw [R.wp_bind] at h1 ⊢
    refine R.wp_imp h1 (fun ρ1 h1 => ?_) (fun _ _ z => z)
    simp only [R.ok_bind, if_true, R.wp_bind]
    refine R.wp_imp h1 (fun y hy => ?_) (fun _ _ z => z)
    refine R.wp_imp h2 (fun ys hys => ?_) (fun _ _ z => z)
    exact ⟨by simp only [List.length_cons, hys.1], fun z hz => by
      rcases List.mem_cons.mp hz with rfl | hz
      · exact hy
      · exact hys.2 z hz⟩
theorem boolsOf_map {α : Type} (p : α → Bool) : ∀ ds : List α, boolsOf (ds.map fun d => .bool (p d)) = some (ds.map p)
  | [] => rfl
  | d :: ds => by
    show (boolsOf (ds.map fun d => .bool (p d))).map (p d :: ·) = _
    rw [boolsOf_map p ds]; rfl
theorem gAll_map {α : Type} (p : α → Bool) (ds : List α) : gAll (.list (ds.map fun d => .bool (p d))) = some (.bool (ds.all p)) := by
  show (boolsOf _).map _ = _
  rw [boolsOf_map]
  show some (PyData.bool ((ds.map p).all id)) = _
  rw [List.all_map]; rfl
theorem intsOf_map {α : Type} (p : α → Int) : ∀ ds : List α, intsOf (ds.map fun d => .int (p d)) = some (ds.map p)
  | [] => rfl
  | d :: ds => by
    show (intsOf (ds.map fun d => .int (p d))).map (p d :: ·) = _
    rw [intsOf_map p ds]; rfl
/-- a loop by an invariant -/
theorem forL_wp {b : PyData → Rho → R Fl} {Q : Fl → Prop} {E : Nat → Option PyData → Prop} (I : List PyData → Rho → Prop)
    (h : ∀ d ds ρ, I (d :: ds) ρ → (b d ρ).wp (fun f => match f with
      | .nx ρ' => I ds ρ'
      | .ct ρ' => I ds ρ'
      | .bk ρ' => Q (.nx ρ')
      | .rt e ρ' => Q (.rt e ρ')
      | .rf e ρ' => Q (.rf e ρ')) E) (hn : ∀ ρ, I [] ρ → Q (.nx ρ)) : ∀ {ds : List PyData} {ρ : Rho}, I ds ρ → (forL b ds ρ).wp Q E
  | [], ρ, hi => hn ρ hi
  | d :: ds, ρ, hi => by
    unfold forL
    rw [R.wp_bind]
    refine R.wp_imp (h d ds ρ hi) (fun f hf => ?_) (fun _ _ z => z)
    cases f with
    | nx ρ' => exact forL_wp I h hn hf
    | ct ρ' => exact forL_wp I h hn hf
    | bk ρ' => exact hf
    | rt e ρ' => exact hf
    | rf e ρ' => exact hf
/-- a loop with its target -/
def forG (tt : PyData → Rho → Option Rho) (u : Rho → R Fl) (ds : List PyData) (ρ : Rho) : R Fl := forL (fun d ρ => (R.ofO (tt d ρ)).bind u) ds ρ
theorem forG_nil {tt : PyData → Rho → Option Rho} {u : Rho → R Fl} {ρ : Rho} : forG tt u [] ρ = .ok (.nx ρ) := rfl
theorem forG_cons {tt : PyData → Rho → Option Rho} {u : Rho → R Fl} {d : PyData} {ds : List PyData} {ρ : Rho} : forG tt u (d :: ds) ρ = ((R.ofO (tt d ρ)).bind u).bind fun f => match f with
    | .nx ρ' => forG tt u ds ρ'
    | .ct ρ' => forG tt u ds ρ'
    | .bk ρ' => .ok (.nx ρ')
    | .rt e ρ' => .ok (.rt e ρ')
    | .rf e ρ' => .ok (.rf e ρ') := rfl
theorem eq_of_wp {α : Type} {r : R α} {a : α} : r = .ok a → r.wp (fun x => x = a) (fun _ _ => False) := fun h => by rw [h]; exact rfl
@[simp] theorem R.ofO_ite {α : Type} {c : Prop} [Decidable c] (a b : Option α) : R.ofO (if c then a else b) = if c then R.ofO a else R.ofO b := by split <;> rfl
@[simp] theorem gMul_i {a b : Int} : gMul (.int a) (.int b) = if CMul a b then some (.int (a * b)) else none := rfl
@[simp] theorem gMul_t {ds : List PyData} {a : Int} : gMul (.tuple ds) (.int a) = if -(2 ^ 63) ≤ a ∧ a < 2 ^ 63 ∧ ds.length * a.toNat ≤ sizeLine then some (.tuple (List.replicate a.toNat ds).flatten) else none := rfl
@[simp] theorem gTuple_l {ds : List PyData} : gTuple (.list ds) = some (.tuple ds) := rfl
@[simp] theorem gTuple_t {ds : List PyData} : gTuple (.tuple ds) = some (.tuple ds) := rfl
@[simp] theorem gList_l {ds : List PyData} : gList (.list ds) = some (.list ds) := rfl
@[simp] theorem gList_t {ds : List PyData} : gList (.tuple ds) = some (.list ds) := rfl
@[simp] theorem eqv_ss {x y : Str} : PyData.eqv (.str x) (.str y) = decide (x = y) := by
  unfold PyData.eqv
  by_cases h : x = y
  · subst h; simp
  · rw [decide_eq_false h]; exact beq_eq_false_iff_ne.mpr h
@[simp] theorem eqv_ii {x y : Int} : PyData.eqv (.int x) (.int y) = decide (x = y) := by
  unfold PyData.eqv
  by_cases h : x = y
  · subst h; simp
  · rw [decide_eq_false h]; exact beq_eq_false_iff_ne.mpr h
@[simp] theorem gEq_ss {x y : Str} : gEq (.str x) (.str y) = some (.bool (decide (x = y))) := by simp [gEq, eqOk, scalD]
@[simp] theorem gNe_ss {x y : Str} : gNe (.str x) (.str y) = some (.bool (!decide (x = y))) := by simp [gNe, eqOk, scalD]
@[simp] theorem gEq_ii {x y : Int} : gEq (.int x) (.int y) = some (.bool (decide (x = y))) := by simp [gEq, eqOk, scalD]
@[simp] theorem gNe_ii {x y : Int} : gNe (.int x) (.int y) = some (.bool (!decide (x = y))) := by simp [gNe, eqOk, scalD]
@[simp] theorem isi_int_dict {m : List (PyData × PyData)} : isiD "int" (.dict m) = false := rfl
@[simp] theorem isi_bool_dict {m : List (PyData × PyData)} : isiD "bool" (.dict m) = false := rfl
@[simp] theorem isi_str_dict {m : List (PyData × PyData)} : isiD "str" (.dict m) = false := rfl
@[simp] theorem isi_list_dict {m : List (PyData × PyData)} : isiD "list" (.dict m) = false := rfl
@[simp] theorem isi_tuple_dict {m : List (PyData × PyData)} : isiD "tuple" (.dict m) = false := rfl
theorem cut_from (ds : List PyData) (n : Nat) : cutD ds (some (n : Int)) none = ds.drop n := by
  unfold cutD
  have h : HT.sIx ds.length 0 (some (n : Int)) = min n ds.length := by simp [HT.sIx]; try omega
  have h2 : HT.sIx ds.length ds.length none = ds.length := rfl
  rw [h, h2]
  by_cases hn : n ≤ ds.length
  · rw [Nat.min_eq_left hn, List.take_of_length_le (by rw [List.length_drop]; exact Nat.le_refl _)]
  · rw [Nat.min_eq_right (by omega), Nat.sub_self, List.take_zero, List.drop_of_length_le (by omega)]
theorem cut_to (ds : List PyData) (n : Nat) : cutD ds none (some (n : Int)) = ds.take n := by
  unfold cutD
  have h : HT.sIx ds.length ds.length (some (n : Int)) = min n ds.length := by simp [HT.sIx]; try omega
  have h2 : HT.sIx ds.length 0 none = 0 := rfl
  rw [h, h2, List.drop_zero, Nat.sub_zero]
  by_cases hn : n ≤ ds.length
  · rw [Nat.min_eq_left hn]
  · rw [Nat.min_eq_right (by omega), List.take_of_length_le (Nat.le_refl _), List.take_of_length_le (by omega)]
@[simp] theorem cut_1 (ds : List PyData) : cutD ds (some 1) none = ds.drop 1 := cut_from ds 1
@[simp] theorem cut_2 (ds : List PyData) : cutD ds (some 2) none = ds.drop 2 := cut_from ds 2
@[simp] theorem cut_t1 (ds : List PyData) : cutD ds none (some 1) = ds.take 1 := cut_to ds 1
@[simp] theorem cut_t2 (ds : List PyData) : cutD ds none (some 2) = ds.take 2 := cut_to ds 2
theorem atI_nat {α : Type} (xs : List α) (n : Nat) : atI xs (n : Int) = xs[n]? := by
  unfold atI ixN
  by_cases h : n < xs.length
  · simp [h]
  · simp [h]
@[simp] theorem atI_0 {α : Type} (xs : List α) : atI xs 0 = xs[0]? := atI_nat xs 0
@[simp] theorem atI_1 {α : Type} (xs : List α) : atI xs 1 = xs[1]? := atI_nat xs 1
@[simp] theorem atI_2 {α : Type} (xs : List α) : atI xs 2 = xs[2]? := atI_nat xs 2
@[simp] theorem atI_3 {α : Type} (xs : List α) : atI xs 3 = xs[3]? := atI_nat xs 3
theorem cut_last (ds : List PyData) (n : Nat) (hn : n ≤ ds.length) (h0 : 0 < n) : cutD ds (some (-(n : Int))) none = ds.drop (ds.length - n) := by
  unfold cutD
  have h : HT.sIx ds.length 0 (some (-(n : Int))) = ds.length - n := by
    show (if -(n : Int) < 0 then (-(n : Int) + (ds.length : Int)).toNat else _) = _
    rw [if_pos (by omega)]
    omega
  have h2 : HT.sIx ds.length ds.length none = ds.length := rfl
  rw [h, h2, List.take_of_length_le (by rw [List.length_drop]; exact Nat.le_refl _)]
theorem atI_last {α : Type} (xs : List α) (n : Nat) (hn : n ≤ xs.length) (h0 : 0 < n) : atI xs (-(n : Int)) = xs[xs.length - n]? := by
  unfold atI ixN
  rw [if_neg (by omega), if_pos (by omega)]
  have : (-(n : Int) + (xs.length : Int)).toNat = xs.length - n := by omega
  simp [this]
/-! ### the size line -/
@[simp] theorem sl_0 : 0 ≤ sizeLine := by decide
@[simp] theorem sk_0 : 0 < sizeLine := by decide
@[simp] theorem sl_1 : 1 ≤ sizeLine := by decide
@[simp] theorem sk_1 : 1 < sizeLine := by decide
@[simp] theorem sl_2 : 2 ≤ sizeLine := by decide
@[simp] theorem sk_2 : 2 < sizeLine := by decide
@[simp] theorem sl_3 : 3 ≤ sizeLine := by decide
@[simp] theorem sk_3 : 3 < sizeLine := by decide
@[simp] theorem sl_4 : 4 ≤ sizeLine := by decide
@[simp] theorem sk_4 : 4 < sizeLine := by decide
@[simp] theorem sl_5 : 5 ≤ sizeLine := by decide
@[simp] theorem sk_5 : 5 < sizeLine := by decide
@[simp] theorem sl_6 : 6 ≤ sizeLine := by decide
@[simp] theorem sk_6 : 6 < sizeLine := by decide
@[simp] theorem sl_7 : 7 ≤ sizeLine := by decide
@[simp] theorem sk_7 : 7 < sizeLine := by decide
@[simp] theorem sl_8 : 8 ≤ sizeLine := by decide
@[simp] theorem sk_8 : 8 < sizeLine := by decide
@[simp] theorem sl_9 : 9 ≤ sizeLine := by decide
@[simp] theorem sk_9 : 9 < sizeLine := by decide
@[simp] theorem sl_10 : 10 ≤ sizeLine := by decide
@[simp] theorem sk_10 : 10 < sizeLine := by decide
@[simp] theorem sl_11 : 11 ≤ sizeLine := by decide
@[simp] theorem sk_11 : 11 < sizeLine := by decide
@[simp] theorem sl_12 : 12 ≤ sizeLine := by decide
@[simp] theorem sk_12 : 12 < sizeLine := by decide
@[simp] theorem sl_13 : 13 ≤ sizeLine := by decide
@[simp] theorem sk_13 : 13 < sizeLine := by decide
@[simp] theorem sl_14 : 14 ≤ sizeLine := by decide
@[simp] theorem sk_14 : 14 < sizeLine := by decide
@[simp] theorem sl_15 : 15 ≤ sizeLine := by decide
@[simp] theorem sk_15 : 15 < sizeLine := by decide
@[simp] theorem sl_16 : 16 ≤ sizeLine := by decide
@[simp] theorem sk_16 : 16 < sizeLine := by decide
@[simp] theorem sl_17 : 17 ≤ sizeLine := by decide
@[simp] theorem sk_17 : 17 < sizeLine := by decide
@[simp] theorem sl_18 : 18 ≤ sizeLine := by decide
@[simp] theorem sk_18 : 18 < sizeLine := by decide
@[simp] theorem sl_19 : 19 ≤ sizeLine := by decide
@[simp] theorem sk_19 : 19 < sizeLine := by decide
@[simp] theorem sl_20 : 20 ≤ sizeLine := by decide
@[simp] theorem sk_20 : 20 < sizeLine := by decide
@[simp] theorem sl_21 : 21 ≤ sizeLine := by decide
@[simp] theorem sk_21 : 21 < sizeLine := by decide
@[simp] theorem sl_22 : 22 ≤ sizeLine := by decide
@[simp] theorem sk_22 : 22 < sizeLine := by decide
@[simp] theorem sl_23 : 23 ≤ sizeLine := by decide
@[simp] theorem sk_23 : 23 < sizeLine := by decide
@[simp] theorem sl_24 : 24 ≤ sizeLine := by decide
@[simp] theorem sk_24 : 24 < sizeLine := by decide
@[simp] theorem sl_25 : 25 ≤ sizeLine := by decide
@[simp] theorem sk_25 : 25 < sizeLine := by decide
@[simp] theorem sl_26 : 26 ≤ sizeLine := by decide
@[simp] theorem sk_26 : 26 < sizeLine := by decide
@[simp] theorem sl_27 : 27 ≤ sizeLine := by decide
@[simp] theorem sk_27 : 27 < sizeLine := by decide
@[simp] theorem sl_28 : 28 ≤ sizeLine := by decide
@[simp] theorem sk_28 : 28 < sizeLine := by decide
@[simp] theorem sl_29 : 29 ≤ sizeLine := by decide
@[simp] theorem sk_29 : 29 < sizeLine := by decide
@[simp] theorem sl_30 : 30 ≤ sizeLine := by decide
@[simp] theorem sk_30 : 30 < sizeLine := by decide
@[simp] theorem sl_31 : 31 ≤ sizeLine := by decide
@[simp] theorem sk_31 : 31 < sizeLine := by decide
@[simp] theorem sl_32 : 32 ≤ sizeLine := by decide
@[simp] theorem sk_32 : 32 < sizeLine := by decide
@[simp] theorem sl_33 : 33 ≤ sizeLine := by decide
@[simp] theorem sk_33 : 33 < sizeLine := by decide
@[simp] theorem sl_34 : 34 ≤ sizeLine := by decide
@[simp] theorem sk_34 : 34 < sizeLine := by decide
@[simp] theorem sl_35 : 35 ≤ sizeLine := by decide
@[simp] theorem sk_35 : 35 < sizeLine := by decide
@[simp] theorem sl_36 : 36 ≤ sizeLine := by decide
@[simp] theorem sk_36 : 36 < sizeLine := by decide
@[simp] theorem sl_37 : 37 ≤ sizeLine := by decide
@[simp] theorem sk_37 : 37 < sizeLine := by decide
@[simp] theorem sl_38 : 38 ≤ sizeLine := by decide
@[simp] theorem sk_38 : 38 < sizeLine := by decide
@[simp] theorem sl_39 : 39 ≤ sizeLine := by decide
@[simp] theorem sk_39 : 39 < sizeLine := by decide
@[simp] theorem sl_40 : 40 ≤ sizeLine := by decide
@[simp] theorem sk_40 : 40 < sizeLine := by decide
@[simp] theorem sl_41 : 41 ≤ sizeLine := by decide
@[simp] theorem sk_41 : 41 < sizeLine := by decide
/-! ### slots of a written list -/
section
variable {a : Option SV} {r : Rho} {x : PyData} {m : List (PyData × PyData)}
@[simp] theorem getV_z : getV (some (.d x) :: r) 0 = .ok x := rfl
@[simp] theorem getS_z : getS (some .src :: r) 0 = .ok () := rfl
@[simp] theorem getO_z : getO (some (.dict m) :: r) 0 = .ok m := rfl
@[simp] theorem getV_1 : getV (a :: r) 1 = getV r 0 := rfl
@[simp] theorem getO_1 : getO (a :: r) 1 = getO r 0 := rfl
@[simp] theorem getV_2 : getV (a :: r) 2 = getV r 1 := rfl
@[simp] theorem getO_2 : getO (a :: r) 2 = getO r 1 := rfl
@[simp] theorem getV_3 : getV (a :: r) 3 = getV r 2 := rfl
@[simp] theorem getO_3 : getO (a :: r) 3 = getO r 2 := rfl
@[simp] theorem getV_4 : getV (a :: r) 4 = getV r 3 := rfl
@[simp] theorem getO_4 : getO (a :: r) 4 = getO r 3 := rfl
@[simp] theorem getV_5 : getV (a :: r) 5 = getV r 4 := rfl
@[simp] theorem getO_5 : getO (a :: r) 5 = getO r 4 := rfl
@[simp] theorem getV_6 : getV (a :: r) 6 = getV r 5 := rfl
@[simp] theorem getO_6 : getO (a :: r) 6 = getO r 5 := rfl
@[simp] theorem getV_7 : getV (a :: r) 7 = getV r 6 := rfl
@[simp] theorem getO_7 : getO (a :: r) 7 = getO r 6 := rfl
@[simp] theorem getV_8 : getV (a :: r) 8 = getV r 7 := rfl
@[simp] theorem getO_8 : getO (a :: r) 8 = getO r 7 := rfl
@[simp] theorem getV_9 : getV (a :: r) 9 = getV r 8 := rfl
@[simp] theorem getO_9 : getO (a :: r) 9 = getO r 8 := rfl
@[simp] theorem getV_10 : getV (a :: r) 10 = getV r 9 := rfl
@[simp] theorem getO_10 : getO (a :: r) 10 = getO r 9 := rfl
@[simp] theorem getV_11 : getV (a :: r) 11 = getV r 10 := rfl
@[simp] theorem getO_11 : getO (a :: r) 11 = getO r 10 := rfl
@[simp] theorem getV_12 : getV (a :: r) 12 = getV r 11 := rfl
@[simp] theorem getO_12 : getO (a :: r) 12 = getO r 11 := rfl
@[simp] theorem getV_13 : getV (a :: r) 13 = getV r 12 := rfl
@[simp] theorem getO_13 : getO (a :: r) 13 = getO r 12 := rfl
@[simp] theorem getV_14 : getV (a :: r) 14 = getV r 13 := rfl
@[simp] theorem getO_14 : getO (a :: r) 14 = getO r 13 := rfl
@[simp] theorem getV_15 : getV (a :: r) 15 = getV r 14 := rfl
@[simp] theorem getO_15 : getO (a :: r) 15 = getO r 14 := rfl
@[simp] theorem getV_16 : getV (a :: r) 16 = getV r 15 := rfl
@[simp] theorem getO_16 : getO (a :: r) 16 = getO r 15 := rfl
@[simp] theorem getV_17 : getV (a :: r) 17 = getV r 16 := rfl
@[simp] theorem getO_17 : getO (a :: r) 17 = getO r 16 := rfl
@[simp] theorem getV_18 : getV (a :: r) 18 = getV r 17 := rfl
@[simp] theorem getO_18 : getO (a :: r) 18 = getO r 17 := rfl
@[simp] theorem getV_19 : getV (a :: r) 19 = getV r 18 := rfl
@[simp] theorem getO_19 : getO (a :: r) 19 = getO r 18 := rfl
@[simp] theorem getV_20 : getV (a :: r) 20 = getV r 19 := rfl
@[simp] theorem getO_20 : getO (a :: r) 20 = getO r 19 := rfl
@[simp] theorem getV_21 : getV (a :: r) 21 = getV r 20 := rfl
@[simp] theorem getO_21 : getO (a :: r) 21 = getO r 20 := rfl
@[simp] theorem getV_22 : getV (a :: r) 22 = getV r 21 := rfl
@[simp] theorem getO_22 : getO (a :: r) 22 = getO r 21 := rfl
@[simp] theorem getV_23 : getV (a :: r) 23 = getV r 22 := rfl
@[simp] theorem getO_23 : getO (a :: r) 23 = getO r 22 := rfl
@[simp] theorem getV_24 : getV (a :: r) 24 = getV r 23 := rfl
@[simp] theorem getO_24 : getO (a :: r) 24 = getO r 23 := rfl
@[simp] theorem getV_25 : getV (a :: r) 25 = getV r 24 := rfl
@[simp] theorem getO_25 : getO (a :: r) 25 = getO r 24 := rfl
@[simp] theorem getV_26 : getV (a :: r) 26 = getV r 25 := rfl
@[simp] theorem getO_26 : getO (a :: r) 26 = getO r 25 := rfl
@[simp] theorem getV_27 : getV (a :: r) 27 = getV r 26 := rfl
@[simp] theorem getO_27 : getO (a :: r) 27 = getO r 26 := rfl
@[simp] theorem getV_28 : getV (a :: r) 28 = getV r 27 := rfl
@[simp] theorem getO_28 : getO (a :: r) 28 = getO r 27 := rfl
@[simp] theorem getV_29 : getV (a :: r) 29 = getV r 28 := rfl
@[simp] theorem getO_29 : getO (a :: r) 29 = getO r 28 := rfl
@[simp] theorem getV_30 : getV (a :: r) 30 = getV r 29 := rfl
@[simp] theorem getO_30 : getO (a :: r) 30 = getO r 29 := rfl
@[simp] theorem getV_31 : getV (a :: r) 31 = getV r 30 := rfl
@[simp] theorem getO_31 : getO (a :: r) 31 = getO r 30 := rfl
@[simp] theorem getV_32 : getV (a :: r) 32 = getV r 31 := rfl
@[simp] theorem getO_32 : getO (a :: r) 32 = getO r 31 := rfl
@[simp] theorem getV_33 : getV (a :: r) 33 = getV r 32 := rfl
@[simp] theorem getO_33 : getO (a :: r) 33 = getO r 32 := rfl
@[simp] theorem getV_34 : getV (a :: r) 34 = getV r 33 := rfl
@[simp] theorem getO_34 : getO (a :: r) 34 = getO r 33 := rfl
@[simp] theorem getV_35 : getV (a :: r) 35 = getV r 34 := rfl
@[simp] theorem getO_35 : getO (a :: r) 35 = getO r 34 := rfl
@[simp] theorem getV_36 : getV (a :: r) 36 = getV r 35 := rfl
@[simp] theorem getO_36 : getO (a :: r) 36 = getO r 35 := rfl
@[simp] theorem getV_37 : getV (a :: r) 37 = getV r 36 := rfl
@[simp] theorem getO_37 : getO (a :: r) 37 = getO r 36 := rfl
@[simp] theorem getV_38 : getV (a :: r) 38 = getV r 37 := rfl
@[simp] theorem getO_38 : getO (a :: r) 38 = getO r 37 := rfl
@[simp] theorem getV_39 : getV (a :: r) 39 = getV r 38 := rfl
@[simp] theorem getO_39 : getO (a :: r) 39 = getO r 38 := rfl
@[simp] theorem getV_40 : getV (a :: r) 40 = getV r 39 := rfl
@[simp] theorem getO_40 : getO (a :: r) 40 = getO r 39 := rfl
@[simp] theorem getS_1 : getS (a :: r) 1 = getS r 0 := rfl
@[simp] theorem getS_2 : getS (a :: r) 2 = getS r 1 := rfl
@[simp] theorem getS_3 : getS (a :: r) 3 = getS r 2 := rfl
@[simp] theorem getS_4 : getS (a :: r) 4 = getS r 3 := rfl
@[simp] theorem getS_5 : getS (a :: r) 5 = getS r 4 := rfl
@[simp] theorem getS_6 : getS (a :: r) 6 = getS r 5 := rfl
@[simp] theorem getS_7 : getS (a :: r) 7 = getS r 6 := rfl
@[simp] theorem getS_8 : getS (a :: r) 8 = getS r 7 := rfl
@[simp] theorem getS_9 : getS (a :: r) 9 = getS r 8 := rfl
@[simp] theorem getS_10 : getS (a :: r) 10 = getS r 9 := rfl
@[simp] theorem getS_11 : getS (a :: r) 11 = getS r 10 := rfl
@[simp] theorem getS_12 : getS (a :: r) 12 = getS r 11 := rfl
@[simp] theorem getS_13 : getS (a :: r) 13 = getS r 12 := rfl
@[simp] theorem getS_14 : getS (a :: r) 14 = getS r 13 := rfl
@[simp] theorem getS_15 : getS (a :: r) 15 = getS r 14 := rfl
@[simp] theorem getS_16 : getS (a :: r) 16 = getS r 15 := rfl
@[simp] theorem getS_17 : getS (a :: r) 17 = getS r 16 := rfl
@[simp] theorem getS_18 : getS (a :: r) 18 = getS r 17 := rfl
@[simp] theorem getS_19 : getS (a :: r) 19 = getS r 18 := rfl
@[simp] theorem getS_20 : getS (a :: r) 20 = getS r 19 := rfl
@[simp] theorem getS_21 : getS (a :: r) 21 = getS r 20 := rfl
@[simp] theorem getS_22 : getS (a :: r) 22 = getS r 21 := rfl
@[simp] theorem getS_23 : getS (a :: r) 23 = getS r 22 := rfl
@[simp] theorem getS_24 : getS (a :: r) 24 = getS r 23 := rfl
@[simp] theorem getS_25 : getS (a :: r) 25 = getS r 24 := rfl
@[simp] theorem getS_26 : getS (a :: r) 26 = getS r 25 := rfl
@[simp] theorem getS_27 : getS (a :: r) 27 = getS r 26 := rfl
@[simp] theorem getS_28 : getS (a :: r) 28 = getS r 27 := rfl
@[simp] theorem getS_29 : getS (a :: r) 29 = getS r 28 := rfl
@[simp] theorem getS_30 : getS (a :: r) 30 = getS r 29 := rfl
end
/-! ### the plain functions, case by case -/
section
variable {f g h : Rho → R PyData} {u v : Rho → R Fl} {ρ : Rho} {d e : PyData} {ds es : List PyData} {i j : Nat} {a b : Int} {p q : Bool} {s z : Str} {k : Key} {gb gb2 : PyData → PyData → Option PyData} {g1 : PyData → Option PyData} {F : List PyData → R PyData}
@[simp] theorem ap_retE : retE f ρ = (f ρ).bind fun d => .ok (.rt d ρ) := rfl
@[simp] theorem ap_retF : retF f ρ = (f ρ).bind fun d => .ok (.rf d ρ) := rfl
@[simp] theorem ap_setE : setE i f ρ = (f ρ).bind fun d => .ok (.nx (ρ.set i (some (.d d)))) := rfl
@[simp] theorem ap_fSeq : fSeq u v ρ = (u ρ).bind fun f => match f with
  | .nx ρ' => v ρ'
  | x => .ok x := rfl
@[simp] theorem ap_appE : appE i f ρ = (getV ρ i).bind fun l => (f ρ).bind fun d => (appD l d).bind fun l' => .ok (.nx (ρ.set i (some (.d l')))) := rfl
@[simp] theorem ap_fC : fC d ρ = .ok d := rfl
@[simp] theorem ap_fC1 : fC1 g1 f ρ = (f ρ).bind fun x => R.ofO (g1 x) := rfl
@[simp] theorem ap_fBin : fBin gb f g ρ = (f ρ).bind fun x => (g ρ).bind fun y => R.ofO (gb x y) := rfl
@[simp] theorem ap_fIsi {T : String} : fIsi T f ρ = (f ρ).bind fun d => .ok (.bool (isiD T d)) := rfl
@[simp] theorem ap_fChain : fChain gb gb2 f g h ρ = (f ρ).bind fun x => (g ρ).bind fun y => (R.ofO (gb x y)).bind fun z => (tr z).bind fun k =>
  if k = true then (h ρ).bind fun w => R.ofO (gb2 y w) else .ok (.bool false) := rfl
@[simp] theorem ap_fSl {gs : PyData → Option Int → Option Int → Option PyData} {fl fh : Rho → R (Option Int)} : fSl gs f fl fh ρ = (f ρ).bind fun x => (fl ρ).bind fun lo => (fh ρ).bind fun hi => R.ofO (gs x lo hi) := rfl
@[simp] theorem ap_fFor {fi : Rho → R (List PyData)} {tt : PyData → Rho → Option Rho} : fFor fi tt u ρ = (fi ρ).bind fun ds => forG tt u ds ρ := rfl
@[simp] theorem ap_fComp {vs : List Nat} {fi : Rho → R (List PyData)} {tt : PyData → Rho → Option Rho} {ft : Rho → R Bool} : fComp vs fi tt ft f ρ = (fi ρ).bind fun ds => if ds.length ≤ sizeLine then (compL tt ft f (wipeR ρ vs) ds).noX.bind fun ys => .ok (.list ys) else .bad := rfl
@[simp] theorem ap_par2 {fa : Rho → R (List PyData)} : par2 i j fa ρ = (fa ρ).bind fun ds => match ds with
  | [x, y] => .ok (.nx ((ρ.set i (some (.d x))).set j (some (.d y))))
  | _ => .bad := rfl
@[simp] theorem ap_par3 {l : Nat} {fa : Rho → R (List PyData)} : par3 i j l fa ρ = (fa ρ).bind fun ds => match ds with
  | [x, y, z] => .ok (.nx (((ρ.set i (some (.d x))).set j (some (.d y))).set l (some (.d z))))
  | _ => .bad := rfl
@[simp] theorem ap_asgT {tt : PyData → Rho → Option Rho} : asgT tt f ρ = (f ρ).bind fun d => (R.ofO (tt d ρ)).bind fun ρ' => .ok (.nx ρ') := rfl
@[simp] theorem wipeR_nil : wipeR ρ [] = ρ := rfl
@[simp] theorem wipeR_cons {l : List Nat} : wipeR ρ (i :: l) = (wipeR ρ l).set i none := rfl
@[simp] theorem tg1_ap : tg1 i d ρ = some (ρ.set i (some (.d d))) := rfl
@[simp] theorem tgTup_ap {n : Nat} {us : List PyData → Rho → Option Rho} : tgTup n us (.tuple ds) ρ = if ds.length = n then us ds ρ else none := rfl
@[simp] theorem tgCons_ap {tt : PyData → Rho → Option Rho} {us : List PyData → Rho → Option Rho} : tgCons tt us (d :: ds) ρ = (tt d ρ).bind (us ds) := rfl
@[simp] theorem tgNil_ap : tgNil [] ρ = some ρ := rfl
@[simp] theorem tru_1 : tru .none = .ok false := rfl
@[simp] theorem tru_2 : tru (.bool p) = .ok p := rfl
@[simp] theorem tru_3 : tru (.int a) = .ok (a != 0) := rfl
@[simp] theorem tru_4 : tru (.list ds) = .ok (!ds.isEmpty) := rfl
@[simp] theorem tru_5 : tru (.tuple ds) = .ok (!ds.isEmpty) := rfl
@[simp] theorem tr_1 : tr (.bool p) = .ok p := rfl
@[simp] theorem toI_1 : toI (.int a) = .ok (some a) := rfl
@[simp] theorem gLe_i : gLe (.int a) (.int b) = some (.bool (decide (a ≤ b))) := rfl
@[simp] theorem gLt_i : gLt (.int a) (.int b) = some (.bool (decide (a < b))) := rfl
@[simp] theorem gGe_i : gGe (.int a) (.int b) = some (.bool (decide (b ≤ a))) := rfl
@[simp] theorem gGt_i : gGt (.int a) (.int b) = some (.bool (decide (b < a))) := rfl
@[simp] theorem gSub_i : gSub (.int a) (.int b) = some (.int (a - b)) := rfl
@[simp] theorem gAdd_i : gAdd (.int a) (.int b) = some (.int (a + b)) := rfl
@[simp] theorem gMin_i : gMin (.int a) (.int b) = some (.int (if b < a then b else a)) := rfl
@[simp] theorem gMax_i : gMax (.int a) (.int b) = some (.int (if b > a then b else a)) := rfl
@[simp] theorem gAdd_t : gAdd (.tuple ds) (.tuple es) = if ds.length + es.length ≤ sizeLine then some (.tuple (ds ++ es)) else none := rfl
@[simp] theorem gAdd_s : gAdd (.str s) (.str z) = if s.length + z.length ≤ sizeLine then some (.str (s ++ z)) else none := rfl
@[simp] theorem gCat_l : gCat (.list ds) (.list es) = if ds.length + es.length ≤ sizeLine then some (.list (ds ++ es)) else none := rfl
@[simp] theorem gMod_i : gMod (.int a) (.int b) = if 0 < b then some (.int (a % b)) else none := rfl
@[simp] theorem gFdiv_i : gFdiv (.int a) (.int b) = if CDiv a b then some (.int (a / b)) else none := rfl
@[simp] theorem gPow_i : gPow (.int a) (.int b) = if CPow a b then some (.int (a ^ b.toNat)) else none := rfl
@[simp] theorem gRep_l : gRep (.list ds) (.int a) = if -(2 ^ 63) ≤ a ∧ a < 2 ^ 63 ∧ ds.length * a.toNat ≤ sizeLine then some (.list (List.replicate a.toNat ds).flatten) else none := rfl
@[simp] theorem gLen_l : gLen (.list ds) = some (.int ds.length) := rfl
@[simp] theorem gLen_t : gLen (.tuple ds) = some (.int ds.length) := rfl
@[simp] theorem gInt_i : gInt (.int a) = some (.int a) := rfl
@[simp] theorem gInt_b : gInt (.bool p) = some (.int (if p then 1 else 0)) := rfl
@[simp] theorem gAbs_i : gAbs (.int a) = some (.int (if a < 0 then -a else a)) := rfl
@[simp] theorem gIx_l : gIx (.list ds) (.int a) = atI ds a := rfl
@[simp] theorem gIx_t : gIx (.tuple ds) (.int a) = atI ds a := rfl
@[simp] theorem seqOf_l : seqOf (.list ds) = .ok ds := rfl
@[simp] theorem seqOf_t : seqOf (.tuple ds) = .ok ds := rfl
@[simp] theorem rgOf_i : rgOf (.int a) = if -(2 ^ 62) ≤ a ∧ a < 2 ^ 62 then .ok (rgD 0 a) else .bad := rfl
@[simp] theorem gNeg_i : gNeg (.int a) = .ok (.int (-a)) := rfl
@[simp] theorem gSl_t : gSl (.tuple ds) = fun lo hi => some (.tuple (cutD ds lo hi)) := rfl
@[simp] theorem gSlL_l : gSlL (.list ds) = fun lo hi => some (.list (cutD ds lo hi)) := rfl
@[simp] theorem appD_l : appD (.list ds) d = if ds.length < sizeLine then .ok (.list (ds ++ [d])) else .bad := rfl
@[simp] theorem mkTup_d : mkTup ds = if ds.length ≤ sizeLine then .ok (.tuple ds) else .bad := rfl
@[simp] theorem mkLst_d : mkLst ds = if ds.length ≤ sizeLine then .ok (.list ds) else .bad := rfl
@[simp] theorem keyOf_i : keyOf (.int a) = some (.inl a) := rfl
@[simp] theorem keyOf_s : keyOf (.str s) = some (.inr s) := rfl
@[simp] theorem keyD_l {a : Int} : keyD (.inl a) = .int a := rfl
@[simp] theorem keyD_r {s : Str} : keyD (.inr s) = .str s := rfl
@[simp] theorem lookD_nil : lookD [] k = none := rfl
@[simp] theorem lookD_cons {m : List (PyData × PyData)} : lookD ((d, e) :: m) k = if keyOf d = some k then some e else lookD m k := by
  unfold lookD
  rw [List.find?_cons]
  by_cases h : keyOf d = some k
  · rw [decide_eq_true h, if_pos h]; rfl
  · rw [decide_eq_false h, if_neg h]
@[simp] theorem getD2_i {m : List (PyData × PyData)} : getD2 m (.int a) d = .ok ((lookD m (.inl a)).getD d) := rfl
@[simp] theorem getD2_s {m : List (PyData × PyData)} : getD2 m (.str s) d = .ok ((lookD m (.inr s)).getD d) := rfl
@[simp] theorem chk_1 {x0 : PyData} : chk 1 F [x0] = F [x0] := rfl
@[simp] theorem chkN_2 {x0 : PyData} : chkN 2 F [x0] = F [x0] := rfl
@[simp] theorem chk_2 {x0 x1 : PyData} : chk 2 F [x0, x1] = F [x0, x1] := rfl
@[simp] theorem chkN_3 {x0 x1 : PyData} : chkN 3 F [x0, x1] = F [x0, x1] := rfl
@[simp] theorem chk_3 {x0 x1 x2 : PyData} : chk 3 F [x0, x1, x2] = F [x0, x1, x2] := rfl
@[simp] theorem chkN_4 {x0 x1 x2 : PyData} : chkN 4 F [x0, x1, x2] = F [x0, x1, x2] := rfl
@[simp] theorem chk_4 {x0 x1 x2 x3 : PyData} : chk 4 F [x0, x1, x2, x3] = F [x0, x1, x2, x3] := rfl
@[simp] theorem chkN_5 {x0 x1 x2 x3 : PyData} : chkN 5 F [x0, x1, x2, x3] = F [x0, x1, x2, x3] := rfl
@[simp] theorem chk_5 {x0 x1 x2 x3 x4 : PyData} : chk 5 F [x0, x1, x2, x3, x4] = F [x0, x1, x2, x3, x4] := rfl
@[simp] theorem chkN_6 {x0 x1 x2 x3 x4 : PyData} : chkN 6 F [x0, x1, x2, x3, x4] = F [x0, x1, x2, x3, x4] := rfl
@[simp] theorem chk_6 {x0 x1 x2 x3 x4 x5 : PyData} : chk 6 F [x0, x1, x2, x3, x4, x5] = F [x0, x1, x2, x3, x4, x5] := rfl
@[simp] theorem chkN_7 {x0 x1 x2 x3 x4 x5 : PyData} : chkN 7 F [x0, x1, x2, x3, x4, x5] = F [x0, x1, x2, x3, x4, x5] := rfl
@[simp] theorem chk_7 {x0 x1 x2 x3 x4 x5 x6 : PyData} : chk 7 F [x0, x1, x2, x3, x4, x5, x6] = F [x0, x1, x2, x3, x4, x5, x6] := rfl
@[simp] theorem chkN_8 {x0 x1 x2 x3 x4 x5 x6 : PyData} : chkN 8 F [x0, x1, x2, x3, x4, x5, x6] = F [x0, x1, x2, x3, x4, x5, x6] := rfl
@[simp] theorem chkN_1 : chkN 1 F [] = F [] := rfl
@[simp] theorem isi_int_NoneType : isiD "int" (.none) = false := rfl
@[simp] theorem isi_int_bool : isiD "int" (.bool p) = true := rfl
@[simp] theorem isi_int_int : isiD "int" (.int a) = true := rfl
@[simp] theorem isi_int_str : isiD "int" (.str s) = false := rfl
@[simp] theorem isi_int_list : isiD "int" (.list ds) = false := rfl
@[simp] theorem isi_int_tuple : isiD "int" (.tuple ds) = false := rfl
@[simp] theorem isi_bool_NoneType : isiD "bool" (.none) = false := rfl
@[simp] theorem isi_bool_bool : isiD "bool" (.bool p) = true := rfl
@[simp] theorem isi_bool_int : isiD "bool" (.int a) = false := rfl
@[simp] theorem isi_bool_str : isiD "bool" (.str s) = false := rfl
@[simp] theorem isi_bool_list : isiD "bool" (.list ds) = false := rfl
@[simp] theorem isi_bool_tuple : isiD "bool" (.tuple ds) = false := rfl
@[simp] theorem isi_str_NoneType : isiD "str" (.none) = false := rfl
@[simp] theorem isi_str_bool : isiD "str" (.bool p) = false := rfl
@[simp] theorem isi_str_int : isiD "str" (.int a) = false := rfl
@[simp] theorem isi_str_str : isiD "str" (.str s) = true := rfl
@[simp] theorem isi_str_list : isiD "str" (.list ds) = false := rfl
@[simp] theorem isi_str_tuple : isiD "str" (.tuple ds) = false := rfl
@[simp] theorem isi_list_NoneType : isiD "list" (.none) = false := rfl
@[simp] theorem isi_list_bool : isiD "list" (.bool p) = false := rfl
@[simp] theorem isi_list_int : isiD "list" (.int a) = false := rfl
@[simp] theorem isi_list_str : isiD "list" (.str s) = false := rfl
@[simp] theorem isi_list_list : isiD "list" (.list ds) = true := rfl
@[simp] theorem isi_list_tuple : isiD "list" (.tuple ds) = false := rfl
@[simp] theorem isi_tuple_NoneType : isiD "tuple" (.none) = false := rfl
@[simp] theorem isi_tuple_bool : isiD "tuple" (.bool p) = false := rfl
@[simp] theorem isi_tuple_int : isiD "tuple" (.int a) = false := rfl
@[simp] theorem isi_tuple_str : isiD "tuple" (.str s) = false := rfl
@[simp] theorem isi_tuple_list : isiD "tuple" (.list ds) = false := rfl
@[simp] theorem isi_tuple_tuple : isiD "tuple" (.tuple ds) = true := rfl
end
/-! ### what may be compared -/
def small (L : Nat) : Nat → PyData → Bool
  | _, .none => true
  | _, .bool _ => true
  | _, .int _ => true
  | _, .str s => PyData.canLay0 (.str s)
  | D + 1, .tuple xs => decide (xs.length ≤ L) && xs.all (small L D)
  | D + 1, .list xs => decide (xs.length ≤ L) && xs.all (small L D)
  | _, _ => false
theorem small_mono {L L' : Nat} (hL : L ≤ L') : ∀ {D D' : Nat} {d : PyData}, D ≤ D' → small L D d = true → small L' D' d = true := by
  intro D
  induction D with
  | zero =>
    intro D' d hD h
    cases d with
    | tuple xs => cases h
    | list xs => cases h
    | dict xs => cases h
    | str s => cases D' <;> exact h
    | _ => cases D' <;> rfl
  | succ D ih =>
    intro D' d hD h
    obtain ⟨E, rfl⟩ : ∃ E, D' = E + 1 := ⟨D' - 1, by omega⟩
    cases d with
    | tuple xs =>
      have h : (decide (xs.length ≤ L) && xs.all (small L D)) = true := h
      show (decide (xs.length ≤ L') && xs.all (small L' E)) = true
      simp only [Bool.and_eq_true, decide_eq_true_eq, List.all_eq_true] at h ⊢
      exact ⟨by omega, fun x hx => ih (by omega) (h.2 x hx)⟩
    | list xs =>
      have h : (decide (xs.length ≤ L) && xs.all (small L D)) = true := h
      show (decide (xs.length ≤ L') && xs.all (small L' E)) = true
      simp only [Bool.and_eq_true, decide_eq_true_eq, List.all_eq_true] at h ⊢
      exact ⟨by omega, fun x hx => ih (by omega) (h.2 x hx)⟩
    | dict xs => cases h
    | str s => exact h
    | _ => rfl
theorem small_ok {L : Nat} : ∀ {D : Nat} {d : PyData}, small L D d = true → d.canLay0 = true ∧ d.depth ≤ D + 1 := by
  have all : ∀ {D : Nat}, (∀ {d : PyData}, small L D d = true → d.canLay0 = true ∧ d.depth ≤ D + 1) → ∀ xs : List PyData, xs.all (small L D) = true → PyData.canLayAll0 xs = true ∧ PyData.depthAll xs ≤ D + 1 := by
    intro D ih xs
    induction xs with
    | nil => intro _; exact ⟨by simp [PyData.canLayAll0], by simp [PyData.depthAll]⟩
    | cons x xs ihx =>
      intro h
      rw [List.all_cons, Bool.and_eq_true] at h
      obtain ⟨h1, h2⟩ := ih h.1
      obtain ⟨h3, h4⟩ := ihx h.2
      exact ⟨by simp [PyData.canLayAll0, h1, h3], by simp only [PyData.depthAll]; omega⟩
  intro D
  induction D with
  | zero =>
    intro d h
    cases d with
    | tuple xs => cases h
    | list xs => cases h
    | dict xs => cases h
    | str s => exact ⟨h, by simp [PyData.depth]⟩
    | _ => exact ⟨by simp [PyData.canLay0], by simp [PyData.depth]⟩
  | succ D ih =>
    intro d h
    cases d with
    | tuple xs =>
      have h : (decide (xs.length ≤ L) && xs.all (small L D)) = true := h
      obtain ⟨h1, h2⟩ := all ih xs (Bool.and_eq_true_iff.mp h).2
      exact ⟨by simp [PyData.canLay0, h1], by simp only [PyData.depth]; omega⟩
    | list xs =>
      have h : (decide (xs.length ≤ L) && xs.all (small L D)) = true := h
      obtain ⟨h1, h2⟩ := all ih xs (Bool.and_eq_true_iff.mp h).2
      exact ⟨by simp [PyData.canLay0, h1], by simp only [PyData.depth]; omega⟩
    | dict xs => cases h
    | str s => exact ⟨h, by simp [PyData.depth]⟩
    | _ => exact ⟨by simp [PyData.canLay0], by simp [PyData.depth]⟩
theorem small_shp {L D : Nat} {d : PyData} (h : small L D d = true) (hD : D ≤ 63) : shp d = true := by
  obtain ⟨h1, h2⟩ := small_ok h
  unfold shp SeqAt.shaped
  rw [h1, Bool.true_and, decide_eq_true_eq]
  omega
theorem small_list {L D : Nat} {xs : List PyData} (h : ∀ x, x ∈ xs → small L D x = true) (hl : xs.length ≤ L) : small L (D + 1) (.list xs) = true := by
  show (decide (xs.length ≤ L) && xs.all (small L D)) = true
  rw [Bool.and_eq_true, decide_eq_true_eq, List.all_eq_true]
  exact ⟨hl, h⟩
theorem small_tuple {L D : Nat} {xs : List PyData} (h : ∀ x, x ∈ xs → small L D x = true) (hl : xs.length ≤ L) : small L (D + 1) (.tuple xs) = true := by
  show (decide (xs.length ≤ L) && xs.all (small L D)) = true
  rw [Bool.and_eq_true, decide_eq_true_eq, List.all_eq_true]
  exact ⟨hl, h⟩
theorem small_items {L D : Nat} {xs : List PyData} (h : small L D (.tuple xs) = true) : xs.length ≤ L ∧ ∀ x, x ∈ xs → small L (D - 1) x = true := by
  cases D with
  | zero => cases h
  | succ D =>
    have h : (decide (xs.length ≤ L) && xs.all (small L D)) = true := h
    rw [Bool.and_eq_true, decide_eq_true_eq, List.all_eq_true] at h
    exact h
theorem shp_nil : shp (.list []) = true := by decide +kernel
theorem shp_nilT : shp (.tuple []) = true := by decide +kernel
/-- [..] == [] -/
theorem gEq_nil {xs : List PyData} (h : shp (.list xs) = true) : gEq (.list xs) (.list []) = some (.bool xs.isEmpty) := by
  unfold gEq eqOk
  rw [h, shp_nil, Bool.and_true, Bool.or_true, if_pos rfl]
  cases xs <;> simp [PyData.eqv, PyData.eqvAll]
theorem gNe_nil {xs : List PyData} (h : shp (.list xs) = true) : gNe (.list xs) (.list []) = some (.bool (!xs.isEmpty)) := by
  unfold gNe eqOk
  rw [h, shp_nil, Bool.and_true, Bool.or_true, if_pos rfl]
  cases xs <;> simp [PyData.eqv, PyData.eqvAll]
theorem filter_not_empty {α : Type} (p : α → Bool) (xs : List α) : (xs.filter fun x => !p x).isEmpty = xs.all p := by
  induction xs with
  | nil => rfl
  | cons x xs ih =>
    rw [List.filter_cons, List.all_cons, ← ih]
    cases p x <;> simp
end DL

set_option Elab.async false
set_option linter.all false
set_option maxRecDepth 100000
set_option maxHeartbeats 400000
namespace G
open PySem DL
/-! ### what the program recognizes -/
def isFrom (d : PyData) (lo hi : Int) : Bool := match d with
  | .int i => decide (lo ≤ i) && decide (i ≤ hi)
  | _ => false
theorem s_is_from (d : PyData) (lo hi : Int) : F_is_from [d, .int lo, .int hi] = .ok (.bool (isFrom d lo hi)) := by
  cases d with
  | int i =>
    simp [F_is_from, g_is_from, isFrom, N_is_from, runS, runF, R.ite_bind]
    split <;> simp_all
    omega
  | _ => rfl
def isTup (d : PyData) (lo hi : Int) : Bool := match d with
  | .tuple ds => decide (lo ≤ ds.length) && decide ((ds.length : Int) ≤ hi)
  | _ => false
theorem s_is_tuple (d : PyData) (lo hi : Int) : F_is_tuple [d, .int lo, .int hi] = .ok (.bool (isTup d lo hi)) := by
  cases d with
  | tuple ds =>
    simp [F_is_tuple, g_is_tuple, isTup, N_is_tuple, runS, runF, R.ite_bind]
    split <;> simp_all
    omega
  | _ => rfl
def isSide (d : PyData) : Bool := match d with
  | .str s => decide (s = "left") || decide (s = "right")
  | _ => false
theorem s_is_side (d : PyData) : F_is_side [d] = .ok (.bool (isSide d)) := by
  cases d with
  | str s =>
    simp [F_is_side, g_is_side, isSide, N_is_side, runS, runF, R.ite_bind, gIn, D_SIDES, inOk, flatD, inD]
    rw [decide_eq_decide.mpr (eq_comm (a := s) (b := "left")), decide_eq_decide.mpr (eq_comm (a := s) (b := "right"))]
  | _ => rfl
def isPair (many notes : Int) (d : PyData) : Bool := match d with
  | .tuple [a, b] => isFrom a 0 (many - 1) && isFrom b 0 (notes - 1)
  | _ => false
def isLine (many notes : Int) (d : PyData) : Bool := match d with
  | .tuple ds => decide ((ds.length : Int) = many) && ds.all (isPair many notes)
  | _ => false
theorem pair_two (d : PyData) : isTup d 2 2 = true ↔ ∃ a b, d = .tuple [a, b] := by
  constructor
  · intro h
    cases d with
    | tuple ds =>
      simp [isTup] at h
      match ds, h with
      | [a, b], _ => exact ⟨a, b, rfl⟩
      | [], h => simp at h
      | [_], h => simp at h
      | _ :: _ :: _ :: _, h => simp at h; omega
    | _ => simp [isTup] at h
  · rintro ⟨a, b, rfl⟩
    simp [isTup]
theorem s_is_line (many notes : Int) (d : PyData) (hm : 0 ≤ many ∧ many < 100) : F_is_line [.int many, .int notes, d] = .ok (.bool (isLine many notes d)) := by
  by_cases ht : isTup d many many = true
  · cases d with
    | tuple ds =>
      have hl : (ds.length : Int) = many := by simp [isTup] at ht; omega
      have hz : ds.length ≤ sizeLine := by show ds.length ≤ 2 ^ 24; omega
      simp [F_is_line, g_is_line, N_is_line, runS, runF, R.ite_bind, s_is_tuple, ht, hz]
      rw [compL_map (h := fun d => .bool (isTup d 2 2)) fun d _ => by simp [runS, runF, R.ite_bind, s_is_tuple]]
      simp [gAll_map]
      by_cases h1 : ∃ x, x ∈ ds ∧ isTup x 2 2 = false
      · rw [if_pos h1]
        obtain ⟨x, hx, h2⟩ := h1
        simp [isLine, hl]
        refine ⟨x, hx, ?_⟩
        unfold isPair
        split
        · simp [isTup] at h2
        · rfl
      · rw [if_neg h1]
        have h1 : ∀ x, x ∈ ds → isTup x 2 2 = true := by simpa using h1
        simp [hz]
        rw [compL_map (h := fun d => .bool (isPair many notes d)) fun d hd => by
          obtain ⟨a, b, rfl⟩ := (pair_two d).mp (h1 d hd)
          simp [s_is_from, isPair]
          split <;> simp_all]
        simp [gAll_map, isLine, hl]
    | _ => simp [isTup] at ht
  · simp [F_is_line, g_is_line, N_is_line, runS, runF, R.ite_bind, s_is_tuple, ht]
    cases d with
    | tuple ds =>
      simp [isTup] at ht
      simp [isLine]
      intro h; omega
    | _ => rfl
def isTable (many : Int) (d : PyData) : Bool := match d with
  | .tuple ds => decide (1 ≤ ds.length) && decide (ds.length ≤ 3) && ds.all (isLine many ds.length)
  | _ => false
theorem s_is_table (many : Int) (d : PyData) (hm : 0 ≤ many ∧ many < 100) : F_is_table [.int many, d] = .ok (.bool (isTable many d)) := by
  by_cases ht : isTup d 1 3 = true
  · cases d with
    | tuple ds =>
      have hl : 1 ≤ ds.length ∧ ds.length ≤ 3 := by simp [isTup] at ht; omega
      have hz : ds.length ≤ sizeLine := by show ds.length ≤ 2 ^ 24; omega
      simp [F_is_table, g_is_table, N_is_table, runS, runF, R.ite_bind, s_is_tuple, ht, hz]
      rw [compL_map (h := fun d => .bool (isLine many ds.length d)) fun d _ => by simp [runS, runF, R.ite_bind, s_is_line _ _ _ hm]]
      simp [gAll_map, isTable, hl]
    | _ => simp [isTup] at ht
  · simp [F_is_table, g_is_table, N_is_table, runS, runF, R.ite_bind, s_is_tuple, ht]
    cases d with
    | tuple ds =>
      simp [isTup] at ht
      simp [isTable]
      intro h1 h2; omega
    | _ => rfl
def stand (many : Int) (d : PyData) : Bool := isFrom d 0 (many - 1)
def wanted (w : Str) : Int := if ("first" : Str) = w then 4 else if ("second" : Str) = w then 4 else if ("until" : Str) = w then 5 else if ("behind" : Str) = w then 5 else 0
theorem ne_we : ¬ ("walk" : Str) = "each" := by decide +kernel
theorem ne_ae : ¬ ("again" : Str) = "each" := by decide +kernel
theorem look_wanted (w : Str) : (lookD [(.str "first", .int 4), (.str "second", .int 4), (.str "until", .int 5), (.str "behind", .int 5)] (.inr w)).getD (.int 0) = .int (wanted w) := by
  simp only [lookD_cons, keyOf_s, Option.some.injEq, Sum.inr.injEq, lookD_nil]
  unfold wanted
  repeat' split
  all_goals rfl
theorem md_plain : mkDict [(.str "first", .int 4), (.str "second", .int 4), (.str "until", .int 5), (.str "behind", .int 5)] = .ok [(.str "first", .int 4), (.str "second", .int 4), (.str "until", .int 5), (.str "behind", .int 5)] := by rfl
def isPlain (many : Int) (d : PyData) : Bool := match d with
  | .tuple (.str w :: b :: c :: r) => if w = "each" then r.isEmpty && (stand many b && stand many c) else isSide b && (if w = "walk" then r.isEmpty && isTable many c else decide (3 + (r.length : Int) = wanted w) && (stand many c && r.all (stand many)))
  | _ => false
theorem wanted_le (w : Str) : wanted w ≤ 5 := by
  unfold wanted
  repeat' split
  all_goals omega
theorem s_is_plain (many : Int) (d : PyData) (hm : 0 ≤ many ∧ many < 100) : F_is_plain [.int many, d] = .ok (.bool (isPlain many d)) := by
  by_cases ht : isTup d 3 5 = true
  · cases d with
    | tuple ds =>
      have hl : 3 ≤ ds.length ∧ ds.length ≤ 5 := by simp [isTup] at ht; omega
      match ds, hl with
      | a :: b :: c :: r, hl =>
        have hr : r.length ≤ 2 := by simp at hl; omega
        cases a with
        | str w =>
          have hz : r.length + 1 + 1 ≤ sizeLine := by show r.length + 1 + 1 ≤ 2 ^ 24; omega
          have hz2 : r.length + 1 ≤ sizeLine := by omega
          have cm : ∀ (ρ : Rho) (l : List PyData), (getV ρ 0 = .ok (.int many)) → True := fun _ _ _ => trivial
          by_cases hw : w = "each"
          · subst hw
            simp [F_is_plain, g_is_plain, N_is_plain, runS, runF, R.ite_bind, s_is_tuple, ht, isPlain, s_is_side, s_is_table _ _ hm, hz, hz2]
            rw [compL_map (h := fun d => .bool (stand many d)) fun d _ => by simp [s_is_from, stand]]
            simp only [R.noX_ok, R.ok_bind, gAll_map, R.ofO_some]
            by_cases h3 : (r.length : Int) + 1 + 1 + 1 = 3
            · have : r = [] := List.eq_nil_of_length_eq_zero (by omega)
              subst this
              simp
            · have : r ≠ [] := fun e => h3 (by rw [e]; rfl)
              simp [h3, this]
          · by_cases hv : w = "walk"
            · subst hv
              simp [F_is_plain, g_is_plain, N_is_plain, runS, runF, R.ite_bind, s_is_tuple, ht, isPlain, s_is_side, s_is_table _ _ hm, hz, hz2, ne_we]
              by_cases h3 : (r.length : Int) + 1 + 1 + 1 = 3
              · have : r = [] := List.eq_nil_of_length_eq_zero (by omega)
                subst this
                simp
                cases isSide b <;> simp
              · have : r ≠ [] := fun e => h3 (by rw [e]; rfl)
                simp [h3, this]
            · simp [F_is_plain, g_is_plain, N_is_plain, runS, runF, R.ite_bind, s_is_tuple, ht, isPlain, s_is_side, s_is_table _ _ hm, hz, hz2, hw, hv, md_plain, look_wanted, -lookD_cons]
              rw [compL_map (h := fun d => .bool (stand many d)) fun d _ => by simp [s_is_from, stand]]
              simp only [R.noX_ok, R.ok_bind, gAll_map, R.ofO_some]
              cases isSide b with
              | false => simp
              | true =>
                have e : ((r.length : Int) + 1 + 1 + 1 = wanted w) ↔ (3 + (r.length : Int) = wanted w) := by omega
                by_cases h3 : 3 + (r.length : Int) = wanted w
                · simp [e, h3]
                · simp [e, h3]
        | _ => simp [F_is_plain, g_is_plain, N_is_plain, runS, runF, R.ite_bind, s_is_tuple, ht, isPlain]
    | _ => simp [isTup] at ht
  · simp [F_is_plain, g_is_plain, N_is_plain, runS, runF, R.ite_bind, s_is_tuple, ht]
    unfold isPlain
    split
    · rename_i w b c r
      have h5 := wanted_le w
      simp [isTup] at ht
      have : (3 : Int) + r.length ≠ wanted w := by omega
      have : r ≠ [] := fun e => by simp [e] at ht
      simp_all
    · rfl

def items : PyData → List PyData
  | .tuple ds => ds
  | _ => []
def isAgain (d : PyData) : Bool := match d with
  | .tuple [.str w, _, _] => decide (w = "again")
  | _ => false
def hasStep (many : Int) (d : PyData) : Bool := if isAgain d = true then (match d with
    | .tuple [_, n, ps] => isFrom n 2 4 && (isTup ps 1 3 && (items ps).all (isPlain many))
    | _ => false) else isPlain many d
theorem s_has_step (many : Int) (d : PyData) (hm : 0 ≤ many ∧ many < 100) : F_has_step [.int many, d] = .ok (.bool (hasStep many d)) := by
  by_cases ht : isTup d 3 3 = true
  · cases d with
    | tuple ds =>
      have hl : ds.length = 3 := by simp [isTup] at ht; omega
      match ds, hl with
      | [a, b, c], hl =>
        cases a with
        | str w =>
          by_cases hw : w = "again"
          · subst hw
            cases hp : isTup c 1 3 with
            | true =>
              cases c with
              | tuple ps =>
                have hz : ps.length ≤ sizeLine := by
                  have : ps.length ≤ 3 := by simp [isTup] at hp; omega
                  show ps.length ≤ 2 ^ 24; omega
                simp [F_has_step, g_has_step, N_has_step, runS, runF, R.ite_bind, s_is_tuple, s_is_from, ht, hasStep, isAgain, hp, items, hz]
                rw [compL_map (h := fun d => .bool (isPlain many d)) fun d _ => by simp [s_is_plain _ _ hm]]
                simp [gAll_map]
                cases isFrom b 2 4 <;> simp
              | _ => simp [isTup] at hp
            | false =>
              simp [F_has_step, g_has_step, N_has_step, runS, runF, R.ite_bind, s_is_tuple, s_is_from, ht, hasStep, isAgain, hp, items]
          · simp [F_has_step, g_has_step, N_has_step, runS, runF, R.ite_bind, s_is_tuple, s_is_from, ht, hasStep, isAgain, hw, s_is_plain _ _ hm]
        | _ => simp [F_has_step, g_has_step, N_has_step, runS, runF, R.ite_bind, s_is_tuple, s_is_from, ht, hasStep, isAgain, s_is_plain _ _ hm]
    | _ => simp [isTup] at ht
  · have : isAgain d = false := by
      unfold isAgain
      split
      · simp [isTup] at ht
      · rfl
    simp [F_has_step, g_has_step, N_has_step, runS, runF, R.ite_bind, s_is_tuple, ht, hasStep, this, s_is_plain _ _ hm]
def hasCor (many : Int) (d : PyData) : Bool := match d with
  | .tuple ds => decide (ds.length ≤ 60) && ds.all (stand many)
  | _ => false
theorem s_has_corridor (many : Int) (d : PyData) : F_has_corridor [.int many, d] = .ok (.bool (hasCor many d)) := by
  by_cases ht : isTup d 0 60 = true
  · cases d with
    | tuple ds =>
      have hl : ds.length ≤ 60 := by simp [isTup] at ht; omega
      have hz : ds.length ≤ sizeLine := by show ds.length ≤ 2 ^ 24; omega
      simp [F_has_corridor, g_has_corridor, N_has_corridor, runS, runF, R.ite_bind, s_is_tuple, ht, hz]
      rw [compL_map (h := fun d => .bool (stand many d)) fun d _ => by simp [s_is_from, stand]]
      simp [gAll_map, hasCor, hl]
    | _ => simp [isTup] at ht
  · simp [F_has_corridor, g_has_corridor, N_has_corridor, runS, runF, R.ite_bind, s_is_tuple, ht]
    cases d with
    | tuple ds =>
      simp [isTup] at ht
      simp [hasCor]
      intro h; omega
    | _ => rfl

/-! ### the walk of a step -/
def width (d : PyData) : Nat := match d with
  | .tuple (.str w :: _ :: c :: _) => if w = "each" then 1 else if w = "walk" then (items c).length else 2
  | _ => 0
theorem stand_2 {d : PyData} (h : stand 2 d = true) : d = .int 0 ∨ d = .int 1 := by
  unfold stand isFrom at h
  split at h
  · rename_i i
    simp at h
    have : i = 0 ∨ i = 1 := by omega
    rcases this with rfl | rfl <;> simp
  · cases h
theorem stand_3 {d : PyData} (h : stand 3 d = true) : d = .int 0 ∨ d = .int 1 ∨ d = .int 2 := by
  unfold stand isFrom at h
  split at h
  · rename_i i
    simp at h
    have : i = 0 ∨ i = 1 ∨ i = 2 := by omega
    rcases this with rfl | rfl | rfl <;> simp
  · cases h
theorem wanted_cases {w : Str} {n : Nat} (h : 3 + (n : Int) = wanted w) : (n = 1 ∧ (w = "first" ∨ w = "second")) ∨ (n = 2 ∧ (w = "until" ∨ w = "behind")) := by
  unfold wanted at h
  split at h
  · rename_i e; subst e; exact .inl ⟨by omega, .inl rfl⟩
  · split at h
    · rename_i e; subst e; exact .inl ⟨by omega, .inr rfl⟩
    · split at h
      · rename_i e; subst e; exact .inr ⟨by omega, .inl rfl⟩
      · split at h
        · rename_i e; subst e; exact .inr ⟨by omega, .inr rfl⟩
        · omega
def rowsOf (many : Int) (d : PyData) : List PyData := match F_walk_of [.int many, d] with
  | .ok (.tuple [_, .tuple r]) => r
  | _ => []
/-- what is known of a plain step's walk -/
structure WalkOk (many : Int) (d : PyData) (sd : PyData) : Prop where
  prog : F_walk_of [.int many, d] = .ok (.tuple [sd, .tuple (rowsOf many d)])
  law : F__law_lines [.int many, d] = .ok (.tuple [sd, .tuple (rowsOf many d)])
  side : isSide sd = true
  tab : isTable many (.tuple (rowsOf many d)) = true
  wid : (rowsOf many d).length = width d
theorem walk_2 (b c d : PyData) (w : Str) (hw : w = "first" ∨ w = "second") (hb : isSide b = true) (hc : stand 2 c = true) (hd : stand 2 d = true) : WalkOk 2 (.tuple [.str w, b, c, d]) b := by
  rcases stand_2 hc with rfl | rfl <;> rcases stand_2 hd with rfl | rfl <;> rcases hw with rfl | rfl <;> exact ⟨by kernel_rfl, by kernel_rfl, hb, by kernel_rfl, by kernel_rfl⟩
theorem walk_3 (b c d : PyData) (w : Str) (hw : w = "first" ∨ w = "second") (hb : isSide b = true) (hc : stand 3 c = true) (hd : stand 3 d = true) : WalkOk 3 (.tuple [.str w, b, c, d]) b := by
  rcases stand_3 hc with rfl | rfl | rfl <;> rcases stand_3 hd with rfl | rfl | rfl <;> rcases hw with rfl | rfl <;> exact ⟨by kernel_rfl, by kernel_rfl, hb, by kernel_rfl, by kernel_rfl⟩
theorem walk_2t (b c d e : PyData) (w : Str) (hw : w = "until" ∨ w = "behind") (hb : isSide b = true) (hc : stand 2 c = true) (hd : stand 2 d = true) (he : stand 2 e = true) : WalkOk 2 (.tuple [.str w, b, c, d, e]) b := by
  rcases stand_2 hc with rfl | rfl <;> rcases stand_2 hd with rfl | rfl <;> rcases stand_2 he with rfl | rfl <;> rcases hw with rfl | rfl <;> exact ⟨by kernel_rfl, by kernel_rfl, hb, by kernel_rfl, by kernel_rfl⟩
theorem walk_3t (b c d e : PyData) (w : Str) (hw : w = "until" ∨ w = "behind") (hb : isSide b = true) (hc : stand 3 c = true) (hd : stand 3 d = true) (he : stand 3 e = true) : WalkOk 3 (.tuple [.str w, b, c, d, e]) b := by
  rcases stand_3 hc with rfl | rfl | rfl <;> rcases stand_3 hd with rfl | rfl | rfl <;> rcases stand_3 he with rfl | rfl | rfl <;> rcases hw with rfl | rfl <;> exact ⟨by kernel_rfl, by kernel_rfl, hb, by kernel_rfl, by kernel_rfl⟩
theorem walk_2e (c d : PyData) (hc : stand 2 c = true) (hd : stand 2 d = true) : WalkOk 2 (.tuple [.str "each", c, d]) (.str "left") := by
  rcases stand_2 hc with rfl | rfl <;> rcases stand_2 hd with rfl | rfl <;> exact ⟨by kernel_rfl, by kernel_rfl, by kernel_rfl, by kernel_rfl, by kernel_rfl⟩
theorem walk_3e (c d : PyData) (hc : stand 3 c = true) (hd : stand 3 d = true) : WalkOk 3 (.tuple [.str "each", c, d]) (.str "left") := by
  rcases stand_3 hc with rfl | rfl | rfl <;> rcases stand_3 hd with rfl | rfl | rfl <;> exact ⟨by kernel_rfl, by kernel_rfl, by kernel_rfl, by kernel_rfl, by kernel_rfl⟩
theorem walk_w (many : Int) (hm : many = 2 ∨ many = 3) (b c : PyData) (hb : isSide b = true) (hc : isTable many c = true) : WalkOk many (.tuple [.str "walk", b, c]) b := by
  cases c with
  | tuple rows =>
    have e : F_walk_of [.int many, .tuple [.str "walk", b, .tuple rows]] = .ok (.tuple [b, .tuple rows]) := by
      rcases hm with rfl | rfl <;> kernel_rfl
    have e2 : F__law_lines [.int many, .tuple [.str "walk", b, .tuple rows]] = .ok (.tuple [b, .tuple rows]) := by
      rcases hm with rfl | rfl <;> kernel_rfl
    have e3 : rowsOf many (.tuple [.str "walk", b, .tuple rows]) = rows := by unfold rowsOf; rw [e]
    exact ⟨by rw [e3]; exact e, by rw [e3]; exact e2, hb, by rw [e3]; exact hc, by rw [e3]; rfl⟩
  | _ => cases hc
theorem walk_ok (many : Int) (hm : many = 2 ∨ many = 3) (d : PyData) (h : isPlain many d = true) : ∃ sd, WalkOk many d sd := by
  unfold isPlain at h
  split at h
  · rename_i w b c r
    split at h
    · rename_i hw
      subst hw
      simp at h
      obtain ⟨h1, h2, h3⟩ := h
      subst h1
      rcases hm with rfl | rfl
      · exact ⟨_, walk_2e b c h2 h3⟩
      · exact ⟨_, walk_3e b c h2 h3⟩
    · rename_i hw
      simp at h
      obtain ⟨hb, h⟩ := h
      refine ⟨b, ?_⟩
      split at h
      · rename_i hv
        subst hv
        obtain ⟨h1, h2⟩ := h
        subst h1
        exact walk_w many hm b c hb h2
      · obtain ⟨h1, h2, h3⟩ := h
        rcases wanted_cases h1 with ⟨hl, hk⟩ | ⟨hl, hk⟩
        · match r, hl with
          | [x], _ =>
            have h3 := h3 x (by simp)
            rcases hm with rfl | rfl
            · exact walk_2 b c x w hk hb h2 h3
            · exact walk_3 b c x w hk hb h2 h3
        · match r, hl with
          | [x, y], _ =>
            have h4 := h3 x (by simp)
            have h5 := h3 y (by simp)
            rcases hm with rfl | rfl
            · exact walk_2t b c x y w hk hb h2 h4 h5
            · exact walk_3t b c x y w hk hb h2 h4 h5
  · cases h
end G

set_option Elab.async false
set_option linter.all false
set_option maxRecDepth 100000
set_option maxHeartbeats 400000
namespace G
open PySem DL
/-! ### draws -/
abbrev NoE : Nat → Option PyData → Prop := fun _ _ => False
def Below (n : Int) (d : PyData) : Prop := ∃ i : Int, d = .int i ∧ 0 ≤ i ∧ i < n
theorem srcD_wp {k : Int} {Q : PyData → Prop} {E : Nat → Option PyData → Prop} (h : ∀ x : Int, SrcAt k x → Q (.int x)) : (srcD k).wp Q E := fun d ⟨x, e, hx⟩ => by subst e; exact h x hx
theorem w_draw (n : Int) (h : 0 < n ∧ n < 1073741824) : (F__law_draw [.int n]).wp (Below n) NoE := by
  have hd : ∀ a : Int, L2.CDiv a n := fun _ => h
  have hd19 : ∀ a : Int, L2.CDiv a 19 := fun _ => ⟨by decide, by decide⟩
  have hd32 : ∀ a : Int, L2.CDiv a 32 := fun _ => ⟨by decide, by decide⟩
  have hm1 : ∀ a : Int, L2.CMul a 48271 := fun _ => .inr ⟨by decide, by decide⟩
  have below : ∀ a : Int, Below n (.int (a % n)) := fun a => ⟨_, rfl, Int.emod_nonneg _ (by omega), Int.emod_lt_of_pos _ h.1⟩
  simp [F__law_draw, g__law_draw, N__law_draw, runS, runF, R.ite_bind, getSrc, putSrc]
  refine srcD_wp fun x hx => ?_
  by_cases h0 : 0 < x
  · simp [h0]
    refine srcD_wp fun y hy => ?_
    simp [h.1, R.ite_wp]
    refine srcD_wp fun z hz => ?_
    have h1 : SrcAt 0 (z / n) := ⟨Int.ediv_nonneg hz.1 (by omega), fun e => by cases e⟩
    simp [hd, h1]
    exact below _
  · simp [h0]
    refine srcD_wp fun y hy => ?_
    have h1 : ∀ a : Int, SrcAt 1 (a % 2147483353) := fun a => ⟨Int.emod_nonneg _ (by decide), fun _ => Int.lt_trans (Int.emod_lt_of_pos _ (by decide)) (by decide)⟩
    simp [hm1, h1]
    refine srcD_wp fun z hz => ?_
    refine srcD_wp fun t ht => ?_
    have h2 : L2.CMul z (t / 19 + 12) := .inl ⟨Int.lt_of_lt_of_le (by decide) hz.1, Int.lt_trans (hz.2 rfl) (by decide)⟩
    simp [hd19, hd32, h2, h.1]
    exact below _
theorem w_choice (ds : List PyData) (T : PyData → Prop) (h : ∀ d, d ∈ ds → T d) (h0 : 0 < ds.length) (h1 : ds.length < 1073741824) : (F__law_choice [.list ds]).wp T NoE := by
  simp [F__law_choice, g__law_choice, N__law_choice, runS, runF, R.ite_bind]
  refine R.wp_imp (w_draw ds.length ⟨by omega, by omega⟩) (fun d hd => ?_) (fun _ _ e => e)
  obtain ⟨i, rfl, hi⟩ := hd
  have e : L2.atI ds i = ds[i.toNat]? := by
    have := atI_nat ds i.toNat
    rwa [Int.toNat_of_nonneg hi.1] at this
  have hlt : i.toNat < ds.length := by omega
  simp [e, hlt]
  exact h _ (List.getElem_mem _)
end G

set_option Elab.async false
set_option linter.all false
set_option maxRecDepth 100000
set_option maxHeartbeats 400000
namespace G
open PySem DL
/-! ### all walks of a script -/
def walkD (many : Int) (d : PyData) : PyData := match F_walk_of [.int many, d] with
  | .ok x => x
  | _ => .none
theorem walkD_eq {many : Int} {d sd : PyData} (w : WalkOk many d sd) : walkD many d = .tuple [sd, .tuple (rowsOf many d)] := by
  unfold walkD; rw [w.prog]
theorem s_walk_of {many : Int} (hm : many = 2 ∨ many = 3) {d : PyData} (h : isPlain many d = true) : F_walk_of [.int many, d] = .ok (walkD many d) := by
  obtain ⟨sd, w⟩ := walk_ok many hm d h
  rw [walkD_eq w, w.prog]
theorem s_law_lines {many : Int} (hm : many = 2 ∨ many = 3) {d : PyData} (h : isPlain many d = true) : F__law_lines [.int many, d] = .ok (walkD many d) := by
  obtain ⟨sd, w⟩ := walk_ok many hm d h
  rw [walkD_eq w, w.law]
theorem plain_form {many : Int} {d : PyData} (h : isPlain many d = true) : ∃ w b c r, d = .tuple (.str w :: b :: c :: r) ∧ w ≠ "again" ∧ r.length ≤ 2 := by
  unfold isPlain at h
  split at h
  · rename_i w b c r
    refine ⟨w, b, c, r, rfl, ?_, ?_⟩
    · intro e
      subst e
      have : wanted "again" = 0 := by decide +kernel
      have n1 : ¬ ("again" : Str) = "each" := by decide +kernel
      have n2 : ¬ ("again" : Str) = "walk" := by decide +kernel
      simp [this, n1, n2] at h
      omega
    · split at h
      · simp at h; rw [h.1]; simp
      · simp at h
        obtain ⟨_, h⟩ := h
        split at h
        · rw [h.1]; simp
        · have := wanted_le w; omega
  · cases h
def expand (many : Int) (d : PyData) : List PyData := if isAgain d = true then (match d with
    | .tuple [_, .int n, ps] => (List.replicate n.toNat ((items ps).map (walkD many))).flatten
    | _ => []) else [walkD many d]
theorem again_form {d : PyData} (h : isAgain d = true) : ∃ b c, d = .tuple [.str "again", b, c] := by
  unfold isAgain at h
  split at h
  · rename_i w b c
    exact ⟨b, c, by rw [of_decide_eq_true h]⟩
  · cases h
theorem plain_not_again {many : Int} {d : PyData} (h : isPlain many d = true) : isAgain d = false := by
  cases e : isAgain d with
  | false => rfl
  | true =>
    obtain ⟨b, c, rfl⟩ := again_form e
    obtain ⟨w, b', c', r, e1, e2, _⟩ := plain_form h
    cases e1
    exact absurd rfl e2
/-- what a step's walks are like -/
theorem step_cases {many : Int} {d : PyData} (h : hasStep many d = true) : isPlain many d = true ∧ expand many d = [walkD many d] ∨
    ∃ n ps, d = .tuple [.str "again", .int n, .tuple ps] ∧ (2 ≤ n ∧ n ≤ 4) ∧ (1 ≤ ps.length ∧ ps.length ≤ 3) ∧ (∀ p, p ∈ ps → isPlain many p = true) ∧ expand many d = (List.replicate n.toNat (ps.map (walkD many))).flatten := by
  unfold hasStep at h
  split at h
  · rename_i ha
    obtain ⟨b, c, rfl⟩ := again_form ha
    right
    simp at h
    obtain ⟨h1, h2, h3⟩ := h
    cases b with
    | int n =>
      cases c with
      | tuple ps =>
        refine ⟨n, ps, rfl, ?_, ?_, by simpa [items] using h3, by unfold expand; rw [if_pos ha]; rfl⟩
        · simp [isFrom] at h1; exact h1
        · simp [isTup] at h2; omega
      | _ => simp [isTup] at h2
    | _ => simp [isFrom] at h1
  · rename_i ha
    exact .inl ⟨h, by unfold expand; rw [if_neg ha]⟩
theorem spread_plain {many : Int} (hm : many = 2 ∨ many = 3) (k : Nat) (S : SV) : ∀ (ds acc : List PyData) (s3 : Option SV), (∀ d, d ∈ ds → isPlain many d = true) → acc.length + ds.length ≤ 1000 →
    ∃ s3', forG (tg1 3) (l_spread_1 (F_spread k) F_walk_of) ds [some (.d (.int many)), some S, some (.d (.list acc)), s3] = .ok (.nx [some (.d (.int many)), some S, some (.d (.list (acc ++ ds.map (walkD many)))), s3'])
  | [], acc, s3, _, _ => ⟨s3, by rw [forG_nil]; simp⟩
  | d :: ds, acc, s3, h, hl => by
    have hd := h d List.mem_cons_self
    obtain ⟨w, b, c, r, e, hw, _⟩ := plain_form hd
    simp at hl
    have hz : acc.length + 1 ≤ sizeLine := by show acc.length + 1 ≤ 2 ^ 24; omega
    have h1 : (1 : Nat) ≤ sizeLine := by decide
    obtain ⟨s3', ih⟩ := spread_plain hm k S ds (acc ++ [walkD many d]) (some (.d d)) (fun x hx => h x (List.mem_cons_of_mem _ hx)) (by simp; omega)
    refine ⟨s3', ?_⟩
    rw [forG_cons]
    have e2 : l_spread_1 (F_spread k) F_walk_of [some (.d (.int many)), some S, some (.d (.list acc)), some (.d d)] = .ok (.nx [some (.d (.int many)), some S, some (.d (.list (acc ++ [walkD many d]))), some (.d d)]) := by
      have e3 := s_walk_of hm hd
      subst e
      simp [l_spread_1, runS, runF, R.ite_bind, hw, e3, hz, h1]
    simp [e2, ih]
theorem s_spread_plain {many : Int} (hm : many = 2 ∨ many = 3) (k : Nat) (ds : List PyData) (h : ∀ d, d ∈ ds → isPlain many d = true) (hl : ds.length ≤ 1000) : F_spread (k + 1) [.int many, .tuple ds] = .ok (.list (ds.map (walkD many))) := by
  obtain ⟨s3, e⟩ := spread_plain hm k (.d (.tuple ds)) ds [] none h (by simp; exact hl)
  simp [F_spread, g_spread, N_spread, runS, runF, R.ite_bind, e]
theorem spread_steps {many : Int} (hm : many = 2 ∨ many = 3) (k : Nat) (S : SV) : ∀ (ds acc : List PyData) (s3 : Option SV), (∀ d, d ∈ ds → hasStep many d = true) → acc.length + 12 * ds.length ≤ 1000 →
    ∃ s3', forG (tg1 3) (l_spread_1 (F_spread (k + 1)) F_walk_of) ds [some (.d (.int many)), some S, some (.d (.list acc)), s3] = .ok (.nx [some (.d (.int many)), some S, some (.d (.list (acc ++ ds.flatMap (expand many)))), s3'])
  | [], acc, s3, _, _ => ⟨s3, by rw [forG_nil]; simp⟩
  | d :: ds, acc, s3, h, hl => by
    simp at hl
    rcases step_cases (h d List.mem_cons_self) with ⟨hd, he⟩ | ⟨n, ps, e, hn, hp, hpl, he⟩
    · obtain ⟨w, b, c, r, e, hw, _⟩ := plain_form hd
      have hz : acc.length + 1 ≤ sizeLine := by show acc.length + 1 ≤ 2 ^ 24; omega
      have h1 : (1 : Nat) ≤ sizeLine := by decide
      obtain ⟨s3', ih⟩ := spread_steps hm k S ds (acc ++ [walkD many d]) (some (.d d)) (fun x hx => h x (List.mem_cons_of_mem _ hx)) (by simp; omega)
      refine ⟨s3', ?_⟩
      rw [forG_cons]
      have e2 : l_spread_1 (F_spread (k + 1)) F_walk_of [some (.d (.int many)), some S, some (.d (.list acc)), some (.d d)] = .ok (.nx [some (.d (.int many)), some S, some (.d (.list (acc ++ [walkD many d]))), some (.d d)]) := by
        have e3 := s_walk_of hm hd
        subst e
        simp [l_spread_1, runS, runF, R.ite_bind, hw, e3, hz, h1]
      simp [e2, ih, he]
    · have hlen : (List.replicate n.toNat (ps.map (walkD many))).flatten.length = n.toNat * ps.length := by simp
      have hb : n.toNat * ps.length ≤ 12 := by
        have h1 : n.toNat ≤ 4 := by omega
        calc n.toNat * ps.length ≤ 4 * 3 := Nat.mul_le_mul h1 hp.2
          _ = 12 := rfl
      obtain ⟨s3', ih⟩ := spread_steps hm k S ds (acc ++ (List.replicate n.toNat (ps.map (walkD many))).flatten) (some (.d d)) (fun x hx => h x (List.mem_cons_of_mem _ hx)) (by rw [List.length_append, hlen]; omega)
      refine ⟨s3', ?_⟩
      rw [forG_cons]
      have hz : acc.length + n.toNat * ps.length ≤ sizeLine := by show _ ≤ 2 ^ 24; omega
      have hz2 : ps.length * n.toNat ≤ sizeLine := by rw [Nat.mul_comm]; show _ ≤ 2 ^ 24; omega
      have e2 : l_spread_1 (F_spread (k + 1)) F_walk_of [some (.d (.int many)), some S, some (.d (.list acc)), some (.d d)] = .ok (.nx [some (.d (.int many)), some S, some (.d (.list (acc ++ (List.replicate n.toNat (ps.map (walkD many))).flatten))), some (.d d)]) := by
        have e3 := s_spread_plain hm k ps hpl (by omega)
        have hr : -(2 ^ 63) ≤ n ∧ n < 2 ^ 63 := by omega
        subst e
        simp [l_spread_1, runS, runF, R.ite_bind, e3, hz, hz2]
        omega
      simp [e2, ih, he]
/-- a script's walks -/
theorem s_spread {many : Int} (hm : many = 2 ∨ many = 3) (k : Nat) (ds : List PyData) (h : ∀ d, d ∈ ds → hasStep many d = true) (hl : ds.length ≤ 6) : F_spread (k + 2) [.int many, .tuple ds] = .ok (.list (ds.flatMap (expand many))) := by
  obtain ⟨s3, e⟩ := spread_steps hm k (.d (.tuple ds)) ds [] none h (by simp; omega)
  show runB N_spread.length (g_spread (F_spread (k + 1)) F_walk_of) [.int many, .tuple ds] = _
  simp [g_spread, N_spread, runS, runF, R.ite_bind, e]
def isWalk (many : Int) (d : PyData) : Bool := match d with
  | .tuple [sd, t] => isSide sd && isTable many t
  | _ => false
theorem walkD_ok {many : Int} (hm : many = 2 ∨ many = 3) {d : PyData} (h : isPlain many d = true) : isWalk many (walkD many d) = true := by
  obtain ⟨sd, w⟩ := walk_ok many hm d h
  rw [walkD_eq w]
  simp [isWalk, w.side, w.tab]
theorem expand_ok {many : Int} (hm : many = 2 ∨ many = 3) {d : PyData} (h : hasStep many d = true) : ∀ x, x ∈ expand many d → isWalk many x = true := by
  intro x hx
  rcases step_cases h with ⟨hd, he⟩ | ⟨n, ps, e, hn, hp, hpl, he⟩
  · rw [he] at hx
    simp at hx
    rw [hx]; exact walkD_ok hm hd
  · rw [he] at hx
    obtain ⟨l, h1, h2⟩ := List.mem_flatten.mp hx
    rw [(List.mem_replicate.mp h1).2] at h2
    obtain ⟨p, h3, rfl⟩ := List.mem_map.mp h2
    exact walkD_ok hm (hpl p h3)
/-- how many notes -/
def nn (d : PyData) : Nat := match d with
  | .tuple [_, .tuple r] => r.length
  | _ => 0
def nprod : List PyData → Nat
  | [] => 1
  | d :: r => nn d * nprod r
theorem walk_form {many : Int} {d : PyData} (h : isWalk many d = true) : ∃ sd r, d = .tuple [sd, .tuple r] ∧ (1 ≤ r.length ∧ r.length ≤ 3) := by
  unfold isWalk at h
  split at h
  · rename_i sd t
    cases t with
    | tuple r =>
      simp [isTable] at h
      exact ⟨sd, r, rfl, by omega⟩
    | _ => simp [isTable] at h
  · cases h
theorem notes_loop {many : Int} (S : SV) (ds : List PyData) : ∀ (p : Int) (s2 s3 : Option SV), (∀ d, d ∈ ds → isWalk many d = true) →
    ∃ s2' s3', forG (tgTup 2 (tgCons (tg1 2) (tgCons (tg1 3) tgNil))) l_notes_of_1 ds [some S, some (.d (.int p)), s2, s3] = .ok (.nx [some S, some (.d (.int (p * (nprod ds : Int)))), s2', s3']) := by
  induction ds with
  | nil => intro p s2 s3 _; exact ⟨s2, s3, by rw [forG_nil]; simp [nprod]⟩
  | cons d ds ih =>
    intro p s2 s3 h
    obtain ⟨sd, r, e, hr⟩ := walk_form (h d List.mem_cons_self)
    obtain ⟨s2', s3', ih⟩ := ih (p * (r.length : Int)) (some (.d sd)) (some (.d (.tuple r))) fun x hx => h x (List.mem_cons_of_mem _ hx)
    refine ⟨s2', s3', ?_⟩
    rw [forG_cons]
    have hc : L2.CMul p (r.length : Int) := .inr ⟨by omega, by omega⟩
    have e2 : l_notes_of_1 [some S, some (.d (.int p)), some (.d sd), some (.d (.tuple r))] = .ok (.nx [some S, some (.d (.int (p * (r.length : Int)))), some (.d sd), some (.d (.tuple r))]) := by
      simp [l_notes_of_1, runS, runF, R.ite_bind, hc]
    subst e
    simp [e2, ih, nprod, nn, Int.mul_assoc]
theorem s_notes_of {many : Int} (ds : List PyData) (h : ∀ d, d ∈ ds → isWalk many d = true) : F_notes_of [.list ds] = .ok (.int (nprod ds)) := by
  obtain ⟨s2, s3, e⟩ := notes_loop (.d (.list ds)) ds 1 none none h
  simp [F_notes_of, g_notes_of, N_notes_of, runS, runF, R.ite_bind, e]
/-- a script -/
def allW (many : Int) (ds : List PyData) : List PyData := ds.flatMap (expand many)
def isScr (d : PyData) : Bool := match d with
  | .tuple [.int many, .tuple steps] => decide (2 ≤ many) && decide (many ≤ 3) && decide (steps.length ≤ 6) && steps.all (hasStep many) && decide ((allW many steps).length ≤ 8) && decide (nprod (allW many steps) ≤ 16)
  | _ => false
theorem s_has_script (d : PyData) : F_has_script [d] = .ok (.bool (isScr d)) := by
  by_cases ht : isTup d 2 2 = true
  · obtain ⟨a, b, rfl⟩ := (pair_two d).mp ht
    by_cases ha : isFrom a 2 3 = true
    · by_cases hb : isTup b 0 6 = true
      · cases a with
        | int many =>
          cases b with
          | tuple steps =>
            have hm : many = 2 ∨ many = 3 := by simp [isFrom] at ha; omega
            have hm2 : 0 ≤ many ∧ many < 100 := by omega
            have hm3 : 2 ≤ many ∧ many ≤ 3 := by omega
            have hl : steps.length ≤ 6 := by simp [isTup] at hb; omega
            have hz : steps.length ≤ sizeLine := by show steps.length ≤ 2 ^ 24; omega
            simp [F_has_script, g_has_script, N_has_script, runS, runF, R.ite_bind, s_is_tuple, s_is_from, ht, ha, hb, hz]
            rw [compL_map (h := fun d => .bool (hasStep many d)) fun d _ => by simp [s_has_step _ _ hm2]]
            simp [gAll_map]
            by_cases h1 : ∃ x, x ∈ steps ∧ hasStep many x = false
            · rw [if_pos h1]
              simp [isScr, hm3, hl]
              obtain ⟨x, hx, h2⟩ := h1
              intro h3
              have := h3 x hx
              rw [h2] at this; cases this
            · rw [if_neg h1]
              have h1 : ∀ x, x ∈ steps → hasStep many x = true := by simpa using h1
              have e := s_spread hm 1 steps h1 hl
              have e2 := s_notes_of (many := many) (steps.flatMap (expand many)) fun x hx => by
                obtain ⟨y, hy, hz⟩ := List.mem_flatMap.mp hx
                exact expand_ok hm (h1 y hy) x hz
              simp [e, e2, -List.length_flatMap]
              have h4 : steps.all (hasStep many) = true := List.all_eq_true.mpr h1
              simp [isScr, hm3, hl, allW, h4, -List.length_flatMap]
              by_cases h8 : (steps.flatMap (expand many)).length ≤ 8
              · have h8' : ((steps.flatMap (expand many)).length : Int) ≤ 8 := by omega
                have h16 : ((nprod (steps.flatMap (expand many)) : Int) ≤ 16) ↔ nprod (steps.flatMap (expand many)) ≤ 16 := by omega
                simp [h8, h8', h16, -List.length_flatMap]
                exact decide_eq_decide.mpr Iff.rfl
              · have h8' : ¬ ((steps.flatMap (expand many)).length : Int) ≤ 8 := by omega
                simp [h8, h8', -List.length_flatMap]
          | _ => simp [isTup] at hb
        | _ => simp [isFrom] at ha
      · simp [F_has_script, g_has_script, N_has_script, runS, runF, R.ite_bind, s_is_tuple, s_is_from, ht, ha, hb]
        unfold isScr
        split
        · rename_i many steps e
          cases e
          have h6 : ¬ steps.length ≤ 6 := fun z => hb (by simp [isTup]; omega)
          simp [h6]
        · rfl
    · simp [F_has_script, g_has_script, N_has_script, runS, runF, R.ite_bind, s_is_tuple, s_is_from, ht, ha]
      unfold isScr
      split
      · rename_i many steps e
        cases e
        have h6 : ¬ (2 ≤ many ∧ many ≤ 3) := fun z => ha (by simp [isFrom]; omega)
        by_cases h2 : 2 ≤ many
        · have h3 : ¬ many ≤ 3 := fun z => h6 ⟨h2, z⟩
          simp [h3]
        · simp [h2]
      · rfl
  · simp [F_has_script, g_has_script, N_has_script, runS, runF, R.ite_bind, s_is_tuple, s_is_from, ht]
    unfold isScr
    split
    · simp [isTup] at ht
    · rfl
theorem s_need_script (d : PyData) (h : isScr d = true) : F_need_script [d] = .ok .none := by
  simp [F_need_script, g_need_script, N_need_script, runS, runF, R.ite_bind, s_has_script, h]
/-- what a script is -/
theorem scr_form {d : PyData} (h : isScr d = true) : ∃ many steps, d = .tuple [.int many, .tuple steps] ∧ (many = 2 ∨ many = 3) ∧ steps.length ≤ 6 ∧ (∀ s, s ∈ steps → hasStep many s = true) ∧ (allW many steps).length ≤ 8 ∧ nprod (allW many steps) ≤ 16 := by
  unfold isScr at h
  split at h
  · rename_i many steps
    simp only [Bool.and_eq_true, decide_eq_true_eq, List.all_eq_true] at h
    obtain ⟨⟨⟨⟨⟨h1, h2⟩, h3⟩, h4⟩, h5⟩, h6⟩ := h
    exact ⟨many, steps, rfl, by omega, h3, h4, h5, h6⟩
  · cases h
end G

set_option Elab.async false
set_option linter.all false
set_option maxRecDepth 100000
set_option maxHeartbeats 400000
namespace G
open PySem DL
/-! ### drawn tables, steps, scripts -/
/-- a loop by an invariant, with its target -/
theorem forG_wp {tt : PyData → Rho → Option Rho} {u : Rho → R Fl} {Q : Fl → Prop} {E : Nat → Option PyData → Prop} (I : List PyData → Rho → Prop)
    (h : ∀ d ds ρ, I (d :: ds) ρ → ((R.ofO (tt d ρ)).bind u).wp (fun f => match f with
      | .nx ρ' => I ds ρ'
      | .ct ρ' => I ds ρ'
      | .bk ρ' => Q (.nx ρ')
      | .rt e ρ' => Q (.rt e ρ')
      | .rf e ρ' => Q (.rf e ρ')) E) (hn : ∀ ρ, I [] ρ → Q (.nx ρ)) {ds : List PyData} {ρ : Rho} (hi : I ds ρ) : (forG tt u ds ρ).wp Q E := forL_wp I h hn hi
theorem wpi {α : Type} {r : R α} {Q Q' : α → Prop} {E : Nat → Option PyData → Prop} (h : r.wp Q E) (hq : ∀ a, Q a → Q' a) : r.wp Q' E := R.wp_imp h hq fun _ _ z => z
theorem map_int_filter (os : List Int) (p : Int → Bool) (q : PyData → Bool) (h : ∀ o, q (.int o) = p o) : ((os.map PyData.int).filter q) = (os.filter p).map .int := by
  rw [List.filter_map]
  congr 1
  exact List.filter_congr fun o _ => h o
theorem filter_ne_len (os : List Int) (hn : os.Nodup) (o : Int) : os.length ≤ (os.filter fun a => !decide (a = o)).length + 1 := by
  induction os with
  | nil => simp
  | cons a os ih =>
    rw [List.nodup_cons] at hn
    by_cases h : a = o
    · subst h
      have : os.filter (fun b => !decide (b = a)) = os := List.filter_eq_self.mpr fun b hb => by
        have : b ≠ a := fun e => hn.1 (e ▸ hb)
        simp [this]
      simp [this]
    · simp [h]
      have := ih hn.2
      simpa using this
/-- what a line of a table is drawn from -/
def Ord (many : Int) (os : List Int) (n : Nat) : Prop := os.Nodup ∧ (∀ o, o ∈ os → 0 ≤ o ∧ o < many) ∧ many ≤ (os.length : Int) + n ∧ os.length ≤ 3
theorem Ord.next {many : Int} {os : List Int} {n : Nat} (h : Ord many os n) (o : Int) (p : Bool) : Ord many (os.filter fun a => !decide (a = o) || !p) (n + 1) := by
  obtain ⟨h1, h2, h3, h4⟩ := h
  refine ⟨h1.filter _, fun x hx => h2 x (List.mem_filter.mp hx).1, ?_, Nat.le_trans (List.length_filter_le _ _) h4⟩
  cases p with
  | false =>
    have : (os.filter fun a => !decide (a = o) || !false) = os := List.filter_eq_self.mpr (by simp)
    rw [this]
    omega
  | true =>
    have := filter_ne_len os h1 o
    simp only [Bool.not_true, Bool.or_false]
    omega
set_option maxHeartbeats 0 in
theorem w_line (many wide : Int) (hm : many = 2 ∨ many = 3) (hw : 1 ≤ wide ∧ wide ≤ 3) (s2 s4 s5 s11 : Option SV) (p : Bool) (Q : Fl → Prop)
    (hQ : ∀ line s6 s9 s10, isLine many wide (.tuple line) = true → Q (.nx [some .src, some (.d (.int many)), s2, some (.d (.int wide)), s4, s5, s6, some (.d (.tuple line)), some (.d (.bool p)), s9, s10, s11])) :
    ∀ (ds : List PyData) (os : List Int) (line : List PyData) (s9 s10 : Option SV), Ord many os line.length → line.all (isPair many wide) = true → ((line.length + ds.length : Nat) : Int) = many →
    (forG (tg1 9) (l__law_table_1 F__law_draw F__law_choice) ds [some .src, some (.d (.int many)), s2, some (.d (.int wide)), s4, s5, some (.d (.list (os.map .int))), some (.d (.tuple line)), some (.d (.bool p)), s9, s10, s11]).wp Q NoE
  | [], os, line, s9, s10, ho, hl, hn => by
    rw [forG_nil]
    refine hQ line _ s9 s10 ?_
    simp only [isLine, hl, Bool.and_true, decide_eq_true_eq]
    simpa using hn
  | d :: ds, os, line, s9, s10, ho, hl, hn => by
    rw [forG_cons]
    obtain ⟨h1, h2, h3, h4⟩ := id ho
    have h0 : 0 < (os.map PyData.int).length := by simp at hn ⊢; omega
    have hz : os.length ≤ sizeLine := by show os.length ≤ 2 ^ 24; omega
    have hz2 : line.length + 1 ≤ sizeLine := by show line.length + 1 ≤ 2 ^ 24; simp at hn; omega
    simp [l__law_table_1, runS, runF, R.ite_bind]
    refine wpi (w_choice (os.map .int) (fun d => ∃ o, o ∈ os ∧ d = .int o) (fun d hd => by
      obtain ⟨o, ho, rfl⟩ := List.mem_map.mp hd
      exact ⟨o, ho, rfl⟩) h0 (by simp; omega)) fun d ⟨o, hoo, e⟩ => ?_
    subst e
    simp [hz]
    rw [compL_filter (p := fun x => match x with | .int a => !decide (a = o) || !p | _ => false) (h := fun d => d) (fun d hd => by
      obtain ⟨a, _, rfl⟩ := List.mem_map.mp hd
      by_cases h : a = o <;> simp [h]) (fun d _ _ => by simp)]
    rw [map_int_filter os (fun a => !decide (a = o) || !p) _ fun _ => rfl]
    simp
    refine wpi (w_draw wide ⟨by omega, by omega⟩) fun d ⟨n, e, hn2⟩ => ?_
    subst e
    simp [hz2]
    have hp : isPair many wide (.tuple [.int o, .int n]) = true := by
      have := h2 o hoo
      simp [isPair, isFrom]
      omega
    refine w_line many wide hm hw s2 s4 s5 s11 p Q hQ ds _ _ _ _ ?_ ?_ ?_
    · rw [List.length_append]
      exact ho.next o p
    · rw [List.all_append, hl]
      simp [hp]
    · simp at hn ⊢
      omega
theorem w_rows (many wide : Int) (hm : many = 2 ∨ many = 3) (hw : 1 ≤ wide ∧ wide ≤ 3) (s2 s11 : Option SV) (Q : Fl → Prop)
    (hQ : ∀ lines s5 s6 s7 s8 s9 s10, lines.all (isLine many wide) = true → (lines.length : Int) = wide → Q (.nx [some .src, some (.d (.int many)), s2, some (.d (.int wide)), some (.d (.tuple lines)), s5, s6, s7, s8, s9, s10, s11])) :
    ∀ (ds lines : List PyData) (s5 s6 s7 s8 s9 s10 : Option SV), lines.all (isLine many wide) = true → ((lines.length + ds.length : Nat) : Int) = wide →
    (forG (tg1 5) (l__law_table_2 F__law_draw F__law_choice) ds [some .src, some (.d (.int many)), s2, some (.d (.int wide)), some (.d (.tuple lines)), s5, s6, s7, s8, s9, s10, s11]).wp Q NoE
  | [], lines, s5, s6, s7, s8, s9, s10, hl, hn => by
    rw [forG_nil]
    exact hQ lines _ _ _ _ _ _ hl (by simpa using hn)
  | d :: ds, lines, s5, s6, s7, s8, s9, s10, hl, hn => by
    rw [forG_cons]
    have hz2 : lines.length + 1 ≤ sizeLine := by show lines.length + 1 ≤ 2 ^ 24; simp at hn; omega
    have go : ∀ (os : List Int) (rg : List PyData), rgD 0 many = os.map .int → rgD 0 many = rg → Ord many os 0 → (rg.length : Int) = many → ((R.ofO (tg1 5 d [some .src, some (.d (.int many)), s2, some (.d (.int wide)), some (.d (.tuple lines)), s5, s6, s7, s8, s9, s10, s11])).bind (l__law_table_2 F__law_draw F__law_choice)).wp (fun f => match f with
      | .nx ρ' => (forG (tg1 5) (l__law_table_2 F__law_draw F__law_choice) ds ρ').wp Q NoE
      | .ct ρ' => (forG (tg1 5) (l__law_table_2 F__law_draw F__law_choice) ds ρ').wp Q NoE
      | .bk ρ' => Q (.nx ρ')
      | .rt e ρ' => Q (.rt e ρ')
      | .rf e ρ' => Q (.rf e ρ')) NoE := by
      intro os rg e1 e2 ho hl2
      have hb : -(2 ^ 62) ≤ many ∧ many < 2 ^ 62 := by omega
      have e3 : gRange (.int many) = some (.list (os.map .int)) := by
        rw [← e1]
        rcases hm with rfl | rfl <;> rfl
      simp [l__law_table_2, runS, runF, R.ite_bind, e3]
      refine wpi (w_draw 2 (by decide)) fun d ⟨n, e, hn2⟩ => ?_
      subst e
      simp [e2]
      rw [if_pos (by omega)]
      simp
      refine w_line many wide hm hw _ _ _ _ (decide (n = 0)) _ (fun line s6 s9 s10 hln => ?_) rg os [] _ _ ho rfl (by simpa using hl2)
      simp [hz2]
      refine w_rows many wide hm hw s2 s11 Q hQ ds _ _ _ _ _ _ _ ?_ ?_
      · rw [List.all_append, hl]
        simp [hln]
      · simp at hn ⊢
        omega
    have key := (show ∃ (os : List Int) (rg : List PyData), rgD 0 many = os.map .int ∧ rgD 0 many = rg ∧ Ord many os 0 ∧ (rg.length : Int) = many from by
      rcases hm with rfl | rfl
      · exact ⟨[0, 1], _, rfl, rfl, ⟨by decide, by decide, by decide, by decide⟩, rfl⟩
      · exact ⟨[0, 1, 2], _, rfl, rfl, ⟨by decide, by decide, by decide, by decide⟩, rfl⟩)
    obtain ⟨os, rg, k1, k2, k3, k4⟩ := key
    rw [R.wp_bind]
    refine wpi (go os rg k1 k2 k3 k4) fun f hf => ?_
    cases f <;> exact hf
theorem w_table (many most : Int) (hm : many = 2 ∨ many = 3) (hw : 1 ≤ most ∧ most ≤ 3) : (F__law_table [.int many, .int most]).wp (fun d => isTable many d = true ∧ ((items d).length : Int) ≤ most) NoE := by
  simp [F__law_table, g__law_table, N__law_table, runS, runF, R.ite_bind]
  refine wpi (w_draw most ⟨by omega, by omega⟩) fun d ⟨n, e, hn⟩ => ?_
  subst e
  have hb : -(2 ^ 62) ≤ 1 + n ∧ 1 + n < 2 ^ 62 := by omega
  have hrg : ((rgD 0 (1 + n)).length : Int) = 1 + n := by simp [rgD]; omega
  simp
  rw [if_pos (by omega)]
  simp
  refine w_rows many (1 + n) hm (by omega) _ _ _ (fun lines s5 s6 s7 s8 s9 s10 hl hln => ?_) (rgD 0 (1 + n)) [] _ _ _ _ _ _ rfl (by simpa using hrg)
  have h1 : 1 ≤ lines.length ∧ lines.length ≤ 3 := by omega
  have h2 : (lines.length : Int) = 1 + n := hln
  have h3 : isTable many (.tuple lines) = true := by
    simp only [isTable, h1, h2, decide_true, Bool.true_and]
    exact hl
  have h4 : (lines.length : Int) ≤ most := by omega
  simp [h3, items, h4]
theorem n_fe : ¬ ("first" : Str) = "each" := by decide +kernel
theorem n_fw : ¬ ("first" : Str) = "walk" := by decide +kernel
theorem n_se : ¬ ("second" : Str) = "each" := by decide +kernel
theorem n_sw : ¬ ("second" : Str) = "walk" := by decide +kernel
theorem n_ue : ¬ ("until" : Str) = "each" := by decide +kernel
theorem n_uw : ¬ ("until" : Str) = "walk" := by decide +kernel
theorem n_be : ¬ ("behind" : Str) = "each" := by decide +kernel
theorem n_bw : ¬ ("behind" : Str) = "walk" := by decide +kernel
theorem n_uf : ¬ ("until" : Str) = "first" := by decide +kernel
theorem n_us : ¬ ("until" : Str) = "second" := by decide +kernel
theorem n_bf : ¬ ("behind" : Str) = "first" := by decide +kernel
theorem n_bs : ¬ ("behind" : Str) = "second" := by decide +kernel
theorem n_fs : ¬ ("first" : Str) = "second" := by decide +kernel
theorem n_fu : ¬ ("first" : Str) = "until" := by decide +kernel
theorem n_su : ¬ ("second" : Str) = "until" := by decide +kernel
theorem n_fb : ¬ ("first" : Str) = "behind" := by decide +kernel
theorem n_sb : ¬ ("second" : Str) = "behind" := by decide +kernel
theorem n_sf : ¬ ("second" : Str) = "first" := by decide +kernel
theorem w_f : wanted "first" = 4 := by decide +kernel
theorem w_s : wanted "second" = 4 := by decide +kernel
theorem w_u : wanted "until" = 5 := by decide +kernel
theorem w_b : wanted "behind" = 5 := by decide +kernel
theorem w_plain (many notes : Int) (hm : many = 2 ∨ many = 3) (hn : 1 ≤ notes) : (F__law_plain [.int many, .int notes]).wp (fun d => isPlain many d = true ∧ (width d : Int) ≤ notes) NoE := by
  have hb : 0 < many ∧ many < 1073741824 := by omega
  have hmin : 1 ≤ (if notes < 3 then notes else 3) ∧ (if notes < 3 then notes else 3) ≤ 3 := by split <;> omega
  have hmin2 : (if notes < 3 then notes else 3) ≤ notes := by split <;> omega
  have st : ∀ i : Int, 0 ≤ i ∧ i < many → stand many (.int i) = true := fun i h => by simp [stand, isFrom]; omega
  simp [F__law_plain, g__law_plain, N__law_plain, runS, runF, R.ite_bind, -gMin_i]
  refine wpi (w_choice [.str "left", .str "right"] (fun d => isSide d = true) (fun d hd => by simp at hd; rcases hd with rfl | rfl <;> rfl) (by decide) (by decide)) fun side hside => ?_
  rw [show rgD 0 3 = [.int 0, .int 1, .int 2] from rfl]
  simp [R.wp_noX]
  refine wpi (compL_wp (Below many) fun d _ => by simp; exact w_draw many hb) fun ys ⟨hl, hy⟩ => ?_
  match ys, hl with
  | [a, b, c], _ =>
    obtain ⟨a, rfl, ha⟩ := hy a (by simp)
    obtain ⟨b, rfl, hb2⟩ := hy b (by simp)
    obtain ⟨c, rfl, hc⟩ := hy c (by simp)
    have sa := st a ha
    have sb := st b hb2
    have sc := st c hc
    have walk : (F__law_table [.int many, .int (if notes < 3 then notes else 3)]).wp (fun d => isPlain many (.tuple [.str "walk", side, d]) = true ∧ (width (.tuple [.str "walk", side, d]) : Int) ≤ notes) NoE :=
      wpi (w_table many _ hm hmin) fun d ⟨h1, h2⟩ => by
        refine ⟨?_, ?_⟩
        · simp [isPlain, ne_we, hside, h1]
        · simp [width, ne_we]; omega
    by_cases h1 : 1 < notes
    · simp [h1]
      refine wpi (w_choice [.str "each", .str "walk", .str "first", .str "second", .str "until", .str "behind", .str "walk"] (fun d => ∃ w, d = .str w ∧ (w = "each" ∨ w = "walk" ∨ w = "first" ∨ w = "second" ∨ w = "until" ∨ w = "behind")) (fun d hd => by
        simp at hd
        rcases hd with rfl | rfl | rfl | rfl | rfl | rfl | rfl <;> exact ⟨_, rfl, by simp⟩) (by decide) (by decide)) fun d ⟨w, e, hw⟩ => ?_
      subst e
      have h2 : 2 ≤ notes := by omega
      rcases hw with rfl | rfl | rfl | rfl | rfl | rfl
      · simp [isPlain, width, sa, sb, hn]
      · simp [ne_we]
        exact walk
      all_goals simp [n_fe, n_fw, n_se, n_sw, n_ue, n_uw, n_be, n_bw, n_uf, n_us, n_bf, n_bs, n_fs, n_fu, n_su, n_fb, n_sb, n_sf, gIn, inOk, flatD, inD, isPlain, width, hside, sa, sb, sc, w_f, w_s, w_u, w_b, h2]
    · simp [h1]
      refine wpi (w_choice [.str "each", .str "walk"] (fun d => ∃ w, d = .str w ∧ (w = "each" ∨ w = "walk")) (fun d hd => by
        simp at hd
        rcases hd with rfl | rfl <;> exact ⟨_, rfl, by simp⟩) (by decide) (by decide)) fun d ⟨w, e, hw⟩ => ?_
      subst e
      rcases hw with rfl | rfl
      · simp [isPlain, width, sa, sb, hn]
      · simp [ne_we]
        exact walk
end G

set_option Elab.async false
set_option linter.all false
set_option maxRecDepth 100000
set_option maxHeartbeats 400000
namespace G
open PySem DL
/-! ### the law's own check -/
theorem gIn_sides (s : Str) : gNotIn (.str s) (.list [.str "left", .str "right"]) = some (.bool (!isSide (.str s))) := by
  simp [gNotIn, gIn, inOk, flatD, inD, isSide]
  rw [decide_eq_decide.mpr (eq_comm (a := s) (b := "left")), decide_eq_decide.mpr (eq_comm (a := s) (b := "right"))]
theorem ne_ew : ¬ ("each" : Str) = "walk" := by decide +kernel
def wantedL (w : Str) : Int := if ("each" : Str) = w then 2 else if ("first" : Str) = w then 2 else if ("second" : Str) = w then 2 else if ("until" : Str) = w then 3 else if ("behind" : Str) = w then 3 else 9
theorem look_wantedL (w : Str) : (lookD [(.str "each", .int 2), (.str "first", .int 2), (.str "second", .int 2), (.str "until", .int 3), (.str "behind", .int 3)] (.inr w)).getD (.int 9) = .int (wantedL w) := by
  simp only [lookD_cons, keyOf_s, Option.some.injEq, Sum.inr.injEq, lookD_nil]
  unfold wantedL
  repeat' split
  all_goals rfl
theorem md_plainL : mkDict [(.str "each", .int 2), (.str "first", .int 2), (.str "second", .int 2), (.str "until", .int 3), (.str "behind", .int 3)] = .ok [(.str "each", .int 2), (.str "first", .int 2), (.str "second", .int 2), (.str "until", .int 3), (.str "behind", .int 3)] := by rfl
theorem wantedL_each : wantedL "each" = 2 := by decide +kernel
theorem wantedL_wanted {w : Str} (hw : w ≠ "each") {n : Nat} (hn : n < 9) : (n : Int) = wantedL w ↔ (n : Int) + 2 = wanted w := by
  unfold wantedL wanted
  rw [if_neg fun e => hw e.symm]
  repeat' split
  all_goals omega
theorem all_stand_shp {many : Int} {L D : Nat} {xs : List PyData} (h : ∀ x, x ∈ xs → small L D x = true) (hl : xs.length ≤ L) (hD : D ≤ 60) (p : PyData → Bool) : shp (.list (xs.filter p)) = true :=
  small_shp (small_list (L := L) (D := D) (fun x hx => h x (List.mem_filter.mp hx).1) (Nat.le_trans (List.length_filter_le _ _) hl)) (by omega)
end G

set_option Elab.async false
set_option linter.all false
set_option maxRecDepth 100000
set_option maxHeartbeats 400000
namespace G
open PySem DL
theorem md_width : mkDict [(.str "each", .int 1), (.str "walk", .int 0)] = .ok [(.str "each", .int 1), (.str "walk", .int 0)] := by rfl
theorem s_law_width {many : Int} {d : PyData} (h : isPlain many d = true) : F__law_width [d] = .ok (.int (width d)) := by
  unfold isPlain at h
  split at h
  · rename_i w b c r
    by_cases h1 : w = "each"
    · subst h1
      simp [F__law_width, g__law_width, N__law_width, runS, runF, R.ite_bind, md_width, width]
    · by_cases h2 : w = "walk"
      · subst h2
        simp [ne_we] at h
        obtain ⟨_, _, h3⟩ := h
        cases c with
        | tuple rows => simp [F__law_width, g__law_width, N__law_width, runS, runF, R.ite_bind, md_width, width, ne_we, ne_ew, items]
        | _ => cases h3
      · have h1' : ¬ ("each" : Str) = w := fun e => h1 e.symm
        have h2' : ¬ ("walk" : Str) = w := fun e => h2 e.symm
        simp [F__law_width, g__law_width, N__law_width, runS, runF, R.ite_bind, md_width, width, h1, h2, h1', h2']
  · cases h
theorem nn_walkD {many : Int} (hm : many = 2 ∨ many = 3) {d : PyData} (h : isPlain many d = true) : nn (walkD many d) = width d := by
  obtain ⟨sd, w⟩ := walk_ok many hm d h
  rw [walkD_eq w]
  exact w.wid
theorem width_le {many : Int} (hm : many = 2 ∨ many = 3) {d : PyData} (h : isPlain many d = true) : 1 ≤ width d ∧ width d ≤ 3 := by
  rw [← nn_walkD hm h]
  obtain ⟨sd, r, e, hr⟩ := walk_form (walkD_ok hm h)
  rw [e]; exact hr
def wprod : List PyData → Nat
  | [] => 1
  | d :: r => width d * wprod r
theorem wprod_le {many : Int} (hm : many = 2 ∨ many = 3) : ∀ ps : List PyData, (∀ p, p ∈ ps → isPlain many p = true) → wprod ps ≤ 3 ^ ps.length
  | [], _ => Nat.le_refl _
  | p :: ps, h => by
    have h1 := wprod_le hm ps fun x hx => h x (List.mem_cons_of_mem _ hx)
    have h2 := (width_le hm (h p List.mem_cons_self)).2
    calc width p * wprod ps ≤ 3 * 3 ^ ps.length := Nat.mul_le_mul h2 h1
      _ = 3 ^ (ps.length + 1) := by rw [Nat.pow_succ, Nat.mul_comm]
theorem nprod_append (a b : List PyData) : nprod (a ++ b) = nprod a * nprod b := by
  induction a with
  | nil => simp [nprod]
  | cons d a ih => simp [nprod, ih, Nat.mul_assoc]
theorem nprod_map {many : Int} (hm : many = 2 ∨ many = 3) : ∀ ps : List PyData, (∀ p, p ∈ ps → isPlain many p = true) → nprod (ps.map (walkD many)) = wprod ps
  | [], _ => rfl
  | p :: ps, h => by
    show nn (walkD many p) * nprod (ps.map (walkD many)) = _
    rw [nn_walkD hm (h p List.mem_cons_self), nprod_map hm ps fun x hx => h x (List.mem_cons_of_mem _ hx)]
    rfl
theorem nprod_rep (n : Nat) (l : List PyData) : nprod (List.replicate n l).flatten = nprod l ^ n := by
  induction n with
  | zero => rfl
  | succ n ih => rw [List.replicate_succ, List.flatten_cons, nprod_append, ih, Nat.pow_succ, Nat.mul_comm]
theorem cpow_small {n : Nat} (hn : n ≤ 27) {k : Int} (h0 : 0 ≤ k) (h1 : k ≤ 4) : L2.CPow (n : Int) k := by
  refine ⟨h0, by omega, ?_⟩
  rw [Int.natAbs_natCast]
  exact Nat.lt_of_le_of_lt hn (by decide)
theorem cmul_small {n i : Int} (hn : 2 ≤ n ∧ n ≤ 4) : L2.CMul i n := by
  refine .inr ⟨?_, ?_⟩
  · exact Int.lt_of_lt_of_le (by decide) hn.1
  · exact Int.lt_of_le_of_lt hn.2 (by decide)
theorem md_cost (a b c : PyData) : mkDict [(.int 2, a), (.int 3, b), (.int 4, c)] = .ok [(.int 2, a), (.int 3, b), (.int 4, c)] := if_pos ⟨by show (3 : Nat) ≤ 15; omega, by simp [distK]⟩
def costD (many : Int) (d : PyData) : PyData := if hasStep many d = true then .tuple [.int (expand many d).length, .int (nprod (expand many d))] else .none
theorem mkTup_2 (a b : PyData) : mkTup [a, b] = .ok (.tuple [a, b]) := if_pos (show 2 ≤ sizeLine by decide)
theorem pw_look {a b c d : PyData} {n : Int} : (lookD [(.int 2, a), (.int 3, b), (.int 4, c)] (.inl n)).getD d = if n = 2 then a else if n = 3 then b else if n = 4 then c else d := by
  simp only [lookD_cons, keyOf_i, Option.some.injEq, Sum.inl.injEq, lookD_nil]
  by_cases h2 : n = 2
  · rw [if_pos h2.symm, if_pos h2]; rfl
  · rw [if_neg (fun e => h2 e.symm), if_neg h2]
    by_cases h3 : n = 3
    · rw [if_pos h3.symm, if_pos h3]; rfl
    · rw [if_neg (fun e => h3 e.symm), if_neg h3]
      by_cases h4 : n = 4
      · rw [if_pos h4.symm, if_pos h4]; rfl
      · rw [if_neg (fun e => h4 e.symm), if_neg h4]; rfl
theorem pw_pick {w n : Int} (hn : 2 ≤ n ∧ n ≤ 4) : (if n = 2 then PyData.int (w ^ 2) else if n = 3 then .int (w ^ 3) else if n = 4 then .int (w ^ 4) else .int 99) = .int (w ^ n.toNat) := by
  have h : n = 2 ∨ n = 3 ∨ n = 4 := by omega
  rcases h with h | h | h <;> subst h <;> rfl
end G

set_option Elab.async false
set_option linter.all false
set_option maxRecDepth 100000
set_option maxHeartbeats 400000
namespace G
open PySem DL
/-! ### the law's check of scripts -/
theorem len_allW (many : Int) : ∀ ds : List PyData, (allW many ds).length = (ds.map fun d => (expand many d).length).sum
  | [] => rfl
  | d :: ds => by
    show (expand many d ++ allW many ds).length = _
    rw [List.length_append, len_allW many ds]
    rfl
theorem nprod_allW (many : Int) (d : PyData) (ds : List PyData) : nprod (allW many (d :: ds)) = nprod (expand many d) * nprod (allW many ds) := by
  show nprod (expand many d ++ allW many ds) = _
  rw [nprod_append]
/-- the factors are small -/
theorem nprod_expand {many : Int} (hm : many = 2 ∨ many = 3) {d : PyData} (h : hasStep many d = true) : nprod (expand many d) ≤ 531441 := by
  rcases step_cases h with ⟨hd, he⟩ | ⟨n, ps, e, hn, hp, hpl, he⟩
  · have := (width_le hm hd).2
    rw [he]
    simp only [nprod, nn_walkD hm hd, Nat.mul_one]
    omega
  · rw [he, nprod_rep, nprod_map hm ps hpl]
    have h1 := wprod_le hm ps hpl
    have h2 : 3 ^ ps.length ≤ 3 ^ 3 := Nat.pow_le_pow_right (by decide) hp.2
    have h3 : n.toNat ≤ 4 := by omega
    calc wprod ps ^ n.toNat ≤ 27 ^ n.toNat := Nat.pow_le_pow_left (Nat.le_trans h1 h2) _
      _ ≤ 27 ^ 4 := Nat.pow_le_pow_right (by decide) h3
      _ = 531441 := by decide
theorem small_cost (many : Int) (d : PyData) : small 10 1 (costD many d) = true := by
  unfold costD
  split
  · exact small_tuple (L := 10) (D := 0) (fun x hx => by
      simp at hx
      rcases hx with rfl | rfl <;> rfl) (by simp)
  · rfl
theorem eqv_cost (many : Int) (d : PyData) : PyData.eqv (costD many d) .none = !hasStep many d := by
  unfold costD
  cases hasStep many d <;> simp [PyData.eqv]
theorem none_in {many : Int} (ds : List PyData) (hl : ds.length ≤ 10) : gIn .none (.list (ds.map (costD many))) = some (.bool (!ds.all (hasStep many))) := by
  have hs : shp (.tuple (ds.map (costD many))) = true := small_shp (small_tuple (L := 10) (D := 1) (fun x hx => by
    obtain ⟨d, _, rfl⟩ := List.mem_map.mp hx
    exact small_cost many d) (by rw [List.length_map]; exact hl)) (by decide)
  have hn : shp .none = true := by decide +kernel
  have e : inD .none (ds.map (costD many)) = !ds.all (hasStep many) := by
    unfold inD
    induction ds with
    | nil => rfl
    | cons d ds ih =>
      have ih := ih (by simp at hl; omega) (small_shp (small_tuple (L := 10) (D := 1) (fun x hx => by
        obtain ⟨d, _, rfl⟩ := List.mem_map.mp hx
        exact small_cost many d) (by rw [List.length_map]; simp at hl; omega)) (by decide))
      rw [List.map_cons, List.any_cons, ih, eqv_cost, List.all_cons, Bool.not_and]
  unfold gIn
  simp only [inOk, hs, hn, e, Bool.and_self, Bool.or_true, if_true]
theorem gSum_map {α : Type} (p : α → Int) (ds : List α) : gSum (.list (ds.map fun d => .int (p d))) = some (.int (ds.map p).sum) := by
  show (intsOf _).map _ = _
  rw [intsOf_map]; rfl
def cw : PyData → Int
  | .tuple (.int a :: _) => a
  | _ => 0
theorem cost_step {many : Int} {d : PyData} (hd : hasStep many d = true) : costD many d = .tuple [.int (expand many d).length, .int (nprod (expand many d))] := by unfold costD; rw [if_pos hd]
theorem sum_costs {many : Int} : ∀ ds : List PyData, (∀ d, d ∈ ds → hasStep many d = true) → ((ds.map (costD many)).map cw).sum = ((allW many ds).length : Int)
  | [], _ => rfl
  | d :: ds, h => by
    rw [List.map_cons, List.map_cons, List.sum_cons, sum_costs ds fun x hx => h x (List.mem_cons_of_mem _ hx), cost_step (h d List.mem_cons_self)]
    show ((expand many d).length : Int) + _ = ((expand many d ++ allW many ds).length : Int)
    rw [List.length_append, Int.natCast_add]
/-! ### the law's walks -/
theorem walks_loop {many : Int} (hm : many = 2 ∨ many = 3) (X : PyData) : ∀ (ds acc : List PyData) (s2 s3 : Option SV), (∀ d, d ∈ ds → hasStep many d = true) → acc.length + 12 * ds.length ≤ 1000 →
    ∃ s2', forG (tg1 2) (l__law_walks_1 F__law_lines) ds [some (.d (.tuple [.int many, X])), some (.d (.list acc)), s2, s3] = .ok (.nx [some (.d (.tuple [.int many, X])), some (.d (.list (acc ++ ds.flatMap (expand many)))), s2', s3])
  | [], acc, s2, s3, _, _ => ⟨s2, by rw [forG_nil]; simp⟩
  | d :: ds, acc, s2, s3, h, hl => by
    simp at hl
    rcases step_cases (h d List.mem_cons_self) with ⟨hd, he⟩ | ⟨n, ps, e, hn, hp, hpl, he⟩
    · obtain ⟨w, b, c, r, e, hw, _⟩ := plain_form hd
      have hz : acc.length < sizeLine := by show acc.length < 2 ^ 24; omega
      obtain ⟨s2', ih⟩ := walks_loop hm X ds (acc ++ [walkD many d]) (some (.d d)) s3 (fun x hx => h x (List.mem_cons_of_mem _ hx)) (by simp; omega)
      refine ⟨s2', ?_⟩
      rw [forG_cons]
      have e2 : l__law_walks_1 F__law_lines [some (.d (.tuple [.int many, X])), some (.d (.list acc)), some (.d d), s3] = .ok (.nx [some (.d (.tuple [.int many, X])), some (.d (.list (acc ++ [walkD many d]))), some (.d d), s3]) := by
        have e3 := s_law_lines hm hd
        subst e
        simp [l__law_walks_1, runS, runF, R.ite_bind, hw, e3, hz]
      simp [e2, ih, he]
    · have hlen : (List.replicate n.toNat (ps.map (walkD many))).flatten.length = n.toNat * ps.length := by simp
      have hb : n.toNat * ps.length ≤ 12 := by
        have h1 : n.toNat ≤ 4 := by omega
        calc n.toNat * ps.length ≤ 4 * 3 := Nat.mul_le_mul h1 hp.2
          _ = 12 := rfl
      obtain ⟨s2', ih⟩ := walks_loop hm X ds (acc ++ (List.replicate n.toNat (ps.map (walkD many))).flatten) (some (.d d)) s3 (fun x hx => h x (List.mem_cons_of_mem _ hx)) (by rw [List.length_append, hlen]; omega)
      refine ⟨s2', ?_⟩
      rw [forG_cons]
      have hz : acc.length + n.toNat * ps.length ≤ sizeLine := by show _ ≤ 2 ^ 24; omega
      have hz2 : ps.length * n.toNat ≤ sizeLine := by rw [Nat.mul_comm]; show _ ≤ 2 ^ 24; omega
      have hz3 : ps.length ≤ sizeLine := by show _ ≤ 2 ^ 24; omega
      have e2 : l__law_walks_1 F__law_lines [some (.d (.tuple [.int many, X])), some (.d (.list acc)), some (.d d), s3] = .ok (.nx [some (.d (.tuple [.int many, X])), some (.d (.list (acc ++ (List.replicate n.toNat (ps.map (walkD many))).flatten))), some (.d d), s3]) := by
        have hr : -(2 ^ 63) ≤ n ∧ n < 2 ^ 63 := by omega
        subst e
        simp [l__law_walks_1, runS, runF, R.ite_bind, hz3]
        rw [compL_map (h := walkD many) fun d hd => by simp [s_law_lines hm (hpl d hd)]]
        have r1 : -9223372036854775808 ≤ n := by omega
        have r2 : n < 9223372036854775808 := by omega
        simp [hz, hz2, r1, r2]
      simp [e2, ih, he]
theorem s_law_walks {many : Int} {steps : List PyData} (h : isScr (.tuple [.int many, .tuple steps]) = true) : F__law_walks [.tuple [.int many, .tuple steps]] = .ok (.list (allW many steps)) := by
  obtain ⟨m, st, e, hm, hl, hs, _, _⟩ := scr_form h
  cases e
  obtain ⟨s2, e⟩ := walks_loop hm (.tuple steps) steps [] none none hs (by simp; omega)
  simp [F__law_walks, g__law_walks, N__law_walks, runS, runF, R.ite_bind, e, allW]
end G

set_option Elab.async false
set_option linter.all false
set_option maxRecDepth 100000
set_option maxHeartbeats 400000
namespace G
open PySem DL
theorem allW_append (many : Int) (a b : List PyData) : allW many (a ++ b) = allW many a ++ allW many b := by
  unfold allW
  rw [List.flatMap_append]
theorem allW_one (many : Int) (d : PyData) : allW many [d] = expand many d := by
  unfold allW
  simp
theorem again2_step {many : Int} {d : PyData} (h : isPlain many d = true) : hasStep many (.tuple [.str "again", .int 2, .tuple [d]]) = true := by
  simp [hasStep, isAgain, isFrom, isTup, items, h]
theorem again2_expand {many : Int} {d : PyData} : expand many (.tuple [.str "again", .int 2, .tuple [d]]) = [walkD many d, walkD many d] := by
  simp [expand, isAgain, items, List.replicate]
theorem plain_step {many : Int} {d : PyData} (h : isPlain many d = true) : hasStep many d = true := by
  unfold hasStep
  rw [plain_not_again h]
  exact h
theorem plain_expand {many : Int} {d : PyData} (h : isPlain many d = true) : expand many d = [walkD many d] := by
  unfold expand
  rw [plain_not_again h]
  rfl
/-- a script under way -/
structure Grow (many : Int) (cap : Int) (steps : List PyData) (p : Nat) (b : Nat) : Prop where
  st : ∀ s, s ∈ steps → hasStep many s = true
  pr : nprod (allW many steps) = p
  lo : 1 ≤ p
  hi : (p : Int) ≤ cap
  ln : (allW many steps).length ≤ steps.length + b
  bb : b ≤ 2
theorem Grow.one {many cap : Int} (hm : many = 2 ∨ many = 3) {steps : List PyData} {p b : Nat} (g : Grow many cap steps p b) {d : PyData} (h : isPlain many d = true) (hc : ((p * width d : Nat) : Int) ≤ cap) : Grow many cap (steps ++ [d]) (p * width d) b := by
  refine ⟨fun s hs => ?_, ?_, ?_, hc, ?_, g.bb⟩
  · rcases List.mem_append.mp hs with hs | hs
    · exact g.st s hs
    · rw [List.mem_singleton.mp hs]; exact plain_step h
  · rw [allW_append, nprod_append, g.pr, allW_one, plain_expand h]
    simp [nprod, nn_walkD hm h]
  · exact Nat.mul_pos g.lo (width_le hm h).1
  · rw [allW_append, allW_one, plain_expand h, List.length_append, List.length_append]
    have := g.ln
    simp
    omega
theorem Grow.two {many cap : Int} (hm : many = 2 ∨ many = 3) {steps : List PyData} {p b : Nat} (g : Grow many cap steps p b) {d : PyData} (h : isPlain many d = true) (hc : ((p * width d * width d : Nat) : Int) ≤ cap) (hb : b < 2) : Grow many cap (steps ++ [.tuple [.str "again", .int 2, .tuple [d]]]) (p * width d * width d) (b + 1) := by
  refine ⟨fun s hs => ?_, ?_, ?_, hc, ?_, by omega⟩
  · rcases List.mem_append.mp hs with hs | hs
    · exact g.st s hs
    · rw [List.mem_singleton.mp hs]; exact again2_step h
  · rw [allW_append, nprod_append, g.pr, allW_one, again2_expand]
    simp [nprod, nn_walkD hm h, Nat.mul_assoc]
  · exact Nat.mul_pos (Nat.mul_pos g.lo (width_le hm h).1) (width_le hm h).1
  · rw [allW_append, allW_one, again2_expand, List.length_append, List.length_append]
    have := g.ln
    simp
    omega
theorem Grow.scr {many cap : Int} (hm : many = 2 ∨ many = 3) (hc : cap ≤ 16) {steps : List PyData} {p b : Nat} (g : Grow many cap steps p b) (hl : steps.length ≤ 6) : isScr (.tuple [.int many, .tuple steps]) = true := by
  have h1 : 2 ≤ many ∧ many ≤ 3 := by omega
  have h2 : steps.all (hasStep many) = true := List.all_eq_true.mpr g.st
  have h3 := g.ln
  have h4 := g.bb
  have h5 := g.hi
  have h6 : (allW many steps).length ≤ 8 := by omega
  have h7 : nprod (allW many steps) ≤ 16 := by rw [g.pr]; omega
  unfold isScr
  simp only [h1.1, h1.2, hl, h2, h6, h7, decide_true, Bool.and_self]
def StepQ (many cap : Int) (s1 : Option SV) (n : Nat) (f : Fl) : Prop := ∃ steps' p' b' s7 s8 s9, f = .nx [some .src, s1, some (.d (.int cap)), some (.d (.int many)), some (.d (.tuple steps')), some (.d (.int (p' : Nat))), some (.d (.int (b' : Nat))), s7, s8, s9] ∧ Grow many cap steps' p' b' ∧ steps'.length = n
theorem step_body (many cap : Int) (hm : many = 2 ∨ many = 3) (hc : 1 ≤ cap ∧ cap ≤ 16) (s1 : Option SV) (d : PyData) (steps : List PyData) (p b : Nat) (s7 s8 s9 : Option SV) (g : Grow many cap steps p b) (hl : steps.length ≤ 6) :
    ((R.ofO (tg1 7 d [some .src, s1, some (.d (.int cap)), some (.d (.int many)), some (.d (.tuple steps)), some (.d (.int (p : Nat))), some (.d (.int (b : Nat))), s7, s8, s9])).bind (l__law_script_1 F__law_choice F__law_draw F__law_plain F__law_width)).wp
      (StepQ many cap s1 (steps.length + 1)) NoE := by
  have hp1 := g.lo
  have hp2 := g.hi
  have cd : L2.CDiv cap p := ⟨by omega, by omega⟩
  have hq : 1 ≤ cap / (p : Int) := Int.le_ediv_of_mul_le (by omega) (by omega)
  simp [l__law_script_1, runS, runF, R.ite_bind, cd]
  refine wpi (w_plain many (cap / p) hm hq) fun d ⟨h1, h2⟩ => ?_
  have h3 := width_le hm h1
  have h4 : ((p * width d : Nat) : Int) ≤ cap := by
    have h5 : (width d : Int) * p ≤ cap := (Int.le_ediv_iff_mul_le (by omega)).mp h2
    rw [Nat.mul_comm]
    exact_mod_cast h5
  have c1 : ∀ i : Int, L2.CMul i (width d : Int) := fun i => .inr ⟨by omega, by omega⟩
  have hz : steps.length + 1 ≤ sizeLine := by show steps.length + 1 ≤ 2 ^ 24; omega
  simp [s_law_width h1]
  refine wpi (w_draw 5 (by decide)) fun n ⟨n, e, hn⟩ => ?_
  subst e
  have e1 : ((p : Int) * (width d : Int)) = ((p * width d : Nat) : Int) := by simp
  have e2 : ((p : Int) * (width d : Int) * (width d : Int)) = ((p * width d * width d : Nat) : Int) := by simp
  have e3 : ((b : Int) + 1) = ((b + 1 : Nat) : Int) := by simp
  simp only [c1, if_true, R.ofO_some, R.ok_bind]
  simp [hz, c1]
  by_cases h : n = 0 ∧ ((p * width d * width d : Nat) : Int) ≤ cap ∧ b < 2
  · obtain ⟨k1, k2, k3⟩ := h
    have k2' := k2
    rw [← e2] at k2'
    have k3' : (b : Int) < 2 := by omega
    simp only [k1, k2', k3', if_true, decide_true, R.wp_ok]
    rw [e2, e3]
    exact ⟨_, _, _, _, _, _, rfl, g.two hm h1 k2 k3, by simp⟩
  · by_cases k1 : n = 0
    · by_cases k2 : ((p * width d * width d : Nat) : Int) ≤ cap
      · have k3 : ¬ b < 2 := fun z => h ⟨k1, k2, z⟩
        have k2' := k2
        rw [← e2] at k2'
        have k3' : ¬ (b : Int) < 2 := by omega
        simp [k1, k2', k3']
        rw [e1]
        exact ⟨_, _, _, _, _, _, rfl, g.one hm h1 h4, by simp⟩
      · rw [← e2] at k2
        simp [k1, k2]
        rw [e1]
        exact ⟨_, _, _, _, _, _, rfl, g.one hm h1 h4, by simp⟩
    · simp [k1]
      rw [e1]
      exact ⟨_, _, _, _, _, _, rfl, g.one hm h1 h4, by simp⟩
theorem w_steps (many cap : Int) (hm : many = 2 ∨ many = 3) (hc : 1 ≤ cap ∧ cap ≤ 16) (s1 : Option SV) (Q : Fl → Prop) (most : Nat) (hmo : most ≤ 6)
    (hQ : ∀ steps p b s7 s8 s9, Grow many cap steps p b → steps.length ≤ most → Q (.nx [some .src, s1, some (.d (.int cap)), some (.d (.int many)), some (.d (.tuple steps)), some (.d (.int (p : Nat))), some (.d (.int (b : Nat))), s7, s8, s9])) :
    ∀ (ds steps : List PyData) (p b : Nat) (s7 s8 s9 : Option SV), Grow many cap steps p b → steps.length + ds.length ≤ most →
    (forG (tg1 7) (l__law_script_1 F__law_choice F__law_draw F__law_plain F__law_width) ds [some .src, s1, some (.d (.int cap)), some (.d (.int many)), some (.d (.tuple steps)), some (.d (.int (p : Nat))), some (.d (.int (b : Nat))), s7, s8, s9]).wp Q NoE := by
  intro ds
  induction ds with
  | nil =>
    intro steps p b s7 s8 s9 g hl
    rw [forG_nil]
    exact hQ _ _ _ _ _ _ g (by simpa using hl)
  | cons d ds ih =>
    intro steps p b s7 s8 s9 g hl
    rw [forG_cons, R.wp_bind]
    simp only [List.length_cons] at hl
    refine wpi (step_body many cap hm hc s1 d steps p b s7 s8 s9 g (by omega)) fun f ⟨steps', p', b', s7, s8, s9, e, g', hl'⟩ => ?_
    subst e
    exact ih steps' p' b' s7 s8 s9 g' (by omega)
theorem w_script (most cap : Int) (hmo : 0 ≤ most ∧ most ≤ 6) (hc : 1 ≤ cap ∧ cap ≤ 16) : (F__law_script [.int most, .int cap]).wp (fun d => ∃ many steps, d = .tuple [.int many, .tuple steps] ∧ isScr d = true ∧ (nprod (allW many steps) : Int) ≤ cap ∧ (steps.length : Int) ≤ most) NoE := by
  simp [F__law_script, g__law_script, N__law_script, runS, runF, R.ite_bind]
  refine wpi (w_choice [.int 2, .int 2, .int 3] (fun d => ∃ many, d = .int many ∧ (many = 2 ∨ many = 3)) (fun d hd => by
    simp at hd
    rcases hd with rfl | rfl
    · exact ⟨2, rfl, .inl rfl⟩
    · exact ⟨3, rfl, .inr rfl⟩) (by decide) (by decide)) fun d ⟨many, e, hm⟩ => ?_
  subst e
  refine wpi (w_draw (most + 1) ⟨by omega, by omega⟩) fun d ⟨n, e, hn⟩ => ?_
  subst e
  simp
  rw [if_pos (by omega)]
  simp
  have hrg : (rgD 0 n).length = n.toNat := by simp [rgD]
  refine w_steps many cap hm hc _ _ most.toNat (by omega) (fun steps p b s7 s8 s9 g hl => ?_) (rgD 0 n) [] 1 0 _ _ _ ⟨(fun s hs => nomatch hs), rfl, by decide, by omega, Nat.zero_le _, by decide⟩ (by rw [hrg]; simp; omega)
  have h1 := g.scr hm hc.2 (by omega)
  have h2 := g.pr
  have h3 := g.hi
  simp
  exact ⟨_, _, ⟨rfl, rfl⟩, h1, by rw [h2]; exact h3, by omega⟩
/-! ### corridors -/
theorem w_corridor (many most : Int) (hm : many = 2 ∨ many = 3) (hmo : 0 ≤ most ∧ most ≤ 60) : (F__law_corridor [.int many, .int most]).wp (fun d => ∃ ds, d = .tuple ds ∧ (∀ x, x ∈ ds → stand many x = true) ∧ (ds.length : Int) ≤ most) NoE := by
  have key : ∃ rg, gRange (.int many) = some (.list rg) ∧ (0 < rg.length ∧ rg.length < 10) ∧ ∀ x, x ∈ rg → stand many x = true := by
    rcases hm with rfl | rfl
    · exact ⟨[.int 0, .int 1], rfl, by decide, by decide +kernel⟩
    · exact ⟨[.int 0, .int 1, .int 2], rfl, by decide, by decide +kernel⟩
  obtain ⟨rg, e, hl, hr⟩ := key
  have h0 : stand many (.int 0) = true := by simp [stand, isFrom]; omega
  have h1 : stand many (.int (many - 1)) = true := by simp [stand, isFrom]; omega
  simp [F__law_corridor, g__law_corridor, N__law_corridor, runS, runF, R.ite_bind, e]
  refine wpi (w_choice _ (fun d => ∃ xs, d = .list xs ∧ (0 < xs.length ∧ xs.length < 10) ∧ ∀ x, x ∈ xs → stand many x = true) (fun d hd => by
    simp [List.replicate] at hd
    rcases hd with rfl | rfl | rfl
    · exact ⟨_, rfl, hl, hr⟩
    · exact ⟨_, rfl, by simp, by simp [h0, h1]⟩
    · exact ⟨_, rfl, by simp, by simp [h0, h1]⟩) (by simp) (by simp)) fun d ⟨xs, e2, hx, hs⟩ => ?_
  subst e2
  refine wpi (w_draw (most + 1) ⟨by omega, by omega⟩) fun d ⟨n, e3, hn⟩ => ?_
  subst e3
  have hz : (rgD 0 n).length ≤ sizeLine := by
    have : (rgD 0 n).length ≤ 61 := by simp [rgD]; omega
    exact Nat.le_trans this (by decide)
  have hb : -(2 ^ 62) ≤ n ∧ n < 2 ^ 62 := by omega
  simp
  rw [if_pos (by omega)]
  simp [hz, R.wp_noX]
  refine wpi (compL_wp (fun x => stand many x = true) fun d _ => by simp; exact w_choice xs _ hs hx.1 (by omega)) fun ys ⟨hl2, hy⟩ => ?_
  refine ⟨hy, ?_⟩
  rw [hl2]
  simp [rgD]
  omega
end G
set_option Elab.async false
set_option linter.all false
set_option maxRecDepth 100000
set_option maxHeartbeats 400000
namespace DL
open PySem PySem.Spec PyProof.Rows L2
/-! ### wp as a structure: it is not unfolded by accident -/
structure Wp {α : Type} (r : R α) (Q : α → Prop) (E : Nat → Option PyData → Prop) : Prop where
  h : r.wp Q E
section
variable {α β : Type} {Q Q' : α → Prop} {E E' : Nat → Option PyData → Prop}
@[simp] theorem Wp_ok (a : α) : Wp (R.ok a) Q E = Q a := propext ⟨fun h => h.h, fun h => ⟨h⟩⟩
@[simp] theorem Wp_bad : Wp (R.bad : R α) Q E = False := propext ⟨fun h => h.h, fun h => h.elim⟩
@[simp] theorem Wp_exc (c : Nat) (x : Option PyData) : Wp (R.exc c x : R α) Q E = E c x := propext ⟨fun h => h.h, fun h => ⟨h⟩⟩
@[simp] theorem Wp_pick (P : PyData → Prop) (f : PyData → R α) : Wp (R.pick P f) Q E = ∀ d, P d → Wp (f d) Q E := propext ⟨fun h d hd => ⟨h.h d hd⟩, fun h => ⟨fun d hd => (h d hd).h⟩⟩
@[simp] theorem Wp_bind (r : R α) (k : α → R β) (Q : β → Prop) : Wp (r.bind k) Q E = Wp r (fun a => Wp (k a) Q E) E := propext ⟨fun h => ⟨R.wp_imp ((R.wp_bind r k Q E).mp h.h) (fun a z => ⟨z⟩) fun _ _ z => z⟩, fun h => ⟨(R.wp_bind r k Q E).mpr (R.wp_imp h.h (fun a z => z.h) fun _ _ z => z)⟩⟩
theorem Wp_noX (r : R α) : Wp r.noX Q E = Wp r Q (fun _ _ => False) := propext ⟨fun h => ⟨(R.wp_noX r Q E).mp h.h⟩, fun h => ⟨(R.wp_noX r Q E).mpr h.h⟩⟩
theorem Wp.imp {r : R α} (h : Wp r Q E) (hq : ∀ a, Q a → Q' a) : Wp r Q' E := ⟨R.wp_imp h.h hq fun _ _ z => z⟩
theorem Wp.imp2 {r : R α} (h : Wp r Q E) (hq : ∀ a, Q a → Q' a) (he : ∀ c x, E c x → E' c x) : Wp r Q' E' := ⟨R.wp_imp h.h hq he⟩
theorem Wp.bind {r : R α} {k : α → R β} {Q : β → Prop} (h : Wp r (fun a => Wp (k a) Q E) E) : Wp (r.bind k) Q E := by rw [Wp_bind]; exact h
theorem Wp.eq {r : R α} {a : α} (e : r = .ok a) (h : Q a) : Wp r Q E := by rw [e, Wp_ok]; exact h
/-- a loop by an invariant -/
theorem forG_Wp {tt : PyData → Rho → Option Rho} {u : Rho → R Fl} {Q : Fl → Prop} (I : List PyData → Rho → Prop)
    (h : ∀ d ds ρ, I (d :: ds) ρ → Wp ((R.ofO (tt d ρ)).bind u) (fun f => match f with
      | .nx ρ' => I ds ρ'
      | .ct ρ' => I ds ρ'
      | .bk ρ' => Q (.nx ρ')
      | .rt e ρ' => Q (.rt e ρ')
      | .rf e ρ' => Q (.rf e ρ')) E) (hn : ∀ ρ, I [] ρ → Q (.nx ρ)) {ds : List PyData} {ρ : Rho} (hi : I ds ρ) : Wp (forG tt u ds ρ) Q E := ⟨forL_wp I (fun d ds ρ hi => (h d ds ρ hi).h) hn hi⟩
end
theorem ite_ok {α : Type} {c : Prop} [Decidable c] (a b : α) : (if c then R.ok a else R.ok b) = R.ok (if c then a else b) := by split <;> rfl
section
variable {a : Option SV} {r : Rho} {x : Str} {i : Nat} {u : Rho → R Fl} {f : Rho → R PyData} {fa : Rho → R (List PyData)} {hf : Nat → Option PyData → Rho → R Fl} {ρ : Rho} {T : FTab} {xs : List Str} {q : Nat × (List PyData → R PyData)} {sx : SV} {is : List Nat} {ss : List SV} {ds : List PyData}
@[simp] theorem getF_z : getF (some (.fn x) :: r) 0 = .ok x := rfl
@[simp] theorem getF_1 : getF (a :: r) 1 = getF r 0 := rfl
@[simp] theorem getF_2 : getF (a :: r) 2 = getF r 1 := rfl
@[simp] theorem getF_3 : getF (a :: r) 3 = getF r 2 := rfl
@[simp] theorem getF_4 : getF (a :: r) 4 = getF r 3 := rfl
@[simp] theorem getF_5 : getF (a :: r) 5 = getF r 4 := rfl
@[simp] theorem getF_6 : getF (a :: r) 6 = getF r 5 := rfl
@[simp] theorem getF_7 : getF (a :: r) 7 = getF r 6 := rfl
@[simp] theorem getF_8 : getF (a :: r) 8 = getF r 7 := rfl
@[simp] theorem getF_9 : getF (a :: r) 9 = getF r 8 := rfl
@[simp] theorem getF_10 : getF (a :: r) 10 = getF r 9 := rfl
@[simp] theorem getF_11 : getF (a :: r) 11 = getF r 10 := rfl
@[simp] theorem getF_12 : getF (a :: r) 12 = getF r 11 := rfl
@[simp] theorem getF_13 : getF (a :: r) 13 = getF r 12 := rfl
@[simp] theorem getF_14 : getF (a :: r) 14 = getF r 13 := rfl
@[simp] theorem getF_15 : getF (a :: r) 15 = getF r 14 := rfl
@[simp] theorem getF_16 : getF (a :: r) 16 = getF r 15 := rfl
@[simp] theorem getF_17 : getF (a :: r) 17 = getF r 16 := rfl
@[simp] theorem getF_18 : getF (a :: r) 18 = getF r 17 := rfl
@[simp] theorem getF_19 : getF (a :: r) 19 = getF r 18 := rfl
@[simp] theorem getF_20 : getF (a :: r) 20 = getF r 19 := rfl
@[simp] theorem getF_21 : getF (a :: r) 21 = getF r 20 := rfl
@[simp] theorem getF_22 : getF (a :: r) 22 = getF r 21 := rfl
@[simp] theorem getF_23 : getF (a :: r) 23 = getF r 22 := rfl
@[simp] theorem getF_24 : getF (a :: r) 24 = getF r 23 := rfl
@[simp] theorem getF_25 : getF (a :: r) 25 = getF r 24 := rfl
@[simp] theorem getF_26 : getF (a :: r) 26 = getF r 25 := rfl
@[simp] theorem getF_27 : getF (a :: r) 27 = getF r 26 := rfl
@[simp] theorem getF_28 : getF (a :: r) 28 = getF r 27 := rfl
@[simp] theorem getF_29 : getF (a :: r) 29 = getF r 28 := rfl
@[simp] theorem getF_30 : getF (a :: r) 30 = getF r 29 := rfl
@[simp] theorem ap_fTryE : fTryE f hf ρ = (f ρ).tryc (fun _ => .ok (.nx ρ)) fun c y => hf c y ρ := rfl
@[simp] theorem ap_fTryA : fTryA i f hf ρ = (f ρ).tryc (fun d => .ok (.nx (ρ.set i (some (.d d))))) fun c y => hf c y ρ := rfl
@[simp] theorem ap_fTryR : fTryR f hf ρ = (f ρ).tryc (fun d => .ok (.rt d ρ)) fun c y => hf c y ρ := rfl
@[simp] theorem forN_nil : forN i u [] ρ = .ok (.nx ρ) := rfl
@[simp] theorem forN_cons : forN i u (x :: xs) ρ = (u (ρ.set i (some (.fn x)))).bind fun f => match f with
    | .nx ρ' => forN i u xs ρ'
    | .ct ρ' => forN i u xs ρ'
    | .bk ρ' => .ok (.nx ρ')
    | .rt e ρ' => .ok (.rt e ρ')
    | .rf e ρ' => .ok (.rf e ρ') := rfl
@[simp] theorem ap_callF : callF T i fa ρ = (getF ρ i).bind fun y => match findT T y with
  | some q => (fa ρ).bind (chk q.1 q.2)
  | none => .bad := rfl
@[simp] theorem findT_cons {y : Str} : findT ((y, q) :: T) x = if y = x then some q else findT T x := rfl
@[simp] theorem ap_parM {fm : Rho → R (List SV)} : parM is fm ρ = (fm ρ).bind fun xs => .ok (.nx (setsR is xs ρ)) := rfl
@[simp] theorem setsR_nil : setsR [] ss ρ = ρ := by unfold setsR; rfl
@[simp] theorem setsR_cons : setsR (i :: is) (sx :: ss) ρ = setsR is ss (ρ.set i (some sx)) := rfl
@[simp] theorem revT_t : revT (.tuple ds) = .ok (.tuple ds.reverse) := rfl
@[simp] theorem revL_l : revL (.list ds) = .ok (.list ds.reverse) := rfl
end
end DL

set_option Elab.async false
set_option linter.all false
set_option maxRecDepth 100000
set_option maxHeartbeats 400000
namespace G
open PySem DL
theorem gNe_nilT {xs : List PyData} (h : shp (.tuple xs) = true) : gNe (.tuple xs) (.tuple []) = some (.bool (!xs.isEmpty)) := by
  unfold gNe eqOk
  rw [h, shp_nilT, Bool.and_true, Bool.or_true, if_pos rfl]
  cases xs <;> simp [PyData.eqv, PyData.eqvAll]
theorem canLay_of_shp {x : PyData} (h : shp x = true) : x.canLay0 = true := (Bool.and_eq_true_iff.mp h).1
theorem gNe_self {x : PyData} (h : shp x = true) : gNe x x = some (.bool false) := by
  unfold gNe eqOk
  rw [h, Bool.and_true, Bool.or_true, if_pos rfl, PySem.SeqAt.eqv_refl x (canLay_of_shp h)]
  rfl
theorem gEq_self {x : PyData} (h : shp x = true) : gEq x x = some (.bool true) := by
  unfold gEq eqOk
  rw [h, Bool.and_true, Bool.or_true, if_pos rfl, PySem.SeqAt.eqv_refl x (canLay_of_shp h)]
/-! ### scripts are small -/
theorem table_small {many : Int} (hm : many = 2 ∨ many = 3) {d : PyData} (h : isTable many d = true) : small 6 3 d = true := by
  cases d with
  | tuple rows =>
    simp only [isTable, Bool.and_eq_true, decide_eq_true_eq, List.all_eq_true] at h
    refine small_tuple (D := 2) (fun r hr => ?_) (by omega)
    have h2 := h.2 r hr
    cases r with
    | tuple ps =>
      simp only [isLine, Bool.and_eq_true, decide_eq_true_eq, List.all_eq_true] at h2
      refine small_tuple (D := 1) (fun p hp => ?_) (by omega)
      have h3 := h2.2 p hp
      unfold isPair at h3
      split at h3
      · rename_i a b
        simp only [Bool.and_eq_true] at h3
        have i : ∀ (x : PyData) (l k : Int), isFrom x l k = true → small 6 0 x = true := fun x l k hx => by
          cases x with
          | int _ => rfl
          | _ => cases hx
        refine small_tuple (D := 0) (fun x hx => ?_) (by simp)
        simp at hx
        rcases hx with rfl | rfl
        · exact i _ _ _ h3.1
        · exact i _ _ _ h3.2
      · cases h3
    | _ => cases h2
  | _ => cases h
theorem stand_small {many : Int} {d : PyData} {D : Nat} (h : stand many d = true) : small 6 D d = true := by
  cases d with
  | int _ => cases D <;> rfl
  | _ => cases h
theorem side_small {d : PyData} {D : Nat} (h : isSide d = true) : small 6 D d = true := by
  cases d with
  | str s =>
    simp [isSide] at h
    rcases h with rfl | rfl
    · exact small_mono (L := 6) (D := 0) (by decide) (by omega) (by kernel_rfl)
    · exact small_mono (L := 6) (D := 0) (by decide) (by omega) (by kernel_rfl)
  | _ => cases h
theorem plain_small {many : Int} (hm : many = 2 ∨ many = 3) {d : PyData} (h : isPlain many d = true) : small 6 4 d = true := by
  unfold isPlain at h
  split at h
  · rename_i w b c r
    have wd : ∀ D, (w = "each" ∨ w = "walk" ∨ w = "first" ∨ w = "second" ∨ w = "until" ∨ w = "behind") → small 6 D (.str w) = true := fun D hw => by
      refine small_mono (L := 6) (D := 0) (by decide) (by omega) ?_
      rcases hw with rfl | rfl | rfl | rfl | rfl | rfl <;> kernel_rfl
    by_cases hw : w = "each"
    · rw [if_pos hw] at h
      simp at h
      obtain ⟨rfl, h2, h3⟩ := h
      exact small_tuple (D := 3) (fun x hx => by
        simp at hx
        rcases hx with rfl | rfl | rfl
        · exact wd _ (.inl hw)
        · exact stand_small h2
        · exact stand_small h3) (by simp)
    · rw [if_neg hw] at h
      simp only [Bool.and_eq_true] at h
      obtain ⟨h1, h⟩ := h
      by_cases hv : w = "walk"
      · rw [if_pos hv] at h
        simp at h
        obtain ⟨rfl, h2⟩ := h
        exact small_tuple (D := 3) (fun x hx => by
          simp at hx
          rcases hx with rfl | rfl | rfl
          · exact wd _ (.inr (.inl hv))
          · exact side_small h1
          · exact table_small hm h2) (by simp)
      · rw [if_neg hv] at h
        simp only [Bool.and_eq_true, decide_eq_true_eq, List.all_eq_true] at h
        obtain ⟨h2, h3, h4⟩ := h
        have hr : r.length ≤ 2 ∧ (w = "each" ∨ w = "walk" ∨ w = "first" ∨ w = "second" ∨ w = "until" ∨ w = "behind") := by
          rcases wanted_cases h2 with ⟨e, k | k⟩ | ⟨e, k | k⟩
          all_goals exact ⟨by omega, by simp [k]⟩
        exact small_tuple (D := 3) (fun x hx => by
          simp at hx
          rcases hx with rfl | rfl | rfl | hx
          · exact wd _ hr.2
          · exact side_small h1
          · exact stand_small h3
          · exact stand_small (h4 x hx)) (by simp; omega)
  · cases h
theorem step_small {many : Int} (hm : many = 2 ∨ many = 3) {d : PyData} (h : hasStep many d = true) : small 6 6 d = true := by
  rcases step_cases h with ⟨hd, _⟩ | ⟨n, ps, e, hn, hp, hpl, _⟩
  · exact small_mono (by omega) (by omega) (plain_small hm hd)
  · subst e
    exact small_tuple (D := 5) (fun x hx => by
      simp at hx
      rcases hx with rfl | rfl | rfl
      · exact small_mono (L := 6) (D := 0) (by decide) (by omega) (by kernel_rfl)
      · rfl
      · exact small_tuple (D := 4) (fun p hp => plain_small hm (hpl p hp)) (by omega)) (by simp)
theorem scr_small {d : PyData} (h : isScr d = true) : small 6 8 d = true := by
  obtain ⟨many, steps, rfl, hm, hl, hs, _, _⟩ := scr_form h
  exact small_tuple (D := 7) (fun x hx => by
    simp at hx
    rcases hx with rfl | rfl
    · rfl
    · exact small_tuple (D := 6) (fun p hp => step_small hm (hs p hp)) hl) (by simp)
theorem walk_small {many : Int} (hm : many = 2 ∨ many = 3) {d : PyData} (h : isWalk many d = true) : small 6 4 d = true := by
  unfold isWalk at h
  split at h
  · rename_i sd t
    simp only [Bool.and_eq_true] at h
    exact small_tuple (D := 3) (fun x hx => by
      simp at hx
      rcases hx with rfl | rfl
      · exact side_small h.1
      · exact table_small hm h.2) (by simp)
  · cases h
theorem allW_ok {many : Int} (hm : many = 2 ∨ many = 3) {steps : List PyData} (h : ∀ s, s ∈ steps → hasStep many s = true) : ∀ w, w ∈ allW many steps → isWalk many w = true := fun w hw => by
  obtain ⟨s, hs, hw⟩ := List.mem_flatMap.mp hw
  exact expand_ok hm (h s hs) w hw
/-! ### the source -/
theorem src_at (c k : Int) (hc : 0 ≤ c) (hk : 0 ≤ k) : ∃ x y : Int, (if 100000000000000000 < c then R.ok (PyData.list [.int c, .int ((c * 16807 + 9001 * k + 23) % 2147483353)]) else R.ok (PyData.list [.int 0, .int ((c * 16807 + 9001 * k + 23) % 2147483353)])) = R.ok (.list [.int x, .int y]) ∧ 0 ≤ x ∧ 0 ≤ y ∧ y < 2 ^ 32 := by
  by_cases h : 100000000000000000 < c
  · exact ⟨_, _, by rw [if_pos h], hc, by omega, by omega⟩
  · exact ⟨_, _, by rw [if_neg h], by omega, by omega, by omega⟩
theorem w_source (ns : List Int) (k : Nat) (hk : k ≤ 100) : ∃ x y : Int, F__law_source [.list (ns.map .int), .int k] = .ok (.list [.int x, .int y]) ∧ 0 ≤ x ∧ 0 ≤ y ∧ y < 2 ^ 32 := by
  have cp : L2.CPow 10 17 := ⟨by decide, by decide, by decide +kernel⟩
  have cm1 : ∀ a : Int, L2.CMul a 16807 := fun a => .inr ⟨by decide, by decide⟩
  have cm2 : L2.CMul 9001 (k : Int) := .inl ⟨by decide, by decide⟩
  have cm3 : L2.CMul 61 (k : Int) := .inl ⟨by decide, by decide⟩
  by_cases h : k < ns.length
  · obtain ⟨x, y, h1, h2⟩ := src_at (if ns[k] < 0 then -ns[k] else ns[k]) k (by split <;> omega) (by omega)
    refine ⟨x, y, ?_, h2⟩
    have hg : (ns.map PyData.int)[k]? = some (.int ns[k]) := by simp [h]
    have h' : (k : Int) < (ns.length : Int) := by omega
    simp [F__law_source, g__law_source, N__law_source, runF, runS, runF, R.ite_bind, h', atI_nat, hg, cp, cm1, cm2, -List.getElem?_map, -List.getElem_map]
    exact h1
  · obtain ⟨x, y, h1, h2⟩ := src_at (61 * (k : Int) + 13) k (by omega) (by omega)
    refine ⟨x, y, ?_, h2⟩
    have h' : ¬ (k : Int) < (ns.length : Int) := by omega
    simp [F__law_source, g__law_source, N__law_source, runF, runS, runF, R.ite_bind, h', cp, cm1, cm2, cm3]
    exact h1
end G

set_option Elab.async false
set_option linter.all false
set_option maxRecDepth 100000
set_option maxHeartbeats 400000
namespace G
open PySem DL
/-! ### walking -/
def lk (rows : List PyData) (n s : PyData) : PyData × PyData := match n, s with
  | .int n, .int s => match rows[n.toNat]? with
    | some (.tuple line) => match line[s.toNat]? with
      | some (.tuple [a, b]) => (a, b)
      | _ => (.none, .none)
    | _ => (.none, .none)
  | _, _ => (.none, .none)
def walkL (rows : List PyData) : PyData → List PyData → List PyData × PyData
  | n, [] => ([], n)
  | n, s :: ss => ((lk rows n s).1 :: (walkL rows (lk rows n s).2 ss).1, (walkL rows (lk rows n s).2 ss).2)
theorem atI_toNat {α : Type} (xs : List α) (i : Int) (h0 : 0 ≤ i) : L2.atI xs i = xs[i.toNat]? := by
  have := atI_nat xs i.toNat
  rwa [Int.toNat_of_nonneg h0] at this
def note (rows : List PyData) (n : PyData) : Bool := isFrom n 0 ((rows.length : Int) - 1)
theorem from_int {d : PyData} {lo hi : Int} (h : isFrom d lo hi = true) : ∃ i, d = .int i ∧ lo ≤ i ∧ i ≤ hi := by
  cases d with
  | int i => simp [isFrom] at h; exact ⟨i, rfl, h⟩
  | _ => cases h
/-- a table at a place -/
theorem lk_ok {many : Int} {rows : List PyData} (ht : isTable many (.tuple rows) = true) {n s : PyData} (hn : note rows n = true) (hs : stand many s = true) :
    ∃ line, gIx (.tuple rows) n = some (.tuple line) ∧ gIx (.tuple line) s = some (.tuple [(lk rows n s).1, (lk rows n s).2]) ∧ stand many (lk rows n s).1 = true ∧ note rows (lk rows n s).2 = true := by
  obtain ⟨n, rfl, n0, n1⟩ := from_int hn
  obtain ⟨s, rfl, s0, s1⟩ := from_int hs
  simp only [isTable, Bool.and_eq_true, decide_eq_true_eq, List.all_eq_true] at ht
  have hlt : n.toNat < rows.length := by omega
  have hl := ht.2 rows[n.toNat] (List.getElem_mem _)
  have e1 : rows[n.toNat]? = some rows[n.toNat] := List.getElem?_eq_getElem hlt
  cases hr : rows[n.toNat] with
  | tuple line =>
    rw [hr] at hl e1
    simp only [isLine, Bool.and_eq_true, decide_eq_true_eq, List.all_eq_true] at hl
    have hlt2 : s.toNat < line.length := by omega
    have hp := hl.2 line[s.toNat] (List.getElem_mem _)
    have e2 : line[s.toNat]? = some line[s.toNat] := List.getElem?_eq_getElem hlt2
    unfold isPair at hp
    split at hp
    · rename_i a b hab
      rw [hab] at e2
      simp only [Bool.and_eq_true] at hp
      have el : lk rows (.int n) (.int s) = (a, b) := by
        unfold lk
        simp only [e1, e2]
      refine ⟨line, ?_, ?_, ?_, ?_⟩
      · rw [gIx_t, atI_toNat _ _ n0, e1]
      · rw [gIx_t, atI_toNat _ _ s0, e2, el]
      · rw [el]; exact hp.1
      · rw [el]; exact hp.2
    · cases hp
  | _ => rw [hr] at hl; cases hl
theorem walkL_ok {many : Int} {rows : List PyData} (ht : isTable many (.tuple rows) = true) : ∀ (cs : List PyData) (n : PyData), note rows n = true → (∀ c, c ∈ cs → stand many c = true) →
    (walkL rows n cs).1.length = cs.length ∧ (∀ c, c ∈ (walkL rows n cs).1 → stand many c = true) ∧ note rows (walkL rows n cs).2 = true
  | [], n, hn, _ => ⟨rfl, (fun c h => nomatch h), hn⟩
  | s :: ss, n, hn, h => by
    obtain ⟨_, _, _, h1, h2⟩ := lk_ok ht hn (h s List.mem_cons_self)
    obtain ⟨i1, i2, i3⟩ := walkL_ok ht ss _ h2 fun c hc => h c (List.mem_cons_of_mem _ hc)
    refine ⟨by simp only [walkL, List.length_cons, i1], fun c hc => ?_, i3⟩
    rcases List.mem_cons.mp hc with rfl | hc
    · exact h1
    · exact i2 c hc
theorem walked_loop {many : Int} {rows : List PyData} (ht : isTable many (.tuple rows) = true) (a0 a1 a2 : Option SV) : ∀ (cs : List PyData) (n : PyData) (found : List PyData) (a6 a7 : Option SV), note rows n = true → (∀ c, c ∈ cs → stand many c = true) → found.length + cs.length ≤ 1000 →
    ∃ b6 b7, forG (tg1 6) l_walked_1 cs [a0, a1, a2, some (.d (.tuple rows)), some (.d n), some (.d (.tuple found)), a6, a7] = .ok (.nx [a0, a1, a2, some (.d (.tuple rows)), some (.d (walkL rows n cs).2), some (.d (.tuple (found ++ (walkL rows n cs).1))), b6, b7]) := by
  intro cs
  induction cs with
  | nil => intro n found a6 a7 _ _ _; exact ⟨a6, a7, by rw [forG_nil]; simp [walkL]⟩
  | cons c cs ih =>
    intro n found a6 a7 hn h hl
    simp only [List.length_cons] at hl
    obtain ⟨line, e1, e2, h1, h2⟩ := lk_ok ht hn (h c List.mem_cons_self)
    have hz : found.length + 1 ≤ sizeLine := by show _ ≤ 2 ^ 24; omega
    obtain ⟨b6, b7, e⟩ := ih (lk rows n c).2 (found ++ [(lk rows n c).1]) (some (.d c)) (some (.d (lk rows n c).1)) h2 (fun x hx => h x (List.mem_cons_of_mem _ hx)) (by simp; omega)
    refine ⟨b6, b7, ?_⟩
    rw [forG_cons]
    have e3 : l_walked_1 [a0, a1, a2, some (.d (.tuple rows)), some (.d n), some (.d (.tuple found)), some (.d c), a7] = .ok (.nx [a0, a1, a2, some (.d (.tuple rows)), some (.d (lk rows n c).2), some (.d (.tuple (found ++ [(lk rows n c).1]))), some (.d c), some (.d (lk rows n c).1)]) := by
      simp [l_walked_1, runS, runF, R.ite_bind, e1, e2, hz, -gIx_t]
    simp [e3, e, walkL]
theorem law_walked_loop {many : Int} {rows : List PyData} (ht : isTable many (.tuple rows) = true) (a0 a1 a2 : Option SV) : ∀ (cs : List PyData) (n : PyData) (found : List PyData) (a6 a7 : Option SV), note rows n = true → (∀ c, c ∈ cs → stand many c = true) → found.length + cs.length ≤ 1000 →
    ∃ b6 b7, forG (tg1 6) l__law_walked_1 cs [a0, a1, a2, some (.d (.tuple rows)), some (.d n), some (.d (.list found)), a6, a7] = .ok (.nx [a0, a1, a2, some (.d (.tuple rows)), some (.d (walkL rows n cs).2), some (.d (.list (found ++ (walkL rows n cs).1))), b6, b7]) := by
  intro cs
  induction cs with
  | nil => intro n found a6 a7 _ _ _; exact ⟨a6, a7, by rw [forG_nil]; simp [walkL]⟩
  | cons c cs ih =>
    intro n found a6 a7 hn h hl
    simp only [List.length_cons] at hl
    obtain ⟨line, e1, e2, h1, h2⟩ := lk_ok ht hn (h c List.mem_cons_self)
    have hz : found.length < sizeLine := by show _ < 2 ^ 24; omega
    obtain ⟨b6, b7, e⟩ := ih (lk rows n c).2 (found ++ [(lk rows n c).1]) (some (.d c)) (some (.d (lk rows n c).1)) h2 (fun x hx => h x (List.mem_cons_of_mem _ hx)) (by simp; omega)
    refine ⟨b6, b7, ?_⟩
    rw [forG_cons]
    have e3 : l__law_walked_1 [a0, a1, a2, some (.d (.tuple rows)), some (.d n), some (.d (.list found)), some (.d c), a7] = .ok (.nx [a0, a1, a2, some (.d (.tuple rows)), some (.d (lk rows n c).2), some (.d (.list (found ++ [(lk rows n c).1]))), some (.d c), some (.d (lk rows n c).1)]) := by
      simp [l__law_walked_1, runS, runF, R.ite_bind, e1, e2, hz, -gIx_t]
    simp [e3, e, walkL]
/-- a walk along a corridor -/
def wk (d : PyData) (cs : List PyData) : List PyData × PyData := match d with
  | .tuple [.str sd, .tuple rows] => if sd = "left" then walkL rows (.int 0) cs else ((walkL rows (.int 0) cs.reverse).1.reverse, (walkL rows (.int 0) cs.reverse).2)
  | _ => (cs, .none)
theorem walk_parts {many : Int} {d : PyData} (h : isWalk many d = true) : ∃ sd rows, d = .tuple [.str sd, .tuple rows] ∧ isTable many (.tuple rows) = true ∧ note rows (.int 0) = true := by
  unfold isWalk at h
  split at h
  · rename_i sd t
    simp only [Bool.and_eq_true] at h
    cases sd with
    | str sd =>
      cases t with
      | tuple rows =>
        refine ⟨sd, rows, rfl, h.2, ?_⟩
        have h2 := h.2
        simp only [isTable, Bool.and_eq_true, decide_eq_true_eq] at h2
        simp [note, isFrom]
        omega
      | _ => simp [isTable] at h
    | _ => simp [isSide] at h
  · cases h
theorem wk_ok {many : Int} {d : PyData} (h : isWalk many d = true) {cs : List PyData} (hc : ∀ c, c ∈ cs → stand many c = true) : (wk d cs).1.length = cs.length ∧ (∀ c, c ∈ (wk d cs).1 → stand many c = true) ∧ ∃ i : Int, (wk d cs).2 = .int i := by
  obtain ⟨sd, rows, rfl, ht, hn⟩ := walk_parts h
  unfold wk
  by_cases hs : sd = "left"
  · obtain ⟨h1, h2, h3⟩ := walkL_ok ht cs _ hn hc
    obtain ⟨i, h4, _⟩ := from_int h3
    simp only [hs, if_true]
    exact ⟨h1, h2, i, h4⟩
  · obtain ⟨h1, h2, h3⟩ := walkL_ok ht cs.reverse _ hn fun c hc' => hc c (List.mem_reverse.mp hc')
    obtain ⟨i, h4, _⟩ := from_int h3
    simp only [hs, if_false]
    exact ⟨by rw [List.length_reverse, h1, List.length_reverse], fun c hc' => h2 c (List.mem_reverse.mp hc'), i, h4⟩
theorem s_walked {many : Int} {d : PyData} (h : isWalk many d = true) {cs : List PyData} (hc : ∀ c, c ∈ cs → stand many c = true) (hl : cs.length ≤ 1000) : F_walked [d, .tuple cs] = .ok (.tuple [.tuple (wk d cs).1, (wk d cs).2]) := by
  obtain ⟨sd, rows, rfl, ht, hn⟩ := walk_parts h
  by_cases hs : sd = "left"
  · obtain ⟨b6, b7, e⟩ := walked_loop ht (some (.d (.tuple [.str sd, .tuple rows]))) (some (.d (.tuple cs))) (some (.d (.str sd))) cs (.int 0) [] none none hn hc (by simp; omega)
    subst hs
    simp [F_walked, g_walked, N_walked, runS, runF, R.ite_bind, e, wk]
  · obtain ⟨b6, b7, e⟩ := walked_loop ht (some (.d (.tuple [.str sd, .tuple rows]))) (some (.d (.tuple cs))) (some (.d (.str sd))) cs.reverse (.int 0) [] none none hn (fun c hc' => hc c (List.mem_reverse.mp hc')) (by simp; omega)
    simp [F_walked, g_walked, N_walked, runS, runF, R.ite_bind, hs, revT, e, wk]
theorem s_law_walked {many : Int} {d : PyData} (h : isWalk many d = true) {cs : List PyData} (hc : ∀ c, c ∈ cs → stand many c = true) (hl : cs.length ≤ 1000) : F__law_walked [d, .tuple cs] = .ok (.tuple [.tuple (wk d cs).1, (wk d cs).2]) := by
  obtain ⟨sd, rows, rfl, ht, hn⟩ := walk_parts h
  by_cases hs : sd = "left"
  · obtain ⟨b6, b7, e⟩ := law_walked_loop ht (some (.d (.tuple [.str sd, .tuple rows]))) (some (.d (.tuple cs))) (some (.d (.str sd))) cs (.int 0) [] none none hn hc (by simp; omega)
    subst hs
    simp [F__law_walked, g__law_walked, N__law_walked, runS, runF, R.ite_bind, parM, setsR, e, wk]
  · obtain ⟨b6, b7, e⟩ := law_walked_loop ht (some (.d (.tuple [.str sd, .tuple rows]))) (some (.d (.tuple cs))) (some (.d (.str sd))) cs.reverse (.int 0) [] none none hn (fun c hc' => hc c (List.mem_reverse.mp hc')) (by simp; omega)
    simp [F__law_walked, g__law_walked, N__law_walked, runS, runF, R.ite_bind, parM, setsR, hs, revT, revL, e, wk]
/-! ### walks one after the other -/
def stgL : List PyData → List PyData → List (List PyData × PyData)
  | [], _ => []
  | w :: ws, cs => wk w cs :: stgL ws (wk w cs).1
def pairD (p : List PyData × PyData) : PyData := .tuple [.tuple p.1, p.2]
theorem stgL_ok {many : Int} : ∀ (ws cs : List PyData), (∀ w, w ∈ ws → isWalk many w = true) → (∀ c, c ∈ cs → stand many c = true) → ∀ p, p ∈ stgL ws cs → p.1.length = cs.length ∧ (∀ c, c ∈ p.1 → stand many c = true) ∧ ∃ i : Int, p.2 = .int i
  | [], _, _, _, p, hp => nomatch hp
  | w :: ws, cs, hw, hc, p, hp => by
    obtain ⟨h1, h2, h3⟩ := wk_ok (hw w List.mem_cons_self) hc
    rcases List.mem_cons.mp hp with rfl | hp
    · exact ⟨h1, h2, h3⟩
    · obtain ⟨i1, i2, i3⟩ := stgL_ok ws _ (fun x hx => hw x (List.mem_cons_of_mem _ hx)) h2 p hp
      exact ⟨i1.trans h1, i2, i3⟩
theorem stgL_len : ∀ (ws cs : List PyData), (stgL ws cs).length = ws.length
  | [], _ => rfl
  | w :: ws, cs => by rw [stgL, List.length_cons, List.length_cons, stgL_len ws]
/-- what is left at last -/
def endL : List PyData → List PyData → List PyData
  | [], cs => cs
  | w :: ws, cs => endL ws (wk w cs).1
end G

set_option Elab.async false
set_option linter.all false
set_option maxRecDepth 100000
set_option maxHeartbeats 400000
namespace G
open PySem DL
theorem s_need_script' (d : PyData) : F_need_script [d] = if isScr d = true then .ok .none else .exc 0 none := by
  by_cases h : isScr d = true
  · simp [F_need_script, g_need_script, N_need_script, runS, runF, R.ite_bind, s_has_script, h]
  · simp [F_need_script, g_need_script, N_need_script, runS, runF, R.ite_bind, s_has_script, h]
theorem s_need_corridor (many : Int) (d : PyData) : F_need_corridor [.int many, d] = if hasCor many d = true then .ok .none else .exc 1 none := by
  by_cases h : hasCor many d = true
  · simp [F_need_corridor, g_need_corridor, N_need_corridor, runS, runF, R.ite_bind, s_has_corridor, h]
  · simp [F_need_corridor, g_need_corridor, N_need_corridor, runS, runF, R.ite_bind, s_has_corridor, h]
theorem s_need_both {many : Int} {st : PyData} (h : isScr (.tuple [.int many, st]) = true) (d : PyData) : F_need_both [.tuple [.int many, st], d] = if hasCor many d = true then .ok .none else .exc 1 none := by
  by_cases hc : hasCor many d = true
  · simp [F_need_both, g_need_both, N_need_both, runS, runF, R.ite_bind, s_need_script', h, s_need_corridor, hc]
  · simp [F_need_both, g_need_both, N_need_both, runS, runF, R.ite_bind, s_need_script', h, s_need_corridor, hc]
theorem atI_end (xs : List PyData) (x : PyData) : L2.atI (xs ++ [x]) (-1) = some x := by
  have := atI_last (xs ++ [x]) 1 (by simp) (by decide)
  simpa using this
theorem staged_loop {many : Int} (a0 : Option SV) : ∀ (ws cs acc : List PyData) (a3 a4 : Option SV), (∀ w, w ∈ ws → isWalk many w = true) → (∀ c, c ∈ cs → stand many c = true) → cs.length ≤ 1000 → acc.length + ws.length ≤ 1000 →
    ∃ b3 b4, forG (tg1 3) (l_staged_1 (F_spread 3) F_walked) ws [a0, some (.d (.tuple cs)), some (.d (.list acc)), a3, a4] = .ok (.nx [a0, some (.d (.tuple (endL ws cs))), some (.d (.list (acc ++ (stgL ws cs).map pairD))), b3, b4]) := by
  intro ws
  induction ws with
  | nil => intro cs acc a3 a4 _ _ _ _; exact ⟨a3, a4, by rw [forG_nil]; simp [stgL, endL]⟩
  | cons w ws ih =>
    intro cs acc a3 a4 hw hc hl ha
    simp only [List.length_cons] at ha
    have hww := hw w List.mem_cons_self
    obtain ⟨h1, h2, h3⟩ := wk_ok hww hc
    have e1 := s_walked hww hc hl
    have hz : acc.length < sizeLine := by show _ < 2 ^ 24; omega
    obtain ⟨b3, b4, e⟩ := ih (wk w cs).1 (acc ++ [pairD (wk w cs)]) (some (.d w)) (some (.d (wk w cs).2)) (fun x hx => hw x (List.mem_cons_of_mem _ hx)) h2 (by omega) (by simp; omega)
    refine ⟨b3, b4, ?_⟩
    rw [forG_cons]
    have e3 : l_staged_1 (F_spread 3) F_walked [a0, some (.d (.tuple cs)), some (.d (.list acc)), some (.d w), a4] = .ok (.nx [a0, some (.d (.tuple (wk w cs).1)), some (.d (.list (acc ++ [pairD (wk w cs)]))), some (.d w), some (.d (wk w cs).2)]) := by
      simp [l_staged_1, runS, runF, R.ite_bind, e1, hz, pairD]
    simp [e3, e, stgL, endL]
theorem s_staged {many : Int} {steps : List PyData} (h : isScr (.tuple [.int many, .tuple steps]) = true) {cs : List PyData} (hc : ∀ c, c ∈ cs → stand many c = true) (hl : cs.length ≤ 1000) : F_staged [.tuple [.int many, .tuple steps], .tuple cs] = .ok (.list ((stgL (allW many steps) cs).map pairD)) := by
  obtain ⟨m, st, e, hm, hl6, hs, hw8, _⟩ := scr_form h
  cases e
  have e := s_spread hm 1 steps hs hl6
  obtain ⟨b3, b4, e2⟩ := staged_loop (some (.d (.tuple [.int many, .tuple steps]))) (allW many steps) cs [] none none (allW_ok hm hs) hc hl (by simp; omega)
  simp only [allW] at e2 ⊢
  simp [F_staged, g_staged, N_staged, runS, runF, R.ite_bind, e, e2]
theorem stg_end : ∀ (ws cs : List PyData), ws ≠ [] → ∃ l p, stgL ws cs = l ++ [p] ∧ p.1 = endL ws cs
  | [], _, h => absurd rfl h
  | [w], cs, _ => ⟨[], wk w cs, rfl, rfl⟩
  | w :: w2 :: ws, cs, _ => by
    obtain ⟨l, p, h1, h2⟩ := stg_end (w2 :: ws) (wk w cs).1 (by simp)
    exact ⟨wk w cs :: l, p, by rw [stgL, h1]; rfl, h2⟩
theorem stands_small {many : Int} {cs : List PyData} (hc : ∀ c, c ∈ cs → stand many c = true) (hl : cs.length ≤ 60) : small 60 1 (.tuple cs) = true := small_tuple (D := 0) (fun x hx => by
    have := hc x hx
    cases x with
    | int _ => rfl
    | _ => cases this) hl
theorem pair_small {many : Int} {ws cs : List PyData} (hw : ∀ w, w ∈ ws → isWalk many w = true) (hc : ∀ c, c ∈ cs → stand many c = true) (hl : cs.length ≤ 60) : ∀ x, x ∈ (stgL ws cs).map pairD → small 60 2 x = true := fun x hx => by
  obtain ⟨p, hp, rfl⟩ := List.mem_map.mp hx
  obtain ⟨h1, h2, i, h3⟩ := stgL_ok ws cs hw hc p hp
  exact small_tuple (D := 1) (fun y hy => by
    simp at hy
    rcases hy with rfl | rfl
    · exact stands_small h2 (by omega)
    · rw [h3]; rfl) (by simp)
theorem s_run {many : Int} {steps : List PyData} (h : isScr (.tuple [.int many, .tuple steps]) = true) {cs : List PyData} (hc : ∀ c, c ∈ cs → stand many c = true) (hl : cs.length ≤ 60) : F_run [.tuple [.int many, .tuple steps], .tuple cs] = .ok (.tuple (endL (allW many steps) cs)) := by
  obtain ⟨m, st, e, hm, hl6, hs, hw8, _⟩ := scr_form h
  cases e
  have e := s_staged h hc (by omega)
  have hco : hasCor many (.tuple cs) = true := by simp [hasCor, hl]; exact hc
  have hsh : shp (.list ((stgL (allW many steps) cs).map pairD)) = true := small_shp (small_list (L := 60) (D := 2) (pair_small (allW_ok hm hs) hc hl) (by rw [List.length_map, stgL_len]; omega)) (by decide)
  have hn := gNe_nil hsh
  by_cases hw : allW many steps = []
  · simp only [hw, stgL, List.map_nil] at e hn
    simp [F_run, g_run, N_run, runS, runF, R.ite_bind, s_need_both h, hco, e, hn, hw, endL]
  · obtain ⟨l, p, h1, h2⟩ := stg_end (allW many steps) cs hw
    rw [h1, List.map_append, List.map_singleton] at e hn
    have e5 := atI_end (l.map pairD) (pairD p)
    simp [F_run, g_run, N_run, runS, runF, R.ite_bind, s_need_both h, hco, e, hn, e5]
    simp [pairD, h2]
def fstD : PyData → PyData
  | .tuple [a, _] => a
  | _ => .none
def sndD : PyData → PyData
  | .tuple [_, a] => a
  | _ => .none
theorem s_stages {many : Int} {steps : List PyData} (h : isScr (.tuple [.int many, .tuple steps]) = true) {cs : List PyData} (hc : ∀ c, c ∈ cs → stand many c = true) (hl : cs.length ≤ 60) : F_stages [.tuple [.int many, .tuple steps], .tuple cs] = .ok (.list ((stgL (allW many steps) cs).map fun p => .tuple p.1)) := by
  obtain ⟨m, st, e, hm, hl6, hs, hw8, _⟩ := scr_form h
  cases e
  have e := s_staged h hc (by omega)
  have hco : hasCor many (.tuple cs) = true := by simp [hasCor, hl]; exact hc
  have hz : (stgL (allW many steps) cs).length ≤ sizeLine := by rw [stgL_len]; exact Nat.le_trans hw8 (by decide)
  simp [F_stages, g_stages, N_stages, runS, runF, R.ite_bind, s_need_both h, hco, e, hz]
  rw [compL_map (h := fstD) fun d hd => by
    obtain ⟨p, hp, rfl⟩ := List.mem_map.mp hd
    simp [pairD, fstD]]
  simp [fstD, pairD]
theorem s_notes {many : Int} {steps : List PyData} (h : isScr (.tuple [.int many, .tuple steps]) = true) {cs : List PyData} (hc : ∀ c, c ∈ cs → stand many c = true) (hl : cs.length ≤ 60) : F_notes [.tuple [.int many, .tuple steps], .tuple cs] = .ok (.list ((stgL (allW many steps) cs).map fun p => p.2)) := by
  obtain ⟨m, st, e, hm, hl6, hs, hw8, _⟩ := scr_form h
  cases e
  have e := s_staged h hc (by omega)
  have hco : hasCor many (.tuple cs) = true := by simp [hasCor, hl]; exact hc
  have hz : (stgL (allW many steps) cs).length ≤ sizeLine := by rw [stgL_len]; exact Nat.le_trans hw8 (by decide)
  simp [F_notes, g_notes, N_notes, runS, runF, R.ite_bind, s_need_both h, hco, e, hz]
  rw [compL_map (h := sndD) fun d hd => by
    obtain ⟨p, hp, rfl⟩ := List.mem_map.mp hd
    simp [pairD, sndD]]
  simp [sndD, pairD]
end G
set_option Elab.async false
set_option linter.all false
set_option maxRecDepth 100000
set_option maxHeartbeats 1000000
namespace DL
open PySem PySem.Spec PyProof.Rows L2
/-! ### the end: the law's def as a function -/
def LawOk (n : Nat) (FL : List PyData → R PyData) : Prop := ∀ ns : List Int, ns.length ≤ n → (∀ z ∈ ns, Builtin.Int.intBits z ≤ 1048576) → (FL [.list (ns.map .int)]).wp (fun d => d = .bool true) (fun _ _ => False)
theorem dpa_ints {K : PySem.W.Frag} {H : Hp} : ∀ ns : List Int, DpAll K H (ns.map V.int) (ns.map PyData.int)
  | [] => .nil
  | n :: r => .cons (.int n) (dpa_ints r)
theorem spD_law {K : PySem.W.Frag} {ec : EC} {n : Nat} {FL : List PyData → R PyData} (h : LawOk n FL) {H : Hp} {a : Addr} {ns : List Int} (hl : ns.length ≤ n) (hb : ∀ z ∈ ns, Builtin.Int.intBits z ≤ 1048576) (hS : SqL K H a (ns.map V.int)) :
    spD K ec 1 FL [.ref a] H (fun v _ => v = .bl true) fun _ _ _ => False := by
  have he : hid [] H = H := by funext b; exact hid_out (by simp)
  refine ⟨rfl, [], [], [.list (ns.map .int)], .cons (.lst (by rw [he]; exact hS) (dpa_ints ns)) .nil, ⟨(fun m z => by cases z), (fun a z => by cases z), (fun a z => by cases z)⟩, ?_⟩
  refine R.wp_imp (h ns hl hb) (fun d e v H' _ hv => ?_) (fun c x e => e.elim)
  subst e
  cases hv
  rfl
theorem walk_dl {l : PySem.W.OpenLaw} {n k m : Nat} {q : Program} {loose : List Str} {XP : (Str → Option Value) → Heap → Prop} {d : DefRec} {x : Str} {ta : List Tup} {xs : List Chk} {fa : List He.Fa} {fn : List He.DefD} {ec : PySem.W.Frag → EC} {FL : List PyData → R PyData}
    (hn : l.most = some n) (hn2 : n ≤ sizeLine) (hdf : d.params.defaults = []) (hr : Room k callerA) (hL : LawOk n FL)
    (F : ∀ (w : World) (mg : Str → Option Value) (a : Addr) (h : Heap) (K : PySem.W.Frag), K.In h → SaysX ta xs fa fn K → h.Ns mainGlobals mg → mg d.name = some (.ref a) →
      ∃ fd : FuncData, (∀ (s : Shared) (u : Value), BindsTo s fd ⟨[u], []⟩ [(x, u)]) ∧ ∀ base : Heap, K.In base → base.Ns mainGlobals mg → FnOk l.prog w K mg base (L2.CX l.prog w) k a fd [x] (spD K (ec K) 1 FL)) :
    PySem.W.WalkO q loose XP (hookX m ta xs fa fn).says l.row.toRowW d [] (fun f vs => PySem.call f vs) := by
  apply Att.attach_callB hn hdf
  intro w s₀ s₁ mg mb a o pm cd doc b vs ns G Y ho hd hcd hmg hobj hints hlen hbits hg
  obtain ⟨K, KX, c⟩ := Y
  obtain ⟨fd, hb, hF⟩ := F w mg a _ K KX c G.T.g hmg
  exact law_call KX G.T.g G.T.b G.T.builtins G.T.nolimit hg hobj hints (Nat.le_trans hlen hn2) hr hF hb (fun H _ hS => spD_law hL hlen hbits hS)
    fun H e s' ⟨_, _, _, _, _, _, _, _, _, _, _, _, z⟩ => z
theorem fn0_of {P : Program} {w : World} {K : PySem.W.Frag} {mg : Str → Option Value} {base : Heap} {ec : EC} {x qual : Str} {st : Stmt} {f : Addr} {fd : FuncData} {N ps : List Str} {k n : Nat} (Fn : FunD K x qual (defArgs st) (defBody st) (defScope st) [] [] f fd) (S : FnScope N ps (defScope st)) (hb : Binds K fd ps []) (hg : mg x = some (.ref f)) (hn : ps.length = n) :
    FnD P w K mg base ec (k + 1) n x (fun _ => .bad) := fnD_of Fn S hb hg hn (fun _ _ _ _ _ _ _ _ _ => dss_bad) fun ds _ Q E h => h.elim
theorem fn0N_of {P : Program} {w : World} {K : PySem.W.Frag} {mg : Str → Option Value} {base : Heap} {ec : EC} {x qual : Str} {st : Stmt} {f : Addr} {fd : FuncData} {N ps : List Str} {k n : Nat} (Fn : FunD K x qual (defArgs st) (defBody st) (defScope st) [] [] f fd) (S : FnScope N ps (defScope st)) (hb : Binds K fd ps []) (hg : mg x = some (.ref f)) (hn : ps.length = n) :
    FnN P w K mg base ec (k + 1) n x (fun _ => .bad) := fnN_of Fn S hb hg hn (fun _ _ _ _ _ _ _ _ _ => dss_bad) fun ds _ Q E h => h.elim
end DL

set_option Elab.async false
set_option linter.all false
set_option maxRecDepth 100000
set_option maxHeartbeats 400000
namespace G
open PySem DL
/-! ### refused -/
theorem s_refused {many : Int} {st d : PyData} (h : isScr (.tuple [.int many, st]) = true) (hd : hasCor many d = false) : F__law_refused [.tuple [.int many, st], d] = .ok (.bool true) := by
  have e1 : F_run [.tuple [.int many, st], d] = .exc 1 none := by simp [F_run, g_run, N_run, runS, runF, R.ite_bind, s_need_both h, hd]
  have e2 : F_stages [.tuple [.int many, st], d] = .exc 1 none := by simp [F_stages, g_stages, N_stages, runS, runF, R.ite_bind, s_need_both h, hd]
  have e3 : F_notes [.tuple [.int many, st], d] = .exc 1 none := by simp [F_notes, g_notes, N_notes, runS, runF, R.ite_bind, s_need_both h, hd]
  have n1 : ¬ ("run" : Str) = "stages" := by decide +kernel
  have n2 : ¬ ("run" : Str) = "notes" := by decide +kernel
  have n3 : ¬ ("stages" : Str) = "notes" := by decide +kernel
  have sh : gEq (.list [.str "corridor", .str "corridor", .str "corridor"]) (.list [.str "corridor", .str "corridor", .str "corridor"]) = some (.bool true) := gEq_self (by decide +kernel)
  simp [F__law_refused, g__law_refused, l__law_refused_1, N__law_refused, runS, runF, R.ite_bind, e1, e2, e3, n1, n2, n3, sh]
/-! ### a turn -/
theorem walk_steps {many : Int} (a0 a1 a2 a3 a4 a5 a6 a7 a8 a12 : Option SV) : ∀ (ws cs acc : List PyData) (a11 : Option SV), (∀ w, w ∈ ws → isWalk many w = true) → (∀ c, c ∈ cs → stand many c = true) → cs.length ≤ 1000 → acc.length + ws.length ≤ 1000 →
    ∃ b11, forG (tg1 11) L_law_6 ws [a0, a1, a2, a3, a4, a5, a6, a7, a8, some (.d (.list acc)), some (.d (.tuple cs)), a11, a12] = .ok (.nx [a0, a1, a2, a3, a4, a5, a6, a7, a8, some (.d (.list (acc ++ (stgL ws cs).map pairD))), some (.d (.tuple (endL ws cs))), b11, a12]) := by
  intro ws
  induction ws with
  | nil => intro cs acc a11 _ _ _ _; exact ⟨a11, by rw [forG_nil]; simp [stgL, endL]⟩
  | cons w ws ih =>
    intro cs acc a11 hw hc hl ha
    simp only [List.length_cons] at ha
    have hww := hw w List.mem_cons_self
    obtain ⟨h1, h2, h3⟩ := wk_ok hww hc
    have e1 := s_law_walked hww hc hl
    have hz : acc.length < sizeLine := by show _ < 2 ^ 24; omega
    have e5 := atI_end acc (pairD (wk w cs))
    simp only [pairD] at e5
    obtain ⟨b11, e⟩ := ih (wk w cs).1 (acc ++ [pairD (wk w cs)]) (some (.d w)) (fun x hx => hw x (List.mem_cons_of_mem _ hx)) h2 (by omega) (by simp; omega)
    refine ⟨b11, ?_⟩
    rw [forG_cons]
    have e3 : L_law_6 [a0, a1, a2, a3, a4, a5, a6, a7, a8, some (.d (.list acc)), some (.d (.tuple cs)), some (.d w), a12] = .ok (.nx [a0, a1, a2, a3, a4, a5, a6, a7, a8, some (.d (.list (acc ++ [pairD (wk w cs)]))), some (.d (.tuple (wk w cs).1)), some (.d w), a12]) := by
      simp [L_law_6, L_law_4, L_law_5, runS, runF, R.ite_bind, e1, hz, pairD, e5]
    simp [e3, e, stgL, endL]
def TurnQ (a0 a1 : Option SV) (rule : PyData) (a7 : Option SV) (f : Fl) : Prop := ∃ a6 a8 a9 a10 a11, f = .nx [a0, a1, none, none, some .src, some (.d rule), a6, a7, a8, a9, a10, a11, none]
theorem map_map_pair {α : Type} (g : PyData → PyData) (k : List PyData × PyData → PyData) (h : ∀ p, g (pairD p) = k p) (l : List (List PyData × PyData)) : (l.map pairD).map g = l.map k := by
  rw [List.map_map]
  exact List.map_congr_left fun p _ => h p
theorem turn_body {many : Int} {steps : List PyData} (hg : isScr (.tuple [.int many, .tuple steps]) = true) (a0 a1 a6 a7 a8 a9 a10 a11 : Option SV) (d : PyData) :
    Wp ((R.ofO (tg1 6 d [a0, a1, none, none, some .src, some (.d (.tuple [.int many, .tuple steps])), a6, a7, a8, a9, a10, a11, none])).bind L_law_10) (TurnQ a0 a1 (.tuple [.int many, .tuple steps]) a7) NoE := by
  obtain ⟨m, st, e, hm, hl6, hs, hw8, _⟩ := scr_form hg
  cases e
  simp [L_law_10, runS, runF, R.ite_bind]
  simp [L_law_2, runS, runF, R.ite_bind]
  refine Wp.imp ⟨w_choice [.int 3, .int 12, .int 60] (fun d => ∃ n : Int, d = .int n ∧ 0 ≤ n ∧ n ≤ 60) (fun d hd => by
    simp at hd
    rcases hd with rfl | rfl | rfl <;> exact ⟨_, rfl, by omega, by omega⟩) (by decide) (by decide)⟩ fun n ⟨n, e, hn⟩ => ?_
  subst e
  refine Wp.imp ⟨w_corridor many n hm hn⟩ fun w ⟨cs, ew, hc, hl⟩ => ?_
  subst ew
  have hl60 : cs.length ≤ 60 := by omega
  have hwk := allW_ok hm hs
  have hz : (stgL (allW many steps) cs).length ≤ sizeLine := by rw [stgL_len]; exact Nat.le_trans hw8 (by decide)
  obtain ⟨b11, ew⟩ := walk_steps (many := many) a0 a1 none none (some .src) (some (.d (.tuple [.int many, .tuple steps]))) (some (.d d)) a7 (some (.d (.tuple cs))) none (allW many steps) cs [] a11 hwk hc (by omega) (by simp; omega)
  have sr : shp (.tuple (endL (allW many steps) cs)) = true := by
    by_cases h0 : allW many steps = []
    · rw [h0]
      exact small_shp (stands_small hc hl60) (by decide)
    · obtain ⟨l, p, h1, h2⟩ := stg_end (allW many steps) cs h0
      obtain ⟨i1, i2, _⟩ := stgL_ok (allW many steps) cs hwk hc p (by rw [h1]; simp)
      rw [← h2]
      exact small_shp (stands_small i2 (by omega)) (by decide)
  have ss : shp (.list ((stgL (allW many steps) cs).map fun p => .tuple p.1)) = true := small_shp (small_list (L := 60) (D := 1) (fun x hx => by
    obtain ⟨p, hp, rfl⟩ := List.mem_map.mp hx
    obtain ⟨i1, i2, _⟩ := stgL_ok (allW many steps) cs hwk hc p hp
    exact stands_small i2 (by omega)) (by rw [List.length_map, stgL_len]; omega)) (by decide)
  have sn : shp (.list ((stgL (allW many steps) cs).map fun p => p.2)) = true := small_shp (small_list (L := 60) (D := 0) (fun x hx => by
    obtain ⟨p, hp, rfl⟩ := List.mem_map.mp hx
    obtain ⟨i1, i2, i, i3⟩ := stgL_ok (allW many steps) cs hwk hc p hp
    rw [i3]; rfl) (by rw [List.length_map, stgL_len]; omega)) (by decide)
  simp [L_law_3, L_law_7, runS, runF, R.ite_bind, s_law_walks hg, ew]
  simp [L_law_8, runS, runF, R.ite_bind, s_run hg hc hl60, s_stages hg hc hl60, gNe_self sr, hz]
  rw [compL_map (h := fstD) fun d hd => by
    obtain ⟨p, hp, rfl⟩ := List.mem_map.mp hd
    simp [pairD, fstD]]
  rw [map_map_pair (α := Unit) fstD (fun p => .tuple p.1) fun p => rfl]
  simp [gNe_self ss]
  simp [L_law_9, runS, runF, R.ite_bind, s_notes hg hc hl60, hz]
  rw [compL_map (h := sndD) fun d hd => by
    obtain ⟨p, hp, rfl⟩ := List.mem_map.mp hd
    simp [pairD, sndD]]
  rw [map_map_pair (α := Unit) sndD (fun p => p.2) fun p => rfl]
  simp [gNe_self sn]
  exact ⟨_, _, _, _, _, rfl⟩
theorem turns {many : Int} {steps : List PyData} (hg : isScr (.tuple [.int many, .tuple steps]) = true) (a0 a1 a7 : Option SV) : ∀ (ds : List PyData) (a6 a8 a9 a10 a11 : Option SV),
    Wp (forG (tg1 6) L_law_10 ds [a0, a1, none, none, some .src, some (.d (.tuple [.int many, .tuple steps])), a6, a7, a8, a9, a10, a11, none]) (TurnQ a0 a1 (.tuple [.int many, .tuple steps]) a7) NoE := by
  intro ds
  induction ds with
  | nil => intro a6 a8 a9 a10 a11; exact ⟨⟨_, _, _, _, _, rfl⟩⟩
  | cons d ds ih =>
    intro a6 a8 a9 a10 a11
    rw [forG_cons, Wp_bind]
    refine (turn_body hg a0 a1 a6 a7 a8 a9 a10 a11 d).imp fun f hf => ?_
    obtain ⟨b6, b8, b9, b10, b11, e⟩ := hf
    subst e
    exact ih b6 b8 b9 b10 b11
/-- values that are none -/
theorem odds {many : Int} {st : PyData} (h : isScr (.tuple [.int many, st]) = true) (a0 a1 a2 a3 a4 a6 a8 a9 a10 a11 a12 : Option SV) : ∀ (ds : List PyData) (a7 : Option SV), (∀ d, d ∈ ds → hasCor many d = false) →
    ∃ b7, forG (tg1 7) L_law_12 ds [a0, a1, a2, a3, a4, some (.d (.tuple [.int many, st])), a6, a7, a8, a9, a10, a11, a12] = .ok (.nx [a0, a1, a2, a3, a4, some (.d (.tuple [.int many, st])), a6, b7, a8, a9, a10, a11, a12]) := by
  intro ds
  induction ds with
  | nil => intro a7 _; exact ⟨a7, rfl⟩
  | cons d ds ih =>
    intro a7 hd
    obtain ⟨b7, e⟩ := ih (some (.d d)) fun x hx => hd x (List.mem_cons_of_mem _ hx)
    refine ⟨b7, ?_⟩
    rw [forG_cons]
    have e1 : L_law_12 [a0, a1, a2, a3, a4, some (.d (.tuple [.int many, st])), a6, some (.d d), a8, a9, a10, a11, a12] = .ok (.nx [a0, a1, a2, a3, a4, some (.d (.tuple [.int many, st])), a6, some (.d d), a8, a9, a10, a11, a12]) := by
      simp [L_law_12, L_law_11, runS, runF, R.ite_bind, s_refused h (hd d List.mem_cons_self)]
    simp [e1, e]
def zero61 : PyData := .tuple (List.replicate 61 (.int 0))
theorem gMul61 : gMul (.tuple [.int 0]) (.int 61) = some zero61 := by kernel_rfl
theorem hasCor_61 (many : Int) : hasCor many zero61 = false := by
  simp [hasCor, zero61]
def CellQ (ns : List Int) (f : Fl) : Prop := ∃ a1 a4 a5 a6 a7 a8 a9 a10 a11, f = .nx [some (.d (.list (ns.map .int))), a1, none, none, a4, a5, a6, a7, a8, a9, a10, a11, none]
theorem cell_body (ns : List Int) (k : Nat) (hk : k ≤ 100) (a1 a4 a5 a6 a7 a8 a9 a10 a11 : Option SV) :
    Wp ((R.ofO (tg1 1 (.int k) [some (.d (.list (ns.map .int))), a1, none, none, a4, a5, a6, a7, a8, a9, a10, a11, none])).bind L_law_14) (CellQ ns) NoE := by
  obtain ⟨x, y, e, hx, hy⟩ := w_source ns k hk
  have hy2 : y < 4294967296 := hy.2
  simp [L_law_14, runS, runF, R.ite_bind, e, fSrc, hx, hy.1, hy2]
  simp [L_law_1, runS, runF, R.ite_bind]
  refine Wp.imp ⟨w_script 6 16 (by decide) (by decide)⟩ fun g ⟨many, steps, eg, hg, _, _⟩ => ?_
  subst eg
  obtain ⟨_, _, eg, hm, _⟩ := scr_form hg
  cases eg
  refine (turns hg _ _ _ (rgD 0 8) _ _ _ _ _).imp fun f hf => ?_
  obtain ⟨b6, b8, b9, b10, b11, e⟩ := hf
  subst e
  have h61 := hasCor_61 many
  obtain ⟨b7, eo⟩ := odds hg (some (.d (.list (ns.map .int)))) (some (.d (.int k))) none none (some .src) b6 b8 b9 b10 b11 none [.none, .list [], .tuple [.int many], .tuple [.int 0, .bool true], .str "01", zero61, .tuple [.int (-1)]] a7 (fun d hd => by
    simp at hd
    rcases hd with rfl | rfl | rfl | rfl | rfl | rfl | rfl
    · rfl
    · rfl
    · simp [hasCor, stand, isFrom]; omega
    · simp [hasCor, stand, isFrom]
    · rfl
    · exact h61
    · simp [hasCor, stand, isFrom])
  simp [L_law_13, runS, runF, R.ite_bind, gMul61, -gMul_t, eo]
  exact ⟨_, _, _, _, _, _, _, _, _, rfl⟩
theorem cells (ns : List Int) : ∀ (ds : List PyData), (∀ d, d ∈ ds → ∃ k : Nat, k ≤ 100 ∧ d = .int k) → ∀ a1 a4 a5 a6 a7 a8 a9 a10 a11 : Option SV,
    Wp (forG (tg1 1) L_law_14 ds [some (.d (.list (ns.map .int))), a1, none, none, a4, a5, a6, a7, a8, a9, a10, a11, none]) (CellQ ns) NoE := by
  intro ds
  induction ds with
  | nil =>
    intro _ a1 a4 a5 a6 a7 a8 a9 a10 a11
    exact ⟨⟨_, _, _, _, _, _, _, _, _, rfl⟩⟩
  | cons d ds ih =>
    intro h a1 a4 a5 a6 a7 a8 a9 a10 a11
    obtain ⟨k, hk, rfl⟩ := h d List.mem_cons_self
    rw [forG_cons, Wp_bind]
    refine (cell_body ns k hk a1 a4 a5 a6 a7 a8 a9 a10 a11).imp fun f hf => ?_
    obtain ⟨b1, b4, b5, b6, b7, b8, b9, b10, b11, e⟩ := hf
    subst e
    exact ih (fun x hx => h x (List.mem_cons_of_mem _ hx)) b1 b4 b5 b6 b7 b8 b9 b10 b11
def fin (f : Fl) : R PyData := match f with
  | .nx _ => .ok .none
  | .rt d _ => .ok d
  | .rf d _ => .ok d
  | _ => .bad
def Rest : Rho → R Fl := fSeq L_law_16 (fSeq L_law_17 (fSeq L_law_18 (fSeq L_law_19 (fSeq L_law_20 L_law_21))))
theorem tail_ok (a0 a1 a4 a5 a6 a7 a8 a9 a10 a11 : Option SV) : (Rest [a0, a1, none, none, a4, a5, a6, a7, a8, a9, a10, a11, none]).bind fin = .ok (.bool true) := by
  kernel_rfl
theorem rg_small (n : Int) (h : n ≤ 101) : ∀ d, d ∈ rgD 0 n → ∃ k : Nat, k ≤ 100 ∧ d = .int k := fun d hd => by
  unfold rgD at hd
  obtain ⟨i, hi, rfl⟩ := List.mem_map.mp hd
  rw [List.mem_range] at hi
  exact ⟨i, by omega, by simp⟩
theorem lawOk : LawOk 63 F_law := by
  intro ns hl _
  refine Wp.h (E := NoE) ?_
  have e : F_law [.list (ns.map .int)] = ((fSeq L_law_15 Rest) [some (.d (.list (ns.map .int))), none, none, none, none, none, none, none, none, none, none, none, none]).bind fin := rfl
  have hb : (-4611686018427387904 ≤ 1 + if 10 < (ns.length : Int) then 10 else (ns.length : Int)) ∧ (1 + if 10 < (ns.length : Int) then 10 else (ns.length : Int)) < 4611686018427387904 := by
    constructor <;> split <;> omega
  have e15 : L_law_15 [some (.d (.list (ns.map .int))), none, none, none, none, none, none, none, none, none, none, none, none] = forG (tg1 1) L_law_14 (rgD 0 (1 + if 10 < (ns.length : Int) then 10 else (ns.length : Int))) [some (.d (.list (ns.map .int))), none, none, none, none, none, none, none, none, none, none, none, none] := by
    simp [L_law_15, runS, runF, R.ite_bind, hb]
  rw [e, ap_fSeq, e15, Wp_bind, Wp_bind]
  refine (cells ns _ (rg_small _ (by split <;> omega)) _ _ _ _ _ _ _ _ _).imp fun f hf => ?_
  obtain ⟨b1, b4, b5, b6, b7, b8, b9, b10, b11, e⟩ := hf
  subst e
  show Wp (Rest _) _ _
  rw [← Wp_bind]
  exact Wp.eq (tail_ok _ _ _ _ _ _ _ _ _ _) rfl
end G
set_option Elab.async false
set_option linter.all false
set_option maxRecDepth 100000
set_option maxHeartbeats 0
namespace G
open PySem PySem.Spec PyProof.Rows L2 DL
def d_is_from : He.DefD := ⟨("is_from", none), "is_from", "is_from", defArgs (top 9), defBody (top 9), defScope (top 9), [], []⟩
def d_is_tuple : He.DefD := ⟨("is_tuple", none), "is_tuple", "is_tuple", defArgs (top 10), defBody (top 10), defScope (top 10), [], []⟩
def d_is_side : He.DefD := ⟨("is_side", none), "is_side", "is_side", defArgs (top 11), defBody (top 11), defScope (top 11), [], []⟩
def d_is_line : He.DefD := ⟨("is_line", none), "is_line", "is_line", defArgs (top 12), defBody (top 12), defScope (top 12), [], []⟩
def d_is_table : He.DefD := ⟨("is_table", none), "is_table", "is_table", defArgs (top 13), defBody (top 13), defScope (top 13), [], []⟩
def d_is_plain : He.DefD := ⟨("is_plain", none), "is_plain", "is_plain", defArgs (top 14), defBody (top 14), defScope (top 14), [], []⟩
def d_has_step : He.DefD := ⟨("has_step", none), "has_step", "has_step", defArgs (top 15), defBody (top 15), defScope (top 15), [], []⟩
def d_table_of : He.DefD := ⟨("table_of", none), "table_of", "table_of", defArgs (top 16), defBody (top 16), defScope (top 16), [], []⟩
def d_walk_of : He.DefD := ⟨("walk_of", none), "walk_of", "walk_of", defArgs (top 17), defBody (top 17), defScope (top 17), [], []⟩
def d_spread : He.DefD := ⟨("spread", none), "spread", "spread", defArgs (top 18), defBody (top 18), defScope (top 18), [], []⟩
def d_notes_of : He.DefD := ⟨("notes_of", none), "notes_of", "notes_of", defArgs (top 19), defBody (top 19), defScope (top 19), [], []⟩
def d_has_script : He.DefD := ⟨("has_script", none), "has_script", "has_script", defArgs (top 20), defBody (top 20), defScope (top 20), [], []⟩
def d_need_script : He.DefD := ⟨("need_script", none), "need_script", "need_script", defArgs (top 21), defBody (top 21), defScope (top 21), [], []⟩
def d_has_corridor : He.DefD := ⟨("has_corridor", none), "has_corridor", "has_corridor", defArgs (top 22), defBody (top 22), defScope (top 22), [], []⟩
def d_need_corridor : He.DefD := ⟨("need_corridor", none), "need_corridor", "need_corridor", defArgs (top 23), defBody (top 23), defScope (top 23), [], []⟩
def d_walked : He.DefD := ⟨("walked", none), "walked", "walked", defArgs (top 25), defBody (top 25), defScope (top 25), [], []⟩
def d_staged : He.DefD := ⟨("staged", none), "staged", "staged", defArgs (top 26), defBody (top 26), defScope (top 26), [], []⟩
def d_need_both : He.DefD := ⟨("need_both", none), "need_both", "need_both", defArgs (top 27), defBody (top 27), defScope (top 27), [], []⟩
def d_run : He.DefD := ⟨("run", none), "run", "run", defArgs (top 28), defBody (top 28), defScope (top 28), [], []⟩
def d_stages : He.DefD := ⟨("stages", none), "stages", "stages", defArgs (top 29), defBody (top 29), defScope (top 29), [], []⟩
def d_notes : He.DefD := ⟨("notes", none), "notes", "notes", defArgs (top 30), defBody (top 30), defScope (top 30), [], []⟩
def d__law_source : He.DefD := ⟨("_law_source", none), "_law_source", "_law_source", defArgs (top 32), defBody (top 32), defScope (top 32), [], []⟩
def d__law_draw : He.DefD := ⟨("_law_draw", none), "_law_draw", "_law_draw", defArgs (top 33), defBody (top 33), defScope (top 33), [], []⟩
def d__law_choice : He.DefD := ⟨("_law_choice", none), "_law_choice", "_law_choice", defArgs (top 34), defBody (top 34), defScope (top 34), [], []⟩
def d__law_table : He.DefD := ⟨("_law_table", none), "_law_table", "_law_table", defArgs (top 35), defBody (top 35), defScope (top 35), [], []⟩
def d__law_plain : He.DefD := ⟨("_law_plain", none), "_law_plain", "_law_plain", defArgs (top 36), defBody (top 36), defScope (top 36), [], []⟩
def d__law_width : He.DefD := ⟨("_law_width", none), "_law_width", "_law_width", defArgs (top 37), defBody (top 37), defScope (top 37), [], []⟩
def d__law_script : He.DefD := ⟨("_law_script", none), "_law_script", "_law_script", defArgs (top 38), defBody (top 38), defScope (top 38), [], []⟩
def d__law_lines : He.DefD := ⟨("_law_lines", none), "_law_lines", "_law_lines", defArgs (top 39), defBody (top 39), defScope (top 39), [], []⟩
def d__law_pair : He.DefD := ⟨("_law_pair", none), "_law_pair", "_law_pair", defArgs (top 40), defBody (top 40), defScope (top 40), [], []⟩
def d__law_walks : He.DefD := ⟨("_law_walks", none), "_law_walks", "_law_walks", defArgs (top 41), defBody (top 41), defScope (top 41), [], []⟩
def d__law_walked : He.DefD := ⟨("_law_walked", none), "_law_walked", "_law_walked", defArgs (top 42), defBody (top 42), defScope (top 42), [], []⟩
def d__law_corridor : He.DefD := ⟨("_law_corridor", none), "_law_corridor", "_law_corridor", defArgs (top 43), defBody (top 43), defScope (top 43), [], []⟩
def d__law_refused : He.DefD := ⟨("_law_refused", none), "_law_refused", "_law_refused", defArgs (top 44), defBody (top 44), defScope (top 44), [], []⟩
def d_law : He.DefD := ⟨("law", none), "law", "law", defArgs (top 45), defBody (top 45), defScope (top 45), [], []⟩
def FN : List He.DefD := [d_is_from, d_is_tuple, d_is_side, d_is_line, d_is_table, d_is_plain, d_has_step, d_table_of, d_walk_of, d_spread, d_notes_of, d_has_script, d_need_script, d_has_corridor, d_need_corridor, d_walked, d_staged, d_need_both, d_run, d_stages, d_notes, d__law_source, d__law_draw, d__law_choice, d__law_table, d__law_plain, d__law_width, d__law_script, d__law_lines, d__law_pair, d__law_walks, d__law_walked, d__law_corridor, d__law_refused, d_law]
def FA : List He.Fa := [.glo "is_from", .glo "is_tuple", .glo "is_side", .glo "is_line", .glo "is_table", .glo "is_plain", .glo "has_step", .glo "table_of", .glo "walk_of", .glo "spread", .glo "notes_of", .glo "has_script", .glo "need_script", .glo "has_corridor", .glo "need_corridor", .glo "walked", .glo "staged", .glo "need_both", .glo "run", .glo "stages", .glo "notes", .glo "_law_source", .glo "_law_draw", .glo "_law_choice", .glo "_law_table", .glo "_law_plain", .glo "_law_width", .glo "_law_script", .glo "_law_lines", .glo "_law_pair", .glo "_law_walks", .glo "_law_walked", .glo "_law_corridor", .glo "_law_refused", .glo "law", .glo "InvalidCorridor", .glo "InvalidScript", .glo "SIDES", .int "MOST_NOTES" 16, .int "MOST_STEPS" 6, .int "MOST_WALKS" 8, .free "abs", .free "all", .free "bool", .free "int", .free "isinstance", .free "len", .free "list", .free "min", .free "range", .free "str", .free "tuple"]
def TA : List Tup := [("SIDES", V_SIDES)]
def EXN : List Str := ["InvalidScript", "InvalidCorridor"]
def ec0 (K : PySem.W.Frag) : EC := ecOf EXN (fun _ => "") K
def CK : List Chk := [exmB EXN, exB "InvalidCorridor", exB "InvalidScript"]
section
variable {P : Program} {w : World} {K : PySem.W.Frag} {mg : Str → Option Value} {base h : Heap}
theorem c_is_from (X : K.In h) (Gm : h.Ns mainGlobals mg) (c : SaysX TA CK FA FN K) : FnD P w K mg base (ec0 K) 1 3 "is_from" F_is_from := by
  obtain ⟨fd, Fd⟩ := c.says.def_ 0 (d := d_is_from) rfl
  have Fd : FunD K "is_from" "is_from" (defArgs (top 9)) (defBody (top 9)) (defScope (top 9)) [] [] (He.ga K "is_from") fd := Fd
  have hb : Binds K fd ["value", "low", "high"] [] := FunD.bindsN Fd fun _ _ _ _ _ _ us hl => match us, hl with | [_, _, _], _ => rfl
  have hg := He.glo_ok X Gm (c.says.fact 0 rfl)
  exact fnD_of (st := top 9) Fd sc_is_from hb hg rfl (b_is_from (He.free_ok X Gm (c.says.fact 43 rfl)) (He.free_ok X Gm (c.says.fact 44 rfl)) (He.free_ok X Gm (c.says.fact 45 rfl))) (fun ds _ => R.le_refl _)
theorem c_is_tuple (X : K.In h) (Gm : h.Ns mainGlobals mg) (c : SaysX TA CK FA FN K) : FnD P w K mg base (ec0 K) 1 3 "is_tuple" F_is_tuple := by
  obtain ⟨fd, Fd⟩ := c.says.def_ 1 (d := d_is_tuple) rfl
  have Fd : FunD K "is_tuple" "is_tuple" (defArgs (top 10)) (defBody (top 10)) (defScope (top 10)) [] [] (He.ga K "is_tuple") fd := Fd
  have hb : Binds K fd ["value", "low", "high"] [] := FunD.bindsN Fd fun _ _ _ _ _ _ us hl => match us, hl with | [_, _, _], _ => rfl
  have hg := He.glo_ok X Gm (c.says.fact 1 rfl)
  exact fnD_of (st := top 10) Fd sc_is_tuple hb hg rfl (b_is_tuple (He.free_ok X Gm (c.says.fact 45 rfl)) (He.free_ok X Gm (c.says.fact 46 rfl)) (He.free_ok X Gm (c.says.fact 51 rfl))) (fun ds _ => R.le_refl _)
theorem c_is_side (X : K.In h) (Gm : h.Ns mainGlobals mg) (c : SaysX TA CK FA FN K) : FnD P w K mg base (ec0 K) 1 1 "is_side" F_is_side := by
  obtain ⟨fd, Fd⟩ := c.says.def_ 2 (d := d_is_side) rfl
  have Fd : FunD K "is_side" "is_side" (defArgs (top 11)) (defBody (top 11)) (defScope (top 11)) [] [] (He.ga K "is_side") fd := Fd
  have hb : Binds K fd ["value"] [] := FunD.bindsN Fd fun _ _ _ _ _ _ us hl => match us, hl with | [_], _ => rfl
  have hg := He.glo_ok X Gm (c.says.fact 2 rfl)
  exact fnD_of (st := top 11) Fd sc_is_side hb hg rfl (b_is_side (He.free_ok X Gm (c.says.fact 45 rfl)) (He.free_ok X Gm (c.says.fact 50 rfl)) (He.glo_ok X Gm (c.says.fact 37 rfl)) (c.tup ("SIDES", V_SIDES) (by simp [TA]))) (fun ds _ => R.le_refl _)
theorem c_is_line (X : K.In h) (Gm : h.Ns mainGlobals mg) (c : SaysX TA CK FA FN K) : FnD P w K mg base (ec0 K) 2 3 "is_line" F_is_line := by
  obtain ⟨fd, Fd⟩ := c.says.def_ 3 (d := d_is_line) rfl
  have Fd : FunD K "is_line" "is_line" (defArgs (top 12)) (defBody (top 12)) (defScope (top 12)) [] [] (He.ga K "is_line") fd := Fd
  have hb : Binds K fd ["many", "notes", "value"] [] := FunD.bindsN Fd fun _ _ _ _ _ _ us hl => match us, hl with | [_, _, _], _ => rfl
  have hg := He.glo_ok X Gm (c.says.fact 3 rfl)
  exact fnD_of (st := top 12) Fd sc_is_line hb hg rfl (b_is_line (c_is_tuple X Gm c) (c_is_from X Gm c) (He.free_ok X Gm (c.says.fact 42 rfl))) (fun ds _ => R.le_refl _)
theorem c_is_table (X : K.In h) (Gm : h.Ns mainGlobals mg) (c : SaysX TA CK FA FN K) : FnD P w K mg base (ec0 K) 3 2 "is_table" F_is_table := by
  obtain ⟨fd, Fd⟩ := c.says.def_ 4 (d := d_is_table) rfl
  have Fd : FunD K "is_table" "is_table" (defArgs (top 13)) (defBody (top 13)) (defScope (top 13)) [] [] (He.ga K "is_table") fd := Fd
  have hb : Binds K fd ["many", "value"] [] := FunD.bindsN Fd fun _ _ _ _ _ _ us hl => match us, hl with | [_, _], _ => rfl
  have hg := He.glo_ok X Gm (c.says.fact 4 rfl)
  exact fnD_of (st := top 13) Fd sc_is_table hb hg rfl (b_is_table (c_is_tuple X Gm c) (c_is_line X Gm c) (He.free_ok X Gm (c.says.fact 42 rfl)) (He.free_ok X Gm (c.says.fact 46 rfl))) (fun ds _ => R.le_refl _)
theorem c_is_plain (X : K.In h) (Gm : h.Ns mainGlobals mg) (c : SaysX TA CK FA FN K) : FnD P w K mg base (ec0 K) 4 2 "is_plain" F_is_plain := by
  obtain ⟨fd, Fd⟩ := c.says.def_ 5 (d := d_is_plain) rfl
  have Fd : FunD K "is_plain" "is_plain" (defArgs (top 14)) (defBody (top 14)) (defScope (top 14)) [] [] (He.ga K "is_plain") fd := Fd
  have hb : Binds K fd ["many", "value"] [] := FunD.bindsN Fd fun _ _ _ _ _ _ us hl => match us, hl with | [_, _], _ => rfl
  have hg := He.glo_ok X Gm (c.says.fact 5 rfl)
  exact fnD_of (st := top 14) Fd sc_is_plain hb hg rfl (b_is_plain (c_is_tuple X Gm c) (c_is_from X Gm c) (c_is_side X Gm c) (c_is_table X Gm c) (He.free_ok X Gm (c.says.fact 42 rfl)) (He.free_ok X Gm (c.says.fact 45 rfl)) (He.free_ok X Gm (c.says.fact 46 rfl)) (He.free_ok X Gm (c.says.fact 50 rfl))) (fun ds _ => R.le_refl _)
theorem c_has_step (X : K.In h) (Gm : h.Ns mainGlobals mg) (c : SaysX TA CK FA FN K) : FnD P w K mg base (ec0 K) 5 2 "has_step" F_has_step := by
  obtain ⟨fd, Fd⟩ := c.says.def_ 6 (d := d_has_step) rfl
  have Fd : FunD K "has_step" "has_step" (defArgs (top 15)) (defBody (top 15)) (defScope (top 15)) [] [] (He.ga K "has_step") fd := Fd
  have hb : Binds K fd ["many", "value"] [] := FunD.bindsN Fd fun _ _ _ _ _ _ us hl => match us, hl with | [_, _], _ => rfl
  have hg := He.glo_ok X Gm (c.says.fact 6 rfl)
  exact fnD_of (st := top 15) Fd sc_has_step hb hg rfl (b_has_step (c_is_tuple X Gm c) (c_is_from X Gm c) (c_is_plain X Gm c) (He.free_ok X Gm (c.says.fact 42 rfl)) (He.free_ok X Gm (c.says.fact 45 rfl)) (He.free_ok X Gm (c.says.fact 50 rfl))) (fun ds _ => R.le_refl _)
theorem c_table_of (X : K.In h) (Gm : h.Ns mainGlobals mg) (c : SaysX TA CK FA FN K) : FnD P w K mg base (ec0 K) 1 2 "table_of" F_table_of := by
  obtain ⟨fd, Fd⟩ := c.says.def_ 7 (d := d_table_of) rfl
  have Fd : FunD K "table_of" "table_of" (defArgs (top 16)) (defBody (top 16)) (defScope (top 16)) [] [] (He.ga K "table_of") fd := Fd
  have hb : Binds K fd ["many", "step"] [] := FunD.bindsN Fd fun _ _ _ _ _ _ us hl => match us, hl with | [_, _], _ => rfl
  have hg := He.glo_ok X Gm (c.says.fact 7 rfl)
  exact fnD_of (st := top 16) Fd sc_table_of hb hg rfl (b_table_of (He.free_ok X Gm (c.says.fact 44 rfl)) (He.free_ok X Gm (c.says.fact 47 rfl)) (He.free_ok X Gm (c.says.fact 49 rfl)) (He.free_ok X Gm (c.says.fact 51 rfl))) (fun ds _ => R.le_refl _)
theorem c_walk_of (X : K.In h) (Gm : h.Ns mainGlobals mg) (c : SaysX TA CK FA FN K) : FnD P w K mg base (ec0 K) 2 2 "walk_of" F_walk_of := by
  obtain ⟨fd, Fd⟩ := c.says.def_ 8 (d := d_walk_of) rfl
  have Fd : FunD K "walk_of" "walk_of" (defArgs (top 17)) (defBody (top 17)) (defScope (top 17)) [] [] (He.ga K "walk_of") fd := Fd
  have hb : Binds K fd ["many", "step"] [] := FunD.bindsN Fd fun _ _ _ _ _ _ us hl => match us, hl with | [_, _], _ => rfl
  have hg := He.glo_ok X Gm (c.says.fact 8 rfl)
  exact fnD_of (st := top 17) Fd sc_walk_of hb hg rfl (b_walk_of (c_table_of X Gm c)) (fun ds _ => R.le_refl _)
theorem r_spread (X : K.In h) (Gm : h.Ns mainGlobals mg) (c : SaysX TA CK FA FN K) : ∀ k, FnD P w K mg base (ec0 K) (2 + 1 + k) 2 "spread" (F_spread k) := by
  obtain ⟨fd, Fd⟩ := c.says.def_ 9 (d := d_spread) rfl
  have Fd : FunD K "spread" "spread" (defArgs (top 18)) (defBody (top 18)) (defScope (top 18)) [] [] (He.ga K "spread") fd := Fd
  have hb : Binds K fd ["many", "steps"] [] := FunD.bindsN Fd fun _ _ _ _ _ _ us hl => match us, hl with | [_, _], _ => rfl
  have hg := He.glo_ok X Gm (c.says.fact 9 rfl)
  intro k
  induction k with
  | zero => exact fn0_of (k := 2) (st := top 18) Fd sc_spread hb hg rfl
  | succ k ih => exact fnD_of (k := 2 + 1 + k) (st := top 18) Fd sc_spread hb hg rfl (b_spread (by omega) ih (c_walk_of X Gm c) c.nl) (fun ds _ => R.le_refl _)
theorem c_spread (X : K.In h) (Gm : h.Ns mainGlobals mg) (c : SaysX TA CK FA FN K) : FnD P w K mg base (ec0 K) 6 2 "spread" (F_spread 3) := r_spread X Gm c 3
theorem c_notes_of (X : K.In h) (Gm : h.Ns mainGlobals mg) (c : SaysX TA CK FA FN K) : FnD P w K mg base (ec0 K) 1 1 "notes_of" F_notes_of := by
  obtain ⟨fd, Fd⟩ := c.says.def_ 10 (d := d_notes_of) rfl
  have Fd : FunD K "notes_of" "notes_of" (defArgs (top 19)) (defBody (top 19)) (defScope (top 19)) [] [] (He.ga K "notes_of") fd := Fd
  have hb : Binds K fd ["found"] [] := FunD.bindsN Fd fun _ _ _ _ _ _ us hl => match us, hl with | [_], _ => rfl
  have hg := He.glo_ok X Gm (c.says.fact 10 rfl)
  exact fnD_of (st := top 19) Fd sc_notes_of hb hg rfl (b_notes_of (He.free_ok X Gm (c.says.fact 46 rfl))) (fun ds _ => R.le_refl _)
theorem c_has_script (X : K.In h) (Gm : h.Ns mainGlobals mg) (c : SaysX TA CK FA FN K) : FnD P w K mg base (ec0 K) 7 1 "has_script" F_has_script := by
  obtain ⟨fd, Fd⟩ := c.says.def_ 11 (d := d_has_script) rfl
  have Fd : FunD K "has_script" "has_script" (defArgs (top 20)) (defBody (top 20)) (defScope (top 20)) [] [] (He.ga K "has_script") fd := Fd
  have hb : Binds K fd ["value"] [] := FunD.bindsN Fd fun _ _ _ _ _ _ us hl => match us, hl with | [_], _ => rfl
  have hg := He.glo_ok X Gm (c.says.fact 11 rfl)
  exact fnD_of (st := top 20) Fd sc_has_script hb hg rfl (b_has_script (c_is_tuple X Gm c) (c_is_from X Gm c) (c_has_step X Gm c) (c_spread X Gm c) (c_notes_of X Gm c) (He.free_ok X Gm (c.says.fact 42 rfl)) (He.free_ok X Gm (c.says.fact 46 rfl)) (let ⟨t, e⟩ := He.int_ok X Gm (c.says.fact 38 rfl); ⟨_, e, ⟨t, rfl⟩⟩) (let ⟨t, e⟩ := He.int_ok X Gm (c.says.fact 39 rfl); ⟨_, e, ⟨t, rfl⟩⟩) (let ⟨t, e⟩ := He.int_ok X Gm (c.says.fact 40 rfl); ⟨_, e, ⟨t, rfl⟩⟩)) (fun ds _ => R.le_refl _)
theorem c_need_script (X : K.In h) (Gm : h.Ns mainGlobals mg) (c : SaysX TA CK FA FN K) : FnD P w K mg base (ec0 K) 8 1 "need_script" F_need_script := by
  obtain ⟨fd, Fd⟩ := c.says.def_ 12 (d := d_need_script) rfl
  have Fd : FunD K "need_script" "need_script" (defArgs (top 21)) (defBody (top 21)) (defScope (top 21)) [] [] (He.ga K "need_script") fd := Fd
  have hb : Binds K fd ["value"] [] := FunD.bindsN Fd fun _ _ _ _ _ _ us hl => match us, hl with | [_], _ => rfl
  have hg := He.glo_ok X Gm (c.says.fact 12 rfl)
  exact fnD_of (st := top 21) Fd sc_need_script hb hg rfl (b_need_script (c_has_script X Gm c) (He.glo_ok X Gm (c.says.fact 36 rfl)) (c.chk _ (List.mem_of_getElem? (l := CK) (i := 2) rfl)) (by rfl)) (fun ds _ => R.le_refl _)
theorem c_has_corridor (X : K.In h) (Gm : h.Ns mainGlobals mg) (c : SaysX TA CK FA FN K) : FnD P w K mg base (ec0 K) 2 2 "has_corridor" F_has_corridor := by
  obtain ⟨fd, Fd⟩ := c.says.def_ 13 (d := d_has_corridor) rfl
  have Fd : FunD K "has_corridor" "has_corridor" (defArgs (top 22)) (defBody (top 22)) (defScope (top 22)) [] [] (He.ga K "has_corridor") fd := Fd
  have hb : Binds K fd ["many", "value"] [] := FunD.bindsN Fd fun _ _ _ _ _ _ us hl => match us, hl with | [_, _], _ => rfl
  have hg := He.glo_ok X Gm (c.says.fact 13 rfl)
  exact fnD_of (st := top 22) Fd sc_has_corridor hb hg rfl (b_has_corridor (c_is_tuple X Gm c) (c_is_from X Gm c) (He.free_ok X Gm (c.says.fact 42 rfl))) (fun ds _ => R.le_refl _)
theorem c_need_corridor (X : K.In h) (Gm : h.Ns mainGlobals mg) (c : SaysX TA CK FA FN K) : FnD P w K mg base (ec0 K) 3 2 "need_corridor" F_need_corridor := by
  obtain ⟨fd, Fd⟩ := c.says.def_ 14 (d := d_need_corridor) rfl
  have Fd : FunD K "need_corridor" "need_corridor" (defArgs (top 23)) (defBody (top 23)) (defScope (top 23)) [] [] (He.ga K "need_corridor") fd := Fd
  have hb : Binds K fd ["many", "value"] [] := FunD.bindsN Fd fun _ _ _ _ _ _ us hl => match us, hl with | [_, _], _ => rfl
  have hg := He.glo_ok X Gm (c.says.fact 14 rfl)
  exact fnD_of (st := top 23) Fd sc_need_corridor hb hg rfl (b_need_corridor (c_has_corridor X Gm c) (He.glo_ok X Gm (c.says.fact 35 rfl)) (c.chk _ (List.mem_of_getElem? (l := CK) (i := 1) rfl)) (by rfl)) (fun ds _ => R.le_refl _)
theorem c_walked (X : K.In h) (Gm : h.Ns mainGlobals mg) (c : SaysX TA CK FA FN K) : FnD P w K mg base (ec0 K) 1 2 "walked" F_walked := by
  obtain ⟨fd, Fd⟩ := c.says.def_ 15 (d := d_walked) rfl
  have Fd : FunD K "walked" "walked" (defArgs (top 25)) (defBody (top 25)) (defScope (top 25)) [] [] (He.ga K "walked") fd := Fd
  have hb : Binds K fd ["walk", "corridor"] [] := FunD.bindsN Fd fun _ _ _ _ _ _ us hl => match us, hl with | [_, _], _ => rfl
  have hg := He.glo_ok X Gm (c.says.fact 15 rfl)
  exact fnD_of (st := top 25) Fd sc_walked hb hg rfl (b_walked) (fun ds _ => R.le_refl _)
theorem c_staged (X : K.In h) (Gm : h.Ns mainGlobals mg) (c : SaysX TA CK FA FN K) : FnD P w K mg base (ec0 K) 7 2 "staged" F_staged := by
  obtain ⟨fd, Fd⟩ := c.says.def_ 16 (d := d_staged) rfl
  have Fd : FunD K "staged" "staged" (defArgs (top 26)) (defBody (top 26)) (defScope (top 26)) [] [] (He.ga K "staged") fd := Fd
  have hb : Binds K fd ["script", "corridor"] [] := FunD.bindsN Fd fun _ _ _ _ _ _ us hl => match us, hl with | [_, _], _ => rfl
  have hg := He.glo_ok X Gm (c.says.fact 16 rfl)
  exact fnD_of (st := top 26) Fd sc_staged hb hg rfl (b_staged (c_spread X Gm c) (c_walked X Gm c)) (fun ds _ => R.le_refl _)
theorem c_need_both (X : K.In h) (Gm : h.Ns mainGlobals mg) (c : SaysX TA CK FA FN K) : FnD P w K mg base (ec0 K) 9 2 "need_both" F_need_both := by
  obtain ⟨fd, Fd⟩ := c.says.def_ 17 (d := d_need_both) rfl
  have Fd : FunD K "need_both" "need_both" (defArgs (top 27)) (defBody (top 27)) (defScope (top 27)) [] [] (He.ga K "need_both") fd := Fd
  have hb : Binds K fd ["script", "corridor"] [] := FunD.bindsN Fd fun _ _ _ _ _ _ us hl => match us, hl with | [_, _], _ => rfl
  have hg := He.glo_ok X Gm (c.says.fact 17 rfl)
  exact fnD_of (st := top 27) Fd sc_need_both hb hg rfl (b_need_both (c_need_script X Gm c) (c_need_corridor X Gm c)) (fun ds _ => R.le_refl _)
theorem c_run (X : K.In h) (Gm : h.Ns mainGlobals mg) (c : SaysX TA CK FA FN K) : FnD P w K mg base (ec0 K) 10 2 "run" F_run := by
  obtain ⟨fd, Fd⟩ := c.says.def_ 18 (d := d_run) rfl
  have Fd : FunD K "run" "run" (defArgs (top 28)) (defBody (top 28)) (defScope (top 28)) [] [] (He.ga K "run") fd := Fd
  have hb : Binds K fd ["script", "corridor"] [] := FunD.bindsN Fd fun _ _ _ _ _ _ us hl => match us, hl with | [_, _], _ => rfl
  have hg := He.glo_ok X Gm (c.says.fact 18 rfl)
  exact fnD_of (st := top 28) Fd sc_run hb hg rfl (b_run (c_need_both X Gm c) (c_staged X Gm c)) (fun ds _ => R.le_refl _)
theorem c_stages (X : K.In h) (Gm : h.Ns mainGlobals mg) (c : SaysX TA CK FA FN K) : FnD P w K mg base (ec0 K) 10 2 "stages" F_stages := by
  obtain ⟨fd, Fd⟩ := c.says.def_ 19 (d := d_stages) rfl
  have Fd : FunD K "stages" "stages" (defArgs (top 29)) (defBody (top 29)) (defScope (top 29)) [] [] (He.ga K "stages") fd := Fd
  have hb : Binds K fd ["script", "corridor"] [] := FunD.bindsN Fd fun _ _ _ _ _ _ us hl => match us, hl with | [_, _], _ => rfl
  have hg := He.glo_ok X Gm (c.says.fact 19 rfl)
  exact fnD_of (st := top 29) Fd sc_stages hb hg rfl (b_stages (c_need_both X Gm c) (c_staged X Gm c)) (fun ds _ => R.le_refl _)
theorem c_notes (X : K.In h) (Gm : h.Ns mainGlobals mg) (c : SaysX TA CK FA FN K) : FnD P w K mg base (ec0 K) 10 2 "notes" F_notes := by
  obtain ⟨fd, Fd⟩ := c.says.def_ 20 (d := d_notes) rfl
  have Fd : FunD K "notes" "notes" (defArgs (top 30)) (defBody (top 30)) (defScope (top 30)) [] [] (He.ga K "notes") fd := Fd
  have hb : Binds K fd ["script", "corridor"] [] := FunD.bindsN Fd fun _ _ _ _ _ _ us hl => match us, hl with | [_, _], _ => rfl
  have hg := He.glo_ok X Gm (c.says.fact 20 rfl)
  exact fnD_of (st := top 30) Fd sc_notes hb hg rfl (b_notes (c_need_both X Gm c) (c_staged X Gm c)) (fun ds _ => R.le_refl _)
theorem c__law_source (X : K.In h) (Gm : h.Ns mainGlobals mg) (c : SaysX TA CK FA FN K) : FnF P w K mg base (ec0 K) 1 2 "_law_source" F__law_source := by
  obtain ⟨fd, Fd⟩ := c.says.def_ 21 (d := d__law_source) rfl
  have Fd : FunD K "_law_source" "_law_source" (defArgs (top 32)) (defBody (top 32)) (defScope (top 32)) [] [] (He.ga K "_law_source") fd := Fd
  have hb : Binds K fd ["script", "k"] [] := FunD.bindsN Fd fun _ _ _ _ _ _ us hl => match us, hl with | [_, _], _ => rfl
  have hg := He.glo_ok X Gm (c.says.fact 21 rfl)
  exact fnF_of (st := top 32) Fd sc__law_source hb hg rfl (b__law_source (He.free_ok X Gm (c.says.fact 41 rfl)) (He.free_ok X Gm (c.says.fact 44 rfl)) (He.free_ok X Gm (c.says.fact 46 rfl))) (fun ds _ => R.le_refl _)
theorem c__law_draw (X : K.In h) (Gm : h.Ns mainGlobals mg) (c : SaysX TA CK FA FN K) : FnN P w K mg base (ec0 K) 1 2 "_law_draw" F__law_draw := by
  obtain ⟨fd, Fd⟩ := c.says.def_ 22 (d := d__law_draw) rfl
  have Fd : FunD K "_law_draw" "_law_draw" (defArgs (top 33)) (defBody (top 33)) (defScope (top 33)) [] [] (He.ga K "_law_draw") fd := Fd
  have hb : Binds K fd ["source", "many"] [] := FunD.bindsN Fd fun _ _ _ _ _ _ us hl => match us, hl with | [_, _], _ => rfl
  have hg := He.glo_ok X Gm (c.says.fact 22 rfl)
  exact fnN_of (st := top 33) Fd sc__law_draw hb hg rfl (b__law_draw (He.free_ok X Gm (c.says.fact 44 rfl))) (fun ds _ => R.le_refl _)
theorem c__law_choice (X : K.In h) (Gm : h.Ns mainGlobals mg) (c : SaysX TA CK FA FN K) : FnN P w K mg base (ec0 K) 2 2 "_law_choice" F__law_choice := by
  obtain ⟨fd, Fd⟩ := c.says.def_ 23 (d := d__law_choice) rfl
  have Fd : FunD K "_law_choice" "_law_choice" (defArgs (top 34)) (defBody (top 34)) (defScope (top 34)) [] [] (He.ga K "_law_choice") fd := Fd
  have hb : Binds K fd ["source", "some"] [] := FunD.bindsN Fd fun _ _ _ _ _ _ us hl => match us, hl with | [_, _], _ => rfl
  have hg := He.glo_ok X Gm (c.says.fact 23 rfl)
  exact fnN_of (st := top 34) Fd sc__law_choice hb hg rfl (b__law_choice (c__law_draw X Gm c) (He.free_ok X Gm (c.says.fact 46 rfl))) (fun ds _ => R.le_refl _)
theorem c__law_table (X : K.In h) (Gm : h.Ns mainGlobals mg) (c : SaysX TA CK FA FN K) : FnN P w K mg base (ec0 K) 3 3 "_law_table" F__law_table := by
  obtain ⟨fd, Fd⟩ := c.says.def_ 24 (d := d__law_table) rfl
  have Fd : FunD K "_law_table" "_law_table" (defArgs (top 35)) (defBody (top 35)) (defScope (top 35)) [] [] (He.ga K "_law_table") fd := Fd
  have hb : Binds K fd ["source", "many", "most"] [] := FunD.bindsN Fd fun _ _ _ _ _ _ us hl => match us, hl with | [_, _, _], _ => rfl
  have hg := He.glo_ok X Gm (c.says.fact 24 rfl)
  exact fnN_of (st := top 35) Fd sc__law_table hb hg rfl (b__law_table (c__law_draw X Gm c) (c__law_choice X Gm c) (He.free_ok X Gm (c.says.fact 47 rfl)) (He.free_ok X Gm (c.says.fact 49 rfl))) (fun ds _ => R.le_refl _)
theorem c__law_plain (X : K.In h) (Gm : h.Ns mainGlobals mg) (c : SaysX TA CK FA FN K) : FnN P w K mg base (ec0 K) 4 3 "_law_plain" F__law_plain := by
  obtain ⟨fd, Fd⟩ := c.says.def_ 25 (d := d__law_plain) rfl
  have Fd : FunD K "_law_plain" "_law_plain" (defArgs (top 36)) (defBody (top 36)) (defScope (top 36)) [] [] (He.ga K "_law_plain") fd := Fd
  have hb : Binds K fd ["source", "many", "notes_so"] [] := FunD.bindsN Fd fun _ _ _ _ _ _ us hl => match us, hl with | [_, _, _], _ => rfl
  have hg := He.glo_ok X Gm (c.says.fact 25 rfl)
  exact fnN_of (st := top 36) Fd sc__law_plain hb hg rfl (b__law_plain (c__law_choice X Gm c) (c__law_draw X Gm c) (c__law_table X Gm c) (He.free_ok X Gm (c.says.fact 44 rfl)) (He.free_ok X Gm (c.says.fact 48 rfl)) (He.free_ok X Gm (c.says.fact 49 rfl)) (He.free_ok X Gm (c.says.fact 51 rfl)) c.nl) (fun ds _ => R.le_refl _)
theorem c__law_width (X : K.In h) (Gm : h.Ns mainGlobals mg) (c : SaysX TA CK FA FN K) : FnD P w K mg base (ec0 K) 1 1 "_law_width" F__law_width := by
  obtain ⟨fd, Fd⟩ := c.says.def_ 26 (d := d__law_width) rfl
  have Fd : FunD K "_law_width" "_law_width" (defArgs (top 37)) (defBody (top 37)) (defScope (top 37)) [] [] (He.ga K "_law_width") fd := Fd
  have hb : Binds K fd ["step"] [] := FunD.bindsN Fd fun _ _ _ _ _ _ us hl => match us, hl with | [_], _ => rfl
  have hg := He.glo_ok X Gm (c.says.fact 26 rfl)
  exact fnD_of (st := top 37) Fd sc__law_width hb hg rfl (b__law_width (He.free_ok X Gm (c.says.fact 46 rfl))) (fun ds _ => R.le_refl _)
theorem c__law_script (X : K.In h) (Gm : h.Ns mainGlobals mg) (c : SaysX TA CK FA FN K) : FnN P w K mg base (ec0 K) 5 3 "_law_script" F__law_script := by
  obtain ⟨fd, Fd⟩ := c.says.def_ 27 (d := d__law_script) rfl
  have Fd : FunD K "_law_script" "_law_script" (defArgs (top 38)) (defBody (top 38)) (defScope (top 38)) [] [] (He.ga K "_law_script") fd := Fd
  have hb : Binds K fd ["source", "most", "cap"] [] := FunD.bindsN Fd fun _ _ _ _ _ _ us hl => match us, hl with | [_, _, _], _ => rfl
  have hg := He.glo_ok X Gm (c.says.fact 27 rfl)
  exact fnN_of (st := top 38) Fd sc__law_script hb hg rfl (b__law_script (c__law_choice X Gm c) (c__law_draw X Gm c) (c__law_plain X Gm c) (c__law_width X Gm c) (He.free_ok X Gm (c.says.fact 49 rfl))) (fun ds _ => R.le_refl _)
theorem c__law_pair (X : K.In h) (Gm : h.Ns mainGlobals mg) (c : SaysX TA CK FA FN K) : FnD P w K mg base (ec0 K) 1 3 "_law_pair" F__law_pair := by
  obtain ⟨fd, Fd⟩ := c.says.def_ 29 (d := d__law_pair) rfl
  have Fd : FunD K "_law_pair" "_law_pair" (defArgs (top 40)) (defBody (top 40)) (defScope (top 40)) [] [] (He.ga K "_law_pair") fd := Fd
  have hb : Binds K fd ["step", "note", "stand"] [] := FunD.bindsN Fd fun _ _ _ _ _ _ us hl => match us, hl with | [_, _, _], _ => rfl
  have hg := He.glo_ok X Gm (c.says.fact 29 rfl)
  exact fnD_of (st := top 40) Fd sc__law_pair hb hg rfl (b__law_pair (He.free_ok X Gm (c.says.fact 44 rfl))) (fun ds _ => R.le_refl _)
theorem c__law_lines (X : K.In h) (Gm : h.Ns mainGlobals mg) (c : SaysX TA CK FA FN K) : FnD P w K mg base (ec0 K) 2 2 "_law_lines" F__law_lines := by
  obtain ⟨fd, Fd⟩ := c.says.def_ 28 (d := d__law_lines) rfl
  have Fd : FunD K "_law_lines" "_law_lines" (defArgs (top 39)) (defBody (top 39)) (defScope (top 39)) [] [] (He.ga K "_law_lines") fd := Fd
  have hb : Binds K fd ["many", "step"] [] := FunD.bindsN Fd fun _ _ _ _ _ _ us hl => match us, hl with | [_, _], _ => rfl
  have hg := He.glo_ok X Gm (c.says.fact 28 rfl)
  exact fnD_of (st := top 39) Fd sc__law_lines hb hg rfl (b__law_lines (c__law_pair X Gm c) (He.free_ok X Gm (c.says.fact 49 rfl)) (He.free_ok X Gm (c.says.fact 51 rfl))) (fun ds _ => R.le_refl _)
theorem c__law_walks (X : K.In h) (Gm : h.Ns mainGlobals mg) (c : SaysX TA CK FA FN K) : FnD P w K mg base (ec0 K) 3 1 "_law_walks" F__law_walks := by
  obtain ⟨fd, Fd⟩ := c.says.def_ 30 (d := d__law_walks) rfl
  have Fd : FunD K "_law_walks" "_law_walks" (defArgs (top 41)) (defBody (top 41)) (defScope (top 41)) [] [] (He.ga K "_law_walks") fd := Fd
  have hb : Binds K fd ["script"] [] := FunD.bindsN Fd fun _ _ _ _ _ _ us hl => match us, hl with | [_], _ => rfl
  have hg := He.glo_ok X Gm (c.says.fact 30 rfl)
  exact fnD_of (st := top 41) Fd sc__law_walks hb hg rfl (b__law_walks (c__law_lines X Gm c) c.nl) (fun ds _ => R.le_refl _)
theorem c__law_walked (X : K.In h) (Gm : h.Ns mainGlobals mg) (c : SaysX TA CK FA FN K) : FnD P w K mg base (ec0 K) 1 2 "_law_walked" F__law_walked := by
  obtain ⟨fd, Fd⟩ := c.says.def_ 31 (d := d__law_walked) rfl
  have Fd : FunD K "_law_walked" "_law_walked" (defArgs (top 42)) (defBody (top 42)) (defScope (top 42)) [] [] (He.ga K "_law_walked") fd := Fd
  have hb : Binds K fd ["walk", "corridor"] [] := FunD.bindsN Fd fun _ _ _ _ _ _ us hl => match us, hl with | [_, _], _ => rfl
  have hg := He.glo_ok X Gm (c.says.fact 31 rfl)
  exact fnD_of (st := top 42) Fd sc__law_walked hb hg rfl (b__law_walked (He.free_ok X Gm (c.says.fact 51 rfl))) (fun ds _ => R.le_refl _)
theorem c__law_corridor (X : K.In h) (Gm : h.Ns mainGlobals mg) (c : SaysX TA CK FA FN K) : FnN P w K mg base (ec0 K) 3 3 "_law_corridor" F__law_corridor := by
  obtain ⟨fd, Fd⟩ := c.says.def_ 32 (d := d__law_corridor) rfl
  have Fd : FunD K "_law_corridor" "_law_corridor" (defArgs (top 43)) (defBody (top 43)) (defScope (top 43)) [] [] (He.ga K "_law_corridor") fd := Fd
  have hb : Binds K fd ["source", "many", "most"] [] := FunD.bindsN Fd fun _ _ _ _ _ _ us hl => match us, hl with | [_, _, _], _ => rfl
  have hg := He.glo_ok X Gm (c.says.fact 32 rfl)
  exact fnN_of (st := top 43) Fd sc__law_corridor hb hg rfl (b__law_corridor (c__law_choice X Gm c) (c__law_draw X Gm c) (He.free_ok X Gm (c.says.fact 47 rfl)) (He.free_ok X Gm (c.says.fact 49 rfl)) (He.free_ok X Gm (c.says.fact 51 rfl)) c.nl) (fun ds _ => R.le_refl _)
theorem c__law_refused (X : K.In h) (Gm : h.Ns mainGlobals mg) (c : SaysX TA CK FA FN K) : FnD P w K mg base (ec0 K) 11 2 "_law_refused" F__law_refused := by
  obtain ⟨fd, Fd⟩ := c.says.def_ 33 (d := d__law_refused) rfl
  have Fd : FunD K "_law_refused" "_law_refused" (defArgs (top 44)) (defBody (top 44)) (defScope (top 44)) [] [] (He.ga K "_law_refused") fd := Fd
  have hb : Binds K fd ["script_so", "value"] [] := FunD.bindsN Fd fun _ _ _ _ _ _ us hl => match us, hl with | [_, _], _ => rfl
  have hg := He.glo_ok X Gm (c.says.fact 33 rfl)
  exact fnD_of (st := top 44) Fd sc__law_refused hb hg rfl (b__law_refused (c_run X Gm c) (c_stages X Gm c) (c_notes X Gm c) (He.glo_ok X Gm (c.says.fact 20 rfl)) (He.glo_ok X Gm (c.says.fact 18 rfl)) (He.glo_ok X Gm (c.says.fact 19 rfl)) (He.glo_ok X Gm (c.says.fact 35 rfl)) (exm_ok (c.chk _ (List.mem_of_getElem? (l := CK) (i := 0) rfl)) (by rfl)) c.nl) (fun ds _ => R.le_refl _)
theorem c_law (X : K.In h) (Gm : h.Ns mainGlobals mg) (c : SaysX TA CK FA FN K) : FnD P w K mg base (ec0 K) 12 1 "law" F_law := by
  obtain ⟨fd, Fd⟩ := c.says.def_ 34 (d := d_law) rfl
  have Fd : FunD K "law" "law" (defArgs (top 45)) (defBody (top 45)) (defScope (top 45)) [] [] (He.ga K "law") fd := Fd
  have hb : Binds K fd ["script"] [] := FunD.bindsN Fd fun _ _ _ _ _ _ us hl => match us, hl with | [_], _ => rfl
  have hg := He.glo_ok X Gm (c.says.fact 34 rfl)
  exact fnD_of (st := top 45) Fd sc_law hb hg rfl (b_law (c__law_source X Gm c) (c__law_script X Gm c) (c__law_corridor X Gm c) (c__law_choice X Gm c) (c__law_walks X Gm c) (c__law_walked X Gm c) (c_run X Gm c) (c_stages X Gm c) (c_notes X Gm c) (c__law_refused X Gm c) (He.free_ok X Gm (c.says.fact 46 rfl)) (He.free_ok X Gm (c.says.fact 48 rfl)) (He.free_ok X Gm (c.says.fact 49 rfl))) (fun ds _ => R.le_refl _)
end
abbrev Rw : PySem.W.OpenRow := PySem.W.OpenLaw.row PySem.Challenge.rw_longcorridor_k02_whole_walks_along_corri
abbrev hk : PySem.W.Hook := hookX 5 TA CK FA FN
def ob (s : PySem.W.SharedT) : He.AlD := obsXG 5 TA CK FA FN (HandSHeadRun.getT s)
theorem ob_eq (s : PySem.W.SharedT) : ob s = hk.obs s.abs := obsXG_eq (HandSHeadRun.getT_eq s)
def NM : List PySem.Str := (["CorridorError", "InvalidScript", "InvalidCorridor", "SIDES", "MOST_STEPS", "MOST_WALKS", "MOST_NOTES", "is_from", "is_tuple", "is_side", "is_line", "is_table", "is_plain", "has_step", "table_of", "walk_of", "spread", "notes_of", "has_script", "need_script", "has_corridor", "need_corridor", "walked", "staged", "need_both", "run", "stages", "notes", "_law_source", "_law_draw"] : List PySem.Str) ++ (["_law_choice", "_law_table", "_law_plain", "_law_width", "_law_script", "_law_lines", "_law_pair", "_law_walks", "_law_walked", "_law_corridor", "_law_refused"] : List PySem.Str)
theorem run (w : World) : HandSHeadRun.RunEq Rw (PySem.W.view Rw.prog [45]) hk ob 6000 NM w := by
  intro os
  kernel_rfl
end G
open PySem PySem.W PySem.Calls PyProof.Rows
theorem asm (hL : DL.LawOk 63 G.F_law) : PySem.Challenge.rw_longcorridor_k02_whole_walks_along_corri.Holds := by
  w_on; o_law
  refine HandSHeadRun.head_any (r := G.Rw) (q := view G.Rw.prog [45]) (H := G.hk) (ob := G.ob) (M := 6000) (loose := G.NM) (d := HandSHeadRun.topDef G.Rw.prog 45) (kwd := []) G.ob_eq
    (by kernel_rfl) (fun s => by kernel_rfl) G.run (by kernel_rfl) (by kernel_rfl) (by kernel_rfl) (by rfl) (by first | assumption | decide +kernel) (by decide +kernel) ⟨rfl, rfl, rfl, rfl, rfl, by decide +kernel⟩ ?hw ?hc
  case hw => w_witness2
  case hc =>
    refine DL.walk_dl (l := PySem.Challenge.rw_longcorridor_k02_whole_walks_along_corri) (n := 63) (k := 12) (x := "script") (ec := G.ec0) (FL := G.F_law) rfl (by decide) (by kernel_rfl) ⟨rfl, by decide, by decide⟩ hL ?F
    intro w mg a h K X c Gm hm
    have hmg : mg ("law" : PySem.Str) = some (.ref a) := by
      have e : (HandSHeadRun.topDef G.Rw.prog 45).name = ("law" : PySem.Str) := by kernel_rfl
      rw [← e]
      exact hm
    obtain ⟨fd, Fd⟩ := c.says.def_ 34 (d := G.d_law) rfl
    have Fd : L2.FunD K "law" "law" (L2.defArgs (G.top 45)) (L2.defBody (G.top 45)) (L2.defScope (G.top 45)) [] [] (He.ga K "law") fd := Fd
    have hg := hmg.symm.trans (He.glo_ok X Gm (c.says.fact 34 rfl))
    cases hg
    have b := L2.FunD.bindsA (ps := ["script"]) Fd fun _ _ _ _ _ _ us hl => match us, hl with | [_], _ => rfl
    refine ⟨fd, fun s v => b s [v] rfl, fun base X2 G2 => ?_⟩
    exact DL.okD_of Fd G.sc_law rfl (G.b_law (G.c__law_source (P := (PySem.Challenge.rw_longcorridor_k02_whole_walks_along_corri).prog) (w := w) (base := base) X Gm c) (G.c__law_script (P := (PySem.Challenge.rw_longcorridor_k02_whole_walks_along_corri).prog) (w := w) (base := base) X Gm c) (G.c__law_corridor (P := (PySem.Challenge.rw_longcorridor_k02_whole_walks_along_corri).prog) (w := w) (base := base) X Gm c) (G.c__law_choice (P := (PySem.Challenge.rw_longcorridor_k02_whole_walks_along_corri).prog) (w := w) (base := base) X Gm c) (G.c__law_walks (P := (PySem.Challenge.rw_longcorridor_k02_whole_walks_along_corri).prog) (w := w) (base := base) X Gm c) (G.c__law_walked (P := (PySem.Challenge.rw_longcorridor_k02_whole_walks_along_corri).prog) (w := w) (base := base) X Gm c) (G.c_run (P := (PySem.Challenge.rw_longcorridor_k02_whole_walks_along_corri).prog) (w := w) (base := base) X Gm c) (G.c_stages (P := (PySem.Challenge.rw_longcorridor_k02_whole_walks_along_corri).prog) (w := w) (base := base) X Gm c) (G.c_notes (P := (PySem.Challenge.rw_longcorridor_k02_whole_walks_along_corri).prog) (w := w) (base := base) X Gm c) (G.c__law_refused (P := (PySem.Challenge.rw_longcorridor_k02_whole_walks_along_corri).prog) (w := w) (base := base) X Gm c) (He.free_ok X Gm (c.says.fact 46 rfl)) (He.free_ok X Gm (c.says.fact 48 rfl)) (He.free_ok X Gm (c.says.fact 49 rfl))) (fun ds _ => DL.R.le_refl _)
theorem PySem.Challenge.cw_longcorridor_k02_whole_walks_along_corri_holds : PySem.Challenge.rw_longcorridor_k02_whole_walks_along_corri.Holds := by
  exact _root_.asm G.lawOk
