import PyProof.Rows.All
import Wide.All
import OpenK.AllK
import Wide.FinOn
import HandS.ForMost
import HandS.IsInst
import HandS.Style
import HandS.TupSets
import HandS.TupAny
import HandS.Defaults
import HandS.Zip
import KE.GoesNew
import HandS.Ends
import HandS.HeadEnd
import HandS.Head0
import HandS.Head1
import HandS.Head2
import HandS.HeadHook1
import HandS.HeadHook2
import KE.KStateDown
import PySem.Challenge.RW_manydeep_k16_whole_far_rows_their_ends_a

section
set_option Elab.async false
set_option linter.all false
set_option maxRecDepth 100000
set_option maxHeartbeats 2000000
/-! The data layer: what an expression, a block, a def yields, told as PyData, in a heap some addresses of which are hidden. -/
namespace DL
open PySem PySem.Spec PyProof.Rows L2

/-! ### heaps -/
abbrev Hd := Addr → Bool
def hid (H : Hp) (M : Hd) : Hp := fun a => if M a = true then none else H a
theorem hid_off {H : Hp} {M : Hd} {a : Addr} (h : M a = false) : hid H M a = H a := by
  unfold hid; rw [if_neg (by rw [h]; decide)]
theorem hid_some {H : Hp} {M : Hd} {a : Addr} {o : HO} (h : hid H M a = some o) : M a = false ∧ H a = some o := by
  unfold hid at h
  by_cases c : M a = true
  · rw [if_pos c] at h; cases h
  · rw [if_neg c] at h; exact ⟨by simpa using c, h⟩
theorem hid_same {H : Hp} {M : Hd} : Same (hid H M) H := fun _ _ h => (hid_some h).2
theorem hid_anti {H : Hp} {M M' : Hd} (k : ∀ a, M a = true → M' a = true) : Same (hid H M') (hid H M) := fun a o h => by
  obtain ⟨h1, h2⟩ := hid_some h
  have : M a = false := by
    cases c : M a with
    | false => rfl
    | true => rw [k a c] at h1; cases h1
  rw [hid_off this]; exact h2
theorem hid_keep {H H' : Hp} {M : Hd} (k : ∀ a o, M a = false → H a = some o → H' a = some o) : Same (hid H M) (hid H' M) := fun a o h => by
  obtain ⟨h1, h2⟩ := hid_some h
  rw [hid_off h1]; exact k a o h1 h2
theorem same_new {H : Hp} {p : Addr} {o : HO} (h : H p = none) : Same H (upd H p o) := fun b x e => by
  rw [upd_ne (ne_of_none e h)]; exact e

/-! ### data stays -/
theorem sqt_same {K : PySem.W.Frag} {H H' : Hp} {a : Addr} {xs : List V} (e : Same H H') (h : SqT K H a xs) : SqT K H' a xs := by
  rcases h with (h | ⟨o, h⟩) | h
  · exact .inl (.inl (e _ _ h))
  · exact .inl (.inr ⟨o, e _ _ h⟩)
  · exact .inr h
mutual
theorem dp_same {K : PySem.W.Frag} {H H' : Hp} (e : Same H H') : ∀ {d : PyData} {v : V}, Dp K H v d → Dp K H' v d
  | _, _, .non => .non
  | _, _, .bl b => .bl b
  | _, _, .int i => .int i
  | _, _, .str x => .str x
  | _, _, .lst h t => .lst (e.seq h) (dpa_same e t)
  | _, _, .tup h t => .tup (sqt_same e h) (dpa_same e t)
theorem dpa_same {K : PySem.W.Frag} {H H' : Hp} (e : Same H H') : ∀ {ds : List PyData} {vs : List V}, DpAll K H vs ds → DpAll K H' vs ds
  | _, _, .nil => .nil
  | _, _, .cons h t => .cons (dp_same e h) (dpa_same e t)
end
section
variable {K : PySem.W.Frag} {H : Hp} {v : V} {d : PyData} {vs ws : List V} {ds es : List PyData}
theorem dp_int {i : Int} (h : Dp K H v (.int i)) : v = .int i := by cases h; rfl
theorem dp_bool {b : Bool} (h : Dp K H v (.bool b)) : v = .bl b := by cases h; rfl
theorem dp_none (h : Dp K H v .none) : v = .non := by cases h; rfl
theorem dp_str {x : Str} (h : Dp K H v (.str x)) : v = .str x := by cases h; rfl
theorem dp_tup (h : Dp K H v (.tuple ds)) : ∃ p xs, v = .ref p ∧ SqT K H p xs ∧ DpAll K H xs ds := by
  cases h with | tup h t => exact ⟨_, _, rfl, h, t⟩
theorem dp_lst (h : Dp K H v (.list ds)) : ∃ p xs, v = .ref p ∧ SqL K H p xs ∧ DpAll K H xs ds := by
  cases h with | lst h t => exact ⟨_, _, rfl, h, t⟩
theorem dpa_len : ∀ {vs : List V} {ds : List PyData}, DpAll K H vs ds → vs.length = ds.length
  | _, _, .nil => rfl
  | _, _, .cons _ t => by rw [List.length_cons, List.length_cons, dpa_len t]
theorem dpa_get : ∀ {vs : List V} {ds : List PyData} {i : Nat} {d : PyData}, DpAll K H vs ds → ds[i]? = some d → ∃ v, vs[i]? = some v ∧ Dp K H v d
  | _, _, _, _, .nil, e => by simp at e
  | _, _, 0, _, .cons h _, e => by simp at e; subst e; exact ⟨_, rfl, h⟩
  | _, _, i + 1, d, .cons _ t, e => by
    obtain ⟨v, h1, h2⟩ := dpa_get (i := i) (d := d) t (by simpa using e)
    exact ⟨v, by simpa using h1, h2⟩
theorem dpa_getV : ∀ {vs : List V} {ds : List PyData} {i : Nat} {v : V}, DpAll K H vs ds → vs[i]? = some v → ∃ d, ds[i]? = some d ∧ Dp K H v d
  | _, _, _, _, .nil, e => by simp at e
  | _, _, 0, _, .cons h _, e => by simp at e; subst e; exact ⟨_, rfl, h⟩
  | _, _, i + 1, v, .cons _ t, e => by
    obtain ⟨d, h1, h2⟩ := dpa_getV (i := i) (v := v) t (by simpa using e)
    exact ⟨d, by simpa using h1, h2⟩
theorem dpa_append : ∀ {vs ws : List V} {ds es : List PyData}, DpAll K H vs ds → DpAll K H ws es → DpAll K H (vs ++ ws) (ds ++ es)
  | _, _, _, _, .nil, s => s
  | _, _, _, _, .cons h t, s => .cons h (dpa_append t s)
theorem dpa_take : ∀ {vs : List V} {ds : List PyData} (n : Nat), DpAll K H vs ds → DpAll K H (vs.take n) (ds.take n)
  | _, _, 0, _ => .nil
  | _, _, _ + 1, .nil => .nil
  | _, _, n + 1, .cons h t => .cons h (dpa_take n t)
theorem dpa_drop : ∀ {vs : List V} {ds : List PyData} (n : Nat), DpAll K H vs ds → DpAll K H (vs.drop n) (ds.drop n)
  | _, _, 0, s => s
  | _, _, _ + 1, .nil => .nil
  | _, _, n + 1, .cons _ t => dpa_drop n t
theorem dpa_set : ∀ {vs : List V} {ds : List PyData} {v : V} {d : PyData} (j : Nat), DpAll K H vs ds → Dp K H v d → DpAll K H (vs.set j v) (ds.set j d)
  | _, _, _, _, _, .nil, _ => .nil
  | _, _, _, _, 0, .cons _ t, h => .cons h t
  | _, _, _, _, j + 1, .cons h t, r => .cons h (dpa_set j t r)
theorem dpa_ints : ∀ {vs : List V} {ns : List Int}, DpAll K H vs (ns.map PyData.int) → vs = ns.map V.int
  | _, [], .nil => rfl
  | _, n :: ns, .cons h t => by rw [dp_int h, dpa_ints t]; rfl
theorem dpa_of_ints : ∀ (ns : List Int), DpAll K H (ns.map V.int) (ns.map PyData.int)
  | [] => .nil
  | n :: ns => .cons (.int n) (dpa_of_ints ns)
theorem dpa_rep : ∀ (n : Nat) {v : V} {d : PyData}, Dp K H v d → DpAll K H (List.replicate n v) (List.replicate n d)
  | 0, _, _, _ => .nil
  | n + 1, _, _, h => .cons h (dpa_rep n h)
end

/-! ### modes: what may change besides new things -/
structure Md where
  m0 : Hd
  inv : Hp → Prop
  ref : V
  stab' : ∀ H H', inv H → (∀ a o, m0 a = true → H a = some o → H' a = some o) → inv H'
  dom : ∀ H a, inv H → m0 a = true → H a ≠ none
theorem Md.stab (md : Md) (H H' : Hp) (i : md.inv H) (s : Same H H') : md.inv H' := md.stab' H H' i fun a o _ h => s a o h
def pureMd : Md := ⟨fun _ => false, fun _ => True, .non, fun _ _ _ _ => trivial, fun _ _ _ h => nomatch h⟩
def pureM : Md → Prop := fun md => md = pureMd
def Rel (md : Md) (H H' : Hp) : Prop := ∀ a o, md.m0 a = false → H a = some o → H' a = some o
theorem Rel.refl {md : Md} {H : Hp} : Rel md H H := fun _ _ _ h => h
theorem Rel.trans {md : Md} {H H1 H2 : Hp} (a : Rel md H H1) (b : Rel md H1 H2) : Rel md H H2 := fun x o h k => b x o h (a x o h k)
theorem Rel.of {md : Md} {H H' : Hp} (h : Same H H') : Rel md H H' := fun a o _ k => h a o k
theorem Rel.hid {md : Md} {H H' : Hp} {M : Hd} (r : Rel md H H') (k : ∀ a, md.m0 a = true → M a = true) : Same (hid H M) (hid H' M) := hid_keep fun a o h1 h2 => by
  refine r a o ?_ h2
  cases c : md.m0 a with
  | false => rfl
  | true => rw [k a c] at h1; cases h1
theorem Rel.pure {H H' : Hp} (r : Rel pureMd H H') : Same H H' := fun a o h => r a o rfl h

/-! ### what the names hold -/
inductive Ent where
  | no | dat (d : PyData) | lm (ds : List PyData) | dk | tm (a b : List PyData)
def Ent.own : Ent → Bool
  | .lm _ => true
  | .tm _ _ => true
  | _ => false
def Ent.isTm : Ent → Bool
  | .tm _ _ => true
  | _ => false
def noTm (ε : List Ent) : Bool := ε.all fun e => !e.isTm
def noOwn (ε : List Ent) : Bool := ε.all fun e => !e.own
theorem noTm_get {ε : List Ent} (h : noTm ε = true) {j : Nat} {a b : List PyData} (e : ε[j]? = some (.tm a b)) : False := by
  have := List.all_eq_true.mp h _ (List.mem_of_getElem? e)
  cases this
theorem noOwn_get {ε : List Ent} (h : noOwn ε = true) {j : Nat} {x : Ent} (e : ε[j]? = some x) (q : x.own = true) : False := by
  have := List.all_eq_true.mp h _ (List.mem_of_getElem? e)
  rw [q] at this
  cases this
structure Ok (K : PySem.W.Frag) (md : Md) (Mo C M : Hd) (F H : Hp) (σ : L2.St) (ε : List Ent) : Prop where
  len : σ.length = ε.length
  m0C : ∀ a, md.m0 a = true → C a = true
  m0o : ∀ a, md.m0 a = true → Mo a = true
  oM : ∀ a, Mo a = true → M a = true
  CM : ∀ a, C a = true → M a = true
  MM : ∀ a, M a = true → Mo a = true ∨ C a = true
  dom : ∀ a, M a = true → H a ≠ none
  inv : md.inv H
  fix : Same F H
  CF : ∀ a, C a = true → F a = none
  out : ∀ a, C a = true → md.m0 a = false → Mo a = false
  dat : ∀ (i : Nat) d, ε[i]? = some (.dat d) → ∃ v, σ[i]? = some (some v) ∧ Dp K (hid H M) v d
  dk : ∀ i : Nat, ε[i]? = some .dk → σ[i]? = some (some md.ref)
  lm : ∀ (i : Nat) ds, ε[i]? = some (.lm ds) → ∃ p xs, σ[i]? = some (some (.ref p)) ∧ C p = true ∧ md.m0 p = false ∧ H p = some (.lst xs) ∧ DpAll K (hid H M) xs ds
  sep : ∀ (i j : Nat) ds es p, ε[i]? = some (.lm ds) → ε[j]? = some (.lm es) → σ[i]? = some (some (.ref p)) → σ[j]? = some (some (.ref p)) → i = j
  tm : ∀ (i : Nat) a b, ε[i]? = some (.tm a b) → ∃ T p q xs ys, σ[i]? = some (some (.ref T)) ∧ SqT K (hid H M) T [.ref p, .ref q] ∧ p ≠ q ∧ (C p = true ∧ md.m0 p = false ∧ H p = some (.lst xs) ∧ DpAll K (hid H M) xs a) ∧ (C q = true ∧ md.m0 q = false ∧ H q = some (.lst ys) ∧ DpAll K (hid H M) ys b)
  tsep : ∀ (i j : Nat) a b e, ε[i]? = some (.tm a b) → ε[j]? = some e → e.own = true → i = j
section
variable {K : PySem.W.Frag} {md : Md} {Mo C M : Hd} {F H H' : Hp} {σ : L2.St} {ε : List Ent}
theorem Ok.m0M (o : Ok K md Mo C M F H σ ε) : ∀ a, md.m0 a = true → M a = true := fun a h => o.CM a (o.m0C a h)
theorem Ok.keep (o : Ok K md Mo C M F H σ ε) (r : Rel md H H') : Same (hid H M) (hid H' M) := r.hid o.m0M
theorem Ok.rel (o : Ok K md Mo C M F H σ ε) (r : Rel md H H') (i : md.inv H') : Ok K md Mo C M F H' σ ε where
  len := o.len
  m0C := o.m0C
  m0o := o.m0o
  oM := o.oM
  CM := o.CM
  MM := o.MM
  dom := fun a h => by
    cases c : md.m0 a with
    | true => exact md.dom H' a i c
    | false =>
      cases q : H a with
      | none => exact absurd q (o.dom a h)
      | some u => rw [r a u c q]; exact fun z => nomatch z
  inv := i
  fix := fun a u h => by
    refine r a u ?_ (o.fix a u h)
    cases c : md.m0 a with
    | false => rfl
    | true => rw [o.CF a (o.m0C a c)] at h; cases h
  CF := o.CF
  out := o.out
  dat := fun j d h => by
    obtain ⟨v, e, q⟩ := o.dat j d h
    exact ⟨v, e, dp_same (o.keep r) q⟩
  dk := o.dk
  lm := fun j ds h => by
    obtain ⟨p, xs, e, hc, h0, hp, q⟩ := o.lm j ds h
    exact ⟨p, xs, e, hc, h0, r p _ h0 hp, dpa_same (o.keep r) q⟩
  sep := o.sep
  tm := fun j a b h => by
    obtain ⟨T, p, q, xs, ys, e, hT, hne, ⟨c1, m1, h1, z1⟩, ⟨c2, m2, h2, z2⟩⟩ := o.tm j a b h
    exact ⟨T, p, q, xs, ys, e, sqt_same (o.keep r) hT, hne, ⟨c1, m1, r p _ m1 h1, dpa_same (o.keep r) z1⟩, ⟨c2, m2, r q _ m2 h2, dpa_same (o.keep r) z2⟩⟩
  tsep := o.tsep
/-- fewer facts -/
theorem Ok.weak {σ' : L2.St} {ε' : List Ent} (o : Ok K md Mo C M F H σ ε) (hl : σ'.length = ε'.length)
    (h : ∀ (i : Nat) e, ε'[i]? = some e → e = .no ∨ (ε[i]? = some e ∧ σ'[i]? = σ[i]?)) : Ok K md Mo C M F H σ' ε' where
  len := hl
  m0C := o.m0C
  m0o := o.m0o
  oM := o.oM
  CM := o.CM
  MM := o.MM
  dom := o.dom
  inv := o.inv
  fix := o.fix
  CF := o.CF
  out := o.out
  dat := fun j d q => by
    rcases h j _ q with e | ⟨e1, e2⟩
    · cases e
    · rw [e2]; exact o.dat j d e1
  dk := fun j q => by
    rcases h j _ q with e | ⟨e1, e2⟩
    · cases e
    · rw [e2]; exact o.dk j e1
  lm := fun j ds q => by
    rcases h j _ q with e | ⟨e1, e2⟩
    · cases e
    · rw [e2]; exact o.lm j ds e1
  sep := fun i j ds es p q1 q2 e1 e2 => by
    rcases h i _ q1 with e | ⟨a1, a2⟩
    · cases e
    · rcases h j _ q2 with e | ⟨b1, b2⟩
      · cases e
      · exact o.sep i j ds es p a1 b1 (by rw [← a2]; exact e1) (by rw [← b2]; exact e2)
  tm := fun j a b q => by
    rcases h j _ q with e | ⟨e1, e2⟩
    · cases e
    · rw [e2]; exact o.tm j a b e1
  tsep := fun i j a b e q1 q2 q3 => by
    rcases h i _ q1 with z | ⟨a1, _⟩
    · cases z
    · rcases h j _ q2 with z | ⟨b1, _⟩
      · subst z; cases q3
      · exact o.tsep i j a b e a1 b1 q3
theorem get_set_ne {α : Type} {l : List α} {i j : Nat} {x : α} (h : i ≠ j) : (l.set i x)[j]? = l[j]? := List.getElem?_set_ne h
/-- a name is given data -/
theorem Ok.set (o : Ok K md Mo C M F H σ ε) (i : Nat) {v : V} {d : PyData} (q : Dp K (hid H M) v d) : Ok K md Mo C M F H (σ.set i (some v)) (ε.set i (.dat d)) := by
  have hl : (σ.set i (some v)).length = (ε.set i (.dat d)).length := by simp [o.len]
  have w : Ok K md Mo C M F H (σ.set i (some v)) (ε.set i .no) := o.weak (by simp [o.len]) fun j e h => by
    by_cases hj : i = j
    · subst hj
      left
      by_cases hi : i < ε.length
      · rw [List.getElem?_set_self hi] at h; cases h; rfl
      · rw [List.getElem?_eq_none (by simp; omega)] at h; cases h
    · right
      rw [get_set_ne hj] at h
      exact ⟨h, get_set_ne hj⟩
  have key : ∀ (j : Nat) e, (ε.set i (.dat d))[j]? = some e → (j = i ∧ i < ε.length ∧ e = .dat d) ∨ (j ≠ i ∧ (ε.set i .no)[j]? = some e) := fun j e h => by
    by_cases hj : i = j
    · subst hj
      by_cases hi : i < ε.length
      · rw [List.getElem?_set_self hi] at h; cases h; exact .inl ⟨rfl, hi, rfl⟩
      · rw [List.getElem?_eq_none (by simp; omega)] at h; cases h
    · rw [get_set_ne hj] at h
      exact .inr ⟨fun z => hj z.symm, by rw [get_set_ne hj]; exact h⟩
  refine ⟨hl, o.m0C, o.m0o, o.oM, o.CM, o.MM, o.dom, o.inv, o.fix, o.CF, o.out, fun j e h => ?_, fun j h => ?_, fun j ds h => ?_, fun a b ds es p h1 h2 e1 e2 => ?_, fun j a b h => ?_, fun a b d1 d2 e h1 h2 h3 => ?_⟩
  · rcases key j _ h with ⟨rfl, hi, e⟩ | ⟨_, h⟩
    · cases e
      exact ⟨v, List.getElem?_set_self (by rw [o.len]; exact hi), q⟩
    · exact w.dat j e h
  · rcases key j _ h with ⟨_, _, e⟩ | ⟨_, h⟩
    · cases e
    · exact w.dk j h
  · rcases key j _ h with ⟨_, _, e⟩ | ⟨_, h⟩
    · cases e
    · exact w.lm j ds h
  · rcases key a _ h1 with ⟨_, _, e⟩ | ⟨_, h1⟩
    · cases e
    · rcases key b _ h2 with ⟨_, _, e⟩ | ⟨_, h2⟩
      · cases e
      · exact w.sep a b ds es p h1 h2 e1 e2
  · rcases key j _ h with ⟨_, _, e⟩ | ⟨_, h⟩
    · cases e
    · exact w.tm j a b h
  · rcases key a _ h1 with ⟨_, _, e⟩ | ⟨_, h1⟩
    · cases e
    · rcases key b _ h2 with ⟨_, _, e⟩ | ⟨_, h2⟩
      · subst e; cases h3
      · exact w.tsep a b d1 d2 e h1 h2 h3
end

/-! ### expressions -/
abbrev PP := PyData → Prop
def Is (d : PyData) : PP := fun x => x = d
def IsB (b : Bool) : Bool → Prop := fun x => x = b
def tD (𝓜 : Md → Prop) (K : PySem.W.Frag) (ε : List Ent) (P : PP) : TE := fun σ H Q => ∃ md Mo C M F, 𝓜 md ∧ Ok K md Mo C M F H σ ε ∧ ∀ v H' d, P d → Rel md H H' → md.inv H' → Dp K (hid H' M) v d → Q v H'
def tDT (𝓜 : Md → Prop) (K : PySem.W.Frag) (ε : List Ent) (P : Bool → Prop) : TT := fun σ H Q => ∃ md Mo C M F, 𝓜 md ∧ Ok K md Mo C M F H σ ε ∧ ∀ b H', P b → Rel md H H' → md.inv H' → Q b H'
/-- arguments: data, or the mode's own thing -/
inductive EntV (K : PySem.W.Frag) (md : Md) (H : Hp) : V → Ent → Prop
  | dat {v : V} {d : PyData} : Dp K H v d → EntV K md H v (.dat d)
  | dk : EntV K md H md.ref .dk
theorem EntV.same {K : PySem.W.Frag} {md : Md} {H H' : Hp} {v : V} {e : Ent} (s : Same H H') : EntV K md H v e → EntV K md H' v e
  | .dat h => .dat (dp_same s h)
  | .dk => .dk
theorem entvs_same {K : PySem.W.Frag} {md : Md} {H H' : Hp} (s : Same H H') : ∀ {vs : List V} {es : List Ent}, Paired (EntV K md H) vs es → Paired (EntV K md H') vs es
  | _, _, .nil => .nil
  | _, _, .cons h t => .cons (h.same s) (entvs_same s t)
def tDA (𝓜 : Md → Prop) (K : PySem.W.Frag) (ε : List Ent) (P : List Ent → Prop) : TA := fun σ H Q => ∃ md Mo C M F, 𝓜 md ∧ Ok K md Mo C M F H σ ε ∧ ∀ vs H' es, P es → Rel md H H' → md.inv H' → Paired (EntV K md (hid H' M)) vs es → Q vs H'
abbrev PD (𝓜 : Md → Prop) (X : Cx) (ε : List Ent) (e : Expr) (P : PP) : Prop := PE X e (tD 𝓜 X.K ε P)
abbrev PDT (𝓜 : Md → Prop) (X : Cx) (ε : List Ent) (e : Expr) (P : Bool → Prop) : Prop := PT X e (tDT 𝓜 X.K ε P)
abbrev PDA (𝓜 : Md → Prop) (X : Cx) (ε : List Ent) (es : List Expr) (P : List Ent → Prop) : Prop := PA X es (tDA 𝓜 X.K ε P)

section
variable {X : Cx} {e : Expr} {t t' : TE}
theorem pe_mono (h : PE X e t) (k : ∀ σ H Q, t' σ H Q → t σ H Q) : PE X e t' := ⟨fun pins s σ H Q I q => h.run pins s σ H Q I (k σ H Q q)⟩
theorem pt_mono {t t' : TT} (h : PT X e t) (k : ∀ σ H Q, t' σ H Q → t σ H Q) : PT X e t' := ⟨fun pins s σ H Q I q => h.run pins s σ H Q I (k σ H Q q)⟩
theorem pa_mono {es : List Expr} {t t' : TA} (h : PA X es t) (k : ∀ σ H Q, t' σ H Q → t σ H Q) : PA X es t' := ⟨fun pos pins s σ H Q I q => h.run pos pins s σ H Q I (k σ H Q q)⟩
theorem ps_mono {st : Stmt} {t t' : TS} (h : PS X st t) (k : ∀ D σ H, t' D σ H → t D σ H) : PS X st t' := ⟨fun pins s σ H D I q => h.run pins s σ H D I (k D σ H q)⟩
theorem pss_mono {st : List Stmt} {t t' : TS} (h : PSs X st t) (k : ∀ D σ H, t' D σ H → t D σ H) : PSs X st t' := ⟨fun pins s σ H D I q => h.run pins s σ H D I (k D σ H q)⟩
/-- families -/
theorem pe_fam {ι : Sort _} {t : ι → TE} (h : ∀ i, PE X e (t i)) : PE X e (fun σ H Q => ∃ i, t i σ H Q) := ⟨fun pins s σ H Q I ⟨i, q⟩ => (h i).run pins s σ H Q I q⟩
theorem pt_fam {ι : Sort _} {t : ι → TT} (h : ∀ i, PT X e (t i)) : PT X e (fun σ H Q => ∃ i, t i σ H Q) := ⟨fun pins s σ H Q I ⟨i, q⟩ => (h i).run pins s σ H Q I q⟩
theorem pss_fam {ι : Sort _} {st : List Stmt} {t : ι → TS} (h : ∀ i, PSs X st (t i)) : PSs X st (fun D σ H => ∃ i, t i D σ H) := ⟨fun pins s σ H D I ⟨i, q⟩ => (h i).run pins s σ H D I q⟩
end
/-! a new tuple, a new list -/
section
variable {K : PySem.W.Frag} {md : Md} {M : Hd} {H : Hp} {p : Addr} {xs : List V} {ds : List PyData}
theorem new_same {o : HO} (hp : H p = none) : Rel md H (upd H p o) := Rel.of (same_new hp)
theorem new_hid (hp : H p = none) (dom : ∀ a, M a = true → H a ≠ none) : M p = false := by
  cases c : M p with
  | false => rfl
  | true => exact absurd hp (dom p c)
theorem new_tup (hp : H p = none) (dom : ∀ a, M a = true → H a ≠ none) (h : DpAll K (hid H M) xs ds) : Dp K (hid (upd H p (.tup xs)) M) (.ref p) (.tuple ds) := by
  have hM := new_hid (M := M) hp dom
  refine .tup (.inl (.inl ?_)) (dpa_same (hid_keep fun a o _ k => same_new hp a o k) h)
  rw [hid_off hM, upd_same]
theorem new_lst (hp : H p = none) (dom : ∀ a, M a = true → H a ≠ none) (h : DpAll K (hid H M) xs ds) : Dp K (hid (upd H p (.lst xs)) M) (.ref p) (.list ds) := by
  have hM := new_hid (M := M) hp dom
  refine .lst (.inl (.inl ?_)) (dpa_same (hid_keep fun a o _ k => same_new hp a o k) h)
  rw [hid_off hM, upd_same]
end

section
variable {𝓜 : Md → Prop} {X : Cx} {ε : List Ent} {a b c e : Expr} {P P1 P2 P3 : PP} {pos : Pos}
theorem pd_imp {P' : PP} (h : PD 𝓜 X ε e P) (k : ∀ d, P d → P' d) : PD 𝓜 X ε e P' := pe_mono h fun σ H Q ⟨md, Mo, C, M, F, m, o, q⟩ => ⟨md, Mo, C, M, F, m, o, fun v H' d p r i x => q v H' d (k d p) r i x⟩
theorem pdt_imp {P P' : Bool → Prop} (h : PDT 𝓜 X ε e P) (k : ∀ d, P d → P' d) : PDT 𝓜 X ε e P' := pt_mono h fun σ H Q ⟨md, Mo, C, M, F, m, o, q⟩ => ⟨md, Mo, C, M, F, m, o, fun v H' p r i => q v H' (k v p) r i⟩
theorem pda_imp {es : List Expr} {P P' : List Ent → Prop} (h : PDA 𝓜 X ε es P) (k : ∀ d, P d → P' d) : PDA 𝓜 X ε es P' := pa_mono h fun σ H Q ⟨md, Mo, C, M, F, m, o, q⟩ => ⟨md, Mo, C, M, F, m, o, fun v H' d p r i x => q v H' d (k d p) r i x⟩
theorem is_of {d d' : PyData} (e : d = d') : ∀ x, Is d x → Is d' x := fun x h => h.trans e
theorem pdt_to {x y : Bool} (h : PDT 𝓜 X ε e (IsB x)) (k : x = y) : PDT 𝓜 X ε e (IsB y) := k ▸ h
theorem pd_to {d d' : PyData} (h : PD 𝓜 X ε e (Is d)) (k : d = d') : PD 𝓜 X ε e (Is d') := k ▸ h
/-- one part, by its value -/
theorem td_then {K : PySem.W.Frag} {σ : L2.St} {H : Hp} {R : VK} (md : Md) (Mo C M : Hd) (F : Hp) (m : 𝓜 md) (o : Ok K md Mo C M F H σ ε)
    (k : ∀ v H' d, P d → Rel md H H' → Ok K md Mo C M F H' σ ε → Dp K (hid H' M) v d → R v H') : tD 𝓜 K ε P σ H R :=
  ⟨md, Mo, C, M, F, m, o, fun v H' d p r i x => k v H' d p r (o.rel r i) x⟩
/-- an operation on two values -/
def O2 (K : PySem.W.Frag) (r : R2) (P1 P2 P : PP) : Prop := ∀ (md : Md) (M : Hd) (H : Hp) (x y : V) (d1 d2 : PyData) (Q : VK), md.inv H → (∀ a, M a = true → H a ≠ none) → (∀ a, md.m0 a = true → M a = true) → P1 d1 → P2 d2 → Dp K (hid H M) x d1 → Dp K (hid H M) y d2 →
  (∀ v H' d, P d → Rel md H H' → md.inv H' → Dp K (hid H' M) v d → Q v H') → r x y H Q
theorem td_op {K : PySem.W.Frag} {r : R2} (h : O2 K r P1 P2 P) {σ : L2.St} {H : Hp} {Q : VK} (w : tD 𝓜 K ε P σ H Q) : tOp r (tD 𝓜 K ε P1) (tD 𝓜 K ε P2) σ H Q := by
  obtain ⟨md, Mo, C, M, F, m, o, q⟩ := w
  refine ⟨md, Mo, C, M, F, m, o, fun x H1 d1 p1 r1 i1 x1 => ?_⟩
  have o1 := o.rel r1 i1
  refine ⟨md, Mo, C, M, F, m, o1, fun y H2 d2 p2 r2 i2 x2 => ?_⟩
  have o2 := o1.rel r2 i2
  exact h md M H2 x y d1 d2 Q i2 o2.dom o2.m0M p1 p2 (dp_same (o1.keep r2) x1) x2 fun v H' d p r i z => q v H' d p ((r1.trans r2).trans r) i z
theorem pd_bin {op : Operator} {r : R2} (ho : OpR X (binaryOp op) r) (h : O2 X.K r P1 P2 P) (ha : PD 𝓜 X ε a P1) (hb : PD 𝓜 X ε b P2) : PD 𝓜 X ε (.BinOp a op b pos) P :=
  pe_mono (pe_op ho ha hb) fun _ _ _ w => td_op h w
theorem pd_cmp {op : CmpOp} {r : R2} (ho : OpR X (compareOp op) r) (h : O2 X.K r P1 P2 P) (ha : PD 𝓜 X ε a P1) (hb : PD 𝓜 X ε b P2) (hm : behindInMarks op b = false) : PD 𝓜 X ε (.Compare a [op] [b] pos) P :=
  pe_mono (pe_cmpR ho ha hb hm) fun _ _ _ w => td_op h w
theorem pdt_cmp {op : CmpOp} {r : R2} {T : Bool → Prop} (ho : OpR X (compareOp op) r) (h : O2 X.K r P1 P2 (fun d => ∃ b, d = .bool b ∧ T b)) (ha : PD 𝓜 X ε a P1) (hb : PD 𝓜 X ε b P2) (hm : behindInMarks op b = false) : PDT 𝓜 X ε (.Compare a [op] [b] pos) T :=
  pt_mono (pt_cmpR ho ha hb hm) fun σ H Q ⟨md, Mo, C, M, F, m, o, q⟩ => td_op h ⟨md, Mo, C, M, F, m, o, fun v H' d ⟨b, e, p⟩ r i x => by
    subst e
    exact ⟨b, dp_bool x, q b H' p r i⟩⟩
theorem pd_ix {r : R2} (hr : IxR X r) (h : O2 X.K r P1 P2 P) (ha : PD 𝓜 X ε a P1) (hb : PD 𝓜 X ε b P2) (hs : PlainIx b) : PD 𝓜 X ε (.Subscript a b pos) P :=
  pe_mono (pe_ix hr ha hb hs) fun _ _ _ w => td_op h w
end
end DL
end

section
set_option Elab.async false
set_option linter.all false
set_option maxRecDepth 100000
set_option maxHeartbeats 2000000
/-! The data layer: expressions. -/
namespace DL
open PySem PySem.Spec PyProof.Rows L2

section
variable {𝓜 : Md → Prop} {X : Cx} {ε : List Ent} {a b c e : Expr} {P P1 P2 P3 : PP} {pos : Pos}
/-! names, constants -/
theorem pd_pe {e : Expr} {t : TE} (h : PE X e t) (k : ∀ (md : Md) (Mo C M : Hd) (F H : Hp) σ Q, 𝓜 md → Ok X.K md Mo C M F H σ ε → (∀ v H' d, P d → Rel md H H' → md.inv H' → Dp X.K (hid H' M) v d → Q v H') → t σ H Q) : PD 𝓜 X ε e P :=
  pe_mono h fun σ H Q ⟨md, Mo, C, M, F, m, o, q⟩ => k md Mo C M F H σ Q m o q
theorem pd_var (i : Nat) {d : PyData} {x : Str} (h : ε[i]? = some (.dat d) := by rfl) (hN : X.N[i]? = some x := by rfl) (hv : Vis X.env.scope x := by first | exact Or.inl rfl | exact Or.inr (Or.inl rfl) | exact Or.inr (Or.inr rfl))
    (hd : (x == ("__debug__" : Str)) = false := by decide) (hcd : (x == ("__classdict__" : Str)) = false := by decide) : PD 𝓜 X ε (.Name x pos) (Is d) :=
  pd_pe (pv i hN hv hd hcd) fun md Mo C M F H σ Q m o q => by
    obtain ⟨v, e1, x1⟩ := o.dat i d h
    exact ⟨v, e1, q v H d rfl Rel.refl o.inv x1⟩
theorem pd_int {i : Int} {j : Nat} : PD 𝓜 X ε (.Constant (.int i) j pos) (Is (.int i)) := pd_pe pe_int fun md Mo C M F H σ Q m o q => q _ H _ rfl Rel.refl o.inv (.int i)
theorem pd_bl {k : Bool} {j : Nat} : PD 𝓜 X ε (.Constant (.bool k) j pos) (Is (.bool k)) := pd_pe pe_bl fun md Mo C M F H σ Q m o q => q _ H _ rfl Rel.refl o.inv (.bl k)
theorem pd_non {j : Nat} : PD 𝓜 X ε (.Constant .none j pos) (Is .none) := pd_pe pe_non fun md Mo C M F H σ Q m o q => q _ H _ rfl Rel.refl o.inv .non
theorem pd_glob' {x : Str} {i : Int} {t : Tok} (hg : Gl X x) (hm : X.mg x = some (.int i t)) (hd : (x == ("__debug__" : Str)) = false := by decide) : PD 𝓜 X ε (.Name x pos) (Is (.int i)) :=
  pd_pe (pe_glob (v := .int i) hg hm ⟨t, rfl⟩ hd) fun md Mo C M F H σ Q m o q => q _ H _ rfl Rel.refl o.inv (.int i)
theorem pd_glob {dd : PyData} {x : Str} {i : Int} {t : Tok} (hg : Gl X x) (hm : X.mg x = some (.int i t)) (hd : (x == ("__debug__" : Str)) = false := by decide) (he : (PyData.int i : PyData) = dd := by rfl) : PD 𝓜 X ε (.Name x pos) (Is dd) := pd_to (pd_glob' hg hm hd) he

/-! operations on whole numbers -/
theorem o_II {K : PySem.W.Frag} {g : Int → Int → Int} (k : ∀ d1 d2, P1 d1 → P2 d2 → ∃ i j, d1 = .int i ∧ d2 = .int j ∧ P (.int (g i j))) : O2 K (rI0 fun i j => .int (g i j)) P1 P2 P :=
  fun md M H x y d1 d2 Q i _ _ p1 p2 x1 y1 q => by
    obtain ⟨n, m, rfl, rfl, p⟩ := k d1 d2 p1 p2
    exact ⟨n, m, dp_int x1, dp_int y1, q _ H _ p Rel.refl i (.int _)⟩
theorem o_IC {K : PySem.W.Frag} {W : Int → Int → Prop} {g : Int → Int → Int} (k : ∀ d1 d2, P1 d1 → P2 d2 → ∃ i j, d1 = .int i ∧ d2 = .int j ∧ W i j ∧ P (.int (g i j))) : O2 K (rI W fun i j => .int (g i j)) P1 P2 P :=
  fun md M H x y d1 d2 Q i _ _ p1 p2 x1 y1 q => by
    obtain ⟨n, m, rfl, rfl, c, p⟩ := k d1 d2 p1 p2
    exact ⟨n, m, dp_int x1, dp_int y1, c, q _ H _ p Rel.refl i (.int _)⟩
theorem o_IB {K : PySem.W.Frag} {g : Int → Int → Bool} (k : ∀ d1 d2, P1 d1 → P2 d2 → ∃ i j, d1 = .int i ∧ d2 = .int j ∧ P (.bool (g i j))) : O2 K (rI0 fun i j => .bl (g i j)) P1 P2 P :=
  fun md M H x y d1 d2 Q i _ _ p1 p2 x1 y1 q => by
    obtain ⟨n, m, rfl, rfl, p⟩ := k d1 d2 p1 p2
    exact ⟨n, m, dp_int x1, dp_int y1, q _ H _ p Rel.refl i (.bl _)⟩
theorem pd_add' {i j : Int} (ha : PD 𝓜 X ε a (Is (.int i))) (hb : PD 𝓜 X ε b (Is (.int j))) : PD 𝓜 X ε (.BinOp a .Add b pos) (Is (.int (i + j))) :=
  pd_bin op_add (o_II (g := fun i j => i + j) fun _ _ h1 h2 => ⟨i, j, h1, h2, rfl⟩) ha hb
theorem pd_add {dd : PyData} {i j : Int} (ha : PD 𝓜 X ε a (Is (.int i))) (hb : PD 𝓜 X ε b (Is (.int j))) (he : (PyData.int (i + j) : PyData) = dd := by rfl) : PD 𝓜 X ε (.BinOp a .Add b pos) (Is dd) := pd_to (pd_add' ha hb) he
theorem pd_sub' {i j : Int} (ha : PD 𝓜 X ε a (Is (.int i))) (hb : PD 𝓜 X ε b (Is (.int j))) : PD 𝓜 X ε (.BinOp a .Sub b pos) (Is (.int (i - j))) :=
  pd_bin op_sub (o_II (g := fun i j => i - j) fun _ _ h1 h2 => ⟨i, j, h1, h2, rfl⟩) ha hb
theorem pd_sub {dd : PyData} {i j : Int} (ha : PD 𝓜 X ε a (Is (.int i))) (hb : PD 𝓜 X ε b (Is (.int j))) (he : (PyData.int (i - j) : PyData) = dd := by rfl) : PD 𝓜 X ε (.BinOp a .Sub b pos) (Is dd) := pd_to (pd_sub' ha hb) he
theorem pd_mul' {i j : Int} (h : CMul i j) (ha : PD 𝓜 X ε a (Is (.int i))) (hb : PD 𝓜 X ε b (Is (.int j))) : PD 𝓜 X ε (.BinOp a .Mult b pos) (Is (.int (i * j))) :=
  pd_bin op_mul (o_IC (g := fun i j => i * j) fun _ _ h1 h2 => ⟨i, j, h1, h2, h, rfl⟩) ha hb
theorem pd_mul {dd : PyData} {i j : Int} (h : CMul i j) (ha : PD 𝓜 X ε a (Is (.int i))) (hb : PD 𝓜 X ε b (Is (.int j))) (he : (PyData.int (i * j) : PyData) = dd := by rfl) : PD 𝓜 X ε (.BinOp a .Mult b pos) (Is dd) := pd_to (pd_mul' h ha hb) he
theorem pd_neg' {i : Int} (ha : PD 𝓜 X ε a (Is (.int i))) : PD 𝓜 X ε (.UnaryOp .USub a pos) (Is (.int (-i))) :=
  pd_pe (pe_un un_neg ha) fun md Mo C M F H σ Q m o q => td_then md Mo C M F m o fun v H1 d p r o1 x => by
    cases p
    exact ⟨i, dp_int x, q _ H1 _ rfl r o1.inv (.int _)⟩
theorem pd_neg {dd : PyData} {i : Int} (ha : PD 𝓜 X ε a (Is (.int i))) (he : (PyData.int (-i) : PyData) = dd := by rfl) : PD 𝓜 X ε (.UnaryOp .USub a pos) (Is dd) := pd_to (pd_neg' ha) he
/-! comparisons as values -/
theorem pd_lt' {i j : Int} (ha : PD 𝓜 X ε a (Is (.int i))) (hb : PD 𝓜 X ε b (Is (.int j))) : PD 𝓜 X ε (.Compare a [.Lt] [b] pos) (Is (.bool (decide (i < j)))) :=
  pd_cmp op_lt (o_IB (g := fun i j => decide (i < j)) fun _ _ h1 h2 => ⟨i, j, h1, h2, rfl⟩) ha hb (nomark _)
theorem pd_lt {dd : PyData} {i j : Int} (ha : PD 𝓜 X ε a (Is (.int i))) (hb : PD 𝓜 X ε b (Is (.int j))) (he : (PyData.bool (decide (i < j)) : PyData) = dd := by rfl) : PD 𝓜 X ε (.Compare a [.Lt] [b] pos) (Is dd) := pd_to (pd_lt' ha hb) he
theorem pd_le' {i j : Int} (ha : PD 𝓜 X ε a (Is (.int i))) (hb : PD 𝓜 X ε b (Is (.int j))) : PD 𝓜 X ε (.Compare a [.LtE] [b] pos) (Is (.bool (decide (i ≤ j)))) :=
  pd_cmp op_le (o_IB (g := fun i j => decide (i ≤ j)) fun _ _ h1 h2 => ⟨i, j, h1, h2, rfl⟩) ha hb (nomark _)
theorem pd_le {dd : PyData} {i j : Int} (ha : PD 𝓜 X ε a (Is (.int i))) (hb : PD 𝓜 X ε b (Is (.int j))) (he : (PyData.bool (decide (i ≤ j)) : PyData) = dd := by rfl) : PD 𝓜 X ε (.Compare a [.LtE] [b] pos) (Is dd) := pd_to (pd_le' ha hb) he
theorem pd_gt' {i j : Int} (ha : PD 𝓜 X ε a (Is (.int i))) (hb : PD 𝓜 X ε b (Is (.int j))) : PD 𝓜 X ε (.Compare a [.Gt] [b] pos) (Is (.bool (decide (j < i)))) :=
  pd_cmp op_gt (o_IB (g := fun i j => decide (j < i)) fun _ _ h1 h2 => ⟨i, j, h1, h2, rfl⟩) ha hb (nomark _)
theorem pd_gt {dd : PyData} {i j : Int} (ha : PD 𝓜 X ε a (Is (.int i))) (hb : PD 𝓜 X ε b (Is (.int j))) (he : (PyData.bool (decide (j < i)) : PyData) = dd := by rfl) : PD 𝓜 X ε (.Compare a [.Gt] [b] pos) (Is dd) := pd_to (pd_gt' ha hb) he
theorem pd_ge' {i j : Int} (ha : PD 𝓜 X ε a (Is (.int i))) (hb : PD 𝓜 X ε b (Is (.int j))) : PD 𝓜 X ε (.Compare a [.GtE] [b] pos) (Is (.bool (decide (j ≤ i)))) :=
  pd_cmp op_ge (o_IB (g := fun i j => decide (j ≤ i)) fun _ _ h1 h2 => ⟨i, j, h1, h2, rfl⟩) ha hb (nomark _)
theorem pd_ge {dd : PyData} {i j : Int} (ha : PD 𝓜 X ε a (Is (.int i))) (hb : PD 𝓜 X ε b (Is (.int j))) (he : (PyData.bool (decide (j ≤ i)) : PyData) = dd := by rfl) : PD 𝓜 X ε (.Compare a [.GtE] [b] pos) (Is dd) := pd_to (pd_ge' ha hb) he
theorem vint_eq {i j : Int} : decide (V.int i = V.int j) = decide (i = j) := by
  by_cases h : i = j
  · subst h; simp
  · rw [decide_eq_false h]; exact decide_eq_false fun z => h (V.int.inj z)
theorem o_eqI {K : PySem.W.Frag} (k : ∀ d1 d2, P1 d1 → P2 d2 → ∃ i j, d1 = .int i ∧ d2 = .int j ∧ P (.bool (decide (i = j)))) : O2 K rEq P1 P2 P :=
  fun md M H x y d1 d2 Q i _ _ p1 p2 x1 y1 q => by
    obtain ⟨n, m, rfl, rfl, p⟩ := k d1 d2 p1 p2
    rw [dp_int x1, dp_int y1]
    refine ⟨rfl, ?_⟩
    rw [vint_eq]
    exact q _ H _ p Rel.refl i (.bl _)
theorem o_neI {K : PySem.W.Frag} (k : ∀ d1 d2, P1 d1 → P2 d2 → ∃ i j, d1 = .int i ∧ d2 = .int j ∧ P (.bool (!decide (i = j)))) : O2 K rNe P1 P2 P :=
  fun md M H x y d1 d2 Q i _ _ p1 p2 x1 y1 q => by
    obtain ⟨n, m, rfl, rfl, p⟩ := k d1 d2 p1 p2
    rw [dp_int x1, dp_int y1]
    refine ⟨rfl, ?_⟩
    rw [vint_eq]
    exact q _ H _ p Rel.refl i (.bl _)
theorem pd_eqI' {i j : Int} (ha : PD 𝓜 X ε a (Is (.int i))) (hb : PD 𝓜 X ε b (Is (.int j))) : PD 𝓜 X ε (.Compare a [.Eq] [b] pos) (Is (.bool (decide (i = j)))) :=
  pd_cmp op_eq (o_eqI fun _ _ h1 h2 => ⟨i, j, h1, h2, rfl⟩) ha hb (nomark _)
theorem pd_eqI {dd : PyData} {i j : Int} (ha : PD 𝓜 X ε a (Is (.int i))) (hb : PD 𝓜 X ε b (Is (.int j))) (he : (PyData.bool (decide (i = j)) : PyData) = dd := by rfl) : PD 𝓜 X ε (.Compare a [.Eq] [b] pos) (Is dd) := pd_to (pd_eqI' ha hb) he
theorem pd_neI' {i j : Int} (ha : PD 𝓜 X ε a (Is (.int i))) (hb : PD 𝓜 X ε b (Is (.int j))) : PD 𝓜 X ε (.Compare a [.NotEq] [b] pos) (Is (.bool (!decide (i = j)))) :=
  pd_cmp op_ne (o_neI fun _ _ h1 h2 => ⟨i, j, h1, h2, rfl⟩) ha hb (nomark _)
theorem pd_neI {dd : PyData} {i j : Int} (ha : PD 𝓜 X ε a (Is (.int i))) (hb : PD 𝓜 X ε b (Is (.int j))) (he : (PyData.bool (!decide (i = j)) : PyData) = dd := by rfl) : PD 𝓜 X ε (.Compare a [.NotEq] [b] pos) (Is dd) := pd_to (pd_neI' ha hb) he
theorem o_eqS {K : PySem.W.Frag} {s t : Str} : O2 K rEq (Is (.str s)) (Is (.str t)) (Is (.bool (decide (s = t)))) :=
  fun md M H x y d1 d2 Q i _ _ p1 p2 x1 y1 q => by
    cases p1; cases p2
    rw [dp_str x1, dp_str y1]
    refine ⟨rfl, ?_⟩
    rw [show decide (V.str s = V.str t) = decide (s = t) by
      by_cases h : s = t
      · subst h; simp
      · rw [decide_eq_false h]; exact decide_eq_false fun z => h (V.str.inj z)]
    exact q _ H _ rfl Rel.refl i (.bl _)
theorem o_neS {K : PySem.W.Frag} {s t : Str} : O2 K rNe (Is (.str s)) (Is (.str t)) (Is (.bool (!decide (s = t)))) :=
  fun md M H x y d1 d2 Q i _ _ p1 p2 x1 y1 q => by
    cases p1; cases p2
    rw [dp_str x1, dp_str y1]
    refine ⟨rfl, ?_⟩
    rw [show decide (V.str s = V.str t) = decide (s = t) by
      by_cases h : s = t
      · subst h; simp
      · rw [decide_eq_false h]; exact decide_eq_false fun z => h (V.str.inj z)]
    exact q _ H _ rfl Rel.refl i (.bl _)
theorem pd_eqS' {s t : Str} (ha : PD 𝓜 X ε a (Is (.str s))) (hb : PD 𝓜 X ε b (Is (.str t))) : PD 𝓜 X ε (.Compare a [.Eq] [b] pos) (Is (.bool (decide (s = t)))) := pd_cmp op_eq o_eqS ha hb (nomark _)
theorem pd_eqS {dd : PyData} {s t : Str} (ha : PD 𝓜 X ε a (Is (.str s))) (hb : PD 𝓜 X ε b (Is (.str t))) (he : (PyData.bool (decide (s = t)) : PyData) = dd := by rfl) : PD 𝓜 X ε (.Compare a [.Eq] [b] pos) (Is dd) := pd_to (pd_eqS' ha hb) he
theorem pd_neS' {s t : Str} (ha : PD 𝓜 X ε a (Is (.str s))) (hb : PD 𝓜 X ε b (Is (.str t))) : PD 𝓜 X ε (.Compare a [.NotEq] [b] pos) (Is (.bool (!decide (s = t)))) := pd_cmp op_ne o_neS ha hb (nomark _)
theorem pd_neS {dd : PyData} {s t : Str} (ha : PD 𝓜 X ε a (Is (.str s))) (hb : PD 𝓜 X ε b (Is (.str t))) (he : (PyData.bool (!decide (s = t)) : PyData) = dd := by rfl) : PD 𝓜 X ε (.Compare a [.NotEq] [b] pos) (Is dd) := pd_to (pd_neS' ha hb) he
/-! data at any depth -/
theorem o_eqD {K : PySem.W.Frag} {d1 d2 : PyData} (s1 : SeqAt.shaped d1 = true) (s2 : SeqAt.shaped d2 = true) : O2 K (rEqD K) (Is d1) (Is d2) (Is (.bool (PyData.eqv d1 d2))) :=
  fun md M H x y _ _ Q i _ _ p1 p2 x1 y1 q => by
    cases p1; cases p2
    exact ⟨_, _, dp_same hid_same x1, dp_same hid_same y1, s1, s2, q _ H _ rfl Rel.refl i (.bl _)⟩
theorem o_neD {K : PySem.W.Frag} {d1 d2 : PyData} (s1 : SeqAt.shaped d1 = true) (s2 : SeqAt.shaped d2 = true) : O2 K (rNeD K) (Is d1) (Is d2) (Is (.bool (!PyData.eqv d1 d2))) :=
  fun md M H x y _ _ Q i _ _ p1 p2 x1 y1 q => by
    cases p1; cases p2
    exact ⟨_, _, dp_same hid_same x1, dp_same hid_same y1, s1, s2, q _ H _ rfl Rel.refl i (.bl _)⟩
theorem pd_eqD' {d1 d2 : PyData} (hu : X.A.units + 64 < cLine) (s1 : SeqAt.shaped d1 = true) (s2 : SeqAt.shaped d2 = true) (ha : PD 𝓜 X ε a (Is d1)) (hb : PD 𝓜 X ε b (Is d2)) : PD 𝓜 X ε (.Compare a [.Eq] [b] pos) (Is (.bool (PyData.eqv d1 d2))) :=
  pd_cmp (op_eqD hu) (o_eqD s1 s2) ha hb (nomark _)
theorem pd_eqD {dd : PyData} {d1 d2 : PyData} (hu : X.A.units + 64 < cLine) (s1 : SeqAt.shaped d1 = true) (s2 : SeqAt.shaped d2 = true) (ha : PD 𝓜 X ε a (Is d1)) (hb : PD 𝓜 X ε b (Is d2)) (he : (PyData.bool (PyData.eqv d1 d2) : PyData) = dd := by rfl) : PD 𝓜 X ε (.Compare a [.Eq] [b] pos) (Is dd) := pd_to (pd_eqD' hu s1 s2 ha hb) he
theorem pd_neD' {d1 d2 : PyData} (hu : X.A.units + 64 < cLine) (s1 : SeqAt.shaped d1 = true) (s2 : SeqAt.shaped d2 = true) (ha : PD 𝓜 X ε a (Is d1)) (hb : PD 𝓜 X ε b (Is d2)) : PD 𝓜 X ε (.Compare a [.NotEq] [b] pos) (Is (.bool (!PyData.eqv d1 d2))) :=
  pd_cmp (op_neD hu) (o_neD s1 s2) ha hb (nomark _)
theorem pd_neD {dd : PyData} {d1 d2 : PyData} (hu : X.A.units + 64 < cLine) (s1 : SeqAt.shaped d1 = true) (s2 : SeqAt.shaped d2 = true) (ha : PD 𝓜 X ε a (Is d1)) (hb : PD 𝓜 X ε b (Is d2)) (he : (PyData.bool (!PyData.eqv d1 d2) : PyData) = dd := by rfl) : PD 𝓜 X ε (.Compare a [.NotEq] [b] pos) (Is dd) := pd_to (pd_neD' hu s1 s2 ha hb) he
/-! is -/
def noneD : PyData → Bool
  | .none => true
  | _ => false
theorem dp_isN {K : PySem.W.Frag} {H : Hp} {v : V} {d : PyData} (h : Dp K H v d) : decide (v = .non) = noneD d := by
  cases h <;> rfl
theorem pd_isN' {d : PyData} {j : Nat} {p2 : Pos} (ha : PD 𝓜 X ε a (Is d)) : PD 𝓜 X ε (.Compare a [.Is] [.Constant .none j p2] pos) (Is (.bool (noneD d))) :=
  pd_pe (pe_cmp (pc_isN ha) rfl) fun md Mo C M F H σ Q m o q => td_then md Mo C M F m o fun v H1 d' p r o1 x => by
    cases p
    show Q (.bl (decide (v = .non))) H1
    rw [dp_isN x]
    exact q _ H1 _ rfl r o1.inv (.bl _)
theorem pd_isN {dd : PyData} {d : PyData} {j : Nat} {p2 : Pos} (ha : PD 𝓜 X ε a (Is d)) (he : (PyData.bool (noneD d) : PyData) = dd := by rfl) : PD 𝓜 X ε (.Compare a [.Is] [.Constant .none j p2] pos) (Is dd) := pd_to (pd_isN' ha) he
theorem pd_notN' {d : PyData} {j : Nat} {p2 : Pos} (ha : PD 𝓜 X ε a (Is d)) : PD 𝓜 X ε (.Compare a [.IsNot] [.Constant .none j p2] pos) (Is (.bool (!noneD d))) :=
  pd_pe (pe_cmp (pc_notN ha) rfl) fun md Mo C M F H σ Q m o q => td_then md Mo C M F m o fun v H1 d' p r o1 x => by
    cases p
    show Q (.bl (!decide (v = .non))) H1
    rw [dp_isN x]
    exact q _ H1 _ rfl r o1.inv (.bl _)
theorem pd_notN {dd : PyData} {d : PyData} {j : Nat} {p2 : Pos} (ha : PD 𝓜 X ε a (Is d)) (he : (PyData.bool (!noneD d) : PyData) = dd := by rfl) : PD 𝓜 X ε (.Compare a [.IsNot] [.Constant .none j p2] pos) (Is dd) := pd_to (pd_notN' ha) he
theorem pd_isB' {k j : Bool} (ha : PD 𝓜 X ε a (Is (.bool k))) (hb : PD 𝓜 X ε b (Is (.bool j))) : PD 𝓜 X ε (.Compare a [.Is] [b] pos) (Is (.bool (decide (k = j)))) :=
  pd_cmp op_isBl (fun md M H x y _ _ Q i _ _ p1 p2 x1 y1 q => by
    cases p1; cases p2
    exact ⟨k, j, dp_bool x1, dp_bool y1, q _ H _ rfl Rel.refl i (.bl _)⟩) ha hb (nomark _)
theorem pd_isB {dd : PyData} {k j : Bool} (ha : PD 𝓜 X ε a (Is (.bool k))) (hb : PD 𝓜 X ε b (Is (.bool j))) (he : (PyData.bool (decide (k = j)) : PyData) = dd := by rfl) : PD 𝓜 X ε (.Compare a [.Is] [b] pos) (Is dd) := pd_to (pd_isB' ha hb) he
theorem pd_notB' {k j : Bool} (ha : PD 𝓜 X ε a (Is (.bool k))) (hb : PD 𝓜 X ε b (Is (.bool j))) : PD 𝓜 X ε (.Compare a [.IsNot] [b] pos) (Is (.bool (!decide (k = j)))) :=
  pd_cmp op_notBl (fun md M H x y _ _ Q i _ _ p1 p2 x1 y1 q => by
    cases p1; cases p2
    exact ⟨k, j, dp_bool x1, dp_bool y1, q _ H _ rfl Rel.refl i (.bl _)⟩) ha hb (nomark _)
theorem pd_notB {dd : PyData} {k j : Bool} (ha : PD 𝓜 X ε a (Is (.bool k))) (hb : PD 𝓜 X ε b (Is (.bool j))) (he : (PyData.bool (!decide (k = j)) : PyData) = dd := by rfl) : PD 𝓜 X ε (.Compare a [.IsNot] [b] pos) (Is dd) := pd_to (pd_notB' ha hb) he
/-! in, of whole numbers -/
theorem inV_ints (n : Int) : ∀ ns : List Int, inV (.int n) (ns.map V.int) = decide (n ∈ ns)
  | [] => rfl
  | m :: ns => by
    have ih := inV_ints n ns
    unfold inV at ih ⊢
    rw [List.map_cons, List.any_cons, ih]
    show ((m == n) || decide (n ∈ ns)) = decide (n ∈ m :: ns)
    by_cases h : m = n
    · subst h; simp
    · have : (m == n) = false := by simpa using h
      rw [this, Bool.false_or]
      have e : (n ∈ m :: ns) ↔ (n ∈ ns) := by
        rw [List.mem_cons]
        exact ⟨fun z => z.resolve_left fun w => h w.symm, .inr⟩
      exact (decide_eq_decide.mpr e).symm
theorem flat_ints : ∀ ns : List Int, (ns.map V.int).all flatV = true
  | [] => rfl
  | _ :: ns => by rw [List.map_cons, List.all_cons, flat_ints ns]; rfl
theorem pd_inT' {n : Int} {ns : List Int} (hm : behindInMarks .In b = false) (ha : PD 𝓜 X ε a (Is (.int n))) (hb : PD 𝓜 X ε b (Is (.tuple (ns.map PyData.int)))) : PD 𝓜 X ε (.Compare a [.In] [b] pos) (Is (.bool (decide (n ∈ ns)))) :=
  pd_cmp op_in_seq (fun md M H x y _ _ Q i _ _ p1 p2 x1 y1 q => by
    cases p1; cases p2
    obtain ⟨p, xs, rfl, hq, ha⟩ := dp_tup y1
    obtain rfl := dpa_ints ha
    rw [dp_int x1]
    refine ⟨p, _, rfl, .inr (sqt_same hid_same hq), rfl, flat_ints ns, ?_⟩
    rw [inV_ints]
    exact q _ H _ rfl Rel.refl i (.bl _)) ha hb hm
theorem pd_inT {dd : PyData} {n : Int} {ns : List Int} (hm : behindInMarks .In b = false) (ha : PD 𝓜 X ε a (Is (.int n))) (hb : PD 𝓜 X ε b (Is (.tuple (ns.map PyData.int)))) (he : (PyData.bool (decide (n ∈ ns)) : PyData) = dd := by rfl) : PD 𝓜 X ε (.Compare a [.In] [b] pos) (Is dd) := pd_to (pd_inT' hm ha hb) he

/-! truth, and, or, not -/
theorem pdt_of {T : Bool → Prop} (h : PD 𝓜 X ε e (fun d => ∃ b, d = .bool b ∧ T b)) (he : ∀ whole, isTrue e X.env whole = (do let v ← whole; standAt e.pos; holding [v] (truthy v)) := by intro _; rfl) : PDT 𝓜 X ε e T :=
  pt_mono (pt_val h he) fun σ H Q ⟨md, Mo, C, M, F, m, o, q⟩ => td_then md Mo C M F m o fun v H1 d ⟨k, e1, p⟩ r o1 x => by
    subst e1
    exact ⟨k, dp_bool x, q k H1 p r o1.inv⟩
theorem pdt_val {k : Bool} (h : PD 𝓜 X ε e (Is (.bool k))) (he : ∀ whole, isTrue e X.env whole = (do let v ← whole; standAt e.pos; holding [v] (truthy v)) := by intro _; rfl) : PDT 𝓜 X ε e (IsB k) :=
  pdt_of (pd_imp h fun _ p => ⟨k, p, rfl⟩) he
theorem pdt_cmpV {op : CmpOp} {k : Bool} {r : R2} (ho : OpR X (compareOp op) r) (h : O2 X.K r P1 P2 (Is (.bool k))) (ha : PD 𝓜 X ε a P1) (hb : PD 𝓜 X ε b P2) (hm : behindInMarks op b = false) : PDT 𝓜 X ε (.Compare a [op] [b] pos) (IsB k) :=
  pdt_cmp ho (fun md M H x y d1 d2 Q i dm m0 p1 p2 x1 y1 q => h md M H x y d1 d2 Q i dm m0 p1 p2 x1 y1 fun v H' d p r i' z => q v H' d ⟨k, p, rfl⟩ r i' z) ha hb hm
theorem pdt_lt' {i j : Int} (ha : PD 𝓜 X ε a (Is (.int i))) (hb : PD 𝓜 X ε b (Is (.int j))) : PDT 𝓜 X ε (.Compare a [.Lt] [b] pos) (IsB (decide (i < j))) :=
  pdt_cmpV op_lt (o_IB (g := fun i j => decide (i < j)) fun _ _ h1 h2 => ⟨i, j, h1, h2, rfl⟩) ha hb (nomark _)
theorem pdt_lt {dd : Bool} {i j : Int} (ha : PD 𝓜 X ε a (Is (.int i))) (hb : PD 𝓜 X ε b (Is (.int j))) (he : (decide (i < j) : Bool) = dd := by rfl) : PDT 𝓜 X ε (.Compare a [.Lt] [b] pos) (IsB dd) := pdt_to (pdt_lt' ha hb) he
theorem pdt_le' {i j : Int} (ha : PD 𝓜 X ε a (Is (.int i))) (hb : PD 𝓜 X ε b (Is (.int j))) : PDT 𝓜 X ε (.Compare a [.LtE] [b] pos) (IsB (decide (i ≤ j))) :=
  pdt_cmpV op_le (o_IB (g := fun i j => decide (i ≤ j)) fun _ _ h1 h2 => ⟨i, j, h1, h2, rfl⟩) ha hb (nomark _)
theorem pdt_le {dd : Bool} {i j : Int} (ha : PD 𝓜 X ε a (Is (.int i))) (hb : PD 𝓜 X ε b (Is (.int j))) (he : (decide (i ≤ j) : Bool) = dd := by rfl) : PDT 𝓜 X ε (.Compare a [.LtE] [b] pos) (IsB dd) := pdt_to (pdt_le' ha hb) he
theorem pdt_gt' {i j : Int} (ha : PD 𝓜 X ε a (Is (.int i))) (hb : PD 𝓜 X ε b (Is (.int j))) : PDT 𝓜 X ε (.Compare a [.Gt] [b] pos) (IsB (decide (j < i))) :=
  pdt_cmpV op_gt (o_IB (g := fun i j => decide (j < i)) fun _ _ h1 h2 => ⟨i, j, h1, h2, rfl⟩) ha hb (nomark _)
theorem pdt_gt {dd : Bool} {i j : Int} (ha : PD 𝓜 X ε a (Is (.int i))) (hb : PD 𝓜 X ε b (Is (.int j))) (he : (decide (j < i) : Bool) = dd := by rfl) : PDT 𝓜 X ε (.Compare a [.Gt] [b] pos) (IsB dd) := pdt_to (pdt_gt' ha hb) he
theorem pdt_ge' {i j : Int} (ha : PD 𝓜 X ε a (Is (.int i))) (hb : PD 𝓜 X ε b (Is (.int j))) : PDT 𝓜 X ε (.Compare a [.GtE] [b] pos) (IsB (decide (j ≤ i))) :=
  pdt_cmpV op_ge (o_IB (g := fun i j => decide (j ≤ i)) fun _ _ h1 h2 => ⟨i, j, h1, h2, rfl⟩) ha hb (nomark _)
theorem pdt_ge {dd : Bool} {i j : Int} (ha : PD 𝓜 X ε a (Is (.int i))) (hb : PD 𝓜 X ε b (Is (.int j))) (he : (decide (j ≤ i) : Bool) = dd := by rfl) : PDT 𝓜 X ε (.Compare a [.GtE] [b] pos) (IsB dd) := pdt_to (pdt_ge' ha hb) he
theorem pdt_eqI' {i j : Int} (ha : PD 𝓜 X ε a (Is (.int i))) (hb : PD 𝓜 X ε b (Is (.int j))) : PDT 𝓜 X ε (.Compare a [.Eq] [b] pos) (IsB (decide (i = j))) :=
  pdt_cmpV op_eq (o_eqI fun _ _ h1 h2 => ⟨i, j, h1, h2, rfl⟩) ha hb (nomark _)
theorem pdt_eqI {dd : Bool} {i j : Int} (ha : PD 𝓜 X ε a (Is (.int i))) (hb : PD 𝓜 X ε b (Is (.int j))) (he : (decide (i = j) : Bool) = dd := by rfl) : PDT 𝓜 X ε (.Compare a [.Eq] [b] pos) (IsB dd) := pdt_to (pdt_eqI' ha hb) he
theorem pdt_neI' {i j : Int} (ha : PD 𝓜 X ε a (Is (.int i))) (hb : PD 𝓜 X ε b (Is (.int j))) : PDT 𝓜 X ε (.Compare a [.NotEq] [b] pos) (IsB (!decide (i = j))) :=
  pdt_cmpV op_ne (o_neI fun _ _ h1 h2 => ⟨i, j, h1, h2, rfl⟩) ha hb (nomark _)
theorem pdt_neI {dd : Bool} {i j : Int} (ha : PD 𝓜 X ε a (Is (.int i))) (hb : PD 𝓜 X ε b (Is (.int j))) (he : (!decide (i = j) : Bool) = dd := by rfl) : PDT 𝓜 X ε (.Compare a [.NotEq] [b] pos) (IsB dd) := pdt_to (pdt_neI' ha hb) he
theorem pdt_eqS' {s t : Str} (ha : PD 𝓜 X ε a (Is (.str s))) (hb : PD 𝓜 X ε b (Is (.str t))) : PDT 𝓜 X ε (.Compare a [.Eq] [b] pos) (IsB (decide (s = t))) := pdt_cmpV op_eq o_eqS ha hb (nomark _)
theorem pdt_eqS {dd : Bool} {s t : Str} (ha : PD 𝓜 X ε a (Is (.str s))) (hb : PD 𝓜 X ε b (Is (.str t))) (he : (decide (s = t) : Bool) = dd := by rfl) : PDT 𝓜 X ε (.Compare a [.Eq] [b] pos) (IsB dd) := pdt_to (pdt_eqS' ha hb) he
theorem pdt_neS' {s t : Str} (ha : PD 𝓜 X ε a (Is (.str s))) (hb : PD 𝓜 X ε b (Is (.str t))) : PDT 𝓜 X ε (.Compare a [.NotEq] [b] pos) (IsB (!decide (s = t))) := pdt_cmpV op_ne o_neS ha hb (nomark _)
theorem pdt_neS {dd : Bool} {s t : Str} (ha : PD 𝓜 X ε a (Is (.str s))) (hb : PD 𝓜 X ε b (Is (.str t))) (he : (!decide (s = t) : Bool) = dd := by rfl) : PDT 𝓜 X ε (.Compare a [.NotEq] [b] pos) (IsB dd) := pdt_to (pdt_neS' ha hb) he
theorem pdt_eqD' {d1 d2 : PyData} (hu : X.A.units + 64 < cLine) (s1 : SeqAt.shaped d1 = true) (s2 : SeqAt.shaped d2 = true) (ha : PD 𝓜 X ε a (Is d1)) (hb : PD 𝓜 X ε b (Is d2)) : PDT 𝓜 X ε (.Compare a [.Eq] [b] pos) (IsB (PyData.eqv d1 d2)) :=
  pdt_cmpV (op_eqD hu) (o_eqD s1 s2) ha hb (nomark _)
theorem pdt_eqD {dd : Bool} {d1 d2 : PyData} (hu : X.A.units + 64 < cLine) (s1 : SeqAt.shaped d1 = true) (s2 : SeqAt.shaped d2 = true) (ha : PD 𝓜 X ε a (Is d1)) (hb : PD 𝓜 X ε b (Is d2)) (he : (PyData.eqv d1 d2 : Bool) = dd := by rfl) : PDT 𝓜 X ε (.Compare a [.Eq] [b] pos) (IsB dd) := pdt_to (pdt_eqD' hu s1 s2 ha hb) he
theorem pdt_neD' {d1 d2 : PyData} (hu : X.A.units + 64 < cLine) (s1 : SeqAt.shaped d1 = true) (s2 : SeqAt.shaped d2 = true) (ha : PD 𝓜 X ε a (Is d1)) (hb : PD 𝓜 X ε b (Is d2)) : PDT 𝓜 X ε (.Compare a [.NotEq] [b] pos) (IsB (!PyData.eqv d1 d2)) :=
  pdt_cmpV (op_neD hu) (o_neD s1 s2) ha hb (nomark _)
theorem pdt_neD {dd : Bool} {d1 d2 : PyData} (hu : X.A.units + 64 < cLine) (s1 : SeqAt.shaped d1 = true) (s2 : SeqAt.shaped d2 = true) (ha : PD 𝓜 X ε a (Is d1)) (hb : PD 𝓜 X ε b (Is d2)) (he : (!PyData.eqv d1 d2 : Bool) = dd := by rfl) : PDT 𝓜 X ε (.Compare a [.NotEq] [b] pos) (IsB dd) := pdt_to (pdt_neD' hu s1 s2 ha hb) he
theorem o_inT {K : PySem.W.Frag} {n : Int} {ns : List Int} : O2 K (rIn K false) (Is (.int n)) (Is (.tuple (ns.map PyData.int))) (Is (.bool (decide (n ∈ ns)))) := fun md M H x y _ _ Q i _ _ p1 p2 x1 y1 q => by
  cases p1; cases p2
  obtain ⟨p, xs, rfl, hq, ha⟩ := dp_tup y1
  obtain rfl := dpa_ints ha
  rw [dp_int x1]
  refine ⟨p, _, rfl, .inr (sqt_same hid_same hq), rfl, flat_ints ns, ?_⟩
  rw [inV_ints]
  exact q _ H _ rfl Rel.refl i (.bl _)
theorem pdt_inT' {n : Int} {ns : List Int} (hm : behindInMarks .In b = false) (ha : PD 𝓜 X ε a (Is (.int n))) (hb : PD 𝓜 X ε b (Is (.tuple (ns.map PyData.int)))) : PDT 𝓜 X ε (.Compare a [.In] [b] pos) (IsB (decide (n ∈ ns))) :=
  pdt_cmpV op_in_seq o_inT ha hb hm
theorem pdt_inT {dd : Bool} {n : Int} {ns : List Int} (hm : behindInMarks .In b = false) (ha : PD 𝓜 X ε a (Is (.int n))) (hb : PD 𝓜 X ε b (Is (.tuple (ns.map PyData.int)))) (he : (decide (n ∈ ns) : Bool) = dd := by rfl) : PDT 𝓜 X ε (.Compare a [.In] [b] pos) (IsB dd) := pdt_to (pdt_inT' hm ha hb) he
/-- tests joined -/
abbrev PDW (𝓜 : Md → Prop) (X : Cx) (ε : List Ent) (e : Expr) (P : Bool → Prop) : Prop := PW X e (tDT 𝓜 X.K ε P)
theorem pdw_to {x y : Bool} (h : PDW 𝓜 X ε e (IsB x)) (k : x = y) : PDW 𝓜 X ε e (IsB y) := k ▸ h
theorem pw_mono {t t' : TT} (h : PW X e t) (k : ∀ σ H Q, t' σ H Q → t σ H Q) : PW X e t' := ⟨fun wh pins s σ H Q I q => h.run wh pins s σ H Q I (k σ H Q q)⟩
variable {T U W : Bool → Prop} {rest : List Expr}
theorem pdw_and1 (h : PDT 𝓜 X ε a T) : PDW 𝓜 X ε (.BoolOp .And [a] pos) T := pw_and1 h
theorem pdw_or1 (h : PDT 𝓜 X ε a T) : PDW 𝓜 X ε (.BoolOp .Or [a] pos) T := pw_or1 h
/-- the second part is read only if the first one is true -/
theorem pdw_and (ha : PDT 𝓜 X ε a T) (hb : T true → PDW 𝓜 X ε (.BoolOp .And (b :: rest) pos) U) (k1 : T false → W false) (k2 : ∀ x, T true → U x → W x) : PDW 𝓜 X ε (.BoolOp .And (a :: b :: rest) pos) W := by
  by_cases ht : T true
  · refine pw_mono (pw_and ha (hb ht)) fun σ H Q ⟨md, Mo, C, M, F, m, o, q⟩ => ⟨md, Mo, C, M, F, m, o, fun x H1 p r i => ?_⟩
    cases x with
    | false => exact iteF (q false H1 (k1 p) r i)
    | true => exact iteT ⟨md, Mo, C, M, F, m, o.rel r i, fun y H2 p2 r2 i2 => q y H2 (k2 y ht p2) (r.trans r2) i2⟩
  · have hn : PW X (.BoolOp .And (b :: rest) pos) (fun _ _ _ => False) := ⟨fun _ _ _ _ _ _ _ z => z.elim⟩
    refine pw_mono (pw_and ha hn) fun σ H Q ⟨md, Mo, C, M, F, m, o, q⟩ => ⟨md, Mo, C, M, F, m, o, fun x H1 p r i => ?_⟩
    cases x with
    | false => exact iteF (q false H1 (k1 p) r i)
    | true => exact absurd p ht
theorem pdw_or (ha : PDT 𝓜 X ε a T) (hb : T false → PDW 𝓜 X ε (.BoolOp .Or (b :: rest) pos) U) (k1 : T true → W true) (k2 : ∀ x, T false → U x → W x) : PDW 𝓜 X ε (.BoolOp .Or (a :: b :: rest) pos) W := by
  by_cases ht : T false
  · refine pw_mono (pw_or ha (hb ht)) fun σ H Q ⟨md, Mo, C, M, F, m, o, q⟩ => ⟨md, Mo, C, M, F, m, o, fun x H1 p r i => ?_⟩
    cases x with
    | true => exact iteT (q true H1 (k1 p) r i)
    | false => exact iteF ⟨md, Mo, C, M, F, m, o.rel r i, fun y H2 p2 r2 i2 => q y H2 (k2 y ht p2) (r.trans r2) i2⟩
  · have hn : PW X (.BoolOp .Or (b :: rest) pos) (fun _ _ _ => False) := ⟨fun _ _ _ _ _ _ _ z => z.elim⟩
    refine pw_mono (pw_or ha hn) fun σ H Q ⟨md, Mo, C, M, F, m, o, q⟩ => ⟨md, Mo, C, M, F, m, o, fun x H1 p r i => ?_⟩
    cases x with
    | true => exact iteT (q true H1 (k1 p) r i)
    | false => exact absurd p ht
/-- exact forms: all true | all false | by value -/
theorem pdw_andV' {x y : Bool} (ha : PDT 𝓜 X ε a (IsB x)) (hb : x = true → PDW 𝓜 X ε (.BoolOp .And (b :: rest) pos) (IsB y)) : PDW 𝓜 X ε (.BoolOp .And (a :: b :: rest) pos) (IsB (x && y)) :=
  pdw_and ha (fun h => hb h.symm) (fun h => by cases h; rfl) fun z h h2 => by cases h; cases h2; rfl
theorem pdw_andV {dd : Bool} {x y : Bool} (ha : PDT 𝓜 X ε a (IsB x)) (hb : x = true → PDW 𝓜 X ε (.BoolOp .And (b :: rest) pos) (IsB y)) (he : (x && y : Bool) = dd := by rfl) : PDW 𝓜 X ε (.BoolOp .And (a :: b :: rest) pos) (IsB dd) := pdw_to (pdw_andV' ha hb) he
theorem pdw_orV' {x y : Bool} (ha : PDT 𝓜 X ε a (IsB x)) (hb : x = false → PDW 𝓜 X ε (.BoolOp .Or (b :: rest) pos) (IsB y)) : PDW 𝓜 X ε (.BoolOp .Or (a :: b :: rest) pos) (IsB (x || y)) :=
  pdw_or ha (fun h => hb h.symm) (fun h => by cases h; rfl) fun z h h2 => by cases h; cases h2; rfl
theorem pdw_orV {dd : Bool} {x y : Bool} (ha : PDT 𝓜 X ε a (IsB x)) (hb : x = false → PDW 𝓜 X ε (.BoolOp .Or (b :: rest) pos) (IsB y)) (he : (x || y : Bool) = dd := by rfl) : PDW 𝓜 X ε (.BoolOp .Or (a :: b :: rest) pos) (IsB dd) := pdw_to (pdw_orV' ha hb) he
theorem pdt_w (h : PDW 𝓜 X ε e T) : PDT 𝓜 X ε e T := h.pt
theorem pdt_not' {x : Bool} (ha : PDT 𝓜 X ε a (IsB x)) : PDT 𝓜 X ε (.UnaryOp .Not a pos) (IsB (!x)) :=
  pt_mono (pt_not ha) fun σ H Q ⟨md, Mo, C, M, F, m, o, q⟩ => ⟨md, Mo, C, M, F, m, o, fun y H1 p r i => q (!y) H1 (by cases p; rfl) r i⟩
theorem pdt_not {dd : Bool} {x : Bool} (ha : PDT 𝓜 X ε a (IsB x)) (he : (!x : Bool) = dd := by rfl) : PDT 𝓜 X ε (.UnaryOp .Not a pos) (IsB dd) := pdt_to (pdt_not' ha) he
theorem pdt_notT (ha : PDT 𝓜 X ε a T) : PDT 𝓜 X ε (.UnaryOp .Not a pos) (fun y => T (!y)) :=
  pt_mono (pt_not ha) fun σ H Q ⟨md, Mo, C, M, F, m, o, q⟩ => ⟨md, Mo, C, M, F, m, o, fun y H1 p r i => q (!y) H1 (by show T (!!y); rw [Bool.not_not]; exact p) r i⟩
/-- as values -/
theorem pd_one {op : BoolOp} (h : PD 𝓜 X ε a P) : PD 𝓜 X ε (.BoolOp op [a] pos) P := pe_one h
theorem pd_andV {x : Bool} {d : PyData} (ha : PD 𝓜 X ε a (Is (.bool x))) (hb : x = true → PD 𝓜 X ε (.BoolOp .And (b :: rest) pos) (Is d)) (hf : x = false → d = .bool false) : PD 𝓜 X ε (.BoolOp .And (a :: b :: rest) pos) (Is d) := by
  cases x with
  | true =>
    exact pd_pe (pe_and ha (hb rfl)) fun md Mo C M F H σ Q m o q => td_then md Mo C M F m o fun v H1 d p r o1 z => by
      cases p
      exact ⟨true, dp_bool z, iteT ⟨md, Mo, C, M, F, m, o1, fun y H2 d2 p2 r2 i2 z2 => q y H2 d2 p2 (r.trans r2) i2 z2⟩⟩
  | false =>
    have hn : PE X (.BoolOp .And (b :: rest) pos) (fun _ _ _ => False) := ⟨fun _ _ _ _ _ _ z => z.elim⟩
    exact pd_pe (pe_and ha hn) fun md Mo C M F H σ Q m o q => td_then md Mo C M F m o fun v H1 d p r o1 z => by
      cases p
      exact ⟨false, dp_bool z, iteF (q _ H1 _ (hf rfl).symm r o1.inv (.bl false))⟩
theorem pd_orV {x : Bool} {d : PyData} (ha : PD 𝓜 X ε a (Is (.bool x))) (hb : x = false → PD 𝓜 X ε (.BoolOp .Or (b :: rest) pos) (Is d)) (hf : x = true → d = .bool true) : PD 𝓜 X ε (.BoolOp .Or (a :: b :: rest) pos) (Is d) := by
  cases x with
  | false =>
    exact pd_pe (pe_or ha (hb rfl)) fun md Mo C M F H σ Q m o q => td_then md Mo C M F m o fun v H1 d p r o1 z => by
      cases p
      exact ⟨false, dp_bool z, iteF ⟨md, Mo, C, M, F, m, o1, fun y H2 d2 p2 r2 i2 z2 => q y H2 d2 p2 (r.trans r2) i2 z2⟩⟩
  | true =>
    have hn : PE X (.BoolOp .Or (b :: rest) pos) (fun _ _ _ => False) := ⟨fun _ _ _ _ _ _ z => z.elim⟩
    exact pd_pe (pe_or ha hn) fun md Mo C M F H σ Q m o q => td_then md Mo C M F m o fun v H1 d p r o1 z => by
      cases p
      exact ⟨true, dp_bool z, iteT (q _ H1 _ (hf rfl).symm r o1.inv (.bl true))⟩
theorem pd_notV' {x : Bool} (ha : PD 𝓜 X ε a (Is (.bool x))) : PD 𝓜 X ε (.UnaryOp .Not a pos) (Is (.bool (!x))) :=
  pd_pe (pe_not ha) fun md Mo C M F H σ Q m o q => td_then md Mo C M F m o fun v H1 d p r o1 z => by
    cases p
    exact ⟨x, dp_bool z, q _ H1 _ rfl r o1.inv (.bl _)⟩
theorem pd_notV {dd : PyData} {x : Bool} (ha : PD 𝓜 X ε a (Is (.bool x))) (he : (PyData.bool (!x) : PyData) = dd := by rfl) : PD 𝓜 X ε (.UnaryOp .Not a pos) (Is dd) := pd_to (pd_notV' ha) he
/-- a if t else b -/
theorem pd_if (hc : PDT 𝓜 X ε c T) (ha : T true → PD 𝓜 X ε a P) (hb : T false → PD 𝓜 X ε b P) : PD 𝓜 X ε (.IfExp c a b pos) P := by
  have h1 : PE X a (fun σ H Q => ∃ _ : T true, tD 𝓜 X.K ε P σ H Q) := pe_fam fun h => ha h
  have h2 : PE X b (fun σ H Q => ∃ _ : T false, tD 𝓜 X.K ε P σ H Q) := pe_fam fun h => hb h
  refine pd_pe (pe_ifExp hc h1 h2) fun md Mo C M F H σ Q m o q => ⟨md, Mo, C, M, F, m, o, fun x H1 p r i => ?_⟩
  have w : tD 𝓜 X.K ε P σ H1 Q := ⟨md, Mo, C, M, F, m, o.rel r i, fun y H2 d2 p2 r2 i2 z2 => q y H2 d2 p2 (r.trans r2) i2 z2⟩
  cases x with
  | true => exact iteT ⟨p, w⟩
  | false => exact iteF ⟨p, w⟩
theorem pd_chain_le' {i j k : Int} (ha : PD 𝓜 X ε a (Is (.int i))) (hb : PD 𝓜 X ε b (Is (.int j))) (hc : PD 𝓜 X ε c (Is (.int k))) (hm : lastMarks [.LtE, .LtE] [b, c] = false := by with_unfolding_all rfl) : PD 𝓜 X ε (.Compare a [.LtE, .LtE] [b, c] pos) (Is (.bool (decide (i ≤ j) && decide (j ≤ k)))) :=
  pd_pe (pe_chain op_le op_le ha hb hc hm) fun md Mo C M F H σ Q m o q => td_then md Mo C M F m o fun v H1 d p r o1 z => td_then md Mo C M F m o1 fun v2 H2 d2 p2 r2 o2 z2 => by
    cases p; cases p2
    refine ⟨i, j, dp_int z, dp_int z2, _, rfl, ite2 (fun h => ?_) (fun h => ?_)⟩
    · refine ⟨md, Mo, C, M, F, m, o2, fun v3 H3 d3 p3 r3 i3 z3 => ?_⟩
      cases p3
      have e : (decide (i ≤ j) && decide (j ≤ k)) = decide (j ≤ k) := by rw [h, Bool.true_and]
      rw [e] at q
      exact ⟨j, k, dp_int z2, dp_int z3, q _ H3 _ rfl ((r.trans r2).trans r3) i3 (.bl _)⟩
    · have e : (decide (i ≤ j) && decide (j ≤ k)) = false := by simp only [Bool.not_eq_true] at h; rw [h, Bool.false_and]
      rw [e] at q
      exact q _ H2 _ rfl (r.trans r2) o2.inv (.bl _)
theorem pd_chain_le {dd : PyData} {i j k : Int} (ha : PD 𝓜 X ε a (Is (.int i))) (hb : PD 𝓜 X ε b (Is (.int j))) (hc : PD 𝓜 X ε c (Is (.int k))) (hm : lastMarks [.LtE, .LtE] [b, c] = false := by with_unfolding_all rfl) (he : (PyData.bool (decide (i ≤ j) && decide (j ≤ k)) : PyData) = dd := by rfl) : PD 𝓜 X ε (.Compare a [.LtE, .LtE] [b, c] pos) (Is dd) := pd_to (pd_chain_le' ha hb hc hm) he
theorem pdt_chain_le' {i j k : Int} (ha : PD 𝓜 X ε a (Is (.int i))) (hb : PD 𝓜 X ε b (Is (.int j))) (hc : PD 𝓜 X ε c (Is (.int k))) (hm : lastMarks [.LtE, .LtE] [b, c] = false := by with_unfolding_all rfl) : PDT 𝓜 X ε (.Compare a [.LtE, .LtE] [b, c] pos) (IsB (decide (i ≤ j) && decide (j ≤ k))) :=
  pt_mono (pt_chain op_le op_le ha hb hc hm) fun σ H Q ⟨md, Mo, C, M, F, m, o, q⟩ => td_then md Mo C M F m o fun v H1 d p r o1 z => td_then md Mo C M F m o1 fun v2 H2 d2 p2 r2 o2 z2 => by
    cases p; cases p2
    refine ⟨i, j, dp_int z, dp_int z2, _, rfl, ite2 (fun h => ?_) (fun h => ?_)⟩
    · refine ⟨md, Mo, C, M, F, m, o2, fun v3 H3 d3 p3 r3 i3 z3 => ?_⟩
      cases p3
      have e : (decide (i ≤ j) && decide (j ≤ k)) = decide (j ≤ k) := by rw [h, Bool.true_and]
      rw [e] at q
      exact ⟨j, k, dp_int z2, dp_int z3, _, rfl, q _ H3 rfl ((r.trans r2).trans r3) i3⟩
    · have e : (decide (i ≤ j) && decide (j ≤ k)) = false := by simp only [Bool.not_eq_true] at h; rw [h, Bool.false_and]
      rw [e] at q
      exact ⟨false, rfl, q _ H2 rfl (r.trans r2) o2.inv⟩
theorem pdt_chain_le {dd : Bool} {i j k : Int} (ha : PD 𝓜 X ε a (Is (.int i))) (hb : PD 𝓜 X ε b (Is (.int j))) (hc : PD 𝓜 X ε c (Is (.int k))) (hm : lastMarks [.LtE, .LtE] [b, c] = false := by with_unfolding_all rfl) (he : (decide (i ≤ j) && decide (j ≤ k) : Bool) = dd := by rfl) : PDT 𝓜 X ε (.Compare a [.LtE, .LtE] [b, c] pos) (IsB dd) := pdt_to (pdt_chain_le' ha hb hc hm) he

/-! subscripts -/
theorem atI_dpa {K : PySem.W.Frag} {H : Hp} {vs : List V} {ds : List PyData} {i : Int} {d : PyData} (h : DpAll K H vs ds) (e : atI ds i = some d) : ∃ v, atI vs i = some v ∧ Dp K H v d := by
  unfold atI at e ⊢
  rw [dpa_len h]
  cases q : ixN ds.length i with
  | none => rw [q] at e; cases e
  | some j =>
    rw [q] at e
    exact dpa_get h e
theorem pd_ixT {ds : List PyData} {i : Int} {d : PyData} (h : atI ds i = some d) (ha : PD 𝓜 X ε a (Is (.tuple ds))) (hb : PD 𝓜 X ε b (Is (.int i))) (hs : PlainIx b := by exact fun _ _ => rfl) : PD 𝓜 X ε (.Subscript a b pos) (Is d) :=
  pd_ix ix_tup (fun md M H x y _ _ Q n _ _ p1 p2 x1 y1 q => by
    cases p1; cases p2
    obtain ⟨p, xs, rfl, hq, ha⟩ := dp_tup x1
    obtain ⟨v, hv, z⟩ := atI_dpa ha h
    exact ⟨p, xs, i, v, rfl, dp_int y1, sqt_same hid_same hq, hv, q v H d rfl Rel.refl n z⟩) ha hb hs
theorem pd_ixL {ds : List PyData} {i : Int} {d : PyData} (h : atI ds i = some d) (ha : PD 𝓜 X ε a (Is (.list ds))) (hb : PD 𝓜 X ε b (Is (.int i))) (hs : PlainIx b := by exact fun _ _ => rfl) : PD 𝓜 X ε (.Subscript a b pos) (Is d) :=
  pd_ix ix_list (fun md M H x y _ _ Q n _ _ p1 p2 x1 y1 q => by
    cases p1; cases p2
    obtain ⟨p, xs, rfl, hq, ha⟩ := dp_lst x1
    obtain ⟨v, hv, z⟩ := atI_dpa ha h
    exact ⟨p, xs, i, v, rfl, dp_int y1, (hid_same).seq hq, hv, q v H d rfl Rel.refl n z⟩) ha hb hs
/-- written places -/
theorem at0 {α : Type} {x : α} {l : List α} : atI (x :: l) 0 = some x := by
  unfold atI ixN
  rw [if_pos (Int.le_refl 0), if_pos (by simp only [List.length_cons]; omega)]; rfl
theorem atN {α : Type} {l : List α} {n : Nat} {x : α} (h : l[n]? = some x) : atI l (n : Int) = some x := atI_nat h
theorem at1 {α : Type} {x y : α} {l : List α} : atI (x :: y :: l) 1 = some y := atI_nat (j := 1) rfl
theorem at2 {α : Type} {x y z : α} {l : List α} : atI (x :: y :: z :: l) 2 = some z := atI_nat (j := 2) rfl
end
end DL
end

section
set_option Elab.async false
set_option linter.all false
set_option maxRecDepth 100000
set_option maxHeartbeats 2000000
/-! The data layer: displays, calls, statements. -/
namespace DL
open PySem PySem.Spec PyProof.Rows L2

/-! ### several values -/
abbrev PL' := List PyData → Prop
def IsL (l : List PyData) : PL' := fun x => x = l
def tDL (𝓜 : Md → Prop) (K : PySem.W.Frag) (ε : List Ent) (P : PL') : TA := fun σ H Q => ∃ md Mo C M F, 𝓜 md ∧ Ok K md Mo C M F H σ ε ∧ ∀ vs H' ds, P ds → Rel md H H' → md.inv H' → DpAll K (hid H' M) vs ds → Q vs H'
abbrev PDL (𝓜 : Md → Prop) (X : Cx) (ε : List Ent) (es : List Expr) (P : PL') : Prop := PA X es (tDL 𝓜 X.K ε P)
section
variable {𝓜 : Md → Prop} {X : Cx} {ε : List Ent} {a b c e : Expr} {es : List Expr} {P P1 P2 P3 : PP} {pos : Pos} {L : PL'}
theorem pdl_nil : PDL 𝓜 X ε [] (IsL []) := pa_mono pa_nil fun σ H Q ⟨md, Mo, C, M, F, m, o, q⟩ => q [] H [] rfl Rel.refl o.inv .nil
theorem pdl_consP {L' : PL'} (ha : PD 𝓜 X ε a P) (hr : PDL 𝓜 X ε es L) (k : ∀ d ds, P d → L ds → L' (d :: ds)) (hs : starEach (a :: es) X.env = (false, eval a X.env) :: starEach es X.env := by rfl) : PDL 𝓜 X ε (a :: es) L' :=
  pa_mono (pa_cons ha hr hs) fun σ H Q ⟨md, Mo, C, M, F, m, o, q⟩ => td_then md Mo C M F m o fun v H1 d p r o1 x => ⟨md, Mo, C, M, F, m, o1, fun vs H2 ds p2 r2 i2 x2 =>
    q (v :: vs) H2 (d :: ds) (k d ds p p2) (r.trans r2) i2 (.cons (dp_same (o1.keep r2) x) x2)⟩
theorem pdl_cons {d : PyData} {ds : List PyData} (ha : PD 𝓜 X ε a (Is d)) (hr : PDL 𝓜 X ε es (IsL ds)) (hs : starEach (a :: es) X.env = (false, eval a X.env) :: starEach es X.env := by rfl) : PDL 𝓜 X ε (a :: es) (IsL (d :: ds)) :=
  pdl_consP ha hr (fun _ _ h1 h2 => by cases h1; cases h2; rfl) hs
theorem pdl_imp {L' : PL'} (h : PDL 𝓜 X ε es L) (k : ∀ ds, L ds → L' ds) : PDL 𝓜 X ε es L' := pa_mono h fun σ H Q ⟨md, Mo, C, M, F, m, o, q⟩ => ⟨md, Mo, C, M, F, m, o, fun v H' d p r i x => q v H' d (k d p) r i x⟩
/-- as arguments of a def -/
theorem pda_nil : PDA 𝓜 X ε [] (fun l => l = []) := pa_mono pa_nil fun σ H Q ⟨md, Mo, C, M, F, m, o, q⟩ => q [] H [] rfl Rel.refl o.inv .nil
theorem pda_datP {L L' : List Ent → Prop} (ha : PD 𝓜 X ε a P) (hr : PDA 𝓜 X ε es L) (k : ∀ d l, P d → L l → L' (.dat d :: l)) (hs : starEach (a :: es) X.env = (false, eval a X.env) :: starEach es X.env := by rfl) : PDA 𝓜 X ε (a :: es) L' :=
  pa_mono (pa_cons ha hr hs) fun σ H Q ⟨md, Mo, C, M, F, m, o, q⟩ => td_then md Mo C M F m o fun v H1 d p r o1 x => ⟨md, Mo, C, M, F, m, o1, fun vs H2 ds p2 r2 i2 x2 =>
    q (v :: vs) H2 (.dat d :: ds) (k d ds p p2) (r.trans r2) i2 (.cons (.dat (dp_same (o1.keep r2) x)) x2)⟩
theorem pda_dat {d : PyData} {l : List Ent} (ha : PD 𝓜 X ε a (Is d)) (hr : PDA 𝓜 X ε es (fun x => x = l)) (hs : starEach (a :: es) X.env = (false, eval a X.env) :: starEach es X.env := by rfl) : PDA 𝓜 X ε (a :: es) (fun x => x = .dat d :: l) :=
  pda_datP ha hr (fun _ _ h1 h2 => by cases h1; rw [h2]) hs
/-- the mode's own thing as an argument -/
theorem pda_dk (i : Nat) {x : Str} {L : List Ent → Prop} (hr : PDA 𝓜 X ε es L) (h : ε[i]? = some .dk := by rfl) (hN : X.N[i]? = some x := by rfl) (hv : Vis X.env.scope x := by first | exact Or.inl rfl | exact Or.inr (Or.inl rfl) | exact Or.inr (Or.inr rfl))
    (hd : (x == ("__debug__" : Str)) = false := by decide) (hcd : (x == ("__classdict__" : Str)) = false := by decide)
    (hs : starEach (.Name x pos :: es) X.env = (false, eval (.Name x pos) X.env) :: starEach es X.env := by rfl) : PDA 𝓜 X ε (.Name x pos :: es) (fun l => ∃ r, L r ∧ l = .dk :: r) :=
  pa_mono (pa_cons (pv i hN hv hd hcd) hr hs) fun σ H Q ⟨md, Mo, C, M, F, m, o, q⟩ => ⟨md.ref, o.dk i h, md, Mo, C, M, F, m, o, fun vs H2 ds p2 r2 i2 x2 => q _ H2 _ ⟨ds, p2, rfl⟩ r2 i2 (.cons .dk x2)⟩
/-! displays -/
theorem pd_tupP (h : PDL 𝓜 X ε es L) {k : Nat} (hk : ∀ l, L l → l.length ≤ 100000 ∧ P (.tuple l)) : PD 𝓜 X ε (.Tuple es k pos) P :=
  pd_pe (pe_tup h) fun md Mo C M F H σ Q m o q => ⟨md, Mo, C, M, F, m, o, fun vs H1 ds p r i x => by
    obtain ⟨hl, hp⟩ := hk ds p
    have hd := (o.rel r i).dom
    refine ⟨by rw [dpa_len x, sizeLine_eq]; omega, fun a na => q (.ref a) _ (.tuple ds) hp (r.trans (new_same na)) (md.stab _ _ i (same_new na)) (new_tup na hd x)⟩⟩
theorem pd_tup' {l : List PyData} {k : Nat} (h : PDL 𝓜 X ε es (IsL l)) (hl : l.length ≤ 100000 := by exact Nat.le_of_ble_eq_true rfl) : PD 𝓜 X ε (.Tuple es k pos) (Is (.tuple l)) :=
  pd_tupP h fun _ e => by cases e; exact ⟨hl, rfl⟩
theorem pd_tup {dd : PyData} {l : List PyData} {k : Nat} (h : PDL 𝓜 X ε es (IsL l)) (hl : l.length ≤ 100000 := by exact Nat.le_of_ble_eq_true rfl) (he : (PyData.tuple l : PyData) = dd := by rfl) : PD 𝓜 X ε (.Tuple es k pos) (Is dd) := pd_to (pd_tup' h hl) he
theorem pd_lstP (h : PDL 𝓜 X ε es L) (hk : ∀ l, L l → l.length ≤ 100000 ∧ P (.list l)) : PD 𝓜 X ε (.List es pos) P :=
  pd_pe (pe_lst h) fun md Mo C M F H σ Q m o q => ⟨md, Mo, C, M, F, m, o, fun vs H1 ds p r i x => by
    obtain ⟨hl, hp⟩ := hk ds p
    have hd := (o.rel r i).dom
    refine ⟨by rw [dpa_len x, sizeLine_eq]; omega, fun a na => q (.ref a) _ (.list ds) hp (r.trans (new_same na)) (md.stab _ _ i (same_new na)) (new_lst na hd x)⟩⟩
theorem pd_lst' {l : List PyData} (h : PDL 𝓜 X ε es (IsL l)) (hl : l.length ≤ 100000 := by exact Nat.le_of_ble_eq_true rfl) : PD 𝓜 X ε (.List es pos) (Is (.list l)) :=
  pd_lstP h fun _ e => by cases e; exact ⟨hl, rfl⟩
theorem pd_lst {dd : PyData} {l : List PyData} (h : PDL 𝓜 X ε es (IsL l)) (hl : l.length ≤ 100000 := by exact Nat.le_of_ble_eq_true rfl) (he : (PyData.list l : PyData) = dd := by rfl) : PD 𝓜 X ε (.List es pos) (Is dd) := pd_to (pd_lst' h hl) he

/-! ### calls of builtins -/
def OL (K : PySem.W.Frag) (r : List V → Hp → VK → Prop) (L : PL') (P : PP) : Prop := ∀ (md : Md) (M : Hd) (H : Hp) (xs : List V) (ds : List PyData) (Q : VK), md.inv H → (∀ a, M a = true → H a ≠ none) → (∀ a, md.m0 a = true → M a = true) → L ds → DpAll K (hid H M) xs ds →
  (∀ v H' d, P d → Rel md H H' → md.inv H' → Dp K (hid H' M) v d → Q v H') → r xs H Q
theorem tdl_cb {K : PySem.W.Frag} {r : List V → Hp → VK → Prop} (h : OL K r L P) {σ : L2.St} {H : Hp} {Q : VK} (w : tD 𝓜 K ε P σ H Q) : tCB r (tDL 𝓜 K ε L) σ H Q := by
  obtain ⟨md, Mo, C, M, F, m, o, q⟩ := w
  refine ⟨md, Mo, C, M, F, m, o, fun xs H1 ds p r1 i1 x1 => ?_⟩
  have o1 := o.rel r1 i1
  exact h md M H1 xs ds Q i1 o1.dom o1.m0M p x1 fun v H' d p' r' i' z => q v H' d p' (r1.trans r') i' z
theorem pd_cb {id : String} {x : Str} {p : Pos} {r : List V → Hp → VK → Prop} (hc : CallR X (.builtin id) r) (h : OL X.K r L P) (hg : Gl X x) (hm : X.mg x = none) (hv : bootBuiltins x = some (.builtin id)) (ha : PDL 𝓜 X ε (e :: es) L) (hn : x ≠ "__name__" := by decide) (hdb : (x == ("__debug__" : Str)) = false := by decide)
    (he : starEach (e :: es) X.env = (false, eval e X.env) :: starEach es X.env := by rfl) (hpl : (backTo pos (starEach es X.env)).any (·.1) = false := by rfl) : PD 𝓜 X ε (.Call (.Name x p) (e :: es) [] pos) P :=
  pe_mono (pe_callB hc hg hm hv ha hn hdb he hpl) fun _ _ _ w => tdl_cb h w
theorem pd_ct {T : String} {x : Str} {p : Pos} {r : List V → Hp → VK → Prop} (hc : CallR X (.type T) r) (h : OL X.K r L P) (hg : Gl X x) (hm : X.mg x = none) (hv : bootBuiltins x = some (.type T)) (ha : PDL 𝓜 X ε (e :: es) L) (hn : x ≠ "__name__" := by decide) (hdb : (x == ("__debug__" : Str)) = false := by decide)
    (he : starEach (e :: es) X.env = (false, eval e X.env) :: starEach es X.env := by rfl) (hpl : (backTo pos (starEach es X.env)).any (·.1) = false := by rfl) : PD 𝓜 X ε (.Call (.Name x p) (e :: es) [] pos) P :=
  pe_mono (pe_callTy hc hg hm hv ha hn hdb he hpl) fun _ _ _ w => tdl_cb h w
theorem dpa1 {K : PySem.W.Frag} {H : Hp} {xs : List V} {d : PyData} (h : DpAll K H xs [d]) : ∃ v, xs = [v] ∧ Dp K H v d := by
  cases h with | cons h t => cases t; exact ⟨_, rfl, h⟩
theorem dpa2 {K : PySem.W.Frag} {H : Hp} {xs : List V} {d1 d2 : PyData} (h : DpAll K H xs [d1, d2]) : ∃ v w, xs = [v, w] ∧ Dp K H v d1 ∧ Dp K H w d2 := by
  cases h with | cons h t => obtain ⟨w, e, h2⟩ := dpa1 t; subst e; exact ⟨_, _, rfl, h, h2⟩
section
variable {x : Str} {p : Pos}
theorem pd_lenT' {ds : List PyData} (hg : Gl X "len") (hm : X.mg "len" = none) (ha : PD 𝓜 X ε a (Is (.tuple ds))) (hs : starEach [a] X.env = (false, eval a X.env) :: starEach [] X.env := by rfl) (hpl : (backTo pos (starEach [] X.env)).any (·.1) = false := by rfl) : PD 𝓜 X ε (.Call (.Name "len" p) [a] [] pos) (Is (.int ds.length)) :=
  pd_cb call_len_seq (L := IsL [.tuple ds]) (fun md M H xs l Q i dm m0 e z q => by
    cases e
    obtain ⟨v, rfl, z1⟩ := dpa1 z
    obtain ⟨a, ys, rfl, hq, hy⟩ := dp_tup z1
    refine ⟨a, ys, rfl, .inr (sqt_same hid_same hq), ?_⟩
    rw [dpa_len hy]
    exact q _ H _ rfl Rel.refl i (.int _)) hg hm PySem.boot_len (pdl_cons ha pdl_nil hs) (by decide) (by decide) hs hpl
theorem pd_lenT {dd : PyData} {ds : List PyData} (hg : Gl X "len") (hm : X.mg "len" = none) (ha : PD 𝓜 X ε a (Is (.tuple ds))) (hs : starEach [a] X.env = (false, eval a X.env) :: starEach [] X.env := by rfl) (hpl : (backTo pos (starEach [] X.env)).any (·.1) = false := by rfl) (he : (PyData.int ds.length : PyData) = dd := by rfl) : PD 𝓜 X ε (.Call (.Name "len" p) [a] [] pos) (Is dd) := pd_to (pd_lenT' hg hm ha hs hpl) he
theorem pd_lenL' {ds : List PyData} (hg : Gl X "len") (hm : X.mg "len" = none) (ha : PD 𝓜 X ε a (Is (.list ds))) (hs : starEach [a] X.env = (false, eval a X.env) :: starEach [] X.env := by rfl) (hpl : (backTo pos (starEach [] X.env)).any (·.1) = false := by rfl) : PD 𝓜 X ε (.Call (.Name "len" p) [a] [] pos) (Is (.int ds.length)) :=
  pd_cb call_len_seq (L := IsL [.list ds]) (fun md M H xs l Q i dm m0 e z q => by
    cases e
    obtain ⟨v, rfl, z1⟩ := dpa1 z
    obtain ⟨a, ys, rfl, hq, hy⟩ := dp_lst z1
    refine ⟨a, ys, rfl, .inl (hid_same.seq hq), ?_⟩
    rw [dpa_len hy]
    exact q _ H _ rfl Rel.refl i (.int _)) hg hm PySem.boot_len (pdl_cons ha pdl_nil hs) (by decide) (by decide) hs hpl
theorem pd_lenL {dd : PyData} {ds : List PyData} (hg : Gl X "len") (hm : X.mg "len" = none) (ha : PD 𝓜 X ε a (Is (.list ds))) (hs : starEach [a] X.env = (false, eval a X.env) :: starEach [] X.env := by rfl) (hpl : (backTo pos (starEach [] X.env)).any (·.1) = false := by rfl) (he : (PyData.int ds.length : PyData) = dd := by rfl) : PD 𝓜 X ε (.Call (.Name "len" p) [a] [] pos) (Is dd) := pd_to (pd_lenL' hg hm ha hs hpl) he
/-- list(t) | list(xs): a new list -/
theorem pd_listT' {ds : List PyData} (hg : Gl X "list") (hm : X.mg "list" = none) (ha : PD 𝓜 X ε a (Is (.tuple ds))) (hs : starEach [a] X.env = (false, eval a X.env) :: starEach [] X.env := by rfl) (hpl : (backTo pos (starEach [] X.env)).any (·.1) = false := by rfl) : PD 𝓜 X ε (.Call (.Name "list" p) [a] [] pos) (Is (.list ds)) :=
  pd_ct call_list_of (L := IsL [.tuple ds]) (fun md M H xs l Q i dm m0 e z q => by
    cases e
    obtain ⟨v, rfl, z1⟩ := dpa1 z
    obtain ⟨a, ys, rfl, hq, hy⟩ := dp_tup z1
    exact ⟨a, ys, rfl, .inr (sqt_same hid_same hq), fun b nb => q (.ref b) _ _ rfl (new_same nb) (md.stab _ _ i (same_new nb)) (new_lst nb dm hy)⟩) hg hm (by decide +kernel) (pdl_cons ha pdl_nil hs) (by decide) (by decide) hs hpl
theorem pd_listT {dd : PyData} {ds : List PyData} (hg : Gl X "list") (hm : X.mg "list" = none) (ha : PD 𝓜 X ε a (Is (.tuple ds))) (hs : starEach [a] X.env = (false, eval a X.env) :: starEach [] X.env := by rfl) (hpl : (backTo pos (starEach [] X.env)).any (·.1) = false := by rfl) (he : (PyData.list ds : PyData) = dd := by rfl) : PD 𝓜 X ε (.Call (.Name "list" p) [a] [] pos) (Is dd) := pd_to (pd_listT' hg hm ha hs hpl) he
theorem pd_listL' {ds : List PyData} (hg : Gl X "list") (hm : X.mg "list" = none) (ha : PD 𝓜 X ε a (Is (.list ds))) (hs : starEach [a] X.env = (false, eval a X.env) :: starEach [] X.env := by rfl) (hpl : (backTo pos (starEach [] X.env)).any (·.1) = false := by rfl) : PD 𝓜 X ε (.Call (.Name "list" p) [a] [] pos) (Is (.list ds)) :=
  pd_ct call_list_of (L := IsL [.list ds]) (fun md M H xs l Q i dm m0 e z q => by
    cases e
    obtain ⟨v, rfl, z1⟩ := dpa1 z
    obtain ⟨a, ys, rfl, hq, hy⟩ := dp_lst z1
    exact ⟨a, ys, rfl, .inl (hid_same.seq hq), fun b nb => q (.ref b) _ _ rfl (new_same nb) (md.stab _ _ i (same_new nb)) (new_lst nb dm hy)⟩) hg hm (by decide +kernel) (pdl_cons ha pdl_nil hs) (by decide) (by decide) hs hpl
theorem pd_listL {dd : PyData} {ds : List PyData} (hg : Gl X "list") (hm : X.mg "list" = none) (ha : PD 𝓜 X ε a (Is (.list ds))) (hs : starEach [a] X.env = (false, eval a X.env) :: starEach [] X.env := by rfl) (hpl : (backTo pos (starEach [] X.env)).any (·.1) = false := by rfl) (he : (PyData.list ds : PyData) = dd := by rfl) : PD 𝓜 X ε (.Call (.Name "list" p) [a] [] pos) (Is dd) := pd_to (pd_listL' hg hm ha hs hpl) he
/-- tuple(xs) of a list; P-form -/
theorem pd_tupleP (hg : Gl X "tuple") (hm : X.mg "tuple" = none) (ha : PD 𝓜 X ε a (fun d => ∃ ds, d = .list ds ∧ P (.tuple ds))) (hs : starEach [a] X.env = (false, eval a X.env) :: starEach [] X.env := by rfl) (hpl : (backTo pos (starEach [] X.env)).any (·.1) = false := by rfl) : PD 𝓜 X ε (.Call (.Name "tuple" p) [a] [] pos) P :=
  pd_ct call_tuple_of (L := fun l => ∃ ds, l = [.list ds] ∧ P (.tuple ds)) (fun md M H xs l Q i dm m0 e z q => by
    obtain ⟨ds, rfl, hp⟩ := e
    obtain ⟨v, rfl, z1⟩ := dpa1 z
    obtain ⟨a, ys, rfl, hq, hy⟩ := dp_lst z1
    exact ⟨a, ys, rfl, .inl ⟨hid_same.seq hq, fun b nb => q (.ref b) _ _ hp (new_same nb) (md.stab _ _ i (same_new nb)) (new_tup nb dm hy)⟩⟩) hg hm (by decide +kernel)
    (pdl_consP ha pdl_nil (fun _ _ ⟨ds, e, hp⟩ h2 => ⟨ds, by rw [e, h2], hp⟩) hs) (by decide) (by decide) hs hpl
theorem pd_tuple' {ds : List PyData} (hg : Gl X "tuple") (hm : X.mg "tuple" = none) (ha : PD 𝓜 X ε a (Is (.list ds))) (hs : starEach [a] X.env = (false, eval a X.env) :: starEach [] X.env := by rfl) (hpl : (backTo pos (starEach [] X.env)).any (·.1) = false := by rfl) : PD 𝓜 X ε (.Call (.Name "tuple" p) [a] [] pos) (Is (.tuple ds)) :=
  pd_tupleP hg hm (pd_imp ha fun _ e => ⟨ds, e, rfl⟩) hs hpl
theorem pd_tuple {dd : PyData} {ds : List PyData} (hg : Gl X "tuple") (hm : X.mg "tuple" = none) (ha : PD 𝓜 X ε a (Is (.list ds))) (hs : starEach [a] X.env = (false, eval a X.env) :: starEach [] X.env := by rfl) (hpl : (backTo pos (starEach [] X.env)).any (·.1) = false := by rfl) (he : (PyData.tuple ds : PyData) = dd := by rfl) : PD 𝓜 X ε (.Call (.Name "tuple" p) [a] [] pos) (Is dd) := pd_to (pd_tuple' hg hm ha hs hpl) he
/-- all([..]) of truth values -/
theorem dpa_bls {K : PySem.W.Frag} {H : Hp} : ∀ {vs : List V} {bs : List Bool}, DpAll K H vs (bs.map PyData.bool) → vs = bs.map V.bl
  | _, [], .nil => rfl
  | _, n :: ns, .cons h t => by rw [dp_bool h, dpa_bls t]; rfl
theorem pd_all {bs : List Bool} (hc : X.calm = true) (hg : Gl X "all") (hm : X.mg "all" = none) (ha : PD 𝓜 X ε a (Is (.list (bs.map PyData.bool)))) (hs : starEach [a] X.env = (false, eval a X.env) :: starEach [] X.env := by rfl) (hpl : (backTo pos (starEach [] X.env)).any (·.1) = false := by rfl) :
    PD 𝓜 X ε (.Call (.Name "all" p) [a] [] pos) (Is (.bool (bs.all id))) :=
  pd_cb (cr_all hc) (L := IsL [.list (bs.map PyData.bool)]) (fun md M H xs l Q i dm m0 e z q => by
    cases e
    obtain ⟨v, rfl, z1⟩ := dpa1 z
    obtain ⟨a, ys, rfl, hq, hy⟩ := dp_lst z1
    obtain rfl := dpa_bls hy
    exact ⟨a, bs, rfl, hid_same.seq hq, q _ H _ rfl Rel.refl i (.bl _)⟩) hg hm (by decide +kernel) (pdl_cons ha pdl_nil hs) (by decide) (by decide) hs hpl
/-- sum of a list of whole numbers -/
theorem pd_sumL {ns : List Int} (hc : X.calm = true) (hg : Gl X "sum") (hm : X.mg "sum" = none) (ha : PD 𝓜 X ε a (Is (.list (ns.map PyData.int)))) (hs : starEach [a] X.env = (false, eval a X.env) :: starEach [] X.env := by rfl) (hpl : (backTo pos (starEach [] X.env)).any (·.1) = false := by rfl) :
    PD 𝓜 X ε (.Call (.Name "sum" p) [a] [] pos) (Is (.int ns.sum)) :=
  pd_cb (cr_sum hc) (L := IsL [.list (ns.map PyData.int)]) (fun md M H xs l Q i dm m0 e z q => by
    cases e
    obtain ⟨v, rfl, z1⟩ := dpa1 z
    obtain ⟨a, ys, rfl, hq, hy⟩ := dp_lst z1
    obtain rfl := dpa_ints hy
    exact ⟨a, ns, rfl, hid_same.seq hq, q _ H _ rfl Rel.refl i (.int _)⟩) hg hm (by decide +kernel) (pdl_cons ha pdl_nil hs) (by decide) (by decide) hs hpl
/-- int(..) of a truth value, of a whole number -/
theorem pd_intB' {k : Bool} (hg : Gl X "int") (hm : X.mg "int" = none) (ha : PD 𝓜 X ε a (Is (.bool k))) (hs : starEach [a] X.env = (false, eval a X.env) :: starEach [] X.env := by rfl) (hpl : (backTo pos (starEach [] X.env)).any (·.1) = false := by rfl) : PD 𝓜 X ε (.Call (.Name "int" p) [a] [] pos) (Is (.int (if k then 1 else 0))) :=
  pd_ct call_int1 (L := IsL [.bool k]) (fun md M H xs l Q i dm m0 e z q => by
    cases e
    obtain ⟨v, rfl, z1⟩ := dpa1 z
    rw [dp_bool z1]
    exact .inr ⟨k, rfl, q _ H _ rfl Rel.refl i (.int _)⟩) hg hm (by decide +kernel) (pdl_cons ha pdl_nil hs) (by decide) (by decide) hs hpl
theorem pd_intB {dd : PyData} {k : Bool} (hg : Gl X "int") (hm : X.mg "int" = none) (ha : PD 𝓜 X ε a (Is (.bool k))) (hs : starEach [a] X.env = (false, eval a X.env) :: starEach [] X.env := by rfl) (hpl : (backTo pos (starEach [] X.env)).any (·.1) = false := by rfl) (he : (PyData.int (if k then 1 else 0) : PyData) = dd := by rfl) : PD 𝓜 X ε (.Call (.Name "int" p) [a] [] pos) (Is dd) := pd_to (pd_intB' hg hm ha hs hpl) he
/-- isinstance(t, tuple), isinstance(i, int), isinstance(i, bool) -/
theorem tyx_tup {K : PySem.W.Frag} {H : Hp} {v : V} {ds : List PyData} (h : Dp K H v (.tuple ds)) : TyX K H v (.type "tuple") := by
  obtain ⟨a, ys, rfl, hq, hy⟩ := dp_tup h
  rcases hq with (hq | ⟨o, hq⟩) | ⟨o, its, n, hk, hcl, _⟩
  · exact .base (.tup hq)
  · exact .fTuple hq
  · exact .kTuple hk hcl
end
end
end DL
end

section
set_option Elab.async false
set_option linter.all false
set_option maxRecDepth 100000
set_option maxHeartbeats 2000000
/-! The data layer: own defs called, slices, statements, targets, loops. -/
namespace DL
open PySem PySem.Spec PyProof.Rows L2

/-! ### own defs -/
def spK (𝓜 : Md → Prop) (K : PySem.W.Frag) (pre : List Ent → PP → Prop) : Sp := fun vs H Q _ => ∃ md M es P, 𝓜 md ∧ (∀ a, md.m0 a = true → M a = true) ∧ (∀ a, M a = true → H a ≠ none) ∧ md.inv H ∧ Paired (EntV K md (hid H M)) vs es ∧ pre es P ∧
  ∀ v H' d, P d → Rel md H H' → md.inv H' → Dp K (hid H' M) v d → Q v H'
def CalP (P : Program) (w : World) (K : PySem.W.Frag) (mg : Str → Option Value) (base : Heap) (k : Nat) (x : Str) (sp : Sp) : Prop :=
  ∃ f fd ps, FnOk P w K mg base CX0 k f fd ps sp ∧ mg x = some (.ref f) ∧ PySem.W.keepIn K (.ref f) = true ∧ Binds K fd ps []
theorem CalP.imp {P : Program} {w : World} {K : PySem.W.Frag} {mg : Str → Option Value} {base : Heap} {k : Nat} {x : Str} {sp sp' : Sp} (c : CalP P w K mg base k x sp) (h : ∀ vs H Q E, sp' vs H Q E → sp vs H Q E) : CalP P w K mg base k x sp' := by
  obtain ⟨f, fd, ps, F, r⟩ := c
  exact ⟨f, fd, ps, F.imp h, r⟩
section
variable {𝓜 : Md → Prop} {X : Cx} {ε : List Ent} {a b c e : Expr} {es : List Expr} {P P1 P2 P3 : PP} {pos p : Pos} {L : PL'} {x : Str} {k j : Nat}
theorem paired_dat {K : PySem.W.Frag} {md : Md} {H : Hp} : ∀ {vs : List V} {ds : List PyData}, DpAll K H vs ds → Paired (EntV K md H) vs (ds.map Ent.dat)
  | _, _, .nil => .nil
  | _, _, .cons h t => .cons (.dat h) (paired_dat t)
/-- a def that changes nothing -/
theorem pd_callP {pre : List Ent → PP → Prop} (c : CalP X.prog X.w X.K X.mg X.base k x (spK pureM X.K pre)) (hr : Room j X.A) (hk : k ≤ j) (hg : Gl X x) (ha : PDL 𝓜 X ε (e :: es) L) (hp : ∀ l, L l → ∃ P', pre (l.map Ent.dat) P' ∧ ∀ d, P' d → P d)
    (hdb : (x == ("__debug__" : Str)) = false := by decide) (he : starEach (e :: es) X.env = (false, eval e X.env) :: starEach es X.env := by rfl) (hpl : (backTo pos (starEach es X.env)).any (·.1) = false := by rfl) : PD 𝓜 X ε (.Call (.Name x p) (e :: es) [] pos) P := by
  obtain ⟨f, fd, ps, F, gx, kp, bd⟩ := c
  refine pd_pe (pe_call F (hr.mono hk) hg gx kp bd .nil pass0 ha hdb he hpl) fun md Mo C M F' H σ Q m o q => ⟨md, Mo, C, M, F', m, o, fun vs H1 ds p1 r1 i1 x1 => ?_⟩
  have o1 := o.rel r1 i1
  obtain ⟨P', hpre, hP⟩ := hp ds p1
  refine ⟨pureMd, M, ds.map Ent.dat, P', rfl, (fun a h => nomatch h), o1.dom, trivial, ?_, hpre, fun v H' d pd r i z => q v H' d (hP d pd) (r1.trans (Rel.of r.pure)) (md.stab _ _ i1 r.pure) z⟩
  rw [List.append_nil]
  exact paired_dat x1
/-- exact -/
theorem pd_call {pre : List Ent → PP → Prop} {l : List PyData} (c : CalP X.prog X.w X.K X.mg X.base k x (spK pureM X.K pre)) (hr : Room j X.A) (hk : k ≤ j) (hg : Gl X x) (ha : PDL 𝓜 X ε (e :: es) (IsL l)) (hp : pre (l.map Ent.dat) P)
    (hdb : (x == ("__debug__" : Str)) = false := by decide) (he : starEach (e :: es) X.env = (false, eval e X.env) :: starEach es X.env := by rfl) (hpl : (backTo pos (starEach es X.env)).any (·.1) = false := by rfl) : PD 𝓜 X ε (.Call (.Name x p) (e :: es) [] pos) P :=
  pd_callP c hr hk hg ha (fun _ h => by cases h; exact ⟨P, hp, fun _ h => h⟩) hdb he hpl
/-- a def of the same mode -/
theorem pd_callM {pre : List Ent → PP → Prop} {L : List Ent → Prop} (c : CalP X.prog X.w X.K X.mg X.base k x (spK 𝓜 X.K pre)) (hr : Room j X.A) (hk : k ≤ j) (hg : Gl X x) (ha : PDA 𝓜 X ε (e :: es) L) (hp : ∀ l, L l → ∃ P', pre l P' ∧ ∀ d, P' d → P d)
    (hdb : (x == ("__debug__" : Str)) = false := by decide) (he : starEach (e :: es) X.env = (false, eval e X.env) :: starEach es X.env := by rfl) (hpl : (backTo pos (starEach es X.env)).any (·.1) = false := by rfl) : PD 𝓜 X ε (.Call (.Name x p) (e :: es) [] pos) P := by
  obtain ⟨f, fd, ps, F, gx, kp, bd⟩ := c
  refine pd_pe (pe_call F (hr.mono hk) hg gx kp bd .nil pass0 ha hdb he hpl) fun md Mo C M F' H σ Q m o q => ⟨md, Mo, C, M, F', m, o, fun vs H1 es' p1 r1 i1 x1 => ?_⟩
  have o1 := o.rel r1 i1
  obtain ⟨P', hpre, hP⟩ := hp es' p1
  refine ⟨md, M, es', P', m, o1.m0M, o1.dom, i1, ?_, hpre, fun v H' d pd r i z => q v H' d (hP d pd) (r1.trans r) i z⟩
  rw [List.append_nil]
  exact x1

/-! ### slices of tuples -/
def cutD (ds : List PyData) (lo hi : Option Int) : List PyData := (ds.drop (HT.sIx ds.length 0 lo)).take (HT.sIx ds.length ds.length hi - HT.sIx ds.length 0 lo)
theorem dpa_cut {K : PySem.W.Frag} {H : Hp} {vs : List V} {ds : List PyData} (h : DpAll K H vs ds) (lo hi : Option Int) : DpAll K H (cutV vs lo hi) (cutD ds lo hi) := by
  unfold cutV cutD
  rw [dpa_len h]
  exact dpa_take _ (dpa_drop _ h)
theorem cutD_to {ds : List PyData} (n : Nat) : cutD ds none (some (n : Int)) = ds.take n := by
  unfold cutD
  rw [HT.sIx_none, HT.sIx_nat, Nat.sub_zero, List.drop_zero]
  by_cases h : n ≤ ds.length
  · rw [Nat.min_eq_left h]
  · rw [Nat.min_eq_right (by omega), List.take_length, List.take_of_length_le (by omega)]
theorem cutD_last {ds : List PyData} (h : ds ≠ []) : cutD ds none (some (-1)) = ds.dropLast := by
  unfold cutD
  rw [HT.sIx_none, Nat.sub_zero, List.drop_zero, List.dropLast_eq_take]
  have h0 : 0 < ds.length := List.length_pos_iff.mpr h
  have : HT.sIx ds.length ds.length (some (-1)) = ds.length - 1 := by
    show (if (-1 : Int) < 0 then ((-1 : Int) + (ds.length : Int)).toNat else min (-1 : Int).toNat ds.length) = ds.length - 1
    rw [if_pos (by decide)]
    omega
  rw [this]
theorem cut_whole {α : Type} {xs : List α} {lo hi : Option Int} (h : HT.sIx xs.length 0 lo = 0 ∧ HT.sIx xs.length xs.length hi = xs.length) : (xs.drop (HT.sIx xs.length 0 lo)).take (HT.sIx xs.length xs.length hi - HT.sIx xs.length 0 lo) = xs := by
  rw [h.1, h.2, Nat.sub_zero, List.drop_zero, List.take_length]
theorem pd_slTo' {p2 : Pos} {ds : List PyData} {i : Int} (ha : PD 𝓜 X ε a (Is (.tuple ds))) (hb : PD 𝓜 X ε b (Is (.int i))) : PD 𝓜 X ε (.Subscript a (.Slice none (some b) none p2) pos) (Is (.tuple (cutD ds none (some i)))) :=
  pd_pe (pe_slice sl_tupA ha po_none (po_some hb)) fun md Mo C M F H σ Q m o q => td_then md Mo C M F m o fun v H1 d p r o1 x1 => td_then md Mo C M F m o1 fun v2 H2 d2 p2 r2 o2 x2 => by
    cases p; cases p2
    refine ⟨i, dp_int x2, ?_⟩
    obtain ⟨t, xs, rfl, hq, ha⟩ := dp_tup (dp_same (o1.keep r2) x1)
    have z := dpa_cut ha none (some i)
    refine ⟨t, xs, rfl, sqt_same hid_same hq, fun hw => ?_, fun _ n nn => q (.ref n) _ _ rfl ((r.trans r2).trans (new_same nn)) (md.stab _ _ o2.inv (same_new nn)) (new_tup nn o2.dom z)⟩
    have e : cutV xs none (some i) = xs := cut_whole hw
    rw [e] at z
    exact q (.ref t) H2 _ rfl (r.trans r2) o2.inv (.tup hq z)
theorem pd_slTo {dd : PyData} {p2 : Pos} {ds : List PyData} {i : Int} (ha : PD 𝓜 X ε a (Is (.tuple ds))) (hb : PD 𝓜 X ε b (Is (.int i))) (he : (PyData.tuple (cutD ds none (some i)) : PyData) = dd := by rfl) : PD 𝓜 X ε (.Subscript a (.Slice none (some b) none p2) pos) (Is dd) := pd_to (pd_slTo' ha hb) he
end

/-! ### blocks -/
def tS (𝓜 : Md → Prop) (K : PySem.W.Frag) (ε : List Ent) (N : List Ent → Prop) (R : PP) : TS := fun D σ H => ∃ md Mo C M F, 𝓜 md ∧ Ok K md Mo C M F H σ ε ∧
  (∀ σ' H' C' M' ε', N ε' → Ok K md Mo C' M' F H' σ' ε' → D.nx σ' H') ∧
  (∀ v H' d, R d → Same F H' → md.inv H' → Dp K (hid H' Mo) v d → D.rt v H')
abbrev SD (𝓜 : Md → Prop) (X : Cx) (ε : List Ent) (st : Stmt) (N : List Ent → Prop) (R : PP) : Prop := PS X st (tS 𝓜 X.K ε N R)
abbrev BD (𝓜 : Md → Prop) (X : Cx) (ε : List Ent) (st : List Stmt) (N : List Ent → Prop) (R : PP) : Prop := PSs X st (tS 𝓜 X.K ε N R)
section
variable {𝓜 : Md → Prop} {X : Cx} {ε ε' : List Ent} {a b c e : Expr} {es : List Expr} {P P1 P2 P3 R R' : PP} {pos p : Pos} {L : PL'} {x : Str} {k j i : Nat} {st : Stmt} {rest bl bl' : List Stmt} {N N1 : List Ent → Prop}
theorem bd_nil (h : N ε) : BD 𝓜 X ε [] N R := pss_mono pss_nil fun D σ H ⟨md, Mo, C, M, F, m, o, q, _⟩ => q σ H C M ε h o
theorem bd_cons (h1 : SD 𝓜 X ε st N1 R) (h2 : ∀ ε', N1 ε' → BD 𝓜 X ε' rest N R) : BD 𝓜 X ε (st :: rest) N R := by
  have f : PSs X rest (fun D σ H => ∃ i : { ε' // N1 ε' }, tS 𝓜 X.K i.1 N R D σ H) := pss_fam fun i => h2 i.1 i.2
  refine pss_mono (pss_cons h1 f) fun D σ H ⟨md, Mo, C, M, F, m, o, q, qr⟩ => ?_
  exact ⟨md, Mo, C, M, F, m, o, fun σ' H' C' M' ε' n o' => ⟨⟨ε', n⟩, md, Mo, C', M', F, m, o', q, qr⟩, qr⟩
theorem bd_one (h : SD 𝓜 X ε st N R) : BD 𝓜 X ε [st] N R := pss_one h
theorem sd_imp (h : SD 𝓜 X ε st N1 R) (k : ∀ ε', N1 ε' → N ε') : SD 𝓜 X ε st N R := ps_mono h fun D σ H ⟨md, Mo, C, M, F, m, o, q, qr⟩ => ⟨md, Mo, C, M, F, m, o, fun σ' H' C' M' ε' n => q σ' H' C' M' ε' (k ε' n), qr⟩
theorem bd_imp (h : BD 𝓜 X ε bl N1 R) (k : ∀ ε', N1 ε' → N ε') : BD 𝓜 X ε bl N R := pss_mono h fun D σ H ⟨md, Mo, C, M, F, m, o, q, qr⟩ => ⟨md, Mo, C, M, F, m, o, fun σ' H' C' M' ε' n => q σ' H' C' M' ε' (k ε' n), qr⟩
/-- fewer facts known -/
def Le (ε ε' : List Ent) : Prop := ε'.length = ε.length ∧ ∀ (i : Nat) e, ε'[i]? = some e → e = .no ∨ ε[i]? = some e
theorem Le.refl (ε : List Ent) : Le ε ε := ⟨rfl, fun _ _ h => .inr h⟩
theorem Ok.le {K : PySem.W.Frag} {md : Md} {Mo C M : Hd} {F H : Hp} {σ : L2.St} (o : Ok K md Mo C M F H σ ε) (l : Le ε ε') : Ok K md Mo C M F H σ ε' :=
  o.weak (by rw [o.len, l.1]) fun i e h => (l.2 i e h).imp id fun z => ⟨z, rfl⟩
theorem bd_le (l : Le ε ε') (h : BD 𝓜 X ε' bl N R) : BD 𝓜 X ε bl N R := pss_mono h fun D σ H ⟨md, Mo, C, M, F, m, o, q, qr⟩ => ⟨md, Mo, C, M, F, m, o.le l, q, qr⟩
/-- name = e -/
theorem sd_setP (i : Nat) {x : Str} {pos' : Pos} (hN : X.N.Nodup) (hx : Loc X.env.scope x) (he : PD 𝓜 X ε e P) (hi : X.N[i]? = some x := by rfl) (hs : swapsWith e (some (.Name x pos')) pos.line X.env = pure false := by rfl) (hf : X.fn x = true ∨ X.env.scope.names.lookup x = some .local := by first | exact .inl rfl | exact .inr rfl | assumption) :
    SD 𝓜 X ε (.Assign [.Name x pos'] e pos) (fun ε' => ∃ d, P d ∧ ε' = ε.set i (.dat d)) R :=
  ps_mono (ps_set hN hi hx he hs hf) fun D σ H ⟨md, Mo, C, M, F, m, o, q, qr⟩ => td_then md Mo C M F m o fun v H1 d p r o1 z => q _ H1 C M _ ⟨d, p, rfl⟩ (o1.set i z)
theorem bd_set (i : Nat) {x : Str} {pos' : Pos} {d : PyData} (hN : X.N.Nodup) (he : PD 𝓜 X ε e (Is d)) (h2 : BD 𝓜 X (ε.set i (.dat d)) rest N R) (hx : Loc X.env.scope x := by first | exact .inl rfl | exact .inr rfl) (hi : X.N[i]? = some x := by rfl) (hs : swapsWith e (some (.Name x pos')) pos.line X.env = pure false := by rfl)
    (hf : X.fn x = true ∨ X.env.scope.names.lookup x = some .local := by first | exact .inl rfl | exact .inr rfl | assumption) : BD 𝓜 X ε (.Assign [.Name x pos'] e pos :: rest) N R :=
  bd_cons (sd_setP i hN hx he hi hs hf) fun ε' ⟨d', p, e'⟩ => by cases p; subst e'; exact h2
theorem bd_setP (i : Nat) {x : Str} {pos' : Pos} (hN : X.N.Nodup) (he : PD 𝓜 X ε e P) (h2 : ∀ d, P d → BD 𝓜 X (ε.set i (.dat d)) rest N R) (hx : Loc X.env.scope x := by first | exact .inl rfl | exact .inr rfl) (hi : X.N[i]? = some x := by rfl) (hs : swapsWith e (some (.Name x pos')) pos.line X.env = pure false := by rfl)
    (hf : X.fn x = true ∨ X.env.scope.names.lookup x = some .local := by first | exact .inl rfl | exact .inr rfl | assumption) : BD 𝓜 X ε (.Assign [.Name x pos'] e pos :: rest) N R :=
  bd_cons (sd_setP i hN hx he hi hs hf) fun ε' ⟨d', p, e'⟩ => by subst e'; exact h2 d' p
/-- return e -/
theorem sd_ret (he : PD 𝓜 X ε e P) : SD 𝓜 X ε (.Return (some e) pos) N P :=
  ps_mono (ps_ret he) fun D σ H ⟨md, Mo, C, M, F, m, o, q, qr⟩ => ⟨md, Mo, C, M, F, m, o, fun v H1 d p r i z => qr v H1 d p ((o.rel r i).fix) i (dp_same (hid_anti o.oM) z)⟩
theorem bd_ret (he : PD 𝓜 X ε e P) : BD 𝓜 X ε (.Return (some e) pos :: rest) N P := bd_cons (N1 := fun _ => False) (sd_ret he) fun _ h => h.elim
/-- if -/
theorem sd_if {T : Bool → Prop} (hc : PDT 𝓜 X ε c T) (ha : T true → BD 𝓜 X ε bl N R) (hb : T false → BD 𝓜 X ε bl' N R) : SD 𝓜 X ε (.If c bl bl' pos) N R := by
  have h1 : PSs X bl (fun D σ H => ∃ _ : T true, tS 𝓜 X.K ε N R D σ H) := pss_fam fun h => ha h
  have h2 : PSs X bl' (fun D σ H => ∃ _ : T false, tS 𝓜 X.K ε N R D σ H) := pss_fam fun h => hb h
  refine ps_mono (ps_if hc h1 h2) fun D σ H ⟨md, Mo, C, M, F, m, o, q, qr⟩ => ⟨md, Mo, C, M, F, m, o, fun y H1 p r i => ?_⟩
  have w : tS 𝓜 X.K ε N R D σ H1 := ⟨md, Mo, C, M, F, m, o.rel r i, q, qr⟩
  cases y with
  | true => exact iteT ⟨p, w⟩
  | false => exact iteF ⟨p, w⟩
/-- an if whose answer is known, at a block's head -/
theorem bd_ifNo (hc : PDT 𝓜 X ε c (IsB false)) (h : BD 𝓜 X ε rest N R) : BD 𝓜 X ε (.If c bl [] pos :: rest) N R :=
  bd_cons (N1 := fun ε' => ε' = ε) (sd_if hc (fun h => nomatch h) fun _ => bd_nil rfl) fun ε' e => by subst e; exact h
theorem bd_ifYes (hc : PDT 𝓜 X ε c (IsB true)) (h : BD 𝓜 X ε bl (fun _ => False) R) : BD 𝓜 X ε (.If c bl bl' pos :: rest) N R :=
  bd_cons (N1 := fun _ => False) (sd_if hc (fun _ => h) fun h => nomatch h) fun _ h => h.elim
/-- an if that returns where it is true -/
theorem bd_ifRet {T : Bool → Prop} (hc : PDT 𝓜 X ε c T) (h1 : T true → BD 𝓜 X ε bl (fun _ => False) R) (h2 : T false → BD 𝓜 X ε rest N R) : BD 𝓜 X ε (.If c bl [] pos :: rest) N R :=
  bd_cons (N1 := fun ε' => T false ∧ ε' = ε) (sd_if hc (fun h => bd_imp (h1 h) fun _ z => z.elim) fun h => bd_nil ⟨h, rfl⟩) fun ε' ⟨h, e⟩ => by subst e; exact h2 h
theorem bd_retP (k : ∀ d, P d → R d) (he : PD 𝓜 X ε e P) : BD 𝓜 X ε (.Return (some e) pos :: rest) N R := bd_ret (pd_imp he k)

/-! ### targets -/
inductive Tg where
  | nm (i : Nat) | tp (l : List Tg)
mutual
def asg : Tg → PyData → List Ent → Option (List Ent)
  | .nm i, d, ε => some (ε.set i (.dat d))
  | .tp l, .tuple ds, ε => asgs l ds ε
  | .tp _, _, _ => none
def asgs : List Tg → List PyData → List Ent → Option (List Ent)
  | [], [], ε => some ε
  | t :: ts, d :: ds, ε => (asg t d ε).bind (asgs ts ds)
  | _, _, _ => none
end
mutual
def Tg.slots : Tg → List Nat
  | .nm i => [i]
  | .tp l => slotsL l
def slotsL : List Tg → List Nat
  | [] => []
  | t :: ts => t.slots ++ slotsL ts
end
/-- σ' is σ but for these slots -/
def But (vs : List Nat) (σ σ' : L2.St) : Prop := ∀ ws : List Nat, (∀ i ∈ vs, i ∈ ws) → wipe σ' ws = wipe σ ws
theorem wipe_set {σ : L2.St} {i : Nat} {x : Option V} : ∀ {ws : List Nat}, i ∈ ws → wipe (σ.set i x) ws = wipe σ ws
  | [], h => by cases h
  | w :: ws, h => by
    unfold wipe
    by_cases hw : i ∈ ws
    · rw [wipe_set hw]
    · have e : i = w := by
        rcases List.mem_cons.mp h with e | h
        · exact e
        · exact absurd h hw
      subst e
      have key : ∀ (ws : List Nat), wipe (σ.set i x) ws = wipe σ ws ∨ wipe (σ.set i x) ws = (wipe σ ws).set i x := by
        intro ws
        induction ws with
        | nil => exact .inr rfl
        | cons v vs ih =>
          unfold wipe
          rcases ih with e | e
          · left; rw [e]
          · rw [e]
            by_cases hv : v = i
            · subst hv; left; rw [List.set_set]
            · right; rw [List.set_comm _ _ (fun z => hv z.symm)]
      rcases key ws with e | e
      · rw [e]
      · rw [e, List.set_set]
def gT (K : PySem.W.Frag) (t : Tg) : TG := fun v σ H Q => ∃ md Mo C M F ε d ε', Ok K md Mo C M F H σ ε ∧ Dp K (hid H M) v d ∧ asg t d ε = some ε' ∧ ∀ σ', But t.slots σ σ' → Ok K md Mo C M F H σ' ε' → Q σ' H
def gTs (K : PySem.W.Frag) (ts : List Tg) : TGs := fun vs σ H Q => ∃ md Mo C M F ε ds ε', Ok K md Mo C M F H σ ε ∧ DpAll K (hid H M) vs ds ∧ asgs ts ds ε = some ε' ∧ ∀ σ', But (slotsL ts) σ σ' → Ok K md Mo C M F H σ' ε' → Q σ' H
theorem pg_mono {tg : Expr} {t t' : TG} (h : PG X tg t) (k : ∀ v σ H Q, t' v σ H Q → t v σ H Q) : PG X tg t' := ⟨fun pins s σ H v u Q I r q => h.run pins s σ H v u Q I r (k v σ H Q q)⟩
theorem pgs_mono {tg : List Expr} {t t' : TGs} (h : PGs X tg t) (k : ∀ v σ H Q, t' v σ H Q → t v σ H Q) : PGs X tg t' := ⟨fun pins s σ H v u Q I r q => h.run pins s σ H v u Q I r (k v σ H Q q)⟩
abbrev TD (X : Cx) (tg : Expr) (t : Tg) : Prop := PG X tg (gT X.K t)
theorem td_name (i : Nat) {x : Str} (hN : X.N.Nodup) (hx : Loc X.env.scope x := by first | exact .inl rfl | exact .inr rfl) (hi : X.N[i]? = some x := by rfl) (hf : X.fn x = true ∨ X.env.scope.names.lookup x = some .local := by first | exact .inl rfl | exact .inr rfl | assumption) : TD X (.Name x pos) (.nm i) :=
  pg_mono (pg_name hN hi hx hf) fun v σ H Q ⟨md, Mo, C, M, F, ε, d, ε', o, z, e, q⟩ => by
    have e' : ε.set i (.dat d) = ε' := Option.some.inj (by rw [← e]; rfl)
    exact q _ (fun ws h => wipe_set (h i (by simp [Tg.slots]))) (e' ▸ o.set i z)
theorem tds_nil : PGs X [] (gTs X.K []) := pgs_mono pgs_nil fun vs σ H Q ⟨md, Mo, C, M, F, ε, ds, ε', o, z, e, q⟩ => by
  cases z with
  | nil => exact ⟨rfl, q σ (fun _ _ => rfl) (by cases e; exact o)⟩
  | cons _ _ => unfold asgs at e; cases e
theorem tds_cons {tg : Expr} {tgs : List Expr} {t : Tg} {ts : List Tg} (h1 : TD X tg t) (h2 : PGs X tgs (gTs X.K ts)) (hs : (assignEach (tg :: tgs) X.env).map (·.2) = assign tg X.env :: (assignEach tgs X.env).map (·.2) := by rfl) : PGs X (tg :: tgs) (gTs X.K (t :: ts)) :=
  pgs_mono (pgs_cons h1 h2 hs) fun vs σ H Q ⟨md, Mo, C, M, F, ε, ds, ε', o, z, e, q⟩ => by
    match vs, ds, z, e with
    | _, _, .nil, e => unfold asgs at e; cases e
    | v :: vs, d :: ds, .cons z zr, e =>
      have e : (asg t d ε).bind (asgs ts ds) = some ε' := by
        have e2 := e
        unfold asgs at e2
        exact e2
      cases e1 : asg t d ε with
      | none => rw [e1] at e; cases e
      | some ε1 =>
        rw [e1] at e
        refine ⟨v, vs, rfl, md, Mo, C, M, F, ε, d, ε1, o, z, e1, fun σ1 b1 o1 => ?_⟩
        refine ⟨md, Mo, C, M, F, ε1, ds, ε', o1, zr, e, fun σ2 b2 o2 => q σ2 (fun ws h => ?_) o2⟩
        rw [b2 ws fun i hi => h i (by simp only [slotsL, List.mem_append]; exact .inr hi), b1 ws fun i hi => h i (by simp only [slotsL, List.mem_append]; exact .inl hi)]
theorem td_tup {tgs : List Expr} {ts : List Tg} {k n : Nat} (hc : X.calm = true) (h : PGs X tgs (gTs X.K ts)) (hl : ts.length = n := by rfl) (hn : (assignEach tgs X.env).length = n := by rfl) (hst : (assignEach tgs X.env).findIdx? (·.1) = none := by rfl) : TD X (.Tuple tgs k pos) (.tp ts) :=
  pg_mono (pg_tup hc h hn hst) fun v σ H Q ⟨md, Mo, C, M, F, ε, d, ε', o, z, e, q⟩ => by
    cases d with
    | tuple ds =>
      obtain ⟨p, xs, rfl, hq, hx⟩ := dp_tup z
      have e : asgs ts ds ε = some ε' := by
        have e2 := e
        unfold asg at e2
        exact e2
      have hlen : ∀ (ts : List Tg) (ds : List PyData) (ε ε' : List Ent), asgs ts ds ε = some ε' → ds.length = ts.length := by
        intro ts
        induction ts with
        | nil => intro ds ε ε' h; cases ds with | nil => rfl | cons _ _ => unfold asgs at h; cases h
        | cons t ts ih =>
          intro ds ε ε' h
          cases ds with
          | nil => unfold asgs at h; cases h
          | cons d ds =>
            unfold asgs at h
            cases e1 : asg t d ε with
            | none => rw [e1] at h; cases h
            | some ε1 => rw [e1] at h; rw [List.length_cons, List.length_cons, ih ds ε1 ε' h]
      refine ⟨p, xs, rfl, sqt_same hid_same hq, ?_, md, Mo, C, M, F, ε, ds, ε', o, hx, e, fun σ' b o' => q σ' (by simpa [Tg.slots] using b) o'⟩
      rw [dpa_len hx, hlen ts ds ε ε' e, hl]
    | _ => unfold asg at e; cases e
/-- target = e -/
theorem sd_asgP {tg : Expr} {t : Tg} (he : PD 𝓜 X ε e P) (hg : TD X tg t) (ht : ∀ d, P d → ∃ ε', asg t d ε = some ε' ∧ N ε') (hs : swapsWithSole [tg] e pos.line X.env = pure false := by rfl) (hw : swappedStores [tg] e X.env = pure none := by rfl)
    (h1 : (assignEach [tg] X.env).map (·.2) = [assign tg X.env] := by rfl) : SD 𝓜 X ε (.Assign [tg] e pos) N R :=
  ps_mono (ps_asg he hg hs hw h1) fun D σ H ⟨md, Mo, C, M, F, m, o, q, qr⟩ => td_then md Mo C M F m o fun v H1 d p r o1 z => by
    obtain ⟨ε', e, n⟩ := ht d p
    exact ⟨md, Mo, C, M, F, ε, d, ε', o1, z, e, fun σ' _ o' => q σ' H1 C M ε' n o'⟩
theorem bd_asg {tg : Expr} {t : Tg} {d : PyData} (he : PD 𝓜 X ε e (Is d)) (hg : TD X tg t) {ε1 : List Ent} (ht : asg t d ε = some ε1) (h2 : BD 𝓜 X ε1 rest N R) (hs : swapsWithSole [tg] e pos.line X.env = pure false := by rfl) (hw : swappedStores [tg] e X.env = pure none := by rfl)
    (h1 : (assignEach [tg] X.env).map (·.2) = [assign tg X.env] := by rfl) : BD 𝓜 X ε (.Assign [tg] e pos :: rest) N R :=
  bd_cons (N1 := fun ε' => ε' = ε1) (sd_asgP he hg (fun d' p => by cases p; exact ⟨ε1, ht, rfl⟩) hs hw h1) fun ε' e => by subst e; exact h2
/-- a, b = e1, e2 (plain local names) -/
theorem bd_par2 (i j : Nat) {x y : Str} {px py pt : Pos} {kt k2 pt2} (hc : X.calm = true) (hN : X.N.Nodup) (hij : i ≠ j) (ha : PDL 𝓜 X ε [a, b] L) (h2 : ∀ l, L l → ∃ d1 d2, l = [d1, d2] ∧ BD 𝓜 X ((ε.set i (.dat d1)).set j (.dat d2)) rest N R)
    (hi : X.N[i]? = some x := by rfl) (hj : X.N[j]? = some y := by rfl) (hx : X.env.scope.names.lookup x = some .local := by rfl) (hy : X.env.scope.names.lookup y = some .local := by rfl)
    (hw : swappedStores [.Tuple [.Name x px, .Name y py] kt pt] (.Tuple [a, b] k2 pt2) X.env = pure (some [x, y]) := by rfl)
    (hs : swapsWithSole [.Tuple [.Name x px, .Name y py] kt pt] (.Tuple [a, b] k2 pt2) pos.line X.env = pure false := by rfl) : BD 𝓜 X ε (.Assign [.Tuple [.Name x px, .Name y py] kt pt] (.Tuple [a, b] k2 pt2) pos :: rest) N R :=
  bd_cons (N1 := fun ε' => ∃ l d1 d2, L l ∧ l = [d1, d2] ∧ ε' = (ε.set i (.dat d1)).set j (.dat d2)) (ps_mono (ps_par hc hN hi hj hij hx hy ha hw hs) fun D σ H ⟨md, Mo, C, M, F, m, o, q, qr⟩ => ⟨md, Mo, C, M, F, m, o, fun vs H1 ds p r i1 z => by
    obtain ⟨d1, d2, e, _⟩ := h2 ds p
    subst e
    obtain ⟨v, w, rfl, z1, z2⟩ := dpa2 z
    exact ⟨v, w, rfl, q _ H1 C M _ ⟨_, d1, d2, p, rfl, rfl⟩ (((o.rel r i1).set i z1).set j z2)⟩⟩) fun ε' ⟨l, d1, d2, hl, e, e'⟩ => by
    obtain ⟨c1, c2, e2, h⟩ := h2 l hl
    rw [e] at e2
    cases e2
    subst e'
    exact h
end
end DL
end

section
set_option Elab.async false
set_option linter.all false
set_option maxRecDepth 100000
set_option maxHeartbeats 2000000
/-! The data layer: what is walked, loops, lists of one's own, comprehensions, a def by its body. -/
namespace DL
open PySem PySem.Spec PyProof.Rows L2

/-! ### what is walked -/
structure ItD (K : PySem.W.Frag) (J : It) (G : Hp) (xs : List PyData) : Prop where
  at_ : ∀ (H2 : Hp) (M2 : Hd), Same G (hid H2 M2) → (∀ a, M2 a = true → H2 a ≠ none) → ∀ (i : Nat) d, xs[i]? = some d → J.go i H2 ∧ ∀ v H3, J.yld i H2 v H3 → Same H2 H3 ∧ Dp K (hid H3 M2) v d
  stop : ∀ H2, Same G H2 → ∀ i, xs.length = i → J.stop i H2
def tI (𝓜 : Md → Prop) (K : PySem.W.Frag) (ε : List Ent) (P : PL') : TI := fun σ H R => ∃ md Mo C M F, 𝓜 md ∧ Ok K md Mo C M F H σ ε ∧ ∀ J H1 xs, P xs → Rel md H H1 → md.inv H1 → ItD K J (hid H1 M) xs → R J H1
abbrev ID (𝓜 : Md → Prop) (X : Cx) (ε : List Ent) (tg e : Expr) (P : PL') : Prop := PI X tg e (tI 𝓜 X.K ε P)
section
variable {𝓜 : Md → Prop} {X : Cx} {ε ε' : List Ent} {a b c e tg : Expr} {es : List Expr} {P P1 P2 P3 : PP} {pos p : Pos} {L : PL'} {x : Str} {k j : Nat}
theorem pi_mono {w w' : TI} (h : PI X tg e w) (k : ∀ σ H R, w' σ H R → w σ H R) : PI X tg e w' := ⟨fun pins s σ H R I q => h.run pins s σ H R I (k σ H R q)⟩
theorem itd_tup {K : PySem.W.Frag} {G : Hp} {a : Addr} {ws : List V} {ds : List PyData} (hq : SqT K G a ws) (hd : DpAll K G ws ds) : ItD K (Itt K a) G ds where
  at_ := fun H2 M2 s _ i d e => by
    obtain ⟨v, hv, z⟩ := dpa_get hd e
    have hq2 := sqt_same (s.trans hid_same) hq
    refine ⟨⟨ws, v, hq2, hv⟩, fun v' H3 ⟨e3, y⟩ => ?_⟩
    subst e3
    have : v' = v := by
      have := y ws hq2
      rw [hv] at this
      exact (Option.some.inj this).symm
    subst this
    exact ⟨Same.refl _, dp_same s z⟩
  stop := fun H2 s i h0 => have h := Nat.le_of_eq h0; ⟨ws, sqt_same s hq, by rw [dpa_len hd]; exact h⟩
theorem itd_lst {K : PySem.W.Frag} {G : Hp} {a : Addr} {ws : List V} {ds : List PyData} (hq : SqL K G a ws) (hd : DpAll K G ws ds) : ItD K (Itl K a) G ds where
  at_ := fun H2 M2 s _ i d e => by
    obtain ⟨v, hv, z⟩ := dpa_get hd e
    have hq2 := (s.trans hid_same).seq hq
    refine ⟨⟨ws, v, hq2, hv⟩, fun v' H3 ⟨e3, y⟩ => ?_⟩
    subst e3
    have : v' = v := by
      have := y ws hq2
      rw [hv] at this
      exact (Option.some.inj this).symm
    subst this
    exact ⟨Same.refl _, dp_same s z⟩
  stop := fun H2 s i h0 => have h := Nat.le_of_eq h0; ⟨ws, s.seq hq, by rw [dpa_len hd]; exact h⟩
def rng (lo : Int) (n : Nat) : List PyData := (List.range n).map fun (i : Nat) => .int (lo + (i : Int))
theorem rng_get {lo : Int} {n i : Nat} : (rng lo n)[i]? = if i < n then some (.int (lo + (i : Int))) else none := by
  unfold rng
  rw [List.getElem?_map]
  by_cases h : i < n
  · rw [if_pos h, List.getElem?_range h]; rfl
  · rw [if_neg h, List.getElem?_eq_none (by simp; omega)]; rfl
theorem rng_len {lo : Int} {n : Nat} : (rng lo n).length = n := by unfold rng; simp
theorem itd_rng {K : PySem.W.Frag} {G : Hp} {lo : Int} {n : Nat} : ItD K (Itr lo n) G (rng lo n) where
  at_ := fun H2 M2 s _ i d e => by
    rw [rng_get] at e
    by_cases h : i < n
    · rw [if_pos h] at e
      cases e
      refine ⟨h, fun v H3 ⟨e3, y⟩ => ?_⟩
      subst e3 y
      exact ⟨Same.refl _, .int _⟩
    · rw [if_neg h] at e; cases e
  stop := fun H2 s i h0 => have h := Nat.le_of_eq h0; by rw [rng_len] at h; exact h
theorem id_tup (h : PD 𝓜 X ε e (fun d => ∃ ds, d = .tuple ds ∧ L ds)) : ID 𝓜 X ε tg e L :=
  pi_mono (pi_tup h) fun σ H R ⟨md, Mo, C, M, F, m, o, q⟩ => td_then md Mo C M F m o fun v H1 d ⟨ds, e1, p⟩ r o1 z => by
    subst e1
    obtain ⟨a, ws, rfl, hq, hd⟩ := dp_tup z
    exact ⟨a, rfl, ⟨ws, sqt_same hid_same hq⟩, q _ H1 ds p r o1.inv (itd_tup hq hd)⟩
theorem id_list (h : PD 𝓜 X ε e (fun d => ∃ ds, d = .list ds ∧ L ds)) : ID 𝓜 X ε tg e L :=
  pi_mono (pi_list h) fun σ H R ⟨md, Mo, C, M, F, m, o, q⟩ => td_then md Mo C M F m o fun v H1 d ⟨ds, e1, p⟩ r o1 z => by
    subst e1
    obtain ⟨a, ws, rfl, hq, hd⟩ := dp_lst z
    exact ⟨a, rfl, ⟨ws, hid_same.seq hq⟩, q _ H1 ds p r o1.inv (itd_lst hq hd)⟩
theorem id_tupX {ds : List PyData} (h : PD 𝓜 X ε e (Is (.tuple ds))) : ID 𝓜 X ε tg e (IsL ds) := id_tup (pd_imp h fun _ q => ⟨ds, q, rfl⟩)
theorem id_listX {ds : List PyData} (h : PD 𝓜 X ε e (Is (.list ds))) : ID 𝓜 X ε tg e (IsL ds) := id_list (pd_imp h fun _ q => ⟨ds, q, rfl⟩)
theorem id_range1 {n : Int} (hg : Gl X "range") (hm : X.mg "range" = none) (h : PD 𝓜 X ε a (Is (.int n))) (hn : -(2 ^ 62) ≤ n ∧ n < 2 ^ 62) (hs : starEach [a] X.env = [(false, eval a X.env)] := by rfl) : ID 𝓜 X ε tg (.Call (.Name "range" p) [a] [] pos) (IsL (rng 0 n.toNat)) :=
  pi_mono (pi_range1 hg hm (pdl_cons h pdl_nil (by rw [hs]; rfl)) hs) fun σ H R ⟨md, Mo, C, M, F, m, o, q⟩ => ⟨md, Mo, C, M, F, m, o, fun vs H1 ds e r i1 z => by
    cases e
    obtain ⟨v, rfl, z1⟩ := dpa1 z
    exact ⟨n, by rw [dp_int z1], hn.1, hn.2, q _ H1 _ rfl r i1 itd_rng⟩⟩
theorem id_range2 {n lo : Int} (hg : Gl X "range") (hm : X.mg "range" = none) (h1 : PD 𝓜 X ε a (Is (.int lo))) (h : PD 𝓜 X ε b (Is (.int n))) (hl : -(2 ^ 62) ≤ lo ∧ lo < 2 ^ 62) (hn : -(2 ^ 62) ≤ n ∧ n < 2 ^ 62)
    (hs : starEach [a, b] X.env = [(false, eval a X.env), (false, eval b X.env)] := by rfl) (hs2 : starEach [b] X.env = [(false, eval b X.env)] := by rfl) : ID 𝓜 X ε tg (.Call (.Name "range" p) [a, b] [] pos) (IsL (rng lo (n - lo).toNat)) :=
  pi_mono (pi_range2 hg hm (pdl_cons h1 (pdl_cons h pdl_nil (by rw [hs2]; rfl)) (by rw [hs, hs2])) hs hs2) fun σ H R ⟨md, Mo, C, M, F, m, o, q⟩ => ⟨md, Mo, C, M, F, m, o, fun vs H1 ds e r i1 z => by
    cases e
    obtain ⟨v, w, rfl, z1, z2⟩ := dpa2 z
    exact ⟨lo, n, by rw [dp_int z1, dp_int z2], ⟨hl.1, hl.2, hn.1, hn.2⟩, q _ H1 _ rfl r i1 itd_rng⟩⟩
/-- pairs of a place and an item -/
def enumD (ds : List PyData) : List PyData := (List.range ds.length).map fun (i : Nat) => .tuple [.int (i : Nat), ds.getD i .none]
theorem enumD_get {ds : List PyData} {i : Nat} {d : PyData} (h : (enumD ds)[i]? = some d) : ∃ e, ds[i]? = some e ∧ d = .tuple [.int (i : Nat), e] := by
  unfold enumD at h
  rw [List.getElem?_map] at h
  by_cases hi : i < ds.length
  · rw [List.getElem?_range hi] at h
    have h := Option.some.inj h
    exact ⟨ds[i], List.getElem?_eq_getElem hi, by rw [← h]; dsimp only; rw [List.getD_eq_getElem?_getD, List.getElem?_eq_getElem hi] <;> rfl⟩
  · rw [List.getElem?_eq_none (by simp; omega)] at h; cases h
theorem enumD_len {ds : List PyData} : (enumD ds).length = ds.length := by unfold enumD; simp
/-- a new tuple given out at a turn -/
theorem new_tupM {K : PySem.W.Frag} {H : Hp} {M : Hd} {T : Addr} {xs : List V} {ds : List PyData} (nT : H T = none) (dm : ∀ a, M a = true → H a ≠ none) (h : DpAll K (hid H M) xs ds) : Same H (upd H T (.tup xs)) ∧ Dp K (hid (upd H T (.tup xs)) M) (.ref T) (.tuple ds) := ⟨same_new nT, new_tup nT dm h⟩
theorem itd_enum {K : PySem.W.Frag} {G : Hp} {a : Addr} {ws : List V} {ds : List PyData} (hq : SqL K G a ws) (hd : DpAll K G ws ds) : ItD K (Ite K a) G (enumD ds) where
  at_ := fun H2 M2 s dm i d e => by
    obtain ⟨e0, he, rfl⟩ := enumD_get e
    obtain ⟨v, hv, z⟩ := dpa_get hd he
    have hq2 := (s.trans hid_same).seq hq
    refine ⟨⟨ws, v, hq2, hv⟩, fun v' H3 ⟨T, x, e1, nT, e3, y⟩ => ?_⟩
    subst e1 e3
    have : x = v := by
      have := y ws hq2
      rw [hv] at this
      exact (Option.some.inj this).symm
    subst this
    exact new_tupM nT dm (.cons (.int _) (.cons (dp_same s z) .nil))
  stop := fun H2 s i h0 => have h := Nat.le_of_eq h0; ⟨ws, s.seq hq, by rw [dpa_len hd]; rw [enumD_len] at h; exact h⟩
theorem id_enumL {ds : List PyData} {elts : List Expr} {kk : Nat} {tpos : Pos} (hg : Gl X "enumerate") (hm : X.mg "enumerate" = none) (h : PD 𝓜 X ε a (Is (.list ds))) (hs : starEach [a] X.env = [(false, eval a X.env)] := by rfl) : ID 𝓜 X ε (.Tuple elts kk tpos) (.Call (.Name "enumerate" p) [a] [] pos) (IsL (enumD ds)) :=
  pi_mono (pi_enum hg hm (pdl_cons h pdl_nil (by rw [hs]; rfl)) hs) fun σ H R ⟨md, Mo, C, M, F, m, o, q⟩ => ⟨md, Mo, C, M, F, m, o, fun vs H1 l e r i1 z => by
    cases e
    obtain ⟨v, rfl, z1⟩ := dpa1 z
    obtain ⟨a, ws, rfl, hq, hd⟩ := dp_lst z1
    exact ⟨a, ws, rfl, hid_same.seq hq, q _ H1 _ rfl r i1 (itd_enum hq hd)⟩⟩
/-- pairs of items -/
def zipD (ds es : List PyData) : List PyData := List.zipWith (fun d e => .tuple [d, e]) ds es
theorem zipD_get {ds es : List PyData} {i : Nat} {d : PyData} (h : (zipD ds es)[i]? = some d) : ∃ x y, ds[i]? = some x ∧ es[i]? = some y ∧ d = .tuple [x, y] := by
  unfold zipD at h
  rw [List.getElem?_zipWith] at h
  cases hx : ds[i]? with
  | none => rw [hx] at h; cases h
  | some x =>
    cases hy : es[i]? with
    | none => rw [hx, hy] at h; cases h
    | some y => rw [hx, hy] at h; exact ⟨x, y, rfl, rfl, (Option.some.inj h).symm⟩
theorem itd_zip {K : PySem.W.Frag} {G : Hp} {a b : Addr} {ws us : List V} {ds es : List PyData} (hq : SqL K G a ws) (hd : DpAll K G ws ds) (hq' : SqL K G b us) (he : DpAll K G us es) : ItD K (Itz K a b) G (zipD ds es) where
  at_ := fun H2 M2 s dm i d e => by
    obtain ⟨d1, d2, h1, h2, rfl⟩ := zipD_get e
    obtain ⟨v, hv, z⟩ := dpa_get hd h1
    obtain ⟨u, hu, z'⟩ := dpa_get he h2
    have hq2 := (s.trans hid_same).seq hq
    have hq2' := (s.trans hid_same).seq hq'
    refine ⟨⟨ws, us, v, u, hq2, hq2', hv, hu⟩, fun v' H3 ⟨T, x, y, e1, nT, e3, y1, y2⟩ => ?_⟩
    subst e1 e3
    have ex : x = v := by
      have := y1 ws hq2
      rw [hv] at this
      exact (Option.some.inj this).symm
    have ey : y = u := by
      have := y2 us hq2'
      rw [hu] at this
      exact (Option.some.inj this).symm
    subst ex ey
    exact new_tupM nT dm (.cons (dp_same s z) (.cons (dp_same s z') .nil))
  stop := fun H2 s i h0 => have h := Nat.le_of_eq h0; ⟨ws, us, s.seq hq, s.seq hq', by
    unfold zipD at h
    rw [List.length_zipWith] at h
    rw [dpa_len hd, dpa_len he]
    omega⟩
theorem id_zipL {ds es : List PyData} {elts : List Expr} {kk : Nat} {tpos : Pos} (hg : Gl X "zip") (hm : X.mg "zip" = none) (h1 : PD 𝓜 X ε a (Is (.list ds))) (h2 : PD 𝓜 X ε b (Is (.list es)))
    (hs : starEach [a, b] X.env = (false, eval a X.env) :: starEach [b] X.env := by rfl) (hs2 : starEach [b] X.env = (false, eval b X.env) :: starEach [] X.env := by rfl) (hpl : (backTo pos (starEach [b] X.env)).any (·.1) = false := by rfl) : ID 𝓜 X ε (.Tuple elts kk tpos) (.Call (.Name "zip" p) [a, b] [] pos) (IsL (zipD ds es)) :=
  pi_mono (pi_zip hg hm (pdl_cons h1 (pdl_cons h2 pdl_nil hs2) hs) hs hpl) fun σ H R ⟨md, Mo, C, M, F, m, o, q⟩ => ⟨md, Mo, C, M, F, m, o, fun vs H1 l e r i1 z => by
    cases e
    obtain ⟨v, w, rfl, z1, z2⟩ := dpa2 z
    obtain ⟨a, ws, rfl, hq, hd⟩ := dp_lst z1
    obtain ⟨b, us, rfl, hq', hd'⟩ := dp_lst z2
    exact ⟨a, b, ws, us, rfl, hid_same.seq hq, hid_same.seq hq', q _ H1 _ rfl r i1 (itd_zip hq hd hq' hd')⟩⟩
end

/-! ### for -/
section
variable {K : PySem.W.Frag} {md : Md} {Mo C M : Hd} {F F' H H' : Hp} {σ : L2.St} {ε : List Ent}
/-- all that can't change now, fixed for a loop -/
theorem Ok.refix (o : Ok K md Mo C M F H σ ε) : Ok K md Mo C M (hid H C) H σ ε :=
  { o with fix := hid_same, CF := fun a h => by unfold hid; rw [if_pos h] }
theorem Ok.sub (o : Ok K md Mo C M F H σ ε) : Same F (hid H C) := fun a u h => by
  have hc : C a = false := by
    cases c : C a with
    | false => rfl
    | true => rw [o.CF a c] at h; cases h
  rw [hid_off hc]
  exact o.fix a u h
theorem Ok.unfix (o : Ok K md Mo C M F' H σ ε) (s : Same F F') : Ok K md Mo C M F H σ ε :=
  { o with
    fix := s.trans o.fix
    CF := fun a h => by
      cases q : F a with
      | none => rfl
      | some u => rw [← o.CF a h, s a u q] }
end
section
variable {𝓜 : Md → Prop} {X : Cx} {ε : List Ent} {tg iter : Expr} {body : List Stmt} {N : List Ent → Prop} {R : PP} {L : PL'} {pos : Pos}
theorem sd_for {t : Tg} (hp : PassesOwn (model X.prog X.w) X.A X.env X.xe) (hc : X.calm = true) (hi : ID 𝓜 X ε tg iter L) (hg : TD X tg t) (Iv : List PyData → Nat → List Ent → Prop) (h0 : ∀ xs, L xs → Iv xs 0 ε)
    (hb : ∀ xs (i : Nat) d ε1, L xs → xs[i]? = some d → Iv xs i ε1 → ∃ ε2, asg t d ε1 = some ε2 ∧ BD 𝓜 X ε2 body (fun ε3 => ∃ ε4, Le ε3 ε4 ∧ Iv xs (i + 1) ε4) R)
    (hd : ∀ xs ε1, L xs → Iv xs xs.length ε1 → N ε1) (hs : ∀ x, foldedSetIterable iter X.env x = pure x := by intro _; rfl) : SD 𝓜 X ε (.For tg iter body [] pos) N R := by
  have hbody : PSs X body (fun D σ H => ∃ z : { z : List PyData × Nat × PyData × List Ent × List Ent // L z.1 ∧ z.1[z.2.1]? = some z.2.2.1 ∧ Iv z.1 z.2.1 z.2.2.2.1 ∧ asg t z.2.2.1 z.2.2.2.1 = some z.2.2.2.2 },
      tS 𝓜 X.K z.1.2.2.2.2 (fun ε3 => ∃ ε4, Le ε3 ε4 ∧ Iv z.1.1 (z.1.2.1 + 1) ε4) R D σ H) := pss_fam fun ⟨⟨xs, i, d, ε1, ε2⟩, h1, h2, h3, h4⟩ => by
    obtain ⟨ε2', e, b⟩ := hb xs i d ε1 h1 h2 h3
    have h4 : asg t d ε1 = some ε2 := h4
    rw [h4] at e
    cases e
    exact b
  refine ps_mono (ps_for hp hc hi hg hbody hs) fun D σ H ⟨md, Mo, C, M, F, m, o, q, qr⟩ => ?_
  refine ⟨md, Mo, C, M, F, m, o, fun J H1 xs hL r i1 it => ?_⟩
  have o1 := o.rel r i1
  have of := o1.refix
  have sF : Same F (hid H1 C) := o1.sub
  refine ⟨fun i m' σ2 H2 => m' = xs.length - i ∧ i ≤ xs.length ∧ ∃ C2 M2 ε1, Iv xs i ε1 ∧ Ok X.K md Mo C2 M2 (hid H1 C) H2 σ2 ε1, ⟨xs.length, by simp, Nat.zero_le _, C, M, ε, h0 xs hL, of⟩, ?_⟩
  rintro i m' σ2 H2 ⟨rfl, hi, C2, M2, ε1, hv, o2⟩
  have vis : Same (hid H1 M) (hid H2 M2) := fun a u h => by
    obtain ⟨e1, e2⟩ := hid_some h
    have hC : C a = false := by
      cases c : C a with
      | false => rfl
      | true => rw [o1.CM a c] at e1; cases e1
    have hF : hid H1 C a = some u := by rw [hid_off hC]; exact e2
    have hM2 : M2 a = false := by
      cases c : M2 a with
      | false => rfl
      | true =>
        rcases o2.MM a c with z | z
        · rw [o1.oM a z] at e1; cases e1
        · rw [o2.CF a z] at hF; cases hF
    rw [hid_off hM2]
    exact o2.fix a u hF
  by_cases hlt : i < xs.length
  · obtain ⟨g1, g2⟩ := it.at_ H2 M2 vis o2.dom i xs[i] (List.getElem?_eq_getElem hlt)
    obtain ⟨ε2, ha, _⟩ := hb xs i xs[i] ε1 hL (List.getElem?_eq_getElem hlt) hv
    refine .inr ⟨g1, fun σ' H' => ∃ C3 M3 ε4, Iv xs (i + 1) ε4 ∧ Ok X.K md Mo C3 M3 (hid H1 C) H' σ' ε4, fun σ' H' ⟨C3, M3, ε4, h3, o3⟩ => ⟨xs.length - (i + 1), by omega, rfl, hlt, C3, M3, ε4, h3, o3⟩, fun v H3 y => ?_⟩
    obtain ⟨s3, z3⟩ := g2 v H3 y
    have o3 := o2.rel (Rel.of s3) (md.stab _ _ o2.inv s3)
    refine ⟨md, Mo, C2, M2, hid H1 C, ε1, xs[i], ε2, o3, z3, ha, fun σ4 _ o4 => ?_⟩
    refine ⟨⟨⟨xs, i, xs[i], ε1, ε2⟩, hL, List.getElem?_eq_getElem hlt, hv, ha⟩, md, Mo, C2, M2, hid H1 C, m, o4, fun σ' H' C' M' ε3 ⟨ε4, l, h4⟩ o5 => ⟨C', M', ε4, h4, o5.le l⟩, fun v H' d p s i z => qr v H' d p (sF.trans s) i z⟩
  · have e : i = xs.length := by omega
    subst e
    exact .inl ⟨it.stop H2 (vis.trans hid_same) _ rfl, q σ2 H2 C2 M2 ε1 (hd xs ε1 hL hv) (o2.unfix sF)⟩
end

/-! ### lists of one's own -/
def adM (M : Hd) (p : Addr) : Hd := fun a => M a || decide (a = p)
theorem adM_p {M : Hd} {p : Addr} : adM M p p = true := by simp [adM]
theorem adM_ne {M : Hd} {p a : Addr} (h : a ≠ p) : adM M p a = M a := by simp [adM, h]
theorem adM_of {M : Hd} {p a : Addr} (h : M a = true) : adM M p a = true := by simp [adM, h]
theorem adM_or {M : Hd} {p a : Addr} (h : adM M p a = true) : M a = true ∨ a = p := by simpa [adM] using h
section
variable {K : PySem.W.Frag} {md : Md} {Mo C M : Hd} {F H H' : Hp} {σ : L2.St} {ε : List Ent} {p : Addr}
/-- a new address, hidden from now on -/
theorem Ok.add (o : Ok K md Mo C M F H σ ε) (hp : H p = none) (r : Rel md H H') (i : md.inv H') (hp' : H' p ≠ none) : Ok K md Mo (adM C p) (adM M p) F H' σ ε := by
  have o1 := o.rel r i
  have hM : M p = false := by
    cases c : M p with
    | false => rfl
    | true => exact absurd hp (o.dom p c)
  have vis : Same (hid H M) (hid H' (adM M p)) := fun a u h => by
    obtain ⟨e1, e2⟩ := hid_some h
    have hne : a ≠ p := fun z => by subst z; rw [hp] at e2; cases e2
    rw [hid_off (by rw [adM_ne hne]; exact e1)]
    refine r a u ?_ e2
    cases c : md.m0 a with
    | false => rfl
    | true => rw [o.m0M a c] at e1; cases e1
  exact {
    len := o.len
    m0C := fun a h => adM_of (o.m0C a h)
    m0o := o.m0o
    oM := fun a h => adM_of (o.oM a h)
    CM := fun a h => by
      rcases adM_or h with h | h
      · exact adM_of (o.CM a h)
      · subst h; exact adM_p
    MM := fun a h => by
      rcases adM_or h with h | h
      · exact (o.MM a h).imp id adM_of
      · subst h; exact .inr adM_p
    dom := fun a h => by
      rcases adM_or h with h | h
      · exact o1.dom a h
      · subst h; exact hp'
    inv := i
    fix := o1.fix
    CF := fun a h => by
      rcases adM_or h with h | h
      · exact o.CF a h
      · subst h
        cases q : F a with
        | none => rfl
        | some u => have := o.fix a u q; rw [hp] at this; cases this
    out := fun a h h0 => by
      rcases adM_or h with h | h
      · exact o.out a h h0
      · subst h
        cases q : Mo a with
        | false => rfl
        | true => rw [o.oM a q] at hM; cases hM
    dat := fun j d h => by
      obtain ⟨v, e, q⟩ := o.dat j d h
      exact ⟨v, e, dp_same vis q⟩
    dk := o.dk
    lm := fun j ds h => by
      obtain ⟨p', xs, e, hc, h0, hp', q⟩ := o.lm j ds h
      exact ⟨p', xs, e, adM_of hc, h0, r p' _ h0 hp', dpa_same vis q⟩
    sep := o.sep
    tm := fun j a b h => by
      obtain ⟨T, p1, p2, xs, ys, e, hT, hne, ⟨c1, m1, h1, z1⟩, ⟨c2, m2, h2, z2⟩⟩ := o.tm j a b h
      exact ⟨T, p1, p2, xs, ys, e, sqt_same vis hT, hne, ⟨adM_of c1, m1, r p1 _ m1 h1, dpa_same vis z1⟩, ⟨adM_of c2, m2, r p2 _ m2 h2, dpa_same vis z2⟩⟩
    tsep := o.tsep }
/-- an entry that stands apart -/
theorem ent_set {i j : Nat} {e0 e : Ent} (h : (ε.set i e0)[j]? = some e) : (j = i ∧ i < ε.length ∧ e = e0) ∨ (j ≠ i ∧ ε[j]? = some e) := by
  by_cases hj : i = j
  · subst hj
    by_cases hi : i < ε.length
    · rw [List.getElem?_set_self hi] at h; cases h; exact .inl ⟨rfl, hi, rfl⟩
    · rw [List.getElem?_eq_none (by simp; omega)] at h; cases h
  · rw [get_set_ne hj] at h
    exact .inr ⟨fun z => hj z.symm, h⟩
theorem noTm_set {i : Nat} {e : Ent} (h : noTm ε = true) (k : e.isTm = false) : noTm (ε.set i e) = true := by
  refine List.all_eq_true.mpr fun x hx => ?_
  obtain ⟨j, hj⟩ := List.getElem?_of_mem hx
  rcases ent_set hj with ⟨_, _, rfl⟩ | ⟨_, hj⟩
  · rw [k]; rfl
  · exact List.all_eq_true.mp h _ (List.mem_of_getElem? hj)
/-- a name is given a new list of one's own -/
theorem Ok.own (o : Ok K md Mo C M F H σ ε) (i : Nat) (nt : noTm ε = true) {xs : List V} {ds : List PyData} (hp : H p = none) (r : Rel md H H') (iv : md.inv H') (hp' : H' p = some (.lst xs)) (z : DpAll K (hid H' (adM M p)) xs ds) : Ok K md Mo (adM C p) (adM M p) F H' (σ.set i (some (.ref p))) (ε.set i (.lm ds)) := by
  have o1 := o.add hp r iv (by rw [hp']; exact fun z => nomatch z)
  have h0 : md.m0 p = false := by
    cases c : md.m0 p with
    | false => rfl
    | true => exact absurd hp (md.dom H p o.inv c)
  refine { o1 with len := by simp [o1.len], dat := fun j d h => ?_, dk := fun j h => ?_, lm := fun j es h => ?_, sep := fun a b es fs q h1 h2 e1 e2 => ?_, tm := fun j a b h => ?_, tsep := fun a b d1 d2 e h1 h2 h3 => ?_ }
  · rcases ent_set h with ⟨_, _, e⟩ | ⟨hj, h⟩
    · cases e
    · rw [get_set_ne (fun z => hj z.symm)]; exact o1.dat j d h
  · rcases ent_set h with ⟨_, _, e⟩ | ⟨hj, h⟩
    · cases e
    · rw [get_set_ne (fun z => hj z.symm)]; exact o1.dk j h
  · rcases ent_set h with ⟨rfl, hi, e⟩ | ⟨hj, h⟩
    · cases e
      exact ⟨p, xs, List.getElem?_set_self (by rw [o.len]; exact hi), adM_p, h0, hp', z⟩
    · rw [get_set_ne (fun z => hj z.symm)]; exact o1.lm j es h
  · have old : ∀ (c : Nat) gs, c ≠ i → ε[c]? = some (.lm gs) → (σ.set i (some (.ref p)))[c]? = some (some (.ref p)) → False := fun c gs hc hg hs => by
      rw [get_set_ne (fun z => hc z.symm)] at hs
      obtain ⟨p2, ys, e, _, _, hp2, _⟩ := o.lm c gs hg
      rw [e] at hs
      cases hs
      rw [hp] at hp2
      cases hp2
    rcases ent_set h1 with ⟨ra, hi, _⟩ | ⟨ha, h1⟩
    · rcases ent_set h2 with ⟨rb, _, _⟩ | ⟨hb, h2⟩
      · rw [ra, rb]
      · have : (σ.set i (some (V.ref p)))[i]? = some (some (.ref p)) := List.getElem?_set_self (by rw [o.len]; exact hi)
        rw [ra, this] at e1
        cases e1
        exact (old b fs hb h2 e2).elim
    · rcases ent_set h2 with ⟨rb, hi, _⟩ | ⟨hb, h2⟩
      · have : (σ.set i (some (V.ref p)))[i]? = some (some (.ref p)) := List.getElem?_set_self (by rw [o.len]; exact hi)
        rw [rb, this] at e2
        cases e2
        exact (old a es ha h1 e1).elim
      · rw [get_set_ne (fun z => ha z.symm)] at e1
        rw [get_set_ne (fun z => hb z.symm)] at e2
        exact o1.sep a b es fs q h1 h2 e1 e2
  · rcases ent_set h with ⟨_, _, e⟩ | ⟨hj, h⟩
    · cases e
    · exact (noTm_get nt h).elim
  · rcases ent_set h1 with ⟨_, _, e⟩ | ⟨hj, h1⟩
    · cases e
    · exact (noTm_get nt h1).elim
/-- its items change -/
theorem Ok.put (o : Ok K md Mo C M F H σ ε) (i : Nat) {ds es : List PyData} {ys : List V} (h : ε[i]? = some (.lm ds)) (hi : σ[i]? = some (some (.ref p))) (z : DpAll K (hid H M) ys es) : Ok K md Mo C M F (upd H p (.lst ys)) σ (ε.set i (.lm es)) := by
  obtain ⟨p', xs, e, hC, h0, hp, _⟩ := o.lm i ds h
  rw [hi] at e
  cases e
  have hM : M p = true := o.CM p hC
  have vis : Same (hid H M) (hid (upd H p (.lst ys)) M) := fun a u q => by
    obtain ⟨e1, e2⟩ := hid_some q
    have hne : a ≠ p := fun z => by subst z; rw [hM] at e1; cases e1
    rw [hid_off e1, upd_ne hne]
    exact e2
  have hlt : i < ε.length := (List.getElem?_eq_some_iff.mp h).1
  refine { o with len := by simp [o.len], dom := fun a ha => ?_, inv := ?_, fix := fun a u q => ?_, dat := fun j d q => ?_, dk := fun j q => ?_, lm := fun j fs q => ?_, sep := fun a b f1 f2 q h1 h2 e1 e2 => ?_, tm := fun j a b q => ?_, tsep := fun a b d1 d2 e h1 h2 h3 => ?_ }
  · by_cases c : a = p
    · rw [c, upd_same]; exact fun z => nomatch z
    · rw [upd_ne c]; exact o.dom a ha
  · refine md.stab' H _ o.inv fun a u c q => ?_
    rw [upd_ne (fun z => by subst z; rw [h0] at c; cases c)]
    exact q
  · have hne : a ≠ p := fun z => by subst z; rw [o.CF a hC] at q; cases q
    rw [upd_ne hne]
    exact o.fix a u q
  · rcases ent_set q with ⟨_, _, e⟩ | ⟨hj, q⟩
    · cases e
    · obtain ⟨v, e1, w⟩ := o.dat j d q
      exact ⟨v, e1, dp_same vis w⟩
  · rcases ent_set q with ⟨_, _, e⟩ | ⟨hj, q⟩
    · cases e
    · exact o.dk j q
  · rcases ent_set q with ⟨rfl, _, e⟩ | ⟨hj, q⟩
    · cases e
      exact ⟨p, ys, hi, hC, h0, upd_same, dpa_same vis z⟩
    · obtain ⟨p2, xs2, e1, c2, m2, hp2, w⟩ := o.lm j fs q
      have hne : p2 ≠ p := fun z => hj (o.sep j i fs ds p2 q h e1 (by rw [z]; exact hi))
      exact ⟨p2, xs2, e1, c2, m2, by rw [upd_ne hne]; exact hp2, dpa_same vis w⟩
  · have key : ∀ (c : Nat) gs, (ε.set i (.lm es))[c]? = some (.lm gs) → ∃ g, ε[c]? = some (.lm g) := fun c gs hg => by
      rcases ent_set hg with ⟨rfl, _, _⟩ | ⟨_, hg⟩
      · exact ⟨ds, h⟩
      · exact ⟨gs, hg⟩
    obtain ⟨g1, k1⟩ := key a f1 h1
    obtain ⟨g2, k2⟩ := key b f2 h2
    exact o.sep a b g1 g2 q k1 k2 e1 e2
  · rcases ent_set q with ⟨_, _, e⟩ | ⟨hj, q⟩
    · cases e
    · exact absurd (o.tsep j i a b _ q h rfl) hj
  · rcases ent_set h1 with ⟨_, _, e⟩ | ⟨hj, h1⟩
    · cases e
    · exact absurd (o.tsep a i d1 d2 _ h1 h rfl) hj
/-- it changes no more: it is data -/
theorem Ok.freeze (o : Ok K md Mo C M F H σ ε) (i : Nat) {ds : List PyData} (h : ε[i]? = some (.lm ds)) : ∃ C' M', Ok K md Mo C' M' F H σ (ε.set i (.dat (.list ds))) := by
  obtain ⟨p, xs, hi, hC, h0, hp, z⟩ := o.lm i ds h
  have hMo : Mo p = false := o.out p hC h0
  have keep : ∀ (M : Hd) a, (M a && !decide (a = p)) = true → M a = true := fun M a q => by simp only [Bool.and_eq_true] at q; exact q.1
  have rem : ∀ (M : Hd) a, a ≠ p → M a = true → (M a && !decide (a = p)) = true := fun M a hne q => by rw [q, decide_eq_false hne]; rfl
  have vis : Same (hid H M) (hid H (fun a => M a && !decide (a = p))) := hid_anti (keep M)
  refine ⟨fun a => C a && !decide (a = p), fun a => M a && !decide (a = p), ?_⟩
  refine { o with len := by simp [o.len], m0C := fun a q => ?_, oM := fun a q => ?_, CM := fun a q => ?_, MM := fun a q => ?_, dom := fun a q => o.dom a (keep M a q), CF := fun a q => o.CF a (keep C a q), out := fun a q => o.out a (keep C a q), dat := fun j d q => ?_, dk := fun j q => ?_, lm := fun j fs q => ?_, sep := fun a b f1 f2 q h1 h2 e1 e2 => ?_, tm := fun j a b q => ?_, tsep := fun a b d1 d2 e h1 h2 h3 => ?_ }
  · exact rem C a (fun z => by subst z; rw [h0] at q; cases q) (o.m0C a q)
  · exact rem M a (fun z => by subst z; rw [hMo] at q; cases q) (o.oM a q)
  · have q1 := keep C a q
    refine rem M a (fun z => ?_) (o.CM a q1)
    subst z
    simp at q
  · have q1 := keep M a q
    have hne : a ≠ p := fun z => by subst z; simp at q
    exact (o.MM a q1).imp id (rem C a hne)
  · rcases ent_set q with ⟨rfl, _, e⟩ | ⟨hj, q⟩
    · cases e
      refine ⟨.ref p, hi, .lst (.inl (.inl ?_)) (dpa_same vis z)⟩
      rw [hid_off (by simp)]
      exact hp
    · obtain ⟨v, e1, w⟩ := o.dat j d q
      exact ⟨v, e1, dp_same vis w⟩
  · rcases ent_set q with ⟨_, _, e⟩ | ⟨hj, q⟩
    · cases e
    · exact o.dk j q
  · rcases ent_set q with ⟨_, _, e⟩ | ⟨hj, q⟩
    · cases e
    · obtain ⟨p2, xs2, e1, c2, m2, hp2, w⟩ := o.lm j fs q
      have hne : p2 ≠ p := fun z => hj (o.sep j i fs ds p2 q h e1 (by rw [z]; exact hi))
      exact ⟨p2, xs2, e1, rem C p2 hne c2, m2, hp2, dpa_same vis w⟩
  · rcases ent_set h1 with ⟨_, _, e⟩ | ⟨_, h1⟩
    · cases e
    · rcases ent_set h2 with ⟨_, _, e⟩ | ⟨_, h2⟩
      · cases e
      · exact o.sep a b f1 f2 q h1 h2 e1 e2
  · rcases ent_set q with ⟨_, _, e⟩ | ⟨hj, q⟩
    · cases e
    · exact absurd (o.tsep j i a b _ q h rfl) hj
  · rcases ent_set h1 with ⟨_, _, e⟩ | ⟨hj, h1⟩
    · cases e
    · exact absurd (o.tsep a i d1 d2 _ h1 h rfl) hj
end
/-! ### a pair of lists of one's own -/
section
variable {K : PySem.W.Frag} {md : Md} {Mo C M : Hd} {F H H' : Hp} {σ : L2.St} {ε : List Ent} {p : Addr}
theorem Ok.ownT (o : Ok K md Mo C M F H σ ε) (i : Nat) (nt : noOwn ε = true) {p1 p2 T : Addr} {xs ys : List V} {a b : List PyData} {H1 : Hp} (hp : H p1 = none) (r : Rel md H H1) (iv : md.inv H1) (hp' : H1 p1 = some (.lst xs)) (z : DpAll K (hid H1 (adM M p1)) xs a)
    {H2 : Hp} (hp2 : H1 p2 = none) (r2 : Rel md H1 H2) (iv2 : md.inv H2) (hp2' : H2 p2 = some (.lst ys)) (z2 : DpAll K (hid H2 (adM (adM M p1) p2)) ys b) (hT : H2 T = none) :
    Ok K md Mo (adM (adM C p1) p2) (adM (adM M p1) p2) F (upd H2 T (.tup [.ref p1, .ref p2])) (σ.set i (some (.ref T))) (ε.set i (.tm a b)) := by
  have n0 : md.m0 p1 = false := by
    cases c : md.m0 p1 with
    | false => rfl
    | true => exact absurd hp (md.dom H p1 o.inv c)
  have n02 : md.m0 p2 = false := by
    cases c : md.m0 p2 with
    | false => rfl
    | true => exact absurd hp2 (md.dom H1 p2 iv c)
  have hne : p1 ≠ p2 := fun e => by rw [← e, hp'] at hp2; cases hp2
  have oa := o.add hp r iv (by rw [hp']; exact fun z => nomatch z)
  have ob := oa.add hp2 r2 iv2 (by rw [hp2']; exact fun z => nomatch z)
  have sT : Same H2 (upd H2 T (.tup [.ref p1, .ref p2])) := same_new hT
  have hs : ∀ {q : Addr} {u : HO}, H2 q = some u → upd H2 T (.tup [.ref p1, .ref p2]) q = some u := fun h => sT _ _ h
  have oc := ob.rel (Rel.of sT) (md.stab _ _ iv2 sT)
  have TM : adM (adM M p1) p2 T = false := by
    cases c : adM (adM M p1) p2 T with
    | false => rfl
    | true => exact absurd hT (ob.dom T c)
  have vis2 : Same (hid H1 (adM M p1)) (hid H2 (adM (adM M p1) p2)) := fun a u h => by
    obtain ⟨e1, e2⟩ := hid_some h
    have ha : a ≠ p2 := fun z => by subst z; rw [hp2] at e2; cases e2
    rw [hid_off (by rw [adM_ne ha]; exact e1)]
    refine r2 a u ?_ e2
    cases c : md.m0 a with
    | false => rfl
    | true => rw [oa.m0M a c] at e1; cases e1
  have vis3 : Same (hid H2 (adM (adM M p1) p2)) (hid (upd H2 T (.tup [.ref p1, .ref p2])) (adM (adM M p1) p2)) := hid_keep fun a u _ h => hs h
  refine { oc with len := by simp [oc.len], dat := fun j d h => ?_, dk := fun j h => ?_, lm := fun j es h => ?_, sep := fun a b es fs q h1 h2 e1 e2 => ?_, tm := fun j a b h => ?_, tsep := fun a b d1 d2 e h1 h2 h3 => ?_ }
  · rcases ent_set h with ⟨_, _, e⟩ | ⟨hj, h⟩
    · cases e
    · rw [get_set_ne (fun z => hj z.symm)]; exact oc.dat j d h
  · rcases ent_set h with ⟨_, _, e⟩ | ⟨hj, h⟩
    · cases e
    · rw [get_set_ne (fun z => hj z.symm)]; exact oc.dk j h
  · rcases ent_set h with ⟨_, _, e⟩ | ⟨hj, h⟩
    · cases e
    · exact (noOwn_get nt h rfl).elim
  · rcases ent_set h1 with ⟨_, _, e⟩ | ⟨hj, h1⟩
    · cases e
    · exact (noOwn_get nt h1 rfl).elim
  · rcases ent_set h with ⟨rfl, hi, e⟩ | ⟨hj, h⟩
    · cases e
      refine ⟨T, p1, p2, xs, ys, List.getElem?_set_self (by rw [o.len]; exact hi), ?_, hne, ⟨adM_of adM_p, n0, hs (r2 p1 _ n0 hp'), dpa_same (vis2.trans vis3) z⟩, ⟨adM_p, n02, hs hp2', dpa_same vis3 z2⟩⟩
      exact .inl (.inl (by rw [hid_off TM, upd_same]))
    · exact (noOwn_get nt h rfl).elim
  · rcases ent_set h1 with ⟨ra, _, _⟩ | ⟨_, h1⟩
    · rcases ent_set h2 with ⟨rb, _, _⟩ | ⟨_, h2⟩
      · rw [ra, rb]
      · exact (noOwn_get nt h2 h3).elim
    · exact (noOwn_get nt h1 rfl).elim
theorem Ok.putT (o : Ok K md Mo C M F H σ ε) (i : Nat) {a b a' b' : List PyData} {T p1 p2 q : Addr} {zs : List V} (h : ε[i]? = some (.tm a b)) (hi : σ[i]? = some (some (.ref T))) (hT : SqT K (hid H M) T [.ref p1, .ref p2]) (hne : p1 ≠ p2)
    (h1 : C p1 = true ∧ md.m0 p1 = false) (h2 : C p2 = true ∧ md.m0 p2 = false) (hq : q = p1 ∨ q = p2)
    (g1 : ∃ xs, upd H q (.lst zs) p1 = some (.lst xs) ∧ DpAll K (hid H M) xs a') (g2 : ∃ ys, upd H q (.lst zs) p2 = some (.lst ys) ∧ DpAll K (hid H M) ys b') : Ok K md Mo C M F (upd H q (.lst zs)) σ (ε.set i (.tm a' b')) := by
  have hC : C q = true := by rcases hq with e | e <;> subst e; exact h1.1; exact h2.1
  have h0 : md.m0 q = false := by rcases hq with e | e <;> subst e; exact h1.2; exact h2.2
  have hM : M q = true := o.CM q hC
  have vis : Same (hid H M) (hid (upd H q (.lst zs)) M) := fun a u q' => by
    obtain ⟨e1, e2⟩ := hid_some q'
    have hne : a ≠ q := fun z => by subst z; rw [hM] at e1; cases e1
    rw [hid_off e1, upd_ne hne]
    exact e2
  refine { o with len := by simp [o.len], dom := fun a ha => ?_, inv := ?_, fix := fun a u qq => ?_, dat := fun j d q => ?_, dk := fun j q => ?_, lm := fun j fs q => ?_, sep := fun a b f1 f2 q h1 h2 e1 e2 => ?_, tm := fun j a b q => ?_, tsep := fun a b d1 d2 e h1 h2 h3 => ?_ }
  · by_cases c : a = q
    · rw [c, upd_same]; exact fun z => nomatch z
    · rw [upd_ne c]; exact o.dom a ha
  · refine md.stab' H _ o.inv fun a u c q => ?_
    rw [upd_ne (fun z => by subst z; rw [h0] at c; cases c)]
    exact q
  · have hne : a ≠ q := fun z => by subst z; rw [o.CF _ hC] at qq; cases qq
    rw [upd_ne hne]
    exact o.fix a u qq
  · rcases ent_set q with ⟨_, _, e⟩ | ⟨hj, q⟩
    · cases e
    · obtain ⟨v, e1, w⟩ := o.dat j d q
      exact ⟨v, e1, dp_same vis w⟩
  · rcases ent_set q with ⟨_, _, e⟩ | ⟨hj, q⟩
    · cases e
    · exact o.dk j q
  · rcases ent_set q with ⟨_, _, e⟩ | ⟨hj, q⟩
    · cases e
    · exact absurd (o.tsep i j _ _ _ h q rfl).symm hj
  · rcases ent_set h1 with ⟨_, _, e⟩ | ⟨hj, h1⟩
    · cases e
    · exact absurd (o.tsep i a _ _ _ h h1 rfl).symm hj
  · rcases ent_set q with ⟨rfl, hi', e⟩ | ⟨hj, q⟩
    · cases e
      obtain ⟨xs, e1, z1⟩ := g1
      obtain ⟨ys, e2, z2⟩ := g2
      exact ⟨T, p1, p2, xs, ys, hi, sqt_same vis hT, hne, ⟨h1.1, h1.2, e1, dpa_same vis z1⟩, ⟨h2.1, h2.2, e2, dpa_same vis z2⟩⟩
    · exact absurd (o.tsep i j _ _ _ h q rfl).symm hj
  · have key : ∀ (c : Nat) x, (ε.set i (.tm a' b'))[c]? = some x → x.own = true → c = i := fun c x hx ho => by
      rcases ent_set hx with ⟨rfl, _, _⟩ | ⟨_, hx⟩
      · rfl
      · exact (o.tsep i c _ _ _ h hx ho).symm
    rw [key a _ h1 rfl, key b _ h2 h3]
theorem Ok.freezeT (o : Ok K md Mo C M F H σ ε) (i : Nat) {a b : List PyData} (h : ε[i]? = some (.tm a b)) : ∃ C' M', Ok K md Mo C' M' F H σ (ε.set i (.dat (.tuple [.list a, .list b]))) := by
  obtain ⟨T, p, q, xs, ys, hi, hT, hne, ⟨c1, m1, h1, z1⟩, ⟨c2, m2, h2, z2⟩⟩ := o.tm i a b h
  let f : Addr → Bool := fun x => !decide (x = p) && !decide (x = q)
  have keep : ∀ (M : Hd) a, (M a && f a) = true → M a = true := fun M a q => by simp only [Bool.and_eq_true] at q; exact q.1
  have keep2 : ∀ (M : Hd) a, (M a && f a) = true → a ≠ p ∧ a ≠ q := fun M a q => by simp [f] at q; exact q.2
  have rem : ∀ (M : Hd) a, a ≠ p → a ≠ q → M a = true → (M a && f a) = true := fun M a n1 n2 q => by simp [f, n1, n2, q]
  have fp : f p = false := by simp [f]
  have fq : f q = false := by simp [f]
  have vis : Same (hid H M) (hid H (fun a => M a && f a)) := hid_anti (keep M)
  refine ⟨fun a => C a && f a, fun a => M a && f a, ?_⟩
  refine { o with len := by simp [o.len], m0C := fun a q => ?_, oM := fun a q => ?_, CM := fun a q => ?_, MM := fun a q => ?_, dom := fun a q => o.dom a (keep M a q), CF := fun a q => o.CF a (keep C a q), out := fun a q => o.out a (keep C a q), dat := fun j d q => ?_, dk := fun j q => ?_, lm := fun j fs q => ?_, sep := fun a b f1 f2 q h1 h2 e1 e2 => ?_, tm := fun j a b q => ?_, tsep := fun a b d1 d2 e h1 h2 h3 => ?_ }
  · exact rem C a (fun z => by subst z; rw [m1] at q; cases q) (fun z => by subst z; rw [m2] at q; cases q) (o.m0C a q)
  · exact rem M a (fun z => by subst z; rw [o.out _ c1 m1] at q; cases q) (fun z => by subst z; rw [o.out _ c2 m2] at q; cases q) (o.oM a q)
  · exact rem M a (keep2 C a q).1 (keep2 C a q).2 (o.CM a (keep C a q))
  · exact (o.MM a (keep M a q)).imp id (rem C a (keep2 M a q).1 (keep2 M a q).2)
  · rcases ent_set q with ⟨rfl, _, e⟩ | ⟨hj, q⟩
    · cases e
      refine ⟨.ref T, hi, .tup (sqt_same vis hT) (.cons (.lst (.inl (.inl ?_)) (dpa_same vis z1)) (.cons (.lst (.inl (.inl ?_)) (dpa_same vis z2)) .nil))⟩
      · rw [hid_off (by simp [fp])]; exact h1
      · rw [hid_off (by simp [fq])]; exact h2
    · obtain ⟨v, e1, w⟩ := o.dat j d q
      exact ⟨v, e1, dp_same vis w⟩
  · rcases ent_set q with ⟨_, _, e⟩ | ⟨hj, q⟩
    · cases e
    · exact o.dk j q
  · rcases ent_set q with ⟨_, _, e⟩ | ⟨hj, q⟩
    · cases e
    · exact absurd (o.tsep i j _ _ _ h q rfl).symm hj
  · rcases ent_set h1 with ⟨_, _, e⟩ | ⟨hj, h1⟩
    · cases e
    · exact absurd (o.tsep i a _ _ _ h h1 rfl).symm hj
  · rcases ent_set q with ⟨_, _, e⟩ | ⟨hj, q⟩
    · cases e
    · exact absurd (o.tsep i j _ _ _ h q rfl).symm hj
  · rcases ent_set h1 with ⟨_, _, e⟩ | ⟨hj, h1⟩
    · cases e
    · exact absurd (o.tsep i a _ _ _ h h1 rfl).symm hj
end
end DL
end

section
set_option Elab.async false
set_option linter.all false
set_option maxRecDepth 100000
set_option maxHeartbeats 2000000
/-! The data layer: new lists, comprehensions, a def by its body. -/
namespace DL
open PySem PySem.Spec PyProof.Rows L2

/-! ### expressions that give a new list -/
def tL (𝓜 : Md → Prop) (K : PySem.W.Frag) (ε : List Ent) (P : PL') : TE := fun σ H Q => ∃ md Mo C M F, 𝓜 md ∧ Ok K md Mo C M F H σ ε ∧ ∀ p H' xs ds, P ds → Rel md H H' → md.inv H' → H p = none → H' p = some (.lst xs) → DpAll K (hid H' (adM M p)) xs ds → Q (.ref p) H'
abbrev LD (𝓜 : Md → Prop) (X : Cx) (ε : List Ent) (e : Expr) (P : PL') : Prop := PE X e (tL 𝓜 X.K ε P)
section
variable {𝓜 : Md → Prop} {X : Cx} {ε ε' : List Ent} {a b c e tg iter elt : Expr} {es : List Expr} {P P1 P2 P3 R : PP} {pos p : Pos} {L L1 L2' : PL'} {x : Str} {k j i : Nat} {rest bl : List Stmt} {N N1 : List Ent → Prop}
theorem tl_td {K : PySem.W.Frag} {σ : L2.St} {H : Hp} {Q : VK} (h : tD 𝓜 K ε (fun d => ∃ ds, d = .list ds ∧ L ds) σ H Q) : tL 𝓜 K ε L σ H Q := by
  obtain ⟨md, Mo, C, M, F, m, o, q⟩ := h
  refine ⟨md, Mo, C, M, F, m, o, fun p H' xs ds pd r i hp hp' z => q (.ref p) H' (.list ds) ⟨ds, rfl, pd⟩ r i (.lst (.inl (.inl ?_)) (dpa_same (hid_anti fun a h => adM_of h) z))⟩
  rw [hid_off (new_hid hp o.dom)]
  exact hp'
theorem ld_pd (h : LD 𝓜 X ε e L) : PD 𝓜 X ε e (fun d => ∃ ds, d = .list ds ∧ L ds) := pe_mono h fun _ _ _ w => tl_td w
theorem ld_pdX {ds : List PyData} (h : LD 𝓜 X ε e (IsL ds)) : PD 𝓜 X ε e (Is (.list ds)) := pd_imp (ld_pd h) fun d ⟨l, e1, e2⟩ => by cases e2; exact e1
theorem ld_imp (h : LD 𝓜 X ε e L) (k : ∀ l, L l → L1 l) : LD 𝓜 X ε e L1 := pe_mono h fun σ H Q ⟨md, Mo, C, M, F, m, o, q⟩ => ⟨md, Mo, C, M, F, m, o, fun p H' xs ds pd => q p H' xs ds (k ds pd)⟩
theorem ld_pe {t : TE} (h : PE X e t) (k : ∀ (md : Md) (Mo C M : Hd) (F H : Hp) σ Q, 𝓜 md → Ok X.K md Mo C M F H σ ε → (∀ p H' xs ds, L ds → Rel md H H' → md.inv H' → H p = none → H' p = some (.lst xs) → DpAll X.K (hid H' (adM M p)) xs ds → Q (.ref p) H') → t σ H Q) : LD 𝓜 X ε e L :=
  pe_mono h fun σ H Q ⟨md, Mo, C, M, F, m, o, q⟩ => k md Mo C M F H σ Q m o q
/-- what stood before, seen with one more address hidden -/
theorem hid_adM {H H' : Hp} {M : Hd} {p : Addr} (hp : H p = none) (s : Same H H') : Same (hid H M) (hid H' (adM M p)) := fun a u h => by
  obtain ⟨e1, e2⟩ := hid_some h
  have hne : a ≠ p := fun z => by subst z; rw [hp] at e2; cases e2
  rw [hid_off (by rw [adM_ne hne]; exact e1)]
  exact s a u e2
theorem ld_lst {l : List PyData} (h : PDL 𝓜 X ε es (IsL l)) (hl : l.length ≤ 100000 := by exact Nat.le_of_ble_eq_true rfl) : LD 𝓜 X ε (.List es pos) (IsL l) :=
  ld_pe (pe_lst h) fun md Mo C M F H σ Q m o q => ⟨md, Mo, C, M, F, m, o, fun vs H1 ds p r i z => by
    cases p
    refine ⟨by rw [dpa_len z, sizeLine_eq]; omega, fun b nb => q b _ vs _ rfl (r.trans (new_same nb)) (md.stab _ _ i (same_new nb)) ?_ upd_same (dpa_same (hid_adM nb (same_new nb)) z)⟩
    cases c : H b with
    | none => rfl
    | some u =>
      have := r b u (by
        cases c0 : md.m0 b with
        | false => rfl
        | true => exact absurd nb (md.dom H1 b i c0)) c
      rw [nb] at this; cases this⟩
theorem back_none {md : Md} {H H' : Hp} {p : Addr} (r : Rel md H H') (i : md.inv H') (h : H' p = none) : H p = none := by
  cases c : H p with
  | none => rfl
  | some u =>
    have := r p u (by
      cases c0 : md.m0 p with
      | false => rfl
      | true => exact absurd h (md.dom H' p i c0)) c
    rw [h] at this; cases this
/-- [x] * n -/
theorem ld_rep {d : PyData} {n : Int} {lp : Pos} (ha : PD 𝓜 X ε a (Is d)) (hb : PD 𝓜 X ε b (Is (.int n))) (hn : 0 ≤ n ∧ n ≤ 100000) (hs : starEach [a] X.env = (false, eval a X.env) :: starEach [] X.env := by rfl) : LD 𝓜 X ε (.BinOp (.List [a] lp) .Mult b pos) (IsL (List.replicate n.toNat d)) :=
  ld_pe (pe_op op_rep (pe_lst (pdl_cons ha pdl_nil hs)) hb) fun md Mo C M F H σ Q m o q => by
    refine ⟨md, Mo, C, M, F, m, o, fun vs H1 ds p r i z => ?_⟩
    cases p
    refine ⟨by rw [dpa_len z, sizeLine_eq]; show 1 ≤ 16777216; omega, fun b1 nb => ?_⟩
    have o2 := (o.rel r i).add nb (new_same (o := .lst vs) nb) (md.stab _ _ i (same_new nb)) (by rw [upd_same]; exact fun z => nomatch z)
    refine ⟨md, Mo, adM C b1, adM M b1, F, m, o2, fun v2 H2 d2 p2 r2 i2 z2 => ?_⟩
    cases p2
    have h0 : md.m0 b1 = false := by
      cases c : md.m0 b1 with
      | false => rfl
      | true => exact absurd nb (md.dom H1 b1 i c)
    have hb1 : H2 b1 = some (.lst vs) := r2 b1 _ h0 upd_same
    have hl : vs.length = 1 := by rw [dpa_len z]; rfl
    refine ⟨b1, n, vs, rfl, dp_int z2, hb1, by omega, by omega, by rw [hl, sizeLine_eq]; omega, fun p3 n3 => ?_⟩
    obtain ⟨v, rfl, z3⟩ := dpa1 z
    have e : (List.replicate n.toNat [v]).flatten = List.replicate n.toNat v := by
      generalize n.toNat = k
      induction k with
      | zero => rfl
      | succ k ih => rw [List.replicate_succ, List.flatten_cons, ih, List.replicate_succ]; rfl
    rw [e]
    have r12 : Rel md H1 H2 := (new_same (md := md) (o := .lst [v]) nb).trans r2
    refine q p3 _ _ _ rfl ((r.trans r12).trans (new_same n3)) (md.stab _ _ i2 (same_new n3)) (back_none (r.trans r12) i2 n3) upd_same ?_
    refine dpa_rep _ (dp_same (Same.trans ?_ (hid_adM n3 (same_new n3))) z3)
    exact r12.hid o.m0M

/-! ### names that hold a list of one's own -/
theorem bd_own (i : Nat) {x : Str} {pos' : Pos} (hN : X.N.Nodup) (he : LD 𝓜 X ε e L) (h2 : ∀ l, L l → BD 𝓜 X (ε.set i (.lm l)) rest N R) (hx : Loc X.env.scope x := by first | exact .inl rfl | exact .inr rfl) (hi : X.N[i]? = some x := by rfl) (hs : swapsWith e (some (.Name x pos')) pos.line X.env = pure false := by rfl)
    (hf : X.fn x = true ∨ X.env.scope.names.lookup x = some .local := by first | exact .inl rfl | exact .inr rfl | assumption) (nt : noTm ε = true := by rfl) : BD 𝓜 X ε (.Assign [.Name x pos'] e pos :: rest) N R :=
  bd_cons (N1 := fun ε' => ∃ l, L l ∧ ε' = ε.set i (.lm l)) (ps_mono (ps_set hN hi hx he hs hf) fun D σ H ⟨md, Mo, C, M, F, m, o, q, qr⟩ => ⟨md, Mo, C, M, F, m, o, fun p H1 xs ds pd r iv hp hp' z => q _ H1 _ _ _ ⟨ds, pd, rfl⟩ (o.own i nt hp r iv hp' z)⟩) fun ε' ⟨l, hl, e⟩ => by subst e; exact h2 l hl
theorem bd_ownX (i : Nat) {x : Str} {pos' : Pos} {l : List PyData} (hN : X.N.Nodup) (he : LD 𝓜 X ε e (IsL l)) (h2 : BD 𝓜 X (ε.set i (.lm l)) rest N R) (hx : Loc X.env.scope x := by first | exact .inl rfl | exact .inr rfl) (hi : X.N[i]? = some x := by rfl) (hs : swapsWith e (some (.Name x pos')) pos.line X.env = pure false := by rfl)
    (hf : X.fn x = true ∨ X.env.scope.names.lookup x = some .local := by first | exact .inl rfl | exact .inr rfl | assumption) (nt : noTm ε = true := by rfl) : BD 𝓜 X ε (.Assign [.Name x pos'] e pos :: rest) N R :=
  bd_own i hN he (fun _ e => by cases e; exact h2) hx hi hs hf nt
/-- a, b = [..], e | [..], [..] -/
theorem bd_parOD (i j : Nat) {x y : Str} {px py pt : Pos} {kt k2 pt2} {l : List PyData} {d : PyData} (hc : X.calm = true) (hN : X.N.Nodup) (hij : i ≠ j) (ha : LD 𝓜 X ε a (IsL l)) (hb : PD 𝓜 X ε b (Is d)) (h2 : BD 𝓜 X ((ε.set i (.lm l)).set j (.dat d)) rest N R)
    (hi : X.N[i]? = some x := by rfl) (hj : X.N[j]? = some y := by rfl) (hx : X.env.scope.names.lookup x = some .local := by rfl) (hy : X.env.scope.names.lookup y = some .local := by rfl)
    (hw : swappedStores [.Tuple [.Name x px, .Name y py] kt pt] (.Tuple [a, b] k2 pt2) X.env = pure (some [x, y]) := by rfl)
    (hs : swapsWithSole [.Tuple [.Name x px, .Name y py] kt pt] (.Tuple [a, b] k2 pt2) pos.line X.env = pure false := by rfl)
    (h1 : starEach [a, b] X.env = (false, eval a X.env) :: starEach [b] X.env := by rfl) (h1' : starEach [b] X.env = (false, eval b X.env) :: starEach [] X.env := by rfl) (nt : noTm ε = true := by rfl) : BD 𝓜 X ε (.Assign [.Tuple [.Name x px, .Name y py] kt pt] (.Tuple [a, b] k2 pt2) pos :: rest) N R :=
  bd_cons (N1 := fun ε' => ε' = (ε.set i (.lm l)).set j (.dat d)) (ps_mono (ps_par hc hN hi hj hij hx hy (pa_cons ha (pa_cons hb pa_nil h1') h1) hw hs) fun D σ H ⟨md, Mo, C, M, F, m, o, q, qr⟩ => ⟨md, Mo, C, M, F, m, o, fun p H1 xs ds pd r iv hp hp' z => by
    cases pd
    have o1 := o.add hp r iv (by rw [hp']; exact fun z => nomatch z)
    refine ⟨md, Mo, _, _, F, m, o1, fun v H2 d2 p2 r2 i2 z2 => ?_⟩
    cases p2
    have h0 : md.m0 p = false := by
      cases c : md.m0 p with
      | false => rfl
      | true => exact absurd hp (md.dom H p o.inv c)
    refine ⟨.ref p, v, rfl, q _ H2 _ _ _ rfl ((o.own i nt hp (r.trans r2) i2 (r2 p _ h0 hp') (dpa_same (o1.keep r2) z)).set j z2)⟩⟩) fun ε' e => by subst e; exact h2
theorem bd_parOO (i j : Nat) {x y : Str} {px py pt : Pos} {kt k2 pt2} {l l' : List PyData} (hc : X.calm = true) (hN : X.N.Nodup) (hij : i ≠ j) (ha : LD 𝓜 X ε a (IsL l)) (hb : LD 𝓜 X ε b (IsL l')) (h2 : BD 𝓜 X ((ε.set i (.lm l)).set j (.lm l')) rest N R)
    (hi : X.N[i]? = some x := by rfl) (hj : X.N[j]? = some y := by rfl) (hx : X.env.scope.names.lookup x = some .local := by rfl) (hy : X.env.scope.names.lookup y = some .local := by rfl)
    (hw : swappedStores [.Tuple [.Name x px, .Name y py] kt pt] (.Tuple [a, b] k2 pt2) X.env = pure (some [x, y]) := by rfl)
    (hs : swapsWithSole [.Tuple [.Name x px, .Name y py] kt pt] (.Tuple [a, b] k2 pt2) pos.line X.env = pure false := by rfl)
    (h1 : starEach [a, b] X.env = (false, eval a X.env) :: starEach [b] X.env := by rfl) (h1' : starEach [b] X.env = (false, eval b X.env) :: starEach [] X.env := by rfl) (nt : noTm ε = true := by rfl) : BD 𝓜 X ε (.Assign [.Tuple [.Name x px, .Name y py] kt pt] (.Tuple [a, b] k2 pt2) pos :: rest) N R :=
  bd_cons (N1 := fun ε' => ε' = (ε.set i (.lm l)).set j (.lm l')) (ps_mono (ps_par hc hN hi hj hij hx hy (pa_cons ha (pa_cons hb pa_nil h1') h1) hw hs) fun D σ H ⟨md, Mo, C, M, F, m, o, q, qr⟩ => ⟨md, Mo, C, M, F, m, o, fun p H1 xs ds pd r iv hp hp' z => by
    cases pd
    have o1 := o.add hp r iv (by rw [hp']; exact fun z => nomatch z)
    refine ⟨md, Mo, _, _, F, m, o1, fun p2 H2 ys es pe r2 i2 hp2 hp2' z2 => ?_⟩
    cases pe
    have own1 := o.own i nt hp r iv hp' z
    exact ⟨.ref p, .ref p2, rfl, q _ H2 _ _ _ rfl (own1.own j (noTm_set nt rfl) hp2 r2 i2 hp2' z2)⟩⟩) fun ε' e => by subst e; exact h2
theorem bd_freeze (i : Nat) {ds : List PyData} (h : ε[i]? = some (.lm ds)) (h2 : BD 𝓜 X (ε.set i (.dat (.list ds))) bl N R) : BD 𝓜 X ε bl N R :=
  pss_mono h2 fun D σ H ⟨md, Mo, C, M, F, m, o, q, qr⟩ => by
    obtain ⟨C', M', o'⟩ := o.freeze i h
    exact ⟨md, Mo, C', M', F, m, o', q, qr⟩
/-- x.append(e) -/
theorem bd_app (i : Nat) {x : Str} {vp ap cp : Pos} {ds : List PyData} (h : ε[i]? = some (.lm ds)) (he : PD 𝓜 X ε e P) (hz : ds.length < 100000) (h2 : ∀ d, P d → BD 𝓜 X (ε.set i (.lm (ds ++ [d]))) rest N R)
    (hN : X.N[i]? = some x := by rfl) (hv : Vis X.env.scope x := by first | exact Or.inl rfl | exact Or.inr (Or.inl rfl) | exact Or.inr (Or.inr rfl)) (hd : (x == ("__debug__" : Str)) = false := by decide) (hcd : (x == ("__classdict__" : Str)) = false := by decide)
    (hbase : attributeBase (.Name x vp) "append" X.env (eval (.Name x vp) X.env) = eval (.Name x vp) X.env := by rfl)
    (hfew : ((backTo cp (starEach [e] X.env)).all (fun x => !x.1) && (backToKw cp (keywordEach [] X.env)).all (fun x => x.1.isSome) && decide (([e] : List Expr).length + ([] : List Keyword).length + (if ([] : List Keyword).isEmpty then 0 else 1) < 30)) = true := by rfl)
    (hline : (ap.endLine == cp.line) = true := by rfl) (hs : starEach [e] X.env = (false, eval e X.env) :: starEach [] X.env := by rfl) (hplain : (backTo cp (starEach [] X.env)).any (·.1) = false := by rfl)
    (hsw : swapsWith (.Call (.Attribute (.Name x vp) "append" ap) [e] [] cp) none pos.line X.env = pure false := by rfl) : BD 𝓜 X ε (.Expr (.Call (.Attribute (.Name x vp) "append" ap) [e] [] cp) pos :: rest) N R :=
  bd_cons (N1 := fun ε' => ∃ d, P d ∧ ε' = ε.set i (.lm (ds ++ [d]))) (ps_mono (ps_expr (pe_bm PySem.F.plainAttrs_list PySem.F.slot_list_append PySem.F.type_list_append mt_append (pv i hN hv hd hcd) (pa_cons he pa_nil hs) hbase hfew hline hs hplain) hsw) fun D σ H ⟨md, Mo, C, M, F, m, o, q, qr⟩ => by
    obtain ⟨p, xs, hi, hC, h0, hp, z⟩ := o.lm i ds h
    refine ⟨.ref p, hi, .inl ⟨rfl, xs, .inl (.inl hp)⟩, md, Mo, C, M, F, m, o, fun v H1 d pd r iv z1 => ?_⟩
    have o1 := o.rel r iv
    have hp1 := r p _ h0 hp
    refine ⟨p, xs, v, rfl, rfl, hp1, by rw [dpa_len z, sizeLine_eq]; omega, q _ _ C M _ ⟨d, pd, rfl⟩ (o1.put i h hi (dpa_append (dpa_same (o.keep r) z) (.cons z1 .nil)))⟩) fun ε' ⟨d, pd, e⟩ => by subst e; exact h2 d pd
/-- its length, an item of it -/
theorem pd_lenM' (i : Nat) {x : Str} {vp : Pos} {ds : List PyData} (hg : Gl X "len") (hm : X.mg "len" = none) (h : ε[i]? = some (.lm ds)) (hN : X.N[i]? = some x := by rfl) (hv : Vis X.env.scope x := by first | exact Or.inl rfl | exact Or.inr (Or.inl rfl) | exact Or.inr (Or.inr rfl)) (hd : (x == ("__debug__" : Str)) = false := by decide) (hcd : (x == ("__classdict__" : Str)) = false := by decide)
    (hs : starEach [.Name x vp] X.env = (false, eval (.Name x vp) X.env) :: starEach [] X.env := by rfl) (hpl : (backTo pos (starEach [] X.env)).any (·.1) = false := by rfl) : PD 𝓜 X ε (.Call (.Name "len" p) [.Name x vp] [] pos) (Is (.int ds.length)) :=
  pd_pe (pe_callB call_len_seq hg hm PySem.boot_len (pa_cons (pv i hN hv hd hcd) pa_nil hs) (by decide) (by decide) hs hpl) fun md Mo C M F H σ Q m o q => by
    obtain ⟨p, xs, hi, hC, h0, hp, z⟩ := o.lm i ds h
    refine ⟨.ref p, hi, p, xs, rfl, .inl (.inl (.inl hp)), ?_⟩
    rw [dpa_len z]
    exact q _ H _ rfl Rel.refl o.inv (.int _)
theorem pd_lenM {dd : PyData} (i : Nat) {x : Str} {vp : Pos} {ds : List PyData} (hg : Gl X "len") (hm : X.mg "len" = none) (h : ε[i]? = some (.lm ds)) (hN : X.N[i]? = some x := by rfl) (hv : Vis X.env.scope x := by first | exact Or.inl rfl | exact Or.inr (Or.inl rfl) | exact Or.inr (Or.inr rfl)) (hd : (x == ("__debug__" : Str)) = false := by decide) (hcd : (x == ("__classdict__" : Str)) = false := by decide)
    (hs : starEach [.Name x vp] X.env = (false, eval (.Name x vp) X.env) :: starEach [] X.env := by rfl) (hpl : (backTo pos (starEach [] X.env)).any (·.1) = false := by rfl) (he : (PyData.int ds.length : PyData) = dd := by rfl) : PD 𝓜 X ε (.Call (.Name "len" p) [.Name x vp] [] pos) (Is dd) := pd_to (pd_lenM' i hg hm h hN hv hd hcd hs hpl) he
theorem pd_ixM (i : Nat) {x : Str} {vp : Pos} {ds : List PyData} {n : Int} {d : PyData} (h : ε[i]? = some (.lm ds)) (hn : atI ds n = some d) (hb : PD 𝓜 X ε b (Is (.int n))) (hN : X.N[i]? = some x := by rfl) (hv : Vis X.env.scope x := by first | exact Or.inl rfl | exact Or.inr (Or.inl rfl) | exact Or.inr (Or.inr rfl)) (hd : (x == ("__debug__" : Str)) = false := by decide) (hcd : (x == ("__classdict__" : Str)) = false := by decide)
    (hs : PlainIx b := by exact fun _ _ => rfl) : PD 𝓜 X ε (.Subscript (.Name x vp) b pos) (Is d) :=
  pd_pe (pe_ix ix_list (pv i hN hv hd hcd) hb hs) fun md Mo C M F H σ Q m o q => by
    obtain ⟨p, xs, hi, hC, h0, hp, z⟩ := o.lm i ds h
    refine ⟨.ref p, hi, md, Mo, C, M, F, m, o, fun v H1 d1 p1 r iv z1 => ?_⟩
    cases p1
    obtain ⟨w, hw, z2⟩ := atI_dpa (dpa_same (o.keep r) z) hn
    exact ⟨p, xs, n, w, rfl, dp_int z1, .inl (.inl (r p _ h0 hp)), hw, q w H1 d rfl r iv z2⟩
/-- x[i] = e -/
theorem bd_setAt (i : Nat) {x : Str} {vp sp : Pos} {ds : List PyData} {n : Int} {j : Nat} {d : PyData} (h : ε[i]? = some (.lm ds)) (he : PD 𝓜 X ε e (Is d)) (hb : PD 𝓜 X ε b (Is (.int n))) (hn : ixN ds.length n = some j) (h2 : BD 𝓜 X (ε.set i (.lm (ds.set j d))) rest N R)
    (hN : X.N[i]? = some x := by rfl) (hv : Vis X.env.scope x := by first | exact Or.inl rfl | exact Or.inr (Or.inl rfl) | exact Or.inr (Or.inr rfl)) (hd : (x == ("__debug__" : Str)) = false := by decide) (hcd : (x == ("__classdict__" : Str)) = false := by decide)
    (ha : ∀ v, assign (.Subscript (.Name x vp) b sp) X.env v = (do
      let ov ← holding [v] (eval (.Name x vp) X.env)
      let iv ← holding [v, ov] (eval b X.env)
      standAt sp
      holding [v, ov, iv] (setItem ov iv v)
      release [v, ov, iv] []) := by intro _; rfl)
    (hs : swapsWithSole [.Subscript (.Name x vp) b sp] e pos.line X.env = pure false := by rfl) (hw : swappedStores [.Subscript (.Name x vp) b sp] e X.env = pure none := by rfl)
    (h1 : (assignEach [.Subscript (.Name x vp) b sp] X.env).map (·.2) = [assign (.Subscript (.Name x vp) b sp) X.env] := by rfl) : BD 𝓜 X ε (.Assign [.Subscript (.Name x vp) b sp] e pos :: rest) N R :=
  bd_cons (N1 := fun ε' => ε' = ε.set i (.lm (ds.set j d))) (ps_mono (ps_asg he (pg_sub (pv i hN hv hd hcd) hb set_list ha) hs hw h1) fun D σ H ⟨md, Mo, C, M, F, m, o, q, qr⟩ => td_then md Mo C M F m o fun v H1 d1 p1 r o1 z => by
    cases p1
    obtain ⟨p, xs, hi, hC, h0, hp, z1⟩ := o1.lm i ds h
    refine ⟨.ref p, hi, md, Mo, C, M, F, m, o1, fun w H2 d2 p2 r2 i2 z2 => ?_⟩
    cases p2
    have o2 := o1.rel r2 i2
    exact ⟨p, xs, n, j, rfl, dp_int z2, r2 p _ h0 hp, by rw [dpa_len z1]; exact hn, q _ _ C M _ rfl (o2.put i h hi (dpa_set j (dpa_same (o1.keep r2) z1) (dp_same (o1.keep r2) z)))⟩) fun ε' e => by subst e; exact h2
end
end DL
end

section
set_option Elab.async false
set_option linter.all false
set_option maxRecDepth 100000
set_option maxHeartbeats 2000000
/-! The data layer: comprehensions, a def by its body. -/
namespace DL
open PySem PySem.Spec PyProof.Rows L2

/-! ### comprehensions -/
/-- what is picked out: those with f, each yielding by Pe -/
inductive Sel (f : PyData → Bool) (Pe : PyData → PP) : List PyData → List PyData → Prop
  | nil : Sel f Pe [] []
  | yes {x y : PyData} {xs ys : List PyData} : Sel f Pe xs ys → f x = true → Pe x y → Sel f Pe (xs ++ [x]) (ys ++ [y])
  | no {x : PyData} {xs ys : List PyData} : Sel f Pe xs ys → f x = false → Sel f Pe (xs ++ [x]) ys
theorem Sel.len {f : PyData → Bool} {Pe : PyData → PP} {xs ys : List PyData} (h : Sel f Pe xs ys) : ys.length ≤ xs.length := by
  induction h with
  | nil => exact Nat.le_refl _
  | yes _ _ _ ih => rw [List.length_append, List.length_append]; exact Nat.add_le_add_right ih _
  | no _ _ ih => rw [List.length_append]; exact Nat.le_trans ih (Nat.le_add_right _ _)
theorem Sel.exact {f : PyData → Bool} {g : PyData → PyData} {Pe : PyData → PP} {xs ys : List PyData} (h : Sel f Pe xs ys) (hg : ∀ x ∈ xs, f x = true → ∀ y, Pe x y → y = g x) : ys = (xs.filter f).map g := by
  induction h with
  | nil => rfl
  | yes h hf hp ih =>
    have h1 := ih fun x hx => hg x (List.mem_append_left _ hx)
    have h2 := hg _ (List.mem_append_right _ (List.mem_singleton.mpr rfl)) hf _ hp
    rw [List.filter_append, List.map_append, ← h1, h2, List.filter_cons, if_pos hf]; rfl
  | no h hf ih =>
    have h1 := ih fun x hx => hg x (List.mem_append_left _ hx)
    rw [List.filter_append, List.map_append, ← h1, List.filter_cons, if_neg (by rw [hf]; decide)]
    show _ = _ ++ []
    rw [List.append_nil]
def wipeE (ε : List Ent) : List Nat → List Ent
  | [] => ε
  | v :: vs => (wipeE ε vs).set v .no
theorem wipeE_len (ε : List Ent) : ∀ vs, (wipeE ε vs).length = ε.length
  | [] => rfl
  | v :: vs => by unfold wipeE; rw [List.length_set, wipeE_len ε vs]
theorem wipeE_get {ε : List Ent} : ∀ {vs : List Nat} {i : Nat} {e : Ent}, (wipeE ε vs)[i]? = some e → e = .no ∨ (ε[i]? = some e ∧ i ∉ vs)
  | [], _, _, h => .inr ⟨h, by simp⟩
  | v :: vs, i, e, h => by
    unfold wipeE at h
    rcases ent_set h with ⟨_, _, e1⟩ | ⟨hj, h⟩
    · exact .inl e1
    · rcases wipeE_get h with h | ⟨h1, h2⟩
      · exact .inl h
      · exact .inr ⟨h1, by simp only [List.mem_cons, not_or]; exact ⟨hj, h2⟩⟩
theorem wipe_off {σ : L2.St} {i : Nat} : ∀ {vs : List Nat}, i ∉ vs → (wipe σ vs)[i]? = σ[i]?
  | [], _ => rfl
  | v :: vs, h => by
    simp only [List.mem_cons, not_or] at h
    unfold wipe
    rw [get_set_ne (fun z => h.1 z.symm), wipe_off h.2]
theorem wipe_ov {σ : L2.St} : ∀ (a b : List Nat), (∀ i ∈ b, i ∈ a) → wipe (wipe σ b) a = wipe σ a
  | a, [], _ => rfl
  | a, v :: b, h => by
    have e : wipe σ (v :: b) = (wipe σ b).set v none := rfl
    rw [e, wipe_set (h v List.mem_cons_self), wipe_ov a b fun i hi => h i (List.mem_cons_of_mem _ hi)]
theorem Ok.wipe {K : PySem.W.Frag} {md : Md} {Mo C M : Hd} {F H : Hp} {σ : L2.St} {ε : List Ent} (o : Ok K md Mo C M F H σ ε) (vs : List Nat) : Ok K md Mo C M F H (wipe σ vs) (wipeE ε vs) :=
  o.weak (by rw [wipe_length, wipeE_len, o.len]) fun i e h => (wipeE_get h).imp id fun ⟨h1, h2⟩ => ⟨h1, wipe_off h2⟩
section
variable {𝓜 : Md → Prop} {ε : List Ent} {xs : List PyData} {f : PyData → Bool} {Pe : PyData → PP} {t : Tg} {vs : List Nat}
def ttF (𝓜 : Md → Prop) (K : PySem.W.Frag) (ε : List Ent) (vs : List Nat) (t : Tg) (xs : List PyData) (f : PyData → Bool) : TT := fun σ H Q => ∃ z : { z : PyData × List Ent // z.1 ∈ xs ∧ asg t z.1 (wipeE ε vs) = some z.2 }, tDT 𝓜 K z.1.2 (IsB (f z.1.1)) σ H Q
def teF (𝓜 : Md → Prop) (K : PySem.W.Frag) (ε : List Ent) (vs : List Nat) (t : Tg) (xs : List PyData) (f : PyData → Bool) (Pe : PyData → PP) : TE := fun σ H Q => ∃ z : { z : PyData × List Ent // z.1 ∈ xs ∧ f z.1 = true ∧ asg t z.1 (wipeE ε vs) = some z.2 }, tD 𝓜 K z.1.2 (Pe z.1.1) σ H Q
theorem tlc_of {K : PySem.W.Frag} {σ : L2.St} {H : Hp} {Q : VK} (ha : ∀ d ∈ xs, ∃ ε', asg t d (wipeE ε vs) = some ε') (hsl : ∀ i ∈ t.slots, i ∈ vs) (hz : xs.length ≤ 100000) (w : tL 𝓜 K ε (Sel f Pe xs) σ H Q) :
    tLc (tI 𝓜 K ε (IsL xs)) (gT K t) (ttF 𝓜 K ε vs t xs f) (teF 𝓜 K ε vs t xs f Pe) vs σ H Q := by
  obtain ⟨md, Mo, C, M, F, m, o, q⟩ := w
  refine ⟨md, Mo, C, M, F, m, o, fun J H1 xs' e r1 i1 it => ?_⟩
  cases e
  intro D nD
  have o1 := o.rel r1 i1
  have hD0 : md.m0 D = false := by
    cases c : md.m0 D with
    | false => rfl
    | true => exact absurd nD (md.dom H1 D i1 c)
  have nDH := back_none r1 i1 nD
  refine ⟨fun i m' H2 => m' = xs.length - i ∧ i ≤ xs.length ∧ ∃ ys ws, Sel f Pe (xs.take i) ys ∧ Rel md H1 H2 ∧ md.inv H2 ∧ H2 D = some (.lst ws) ∧ DpAll K (hid H2 (adM M D)) ws ys,
    ⟨xs.length, by simp, Nat.zero_le _, [], [], by rw [List.take_zero]; exact .nil, new_same nD, md.stab _ _ i1 (same_new nD), upd_same, .nil⟩, ?_⟩
  rintro i m' H2 ⟨rfl, hi, ys, ws, hsel, r2, i2, hD2, hws⟩
  have o2 := o1.add nD r2 i2 (by rw [hD2]; exact fun z => nomatch z)
  have vis : Same (hid H1 M) (hid H2 (adM M D)) := fun a u h => by
    obtain ⟨e1, e2⟩ := hid_some h
    have hne : a ≠ D := fun z => by subst z; rw [nD] at e2; cases e2
    rw [hid_off (by rw [adM_ne hne]; exact e1)]
    refine r2 a u ?_ e2
    cases c : md.m0 a with
    | false => rfl
    | true => rw [o1.m0M a c] at e1; cases e1
  by_cases hlt : i < xs.length
  · have hget : xs[i]? = some xs[i] := List.getElem?_eq_getElem hlt
    have hmem : xs[i] ∈ xs := List.getElem_mem hlt
    have htake : xs.take (i + 1) = xs.take i ++ [xs[i]] := by rw [List.take_succ, hget]; rfl
    obtain ⟨g1, g2⟩ := it.at_ H2 (adM M D) vis o2.dom i xs[i] hget
    obtain ⟨ε', he'⟩ := ha xs[i] hmem
    refine .inr ⟨g1, fun H' => ∃ ys ws, Sel f Pe (xs.take (i + 1)) ys ∧ Rel md H1 H' ∧ md.inv H' ∧ H' D = some (.lst ws) ∧ DpAll K (hid H' (adM M D)) ws ys, fun H' h => ⟨xs.length - (i + 1), by omega, rfl, hlt, h⟩, fun v H3 y => ?_⟩
    obtain ⟨s3, z3⟩ := g2 v H3 y
    have o3 := (o2.rel (Rel.of s3) (md.stab _ _ i2 s3)).wipe vs
    refine ⟨md, Mo, _, _, F, wipeE ε vs, xs[i], ε', o3, z3, he', fun σ4 b4 o4 => ?_⟩
    refine ⟨by rw [b4 vs hsl, wipe_ov vs vs fun _ h => h], ⟨⟨xs[i], ε'⟩, hmem, he'⟩, md, Mo, _, _, F, m, o4, fun b H4 pb r4 i4 => ?_⟩
    have hb : b = f xs[i] := pb
    have o5 := o4.rel r4 i4
    have r24 : Rel md H2 H4 := (Rel.of s3).trans r4
    have hD4 : H4 D = some (.lst ws) := r24 D _ hD0 hD2
    cases b with
    | true =>
      refine iteT ⟨⟨⟨xs[i], ε'⟩, hmem, hb.symm, he'⟩, md, Mo, _, _, F, m, o5, fun w H5 d pd r5 i5 z5 => ?_⟩
      have r25 := r24.trans r5
      have hD5 : H5 D = some (.lst ws) := r25 D _ hD0 hD2
      have hl := hsel.len
      rw [List.length_take] at hl
      refine ⟨ws, hD5, by rw [dpa_len hws, sizeLine_eq]; omega, ys ++ [d], ws ++ [w], by rw [htake]; exact hsel.yes hb.symm pd, ?_, ?_, upd_same, ?_⟩
      · intro a u h0 h1
        have hne : a ≠ D := fun z => by subst z; rw [nD] at h1; cases h1
        rw [upd_ne hne]
        exact (r2.trans r25) a u h0 h1
      · refine md.stab' _ _ i5 fun a u c h => ?_
        rw [upd_ne (fun z => by subst z; rw [hD0] at c; cases c)]
        exact h
      · have same : Same (hid H5 (adM M D)) (hid (upd H5 D (.lst (ws ++ [w]))) (adM M D)) := fun a u h => by
          obtain ⟨e1, e2⟩ := hid_some h
          have hne : a ≠ D := fun z => by subst z; rw [adM_p] at e1; cases e1
          rw [hid_off e1, upd_ne hne]
          exact e2
        refine dpa_same same (dpa_append (dpa_same ?_ hws) (.cons z5 .nil))
        exact r25.hid o2.m0M
    | false =>
      refine iteF ⟨ys, ws, by rw [htake]; exact hsel.no hb.symm, r2.trans r24, i4, hD4, dpa_same (r24.hid o2.m0M) hws⟩
  · have e : i = xs.length := by omega
    subst e
    refine .inl ⟨it.stop H2 (vis.trans hid_same) _ rfl, q D H2 ws ys (by rw [List.take_length] at hsel; exact hsel) (r1.trans r2) i2 nDH hD2 hws⟩
end
section
variable {𝓜 : Md → Prop} {X : Cx} {ε : List Ent} {xs : List PyData} {f : PyData → Bool} {Pe : PyData → PP} {t : Tg} {tg iter elt : Expr} {ifs : List Expr} {scope : Scope} {pos : Pos}
theorem pts_mono {t t' : TT} (h : PTs X ifs t) (k : ∀ σ H Q, t' σ H Q → t σ H Q) : PTs X ifs t' := ⟨fun pins s σ H Q I q => h.run pins s σ H Q I (k σ H Q q)⟩
abbrev Blk (X : Cx) (scope : Scope) (s : Shared) (H : Hp) (C : Addr) (cl : List (Str × Addr)) (fp : List Addr) : Cx := X.blk s H scope (compEnvC scope cl C X.env) fp
/-- the parts of a comprehension's block -/
structure LcD (𝓜 : Md → Prop) (X : Cx) (ε : List Ent) (elt tg iter : Expr) (ifs : List Expr) (scope : Scope) (own : List (Str × Nat)) (t : Tg) (xs : List PyData) (f : PyData → Bool) (Pe : PyData → PP) : Prop where
  hi : ID 𝓜 X ε tg iter (IsL xs)
  ok : BlkOk X.N X.env.scope scope own
  hg : ∀ s H C cl fp, TD (Blk X scope s H C cl fp) tg t
  ha : ∀ d ∈ xs, ∃ ε', asg t d (wipeE ε (own.map (·.2))) = some ε'
  ht : ∀ s H C cl fp, PTs (Blk X scope s H C cl fp) ifs (ttF 𝓜 X.K ε (own.map (·.2)) t xs f)
  he : ∀ s H C cl fp, PE (Blk X scope s H C cl fp) elt (teF 𝓜 X.K ε (own.map (·.2)) t xs f Pe)
  hsl : ∀ i ∈ t.slots, i ∈ own.map (·.2)
  hz : xs.length ≤ 100000
theorem LcD.mk1 {own : List (Str × Nat)} (hi : ID 𝓜 X ε tg iter (IsL xs)) (ok : blkC X.N X.env.scope scope own = true) (hg : ∀ s H C cl fp, TD (Blk X scope s H C cl fp) tg t)
    (he : ∀ d ∈ xs, ∃ ε', asg t d (wipeE ε (own.map (·.2))) = some ε' ∧ ∀ s H C cl fp, PD 𝓜 (Blk X scope s H C cl fp) ε' elt (Pe d)) (hsl : ∀ i ∈ t.slots, i ∈ own.map (·.2) := by decide) (hz : xs.length ≤ 100000) : LcD 𝓜 X ε elt tg iter [] scope own t xs (fun _ => true) Pe where
  hi := hi
  ok := blkOk_by ok
  hg := hg
  ha := fun d hd => (he d hd).imp fun _ h => h.1
  ht := fun s H C cl fp => pts_mono pts_nil fun σ H Q ⟨_, md, Mo, C, M, F, m, o, q⟩ => q true H rfl Rel.refl o.inv
  he := fun s H C cl fp => pe_fam fun ⟨⟨d, ε'⟩, h1, _, h2⟩ => by
    obtain ⟨ε2, e, k⟩ := he d h1
    have h2 : asg t d (wipeE ε (own.map (·.2))) = some ε' := h2
    rw [h2] at e
    cases e
    exact k s H C cl fp
  hsl := hsl
  hz := hz
theorem LcD.mkIf {own : List (Str × Nat)} {c : Expr} (hi : ID 𝓜 X ε tg iter (IsL xs)) (ok : blkC X.N X.env.scope scope own = true) (hg : ∀ s H C cl fp, TD (Blk X scope s H C cl fp) tg t)
    (he : ∀ d ∈ xs, ∃ ε', asg t d (wipeE ε (own.map (·.2))) = some ε' ∧ (∀ s H C cl fp, PDT 𝓜 (Blk X scope s H C cl fp) ε' c (IsB (f d))) ∧ (f d = true → ∀ s H C cl fp, PD 𝓜 (Blk X scope s H C cl fp) ε' elt (Pe d))) (hsl : ∀ i ∈ t.slots, i ∈ own.map (·.2) := by decide) (hz : xs.length ≤ 100000) : LcD 𝓜 X ε elt tg iter [c] scope own t xs f Pe where
  hi := hi
  ok := blkOk_by ok
  hg := hg
  ha := fun d hd => (he d hd).imp fun _ h => h.1
  ht := fun s H C cl fp => pts_one (pt_fam fun ⟨⟨d, ε'⟩, h1, h2⟩ => by
    obtain ⟨ε2, e, k, _⟩ := he d h1
    have h2 : asg t d (wipeE ε (own.map (·.2))) = some ε' := h2
    rw [h2] at e
    cases e
    exact k s H C cl fp)
  he := fun s H C cl fp => pe_fam fun ⟨⟨d, ε'⟩, h1, h3, h2⟩ => by
    obtain ⟨ε2, e, _, k⟩ := he d h1
    have h2 : asg t d (wipeE ε (own.map (·.2))) = some ε' := h2
    rw [h2] at e
    cases e
    exact k h3 s H C cl fp
  hsl := hsl
  hz := hz
variable {own : List (Str × Nat)}
theorem ld_lc (hc : X.calm = true) (hN : X.N.Nodup) (l : LcD 𝓜 X ε elt tg iter ifs scope own t xs f Pe) (hs : ∀ x, foldedSetIterable iter X.env x = pure x := by intro _; rfl) : LD 𝓜 X ε (.ListComp elt [⟨tg, iter, ifs, 0⟩] scope pos) (Sel f Pe xs) :=
  pe_mono (pe_lc hc hN l.hi l.ok l.hg l.ht l.he hs) fun σ H Q w => tlc_of l.ha l.hsl l.hz w
theorem ld_lcX {g : PyData → PyData} (hc : X.calm = true) (hN : X.N.Nodup) (l : LcD 𝓜 X ε elt tg iter ifs scope own t xs f (fun d => Is (g d))) (hs : ∀ x, foldedSetIterable iter X.env x = pure x := by intro _; rfl) : LD 𝓜 X ε (.ListComp elt [⟨tg, iter, ifs, 0⟩] scope pos) (IsL ((xs.filter f).map g)) :=
  ld_imp (ld_lc hc hN l hs) fun ys h => h.exact fun _ _ _ _ e => e
theorem ld_lcA {g : PyData → PyData} (hc : X.calm = true) (hN : X.N.Nodup) (l : LcD 𝓜 X ε elt tg iter [] scope own t xs (fun _ => true) (fun d => Is (g d))) (hs : ∀ x, foldedSetIterable iter X.env x = pure x := by intro _; rfl) : LD 𝓜 X ε (.ListComp elt [⟨tg, iter, [], 0⟩] scope pos) (IsL (xs.map g)) :=
  ld_imp (ld_lcX hc hN l hs) fun ys h => by
    have e : ys = (xs.filter fun _ => true).map g := h
    rw [List.filter_eq_self.mpr (fun _ _ => rfl)] at e
    exact e
/-- y = [..] on one line, y a plain local -/
theorem bd_lc (i : Nat) {y : Str} {py spos : Pos} {rest : List Stmt} {N : List Ent → Prop} {R : PP} (hc : X.calm = true) (hN : X.N.Nodup) (l : LcD 𝓜 X ε elt tg iter ifs scope own t xs f Pe) (h2 : ∀ ys, Sel f Pe xs ys → BD 𝓜 X (ε.set i (.lm ys)) rest N R)
    (hy : X.N[i]? = some y := by rfl) (hyl : X.env.scope.names.lookup y = some .local := by rfl) (hsw : swapsWith (.ListComp elt [⟨tg, iter, ifs, 0⟩] scope pos) (some (.Name y py)) spos.line X.env = pure true := by exact sw_true rfl rfl rfl (by decide +kernel))
    (hs : ∀ x, foldedSetIterable iter X.env x = pure x := by intro _; rfl) (nt : noTm ε = true := by rfl) : BD 𝓜 X ε (.Assign [.Name y py] (.ListComp elt [⟨tg, iter, ifs, 0⟩] scope pos) spos :: rest) N R :=
  bd_cons (N1 := fun ε' => ∃ ys, Sel f Pe xs ys ∧ ε' = ε.set i (.lm ys)) (ps_mono (ps_setLc hc hN hy hyl hsw l.hi l.ok l.hg l.ht l.he hs) fun D σ H ⟨md, Mo, C, M, F, m, o, q, qr⟩ =>
    tlc_of l.ha l.hsl l.hz ⟨md, Mo, C, M, F, m, o, fun p H1 ws ds pd r iv hp hp' z => q _ H1 _ _ _ ⟨ds, pd, rfl⟩ (o.own i nt hp r iv hp' z)⟩) fun ε' ⟨ys, h, e⟩ => by subst e; exact h2 ys h
end

/-! ### a def by its body -/
def envE (N : List Str) (es : List Ent) : List Ent := es ++ List.replicate (N.length - es.length) .no
theorem entv_len {K : PySem.W.Frag} {md : Md} {H : Hp} : ∀ {vs : List V} {es : List Ent}, Paired (EntV K md H) vs es → vs.length = es.length
  | _, _, .nil => rfl
  | _, _, .cons _ t => by rw [List.length_cons, List.length_cons, entv_len t]
theorem entv_get {K : PySem.W.Frag} {md : Md} {H : Hp} : ∀ {vs : List V} {es : List Ent} {i : Nat} {e : Ent}, Paired (EntV K md H) vs es → es[i]? = some e → ∃ v, vs[i]? = some v ∧ EntV K md H v e
  | _, _, _, _, .nil, h => by simp at h
  | _, _, 0, _, .cons h _, e => by simp at e; subst e; exact ⟨_, rfl, h⟩
  | _, _, i + 1, e, .cons _ t, h => by
    obtain ⟨v, h1, h2⟩ := entv_get (i := i) (e := e) t (by simpa using h)
    exact ⟨v, by simpa using h1, h2⟩
theorem ok_start {K : PySem.W.Frag} {md : Md} {M : Hd} {H : Hp} {N : List Str} {vs : List V} {es : List Ent} (h0 : ∀ a, md.m0 a = true → M a = true) (dm : ∀ a, M a = true → H a ≠ none) (i : md.inv H) (z : Paired (EntV K md (hid H M)) vs es) :
    Ok K md M md.m0 M (hid H md.m0) H (L2.start N vs) (envE N es) := by
  have hl := entv_len z
  have key : ∀ (j : Nat) e, (envE N es)[j]? = some e → e = .no ∨ ∃ v, (L2.start N vs)[j]? = some (some v) ∧ EntV K md (hid H M) v e := fun j e h => by
    unfold envE at h
    unfold L2.start
    by_cases hj : j < es.length
    · rw [List.getElem?_append_left hj] at h
      obtain ⟨v, h1, h2⟩ := entv_get z h
      refine .inr ⟨v, ?_, h2⟩
      rw [List.getElem?_append_left (by simp; omega), List.getElem?_map, h1]; rfl
    · rw [List.getElem?_append_right (by omega)] at h
      left
      rw [List.getElem?_replicate] at h
      split at h
      · cases h; rfl
      · cases h
  refine ⟨?_, fun a h => h, h0, fun a h => h, h0, fun a h => .inl h, dm, i, hid_same, fun a h => by unfold hid; rw [if_pos h], fun a h h' => (by rw [h] at h'; cases h'), fun j d h => ?_, fun j h => ?_, fun j ds h => ?_, fun a b ds es' p h1 => ?_, fun j a b h => ?_, fun j k a b e h => ?_⟩
  · unfold L2.start envE
    simp only [List.length_append, List.length_map, List.length_replicate, hl]
  · rcases key j _ h with e | ⟨v, h1, h2⟩
    · cases e
    · cases h2 with | dat h2 => exact ⟨v, h1, h2⟩
  · rcases key j _ h with e | ⟨v, h1, h2⟩
    · cases e
    · cases h2; exact h1
  · rcases key j _ h with e | ⟨v, h1, h2⟩
    · cases e
    · cases h2
  · rcases key a _ h1 with e | ⟨v, _, h2⟩
    · cases e
    · cases h2
  · rcases key j _ h with e | ⟨v, _, h2⟩
    · cases e
    · cases h2
  · rcases key j _ h with e | ⟨v, _, h2⟩
    · cases e
    · cases h2
section
variable {P : Program} {w : World} {K : PySem.W.Frag} {mg : Str → Option Value} {base : Heap} {x qual : Str} {params : Arguments} {body : List Stmt} {scope : Scope} {dvs : List V} {kws : List (Str × V)} {f : Addr} {fd : FuncData}
/-- THE RULE: a def keeps its promise if its body, read over data, does -/
theorem fn_data {𝓜 : Md → Prop} {N ps : List Str} {k : Nat} {pre : List Ent → PP → Prop} (F : FunD K x qual params body scope dvs kws f fd) (S : FnScope N ps scope) (len : ∀ es P, pre es P → es.length = ps.length)
    (hbody : ∀ (cdv : Value) (A : Around) (outer : List Env) (s : Shared) (H : Hp) (E : XK) (es : List Ent) (R : PP), Room k (A.deeper (envOfC qual scope s.heap.objs.size f cdv)) → pre es R →
      BD 𝓜 (cxOf CX0 P w K mg base N qual scope f cdv A outer s H E).nox (envE N es) body (fun _ => R .none) R) : FnOk P w K mg base CX0 (k + 1) f fd ps (spK 𝓜 K pre) := by
  refine F.ok S (fun vs H Q E ⟨md, M, es, R, _, _, _, _, z, hp, _⟩ => by rw [entv_len z, len es R hp]) fun cdv A outer s H vs Q E hr ⟨md, M, es, R, m, h0, dm, i, z, hp, q⟩ => ⟨_, PSs.nox (hbody cdv A outer s H E es R hr hp), ?_⟩
  refine ⟨md, M, md.m0, M, hid H md.m0, m, ok_start h0 dm i z, fun σ' H' C' M' ε' n o' => ?_, fun v H' d p s1 i1 z1 => q v H' d p (fun a u c h => s1 a u (by rw [hid_off c]; exact h)) i1 z1⟩
  exact q .non H' .none n (fun a u c h => o'.fix a u (by rw [hid_off c]; exact h)) o'.inv .non
end
end DL
end

section
set_option Elab.async false
set_option linter.all false
set_option maxRecDepth 100000
set_option maxHeartbeats 2000000
/-! The data layer: isinstance, the names of the builtins. -/
namespace DL
open PySem PySem.Spec PyProof.Rows L2
/-- the built-in names that the program uses stand as they stood -/
structure Glo (mg : Str → Option Value) : Prop where
  len : mg "len" = none
  tuple : mg "tuple" = none
  list : mg "list" = none
  sorted : mg "sorted" = none
  all : mg "all" = none
  isinstance : mg "isinstance" = none
  int : mg "int" = none
  bool : mg "bool" = none
  range : mg "range" = none
  enumerate : mg "enumerate" = none
  zip : mg "zip" = none
  sum : mg "sum" = none
  repr : mg "repr" = none
  set : mg "set" = none
  max : mg "max" = none
  KINDS : ∃ t, mg "KINDS" = some (.int 3 t)
section
variable {𝓜 : Md → Prop} {X : Cx} {ε : List Ent} {a : Expr} {pos p p2 : Pos}
def tyD : PyData → Option String
  | .int _ => some "int"
  | .bool _ => some "bool"
  | .none => some "NoneType"
  | .tuple _ => some "tuple"
  | _ => none
theorem tyx_of {K : PySem.W.Frag} {H : Hp} {v : V} {d : PyData} {T : String} (h : Dp K H v d) (e : tyD d = some T) : TyX K H v (.type T) := by
  cases d with
  | int i => rw [dp_int h]; cases e; exact .base (.int i)
  | bool b => rw [dp_bool h]; cases e; exact .base (.bl b)
  | none => rw [dp_none h]; cases e; exact .base .non
  | tuple ds => cases e; exact tyx_tup h
  | _ => cases e
theorem pd_isi (T : String) {b : Bool} {d : PyData} {x : Str} {Td : String} (hg : Gl X "isinstance") (hm : X.mg "isinstance" = none) (hgx : Gl X x) (hmx : X.mg x = none) (hvx : bootBuiltins x = some (.type T)) (ha : PD 𝓜 X ε a (Is d)) (et : tyD d = some Td) (eb : kitB Td T = some b)
    (hnx : x ≠ "__name__" := by decide) (hdx : (x == ("__debug__" : Str)) = false := by decide)
    (hs : starEach [a, .Name x p2] X.env = (false, eval a X.env) :: starEach [.Name x p2] X.env := by rfl) (hs2 : starEach [.Name x p2] X.env = (false, eval (.Name x p2) X.env) :: starEach [] X.env := by rfl)
    (hpl : (backTo pos (starEach [.Name x p2] X.env)).any (·.1) = false := by rfl) : PD 𝓜 X ε (.Call (.Name "isinstance" p) [a, .Name x p2] [] pos) (Is (.bool b)) :=
  pd_pe (pe_callB call_isi hg hm PyProof.Rows.boot_isinstance (pa_cons ha (pa_cons (pe_bltn (v := .ty T) hgx hmx hvx rfl hnx hdx) pa_nil hs2) hs) (by decide) (by decide) hs hpl) fun md Mo C M F H σ Q m o q => td_then md Mo C M F m o fun v H1 d' p r o1 z => by
    cases p
    exact ⟨v, .ty T, .type Td, .type T, b, rfl, .ty T, tyx_of (dp_same hid_same z) et, kit_ty eb, q _ H1 _ rfl r o1.inv (.bl b)⟩
end
end DL
end

section
set_option Elab.async false
set_option linter.all false
set_option maxRecDepth 100000
set_option maxHeartbeats 2000000
/-! The text, by places. -/
namespace TX
open PySem PySem.Spec PyProof.Rows L2 DL
def top (i : Nat) : Stmt := PySem.Challenge.pw_manydeep_k16_whole_far_rows_their_ends_a.main.body.getD i (.Pass ⟨0, 0, 0, 0⟩)
abbrev FnP (K : PySem.W.Frag) (x : Str) (st : Stmt) (f : Addr) (fd : FuncData) : Prop := FunD K x x (defArgs st) (defBody st) (defScope st) [] [] f fd
end TX
end

section
set_option Elab.async false
set_option linter.all false
set_option maxRecDepth 100000
set_option maxHeartbeats 2000000
namespace TX
open PySem PySem.Spec PyProof.Rows L2 DL
section
variable {P : Program} {w : World} {K : PySem.W.Frag} {mg : Str → Option Value} {base : Heap} {f : Addr} {fd : FuncData}
/-! is_integer, is_between -/
abbrev s_is_integer : Stmt := top 8
theorem sc_is_integer : FnScope ["thing"] ["thing"] (defScope s_is_integer) := ⟨rfl, rfl, rfl, by decide +kernel, rfl, by decide +kernel, by decide +kernel⟩
def preInt (es : List Ent) (R : PP) : Prop := ∃ i : Int, es = [.dat (.int i)] ∧ R = Is (.bool true)
theorem ok_is_integer (G : Glo mg) (F : FnP K "is_integer" s_is_integer f fd) : FnOk P w K mg base CX0 1 f fd ["thing"] (spK pureM K preInt) := by
  refine fn_data F sc_is_integer (fun es R ⟨i, e, _⟩ => by rw [e]; rfl) fun cdv A outer s H E es R hr ⟨i, e, eR⟩ => ?_
  subst e eR
  exact bd_ret (pd_andV (pd_isi "int" (b := true) rfl G.isinstance rfl G.int (by decide +kernel) (pd_var 0) rfl (by decide +kernel)) (fun _ => pd_one (pd_notV (pd_isi "bool" (b := false) rfl G.isinstance rfl G.bool (by decide +kernel) (pd_var 0) rfl (by decide +kernel)))) (fun h => nomatch h))
abbrev s_is_between : Stmt := top 9
theorem sc_is_between : FnScope ["thing", "least", "most"] ["thing", "least", "most"] (defScope s_is_between) := ⟨rfl, rfl, rfl, by decide +kernel, rfl, by decide +kernel, by decide +kernel⟩
def preBetween (es : List Ent) (R : PP) : Prop := ∃ i lo hi : Int, es = [.dat (.int i), .dat (.int lo), .dat (.int hi)] ∧ R = Is (.bool (decide (lo ≤ i) && decide (i ≤ hi)))
theorem ok_is_between (c1 : CalP P w K mg base 1 "is_integer" (spK pureM K preInt)) (F : FnP K "is_between" s_is_between f fd) : FnOk P w K mg base CX0 2 f fd ["thing", "least", "most"] (spK pureM K preBetween) := by
  refine fn_data F sc_is_between (fun es R ⟨i, lo, hi, e, _⟩ => by rw [e]; rfl) fun cdv A outer s H E es R hr ⟨i, lo, hi, e, eR⟩ => ?_
  subst e eR
  exact bd_ret (pd_andV (pd_call c1 hr (Nat.le_refl _) rfl (pdl_cons (pd_var 0) pdl_nil) ⟨i, rfl, rfl⟩) (fun _ => pd_one (pd_chain_le (pd_var 1) (pd_var 0) (pd_var 2))) (fun h => nomatch h))
end
end TX
end

section
set_option Elab.async false
set_option linter.all false
set_option maxRecDepth 100000
set_option maxHeartbeats 4000000
/-! Rules that the layer lacks: sorted of a tuple of tuples of whole numbers. -/
namespace KR
open PySem PySem.Spec PyProof.Rows L2
section
variable {prog : Program} {w : World} {A : Around} {E : Value → Shared → Prop} {s : Shared}
/-- what a built-in gathers of a tuple -/
theorem gather_tup {t : Addr} {vs : List Value} {Q : List Value → Shared → Prop} (ht : IsTup s.heap t vs.toArray) (hz : vs.length ≤ sizeLine)
    (h : Q vs { s with heap := (s.heap.push (seqObj "list" #[] 0)).update s.heap.objs.size (Obj.mapSeq (· ++ vs.toArray)) }) : wpAny (model prog w) A (collect (.ref t)) Q E s := by
  obtain ⟨o, ho, hc, n, hd⟩ := ht
  have fresh : (s.heap.push (seqObj "list" #[] 0)).get? s.heap.objs.size = some (seqObj "list" #[] 0) := Heap.get?_push_size _ rfl
  have old : (s.heap.push (seqObj "list" #[] 0)).get? t = some o := Heap.get?_push_of_some _ ho
  have tt : ((Value.type "tuple" == Value.type "tuple") : Bool) = true := rfl
  unfold collect
  refine wpAny_bind (wpAny_runValue (codeAny_builtin PySem.F.entry_proto_collect ?_))
  refine wpAny_bind (wpAny_newObj_type (wpAny_pure ⟨Code.quiet_builtin _ (by decide +kernel), codeAny_builtin PySem.F.entry_list_iadd ?_⟩) (Nat.zero_le _))
  show wpAny _ _ (Builtin.List.listExtendWith (.ref s.heap.objs.size) (.ref t) (.ref s.heap.objs.size)) _ _ { s with heap := s.heap.push (seqObj "list" #[] 0) }
  unfold Builtin.List.listExtendWith
  refine wpAny_bind (wpAny_typeOf (T := "tuple") ⟨o, old, hc⟩ ?_)
  rw [if_pos (by rw [tt]; simp)]
  refine wpAny_bind (listItems_at old hd (wpAny_bind (listItems_at fresh rfl ?_)))
  rw [if_neg (by simp)]
  refine wpAny_bind (listUpdate_at fresh rfl (wpAny_pure ?_) (Nat.zero_le _) (by show ((#[] : Array Value) ++ vs.toArray).size ≤ sizeLine + 1; simp; omega))
  refine wpAny_bind (wpAny_load (get?_update_seq fresh _) ?_)
  have e : ((#[] : Array Value) ++ vs.toArray).toList = vs := by simp
  show wpAny _ _ (pure ((#[] : Array Value) ++ vs.toArray).toList) Q E _
  rw [e]
  exact wpAny_pure h
/-- sorted(t), t a tuple of tuples of d whole numbers in [0, B) -/
theorem sorted_tupT {t : Addr} {vs : List Value} {d : Nat} {B : Int} {Q : Value → Shared → Prop} (ht : IsTup s.heap t vs.toArray) (h64 : vs.length < 64) (hd : 1 ≤ d) (x : TS.TupsOk s.heap d B vs)
    (h : ∀ out : Array Value, out.toList.Perm vs → out.toList.Pairwise (fun u v => TS.code B (TS.intsOf s.heap u) ≤ TS.code B (TS.intsOf s.heap v)) → Q (.ref (s.heap.objs.size + 1)) { s with heap := sortedAll s.heap vs out }) :
    wpAny (model prog w) A (call (.builtin "sorted") [.ref t]) Q E s := by
  have hz : vs.length ≤ sizeLine := by rw [sizeLine_eq]; omega
  refine Calls.call_function_entry kind_sorted plain_sorted entry_sorted (args_sorted1 _) ?_
  unfold Builtin.«sorted»
  refine wpAny_bind (m := checkCount "sorted" 1 1 _) (wpAny_pure (wpAny_bind (gather_tup ht hz (wpAny_bind (wpAny_newList ?_ hz)))))
  generalize hH : (s.heap.push (seqObj "list" #[] 0)).update s.heap.objs.size (Obj.mapSeq (· ++ vs.toArray)) = H1
  have size1 : H1.objs.size = s.heap.objs.size + 1 := by rw [← hH, Heap.size_update, size_push']
  have list1 : (H1.push (seqObj "list" vs.toArray 0)).get? (s.heap.objs.size + 1) = some (seqObj "list" vs.toArray 0) := by rw [← size1]; exact Heap.get?_push_size _ rfl
  have stays : ∀ b o, s.heap.get? b = some o → o.cls = .type "tuple" → (H1.push (seqObj "list" vs.toArray 0)).get? b = some o := fun b o q _ => by
    have lt : b < s.heap.objs.size := Heap.lt_size q
    rw [Heap.get?_push_ne _ _ _ (by rw [size1]; exact Nat.ne_of_lt (Nat.lt_succ_of_lt lt)), ← hH, Heap.get?_update_ne _ _ _ _ (Nat.ne_of_lt lt), Heap.get?_push_ne _ _ _ (Nat.ne_of_lt lt)]
    exact q
  have sa : ∀ out, sortedAll s.heap vs out = sortedHeap (H1.push (seqObj "list" vs.toArray 0)) (s.heap.objs.size + 1) vs out := fun out => by rw [← hH]; rfl
  show wpAny _ _ _ _ _ { s with heap := H1.push (seqObj "list" vs.toArray 0) }
  rw [size1]
  refine wpAny_bind (wpAny_holding (wpAny_call_entry slot_list_sort ⟨_, list1, rfl⟩ entry_list_sort (TS.sort_tups list1 h64 hd (x.keeps stays) (fun v => TS.code B (TS.intsOf s.heap v)) (fun v hv ns tv => ?_) fun out p1 p2 => ⟨_, rfl, wpAny_pure ⟨_, rfl, ?_⟩⟩) (args_list_sort _)))
  · obtain ⟨ms, tm, _⟩ := x v hv
    have e : ns = ms := tv.ints.symm.trans (tm.keeps stays).ints
    show TS.code B (TS.intsOf s.heap v) = TS.code B ns
    rw [e, tm.ints]
  · show Q _ { s with heap := sortedHeap (H1.push (seqObj "list" vs.toArray 0)) (s.heap.objs.size + 1) vs out }
    rw [← sa]
    exact h out p1 p2
end
section
variable {X : Cx}
def rSortT (K : PySem.W.Frag) (d : Nat) (B : Int) : List V → Hp → VK → Prop := fun vs H Q => ∃ (a : Addr) (xs : List V), vs = [V.ref a] ∧ SqT K H a xs ∧ xs.length < 64 ∧ (∀ x ∈ xs, ∃ ns, TupI K H x ns ∧ ns.length = d ∧ TS.Bd B ns) ∧
  ∀ (ys : List V) (p : Addr), ys.Perm xs → ys.Pairwise (fun x y => ∀ n m, TupI K H x n → TupI K H y m → TS.code B n ≤ TS.code B m) → H p = none → Q (.ref p) (upd H p (.lst ys))
theorem cr_sortTT {d : Nat} {B : Int} (hd : 1 ≤ d) : CallR X (.builtin "sorted") (rSortT X.K d B) := by
  intro pins s σ H vs us Q I r ⟨a, xs, ev, hs, h64, hx, q⟩
  subst ev
  obtain ⟨its, rv, hl, hz⟩ := I.tuple hs
  rw [Vals.ref1 r]
  obtain ⟨e1, e2⟩ := bkV_refs rv fun x m => (let ⟨_, ⟨t, e, _⟩, _⟩ := hx x m; ⟨t, e⟩)
  have low : ∀ {x : V} {n : List Int}, TupI X.K H x n → ∀ {u : Value}, bkV u = x → TS.intsOf s.heap u = n := fun {x n} ⟨t, et, ht⟩ {u} eu => by
    rw [bkV_ref (eu.trans et)]
    exact (tupI_raw I ht).ints
  refine sorted_tupT (d := d) (B := B) hl (by rw [← rv.length]; exact h64) hd (fun v hv => ?_) fun out h1 h2 => ?_
  · obtain ⟨t, rfl⟩ := e2 v hv
    obtain ⟨ns, ⟨t', e, ht⟩, hn, hb⟩ := hx (V.ref t) (by rw [e1]; exact List.mem_map.mpr ⟨_, hv, rfl⟩)
    cases e
    exact ⟨ns, tupI_raw I ht, hn, hb⟩
  · obtain ⟨ep, at'⟩ := PyProof.Rows.sortedAll_at s.heap its out
    have hp : (out.toList.map bkV).Perm xs := e1 ▸ h1.map bkV
    have new := I.hok.fresh (Nat.le_succ s.heap.objs.size)
    refine ⟨.ref (s.heap.objs.size + 1), upd H (s.heap.objs.size + 1) (.lst (out.toList.map bkV)), I.laid (t' := s.toks) (fun _ _ => PyProof.Rows.sortedAll_old) (Nat.le_succ _) ⟨by rw [hp.length_eq]; exact hz, out.toList, ep, bkV_vals (fun u hu => e2 u (h1.mem_iff.mp hu)), at'⟩, rfl, q _ _ hp ?_ new⟩
    refine List.pairwise_map.mpr (h2.imp fun {u v} huv n m hn hm => ?_)
    rw [← low hn rfl, ← low hm rfl]
    exact huv
end
end KR
end

section
set_option Elab.async false
set_option linter.all false
set_option maxRecDepth 100000
set_option maxHeartbeats 4000000
/-! sorted over data: tuples of whole numbers. -/
namespace DL
open PySem PySem.Spec PyProof.Rows L2
theorem code_inj {B : Int} : ∀ {n m : List Int}, n.length = m.length → TS.Bd B n → TS.Bd B m → TS.code B n = TS.code B m → n = m
  | [], [], _, _, _, _ => rfl
  | a :: n, b :: m, hl, hn, hm, e => by
    have hl' : n.length = m.length := by simpa using hl
    rcases Int.lt_trichotomy a b with h | h | h
    · have := TS.code_lt hl' hn.tail hm.tail h
      omega
    · subst h
      have e2 : TS.code B n = TS.code B m := by
        rcases Int.lt_trichotomy (TS.code B n) (TS.code B m) with k | k | k
        · have := (TS.code_same (d := a) hl').mpr k; omega
        · exact k
        · have := (TS.code_same (d := a) hl'.symm).mpr k; omega
      rw [code_inj hl' hn.tail hm.tail e2]
    · have := TS.code_lt hl'.symm hm.tail hn.tail h
      omega
def encI (ns : List Int) : PyData := .tuple (ns.map PyData.int)
structure RowsOk (d : Nat) (B : Int) (rows : List (List Int)) : Prop where
  all : ∀ r ∈ rows, r.length = d ∧ TS.Bd B r
abbrev Asc (B : Int) (rows : List (List Int)) : Prop := rows.Pairwise fun a b => TS.code B a ≤ TS.code B b
theorem asc_unique {d : Nat} {B : Int} {a b : List (List Int)} (h : RowsOk d B a) (p : b.Perm a) (ha : Asc B a) (hb : Asc B b) : b = a := by
  refine p.eq_of_pairwise (fun x y hx hy h1 h2 => ?_) hb ha
  obtain ⟨l1, b1⟩ := h.all x (p.mem_iff.mp hx)
  obtain ⟨l2, b2⟩ := h.all y hy
  exact code_inj (l1.trans l2.symm) b1 b2 (Int.le_antisymm h1 h2)
section
variable {K : PySem.W.Frag} {H : Hp}
theorem dpa_perm {xs ys : List V} (p : ys.Perm xs) : ∀ {ds : List PyData}, DpAll K H xs ds → ∃ es, es.Perm ds ∧ DpAll K H ys es := by
  induction p with
  | nil => intro ds h; exact ⟨ds, .refl _, h⟩
  | cons x _ ih =>
    intro ds h
    cases h with
    | cons h t =>
      obtain ⟨es, q, z⟩ := ih t
      exact ⟨_, q.cons _, .cons h z⟩
  | swap x y l =>
    intro ds h
    cases h with
    | cons h t =>
      cases t with
      | cons h2 t => exact ⟨_, .swap _ _ _, .cons h2 (.cons h t)⟩
  | trans _ _ ih1 ih2 =>
    intro ds h
    obtain ⟨es, q, z⟩ := ih2 h
    obtain ⟨fs, q2, z2⟩ := ih1 z
    exact ⟨fs, q2.trans q, z2⟩
theorem perm_map {rows : List (List Int)} : ∀ {es : List PyData}, es.Perm (rows.map encI) → ∃ r2 : List (List Int), r2.Perm rows ∧ es = r2.map encI := by
  intro es p
  have key : ∀ {xs ys : List PyData}, xs.Perm ys → ∀ rows : List (List Int), ys = rows.map encI → ∃ r2 : List (List Int), r2.Perm rows ∧ xs = r2.map encI := by
    intro xs ys p
    induction p with
    | nil => intro rows e; exact ⟨rows, .refl _, e⟩
    | cons x _ ih =>
      intro rows e
      cases rows with
      | nil => cases e
      | cons r rows =>
        injection e with e1 e2
        obtain ⟨r2, q, e3⟩ := ih rows e2
        exact ⟨r :: r2, q.cons _, by rw [e3, e1]; rfl⟩
    | swap x y l =>
      intro rows e
      match rows, e with
      | r1 :: r2 :: rows, e =>
        injection e with e1 e2
        injection e2 with e2 e3
        exact ⟨r2 :: r1 :: rows, .swap _ _ _, by rw [e1, e2, e3]; rfl⟩
    | trans _ _ ih1 ih2 =>
      intro rows e
      obtain ⟨r2, q, e2⟩ := ih2 rows e
      obtain ⟨r3, q3, e3⟩ := ih1 r2 e2
      exact ⟨r3, q3.trans q, e3⟩
  exact key p rows rfl
theorem tupI_of {v : V} {ns : List Int} (h : Dp K H v (encI ns)) : TupI K H v ns := by
  obtain ⟨p, xs, e, hq, ha⟩ := dp_tup h
  rw [dpa_ints ha] at hq
  exact ⟨p, e, hq⟩
theorem dpa_tupI : ∀ {vs : List V} {rows : List (List Int)}, DpAll K H vs (rows.map encI) → ∀ v ∈ vs, ∃ r ∈ rows, TupI K H v r
  | _, [], .nil, v, hv => by cases hv
  | _, r :: rows, .cons h t, v, hv => by
    rcases List.mem_cons.mp hv with e | hv
    · subst e; exact ⟨r, List.mem_cons_self, tupI_of h⟩
    · obtain ⟨r', hr, z⟩ := dpa_tupI t v hv
      exact ⟨r', List.mem_cons_of_mem _ hr, z⟩
theorem dpa_asc {B : Int} : ∀ {vs : List V} {rows : List (List Int)}, DpAll K H vs (rows.map encI) → vs.Pairwise (fun x y => ∀ n m, TupI K H x n → TupI K H y m → TS.code B n ≤ TS.code B m) → Asc B rows
  | _, [], .nil, _ => List.Pairwise.nil
  | _, r :: rows, .cons h t, p => by
    obtain ⟨p1, p2⟩ := List.pairwise_cons.mp p
    refine List.pairwise_cons.mpr ⟨fun r' hr => ?_, dpa_asc t p2⟩
    obtain ⟨i, hi⟩ := List.getElem?_of_mem hr
    obtain ⟨v, hv, z⟩ := dpa_get t (i := i) (d := encI r') (by rw [List.getElem?_map, hi]; rfl)
    exact p1 v (List.mem_of_getElem? hv) r r' (tupI_of h) (tupI_of z)
end
theorem tupI_same {K : PySem.W.Frag} {H H' : Hp} {v : V} {ns : List Int} (s : Same H H') : TupI K H v ns → TupI K H' v ns := fun ⟨t, e, h⟩ => ⟨t, e, sqt_same s h⟩
section
variable {𝓜 : Md → Prop} {X : Cx} {ε : List Ent} {a : Expr} {pos p : Pos} {d : Nat} {B : Int} {rows rows' : List (List Int)}
theorem sorted_core {K : PySem.W.Frag} {md : Md} {M : Hd} {H : Hp} {Q : VK} {xs : List V} (hr : RowsOk d B rows') (hp : rows'.Perm rows) (ha : Asc B rows') (dm : ∀ a, M a = true → H a ≠ none) (i : md.inv H) (z : DpAll K (hid H M) xs (rows.map encI))
    (q : ∀ v H' d, Is (.list (rows'.map encI)) d → Rel md H H' → md.inv H' → Dp K (hid H' M) v d → Q v H') :
    ∀ (ys : List V) (p : Addr), ys.Perm xs → ys.Pairwise (fun x y => ∀ n m, TupI K H x n → TupI K H y m → TS.code B n ≤ TS.code B m) → H p = none → Q (.ref p) (upd H p (.lst ys)) := fun ys p hy hs np => by
  obtain ⟨es, pe, ze⟩ := dpa_perm hy z
  obtain ⟨r2, p2, rfl⟩ := perm_map pe
  have ha2 : Asc B r2 := dpa_asc ze (hs.imp fun {x y} h n m hn hm => h n m (tupI_same hid_same hn) (tupI_same hid_same hm))
  have e : r2 = rows' := asc_unique hr (p2.trans hp.symm) ha ha2
  subst e
  exact q (.ref p) _ _ rfl (new_same np) (md.stab _ _ i (same_new np)) (new_lst np dm ze)
theorem pd_sortedT' (hd : 1 ≤ d) (hg : Gl X "sorted") (hm : X.mg "sorted" = none) (hr : RowsOk d B rows') (hp : rows'.Perm rows) (ha : Asc B rows') (h64 : rows.length < 64) (he : PD 𝓜 X ε a (Is (.tuple (rows.map encI))))
    (hs : starEach [a] X.env = (false, eval a X.env) :: starEach [] X.env := by rfl) (hpl : (backTo pos (starEach [] X.env)).any (·.1) = false := by rfl) : PD 𝓜 X ε (.Call (.Name "sorted" p) [a] [] pos) (Is (.list (rows'.map encI))) :=
  pd_cb (KR.cr_sortTT (d := d) (B := B) hd) (L := IsL [.tuple (rows.map encI)]) (fun md M H xs l Q i dm m0 e z q => by
    cases e
    obtain ⟨v, rfl, z1⟩ := dpa1 z
    obtain ⟨t, ys, rfl, hq, hy⟩ := dp_tup z1
    refine ⟨t, ys, rfl, sqt_same hid_same hq, by rw [dpa_len hy, List.length_map]; exact h64, fun x hx => ?_, sorted_core hr hp ha dm i hy q⟩
    obtain ⟨r, hrm, zr⟩ := dpa_tupI hy x hx
    exact ⟨r, tupI_same hid_same zr, hr.all r (hp.mem_iff.mpr hrm)⟩) hg hm (by decide +kernel) (pdl_cons he pdl_nil hs) (by decide) (by decide) hs hpl
theorem pd_sortedT {dd : PyData} (hd : 1 ≤ d) (hg : Gl X "sorted") (hm : X.mg "sorted" = none) (hr : RowsOk d B rows') (hp : rows'.Perm rows) (ha : Asc B rows') (h64 : rows.length < 64) (he : PD 𝓜 X ε a (Is (.tuple (rows.map encI))))
    (hs : starEach [a] X.env = (false, eval a X.env) :: starEach [] X.env := by rfl) (hpl : (backTo pos (starEach [] X.env)).any (·.1) = false := by rfl) (hdd : PyData.list (rows'.map encI) = dd := by rfl) : PD 𝓜 X ε (.Call (.Name "sorted" p) [a] [] pos) (Is dd) := pd_to (pd_sortedT' hd hg hm hr hp ha h64 he hs hpl) hdd
theorem pd_sortedL' (hd : 1 ≤ d) (hg : Gl X "sorted") (hm : X.mg "sorted" = none) (hr : RowsOk d B rows') (hp : rows'.Perm rows) (ha : Asc B rows') (h64 : rows.length < 64) (he : PD 𝓜 X ε a (Is (.list (rows.map encI))))
    (hs : starEach [a] X.env = (false, eval a X.env) :: starEach [] X.env := by rfl) (hpl : (backTo pos (starEach [] X.env)).any (·.1) = false := by rfl) : PD 𝓜 X ε (.Call (.Name "sorted" p) [a] [] pos) (Is (.list (rows'.map encI))) :=
  pd_cb (cr_sortT (d := d) (B := B) hd) (L := IsL [.list (rows.map encI)]) (fun md M H xs l Q i dm m0 e z q => by
    cases e
    obtain ⟨v, rfl, z1⟩ := dpa1 z
    obtain ⟨t, ys, rfl, hq, hy⟩ := dp_lst z1
    refine ⟨t, ys, rfl, hid_same.seq hq, by rw [dpa_len hy, List.length_map]; exact h64, fun x hx => ?_, sorted_core hr hp ha dm i hy q⟩
    obtain ⟨r, hrm, zr⟩ := dpa_tupI hy x hx
    exact ⟨r, tupI_same hid_same zr, hr.all r (hp.mem_iff.mpr hrm)⟩) hg hm (by decide +kernel) (pdl_cons he pdl_nil hs) (by decide) (by decide) hs hpl
theorem pd_sortedL {dd : PyData} (hd : 1 ≤ d) (hg : Gl X "sorted") (hm : X.mg "sorted" = none) (hr : RowsOk d B rows') (hp : rows'.Perm rows) (ha : Asc B rows') (h64 : rows.length < 64) (he : PD 𝓜 X ε a (Is (.list (rows.map encI))))
    (hs : starEach [a] X.env = (false, eval a X.env) :: starEach [] X.env := by rfl) (hpl : (backTo pos (starEach [] X.env)).any (·.1) = false := by rfl) (hdd : PyData.list (rows'.map encI) = dd := by rfl) : PD 𝓜 X ε (.Call (.Name "sorted" p) [a] [] pos) (Is dd) := pd_to (pd_sortedL' hd hg hm hr hp ha h64 he hs hpl) hdd
end
end DL
end

section
set_option Elab.async false
set_option linter.all false
set_option maxRecDepth 100000
set_option maxHeartbeats 4000000
/-! enumerate over a tuple; zip of three. -/
namespace KR
open PySem PySem.Spec PyProof.Rows L2
/-! ### enumerate(v) begins, v told by how it begins -/
theorem enum_newB {v : Value} {o : Obj} {H : Heap → Prop} (B : Begins v o H) :
    Meets (Builtin.«enumerate.__new__» ⟨[.type "enumerate", v], []⟩) (fun _ R s => H s.heap ∧
      R (.ok (.ret (.ref (s.heap.push o).objs.size))) { s with heap := (s.heap.push o).push { cls := .type "enumerate", data := .fields #[.none, .bool false, .ref s.heap.objs.size, rawInt 0, .none, .none] } }) :=
  .of_wp fun prog w A R s h => by
    obtain ⟨hp, g, d, tk, os⟩ := s; obtain ⟨h1, h⟩ := h
    have hsub := sub_enumerate
    have q1 : ∀ {A' : Around} {E : Value → Shared → Prop} {Q : Value → Shared → Prop}, Q (.ref hp.objs.size) ⟨hp.push o, g, d, tk, os⟩ → wpAny (model prog w) A' (pyIter v) Q E ⟨hp, g, d, tk, os⟩ :=
      fun q => B.iter prog w _ _ ⟨hp, g, d, tk, os⟩ _ h1 q
    wp_walk using q1
    refine wpAny_stack_any fun st => wpAny_pure ?_
    split
    · rename_i c _ _ _ _ _
      cases (c == Value.type "enumerate")
      · wp_walk using q1
        exact ⟨_, rfl, h⟩
      · wp_walk using q1
        exact ⟨_, rfl, h⟩
    · wp_walk using q1
      exact ⟨_, rfl, h⟩
section
variable {prog : Program} {w : World} {A : Around} {E : Value → Shared → Prop} {s : Shared}
theorem enum_starts {v : Value} {o : Obj} {H : Heap → Prop} {Q : Value → Shared → Prop} (B : Begins v o H) (h1 : H s.heap)
    (h : ∀ h', IsEnum h' (s.heap.objs.size + 1) s.heap.objs.size 0 .none → h'.get? s.heap.objs.size = some o → h'.objs.size = s.heap.objs.size + 2 →
      (∀ b o, s.heap.get? b = some o → h'.get? b = some o) → Q (.ref (s.heap.objs.size + 1)) { s with heap := h' }) :
    wpAny (model prog w) A (call (.type "enumerate") [v]) Q E s := by
  refine callType_new F.called_enumerate (by decide) (F.typeCall_enumerate_1 _) (F.newCall_enumerate_1 _) (fun obj => F.args_object_init_2 obj _) F.entry_enumerate_new
    (enum_newB B) ⟨h1, ?_⟩
  have hz : (s.heap.push o).objs.size = s.heap.objs.size + 1 := Heap.size_push ..
  show _ ∧ _
  rw [hz]
  have he : IsEnum ((s.heap.push o).push { cls := .type "enumerate", data := .fields #[.none, .bool false, .ref s.heap.objs.size, rawInt 0, .none, .none] }) (s.heap.objs.size + 1) s.heap.objs.size 0 .none := by
    have := Heap.get?_push_size (s.heap.push o) (o := { cls := .type "enumerate", data := .fields #[.none, .bool false, .ref s.heap.objs.size, rawInt 0, .none, .none] }) rfl
    rw [hz] at this; exact this
  refine ⟨⟨_, he, rfl⟩, h _ he (Heap.get?_push_of_some _ (Heap.get?_push_size _ B.free)) (by rw [Heap.size_push, hz]) fun b o x => Heap.get?_push_of_some _ (Heap.get?_push_of_some _ x)⟩
end
/-- the tuple at a, each item in a new pair -/
def IteT (K : PySem.W.Frag) (a : Addr) : It :=
  ⟨fun i H => ∃ (xs : List V) (x : V), SqT K H a xs ∧ xs[i]? = some x, fun i H v H' => ∃ T x, v = .ref T ∧ H T = none ∧ H' = upd H T (.tup [.int (i : Nat), x]) ∧ ∀ xs, SqT K H a xs → xs[i]? = some x, fun i H => ∃ xs : List V, SqT K H a xs ∧ xs.length = i⟩
theorem turn_enumT {P : Program} {w : World} {K : PySem.W.Frag} {elts : List Expr} {kk : Nat} {tpos : Pos} {a e it : Addr} (hae : a ≠ e) (hai : a ≠ it) :
    Turn P w K (.Tuple elts kk tpos) (IteT K a) [e, it] e (fun i h => (∃ old, IsEnum h e it ((i : Nat) : Int) old) ∧ h.IsTupleIter it a i ∧ e ≠ it) where
  mem := by simp
  obj := fun i h st b hb => by
    obtain ⟨⟨old, he⟩, ⟨o, ho, hc, hd⟩, _⟩ := st
    have e' : b = e ∨ b = it := by simpa using hb
    rcases e' with z | z
    · rw [z]; exact ⟨_, he, fun v q => nomatch q⟩
    · rw [z]; exact ⟨o, ho, fun v q => by rw [hd] at q; cases q⟩
  keep := fun i h h' st k => let ⟨⟨old, he⟩, hi, hne⟩ := st; ⟨⟨old, k e (by simp) _ he⟩, hi.at fun o q => k it (by simp) o q, hne⟩
  item := by
    intro X hP hw hK hc i pins s σ H E I hf st hg
    subst hP hw hK
    obtain ⟨⟨old, he⟩, hit, hne⟩ := st
    obtain ⟨xs, x, hq, hx⟩ := hg
    obtain ⟨its, rv, p, hz⟩ := I.tuple hq
    obtain ⟨u, hu, ru⟩ := rv.get hx
    have hel : e < s.heap.objs.size := Heap.lt_size he
    have hil : it < s.heap.objs.size := by obtain ⟨_, q, _⟩ := hit; exact Heap.lt_size q
    have D := Draws.tuple (prog := X.prog) (w := X.w) (A := X.A.in1) (I.ok.hd hc) it a hai its.toArray
    have hlt : i < its.toArray.size := by
      have := (List.getElem?_eq_some_iff.mp hu).1
      simpa using this
    refine wpAny_pyNext_enum_itemD D he ⟨hit, p⟩ hlt hne (by simp; exact ⟨hne, fun z => hae z.symm⟩) fun x' h' tk hP' ho st' hT hsz hk => ?_
    have hu' : its.toArray[i]? = some u := by simpa using hu
    rw [hu'] at hP'
    cases hP'
    refine ⟨_, rfl, wpAny_letOwnedTupleGo_enum (s := { s with heap := h', toks := tk + 1 }) ho fun h'' he' sb => ?_⟩
    have hT2 : h''.get? s.heap.objs.size = some { cls := .type "tuple", data := .seq #[.int i tk, u] } := (sb.2 _ (Nat.ne_of_gt hel)).trans hT
    have new : ObjOk X.prog X.w (upd H s.heap.objs.size (.tup [.int (i : Nat), x])) h'' s.heap.objs.size (.tup [.int (i : Nat), x]) :=
      ⟨by show 2 ≤ sizeLine; decide, [.int i tk, u], .cons ⟨_, rfl⟩ (.cons ru .nil), ⟨_, hT2, rfl, _, rfl⟩⟩
    have I1 : Inv X pins σ (upd H s.heap.objs.size (.tup [.int (i : Nat), x])) { s with heap := h'', toks := tk + 1 } :=
      I.turnedNew (ch := [e, it]) (fun b ob hb q => (sb.2 b (fun z => hb (by simp [z]))).trans (hk b ob (fun z => hb (by simp [z])) (fun z => hb (by simp [z])) q)) hf (Nat.le_refl _) new
    refine ⟨.ref s.heap.objs.size, _, I1, rfl, ⟨_, x, rfl, I.hok.fresh (Nat.le_refl _), rfl, fun ys hy => by rw [I.tuple_inj hy hq]; exact hx⟩, ⟨⟨u, ?_⟩, st'.1.at fun o q => (sb.2 it (Ne.symm hne)).trans q, hne⟩, fun b hb => ?_⟩
    · have e1 : ((i + 1 : Nat) : Int) = (i : Int) + 1 := by omega
      rw [e1]; exact he'
    · have hb' : b < s.heap.objs.size := by
        have e' : b = e ∨ b = it := by simpa using hb
        rcases e' with z | z
        · rw [z]; exact hel
        · rw [z]; exact hil
      rw [upd_ne (Nat.ne_of_lt hb')]
      exact (hf b hb).1
  done := by
    intro X hP hw hK hc i pins s σ H E I hf st hg
    subst hP hw hK
    obtain ⟨⟨old, he⟩, hit, hne⟩ := st
    obtain ⟨xs, hq, hx⟩ := hg
    obtain ⟨its, rv, p, hz⟩ := I.tuple hq
    obtain ⟨f0, f1, f2, f3, f4, f5⟩ := hf it (by simp)
    have hl := rv.length
    have D := Draws.tuple (prog := X.prog) (w := X.w) (A := X.A.in1) (I.ok.hd hc) it a hai its.toArray
    have en : i = its.toArray.size := by simp; omega
    exact wpAny_pyNext_enum_endD D he (by rw [← en]; exact ⟨hit, p⟩) fun h' eb => ⟨rfl, I.turned (t' := s.toks) (fun b o hb q => eb b o hb q) f0 f1 f3 f4 f5⟩
  self := fun A i s Q E st h => let ⟨⟨_, he⟩, _⟩ := st; wpAny_pyIter_enum he h
def iEnumT (K : PySem.W.Frag) (ta : TA) : TI := fun σ H R => ta σ H fun vs H1 => ∃ a xs, vs = [.ref a] ∧ SqT K H1 a xs ∧ R (IteT K a) H1
theorem pi_enumT {X : Cx} {e : Expr} {ta : TA} {p pos tpos : Pos} {elts : List Expr} {kk : Nat} (hg : Gl X "enumerate") (hm : X.mg "enumerate" = none) (ha : PA X [e] ta) (hs : starEach [e] X.env = [(false, eval e X.env)] := by rfl) :
    PI X (.Tuple elts kk tpos) (.Call (.Name "enumerate" p) [e] [] pos) (iEnumT X.K ta) := by
  refine ⟨fun pins s σ H R I h => ?_⟩
  refine Call_ (ld_blt I hg hm boot_enumerate (PyProof.Rows.callWith_type1 (thn (ha.run pos pins s σ H _ I h) fun us s1 ⟨vs, H1, I1, r1, q1⟩ => ?_) hs rfl))
  obtain ⟨a, xs, ex, hq, q⟩ := q1
  subst ex
  cases r1 with
  | cons r rr =>
    cases rr
    cases r
    obtain ⟨its, rv, p', hz⟩ := I1.tuple hq
    have hal : a < s1.heap.objs.size := by obtain ⟨_, q, _⟩ := id p'; exact Heap.lt_size q
    refine enum_starts (begins_tuple a its.toArray) p' fun h' he hit hsz hk => wpAny_pyIter_enum he ?_
    have I2 : Inv X pins σ H1 { s1 with heap := h' } := I1.kept (t' := s1.toks) hk
    refine ⟨s1.heap.objs.size + 1, [s1.heap.objs.size + 1, s1.heap.objs.size], _, _, H1, rfl, I2, turn_enumT (a := a) (Nat.ne_of_lt (Nat.lt_succ_of_lt hal)) (Nat.ne_of_lt hal), ⟨⟨.none, he⟩, ⟨_, hit, rfl, rfl⟩, Nat.succ_ne_self _⟩, fun b hb => ?_, q⟩
    have e' : b = s1.heap.objs.size + 1 ∨ b = s1.heap.objs.size := by simpa using hb
    have hle : s1.heap.objs.size ≤ b := by
      rcases e' with z | z
      · rw [z]; exact Nat.le_add_right _ _
      · rw [z]; exact Nat.le_refl _
    exact I1.fpOk hle (I1.hok.fresh hle)
/-! ### zip of two lists and a tuple -/
def Itz3 (K : PySem.W.Frag) (a b c : Addr) : It :=
  ⟨fun i H => ∃ (xs ys zs : List V) (x y z : V), SqL K H a xs ∧ SqL K H b ys ∧ SqT K H c zs ∧ xs[i]? = some x ∧ ys[i]? = some y ∧ zs[i]? = some z,
    fun i H v H' => ∃ T x y z, v = .ref T ∧ H T = none ∧ H' = upd H T (.tup [x, y, z]) ∧ (∀ xs, SqL K H a xs → xs[i]? = some x) ∧ (∀ ys, SqL K H b ys → ys[i]? = some y) ∧ ∀ zs, SqT K H c zs → zs[i]? = some z,
    fun i H => ∃ xs ys zs : List V, SqL K H a xs ∧ SqL K H b ys ∧ SqT K H c zs ∧ xs.length = i ∧ ys.length = i ∧ zs.length = i⟩
theorem turn_zip3 {P : Program} {w : World} {K : PySem.W.Frag} {elts : List Expr} {kk : Nat} {tpos : Pos} {a b c z TI TO i1 i2 i3 : Addr} (D : ZipSep3 z TI TO i1 i2 i3 [i1, a] [i2, b] [i3, c]) (ha : a ≠ i1) (hb : b ≠ i2) (hc3 : c ≠ i3) :
    Turn P w K (.Tuple elts kk tpos) (Itz3 K a b c) [z, TI, TO, i1, i2, i3] z (fun i h => IsZip h z TI TO .none ∧ IsTupOf3 h TI (.ref i1) (.ref i2) (.ref i3) ∧ (∃ x y u, IsTupOf3 h TO x y u) ∧ h.IsListIter i1 a i ∧ h.IsListIter i2 b i ∧ h.IsTupleIter i3 c i) where
  mem := by simp
  obj := fun i h st c hc => by
    obtain ⟨hz, hTI, ⟨x, y, u, hTO⟩, ⟨o1, e1, _, d1⟩, ⟨o2, e2, _, d2⟩, ⟨o3, e3, _, d3⟩⟩ := st
    have e' : c = z ∨ c = TI ∨ c = TO ∨ c = i1 ∨ c = i2 ∨ c = i3 := by simpa using hc
    rcases e' with q | q | q | q | q | q
    · rw [q]; exact ⟨_, hz, fun v q => nomatch q⟩
    · rw [q]; exact ⟨_, hTI, fun v q => nomatch q⟩
    · rw [q]; exact ⟨_, hTO, fun v q => nomatch q⟩
    · rw [q]; exact ⟨o1, e1, fun v q => by rw [d1] at q; cases q⟩
    · rw [q]; exact ⟨o2, e2, fun v q => by rw [d2] at q; cases q⟩
    · rw [q]; exact ⟨o3, e3, fun v q => by rw [d3] at q; cases q⟩
  keep := fun i h h' st k => by
    obtain ⟨hz, hTI, ⟨x, y, u, hTO⟩, h1, h2, h3⟩ := st
    exact ⟨k z (by simp) _ hz, k TI (by simp) _ hTI, ⟨x, y, u, k TO (by simp) _ hTO⟩, h1.at fun o q => k i1 (by simp) o q, h2.at fun o q => k i2 (by simp) o q, h3.at fun o q => k i3 (by simp) o q⟩
  item := by
    intro X hP hw hK hc i pins s σ H E I hf st hg
    subst hP hw hK
    obtain ⟨hz, hTI, ⟨x0, y0, u0, hTO⟩, h1, h2, h3⟩ := st
    obtain ⟨xs, ys, zs, x, y, u, hqx, hqy, hqz, hx, hy, hu⟩ := hg
    obtain ⟨its, rv, p, _⟩ := I.list hqx
    obtain ⟨its2, rv2, p2, _⟩ := I.list hqy
    obtain ⟨its3, rv3, p3, _⟩ := I.tuple hqz
    obtain ⟨v1, hv1, r1⟩ := rv.get hx
    obtain ⟨v2, hv2, r2⟩ := rv2.get hy
    obtain ⟨v3, hv3, r3⟩ := rv3.get hu
    have hzl : z < s.heap.objs.size := Heap.lt_size hz
    have D1 := Draws.list (prog := X.prog) (w := X.w) (A := X.A.in1) (I.ok.hd hc) i1 a ha its.toArray
    have D2 := Draws.list (prog := X.prog) (w := X.w) (A := X.A.in1) (I.ok.hd hc) i2 b hb its2.toArray
    have D3 := Draws.tuple (prog := X.prog) (w := X.w) (A := X.A.in1) (I.ok.hd hc) i3 c hc3 its3.toArray
    have l1 : i < its.toArray.size := by have := (List.getElem?_eq_some_iff.mp hv1).1; simpa using this
    have l2 : i < its2.toArray.size := by have := (List.getElem?_eq_some_iff.mp hv2).1; simpa using this
    have l3 : i < its3.toArray.size := by have := (List.getElem?_eq_some_iff.mp hv3).1; simpa using this
    refine wpAny_pyNext_zipD3_item D D1 D2 D3 hz hTI hTO ⟨h1, p.isList⟩ ⟨h2, p2.isList⟩ ⟨h3, p3⟩ l1 l2 l3 fun w1 w2 w3 h' tk y1 y2 y3 z' TO' t1 t2 t3 hT hsz hk => ?_
    have q1 : its.toArray[i]? = some v1 := by simpa using hv1
    have q2 : its2.toArray[i]? = some v2 := by simpa using hv2
    have q3 : its3.toArray[i]? = some v3 := by simpa using hv3
    rw [q1] at y1
    rw [q2] at y2
    rw [q3] at y3
    cases y1; cases y2; cases y3
    refine ⟨_, rfl, wpAny_letOwnedTupleGo_zip (s := { s with heap := h', toks := tk }) z' fun h'' z'' sb => ?_⟩
    have hT2 : h''.get? s.heap.objs.size = some { cls := .type "tuple", data := .seq #[v1, v2, v3] } := (sb.2 _ (Nat.ne_of_gt hzl)).trans hT
    have new : ObjOk X.prog X.w (upd H s.heap.objs.size (.tup [x, y, u])) h'' s.heap.objs.size (.tup [x, y, u]) :=
      ⟨by show 3 ≤ sizeLine; decide, [v1, v2, v3], .cons r1 (.cons r2 (.cons r3 .nil)), ⟨_, hT2, rfl, _, rfl⟩⟩
    have I1 : Inv X pins σ (upd H s.heap.objs.size (.tup [x, y, u])) { s with heap := h'', toks := tk } :=
      I.turnedNew (t' := tk) (ch := [z, TI, TO, i1, i2, i3]) (fun c o hb q => (sb.2 c (fun q' => hb (by simp [q']))).trans (hk c o (fun q' => hb (by simp [q'])) (fun q' => hb (by simp [q'])) (fun q' => hb (by simp [q'])) (fun q' => hb (by simp [q'])) (fun q' => hb (by simp [q'])) q)) hf (Nat.le_refl _) new
    refine ⟨.ref s.heap.objs.size, _, I1, rfl, ⟨_, x, y, u, rfl, I.hok.fresh (Nat.le_refl _), rfl, fun l hl => by rw [I.list_inj hl hqx]; exact hx, fun l hl => by rw [I.list_inj hl hqy]; exact hy, fun l hl => by rw [I.tuple_inj hl hqz]; exact hu⟩, ⟨z'', ?_, ⟨v1, v2, v3, ?_⟩, ?_, ?_, ?_⟩, fun c hcm => ?_⟩
    · exact (sb.2 _ D.TIz).trans (hk _ _ D.TIz D.TITO D.TIi1 D.TIi2 D.TIi3 hTI)
    · exact (sb.2 _ D.TOz).trans TO'
    · exact t1.1.at fun o q => (sb.2 _ (Ne.symm D.zi1)).trans q
    · exact t2.1.at fun o q => (sb.2 _ (Ne.symm D.zi2)).trans q
    · exact t3.1.at fun o q => (sb.2 _ (fun e => D.zf3 (by rw [← e]; simp))).trans q
    · have hlt : c < s.heap.objs.size := by
        have e' : c = z ∨ c = TI ∨ c = TO ∨ c = i1 ∨ c = i2 ∨ c = i3 := by simpa using hcm
        rcases e' with q | q | q | q | q | q
        · rw [q]; exact hzl
        · rw [q]; exact Heap.lt_size hTI
        · rw [q]; exact Heap.lt_size hTO
        · rw [q]; obtain ⟨_, e1, _⟩ := h1; exact Heap.lt_size e1
        · rw [q]; obtain ⟨_, e2, _⟩ := h2; exact Heap.lt_size e2
        · rw [q]; obtain ⟨_, e3, _⟩ := h3; exact Heap.lt_size e3
      rw [upd_ne (Nat.ne_of_lt hlt)]
      exact (hf c hcm).1
  done := by
    intro X hP hw hK hc i pins s σ H E I hf st hg
    subst hP hw hK
    obtain ⟨hz, hTI, ⟨x0, y0, u0, hTO⟩, h1, h2, h3⟩ := st
    obtain ⟨xs, ys, zs, hqx, hqy, hqz, e1, e2, e3⟩ := hg
    obtain ⟨its, rv, p, _⟩ := I.list hqx
    obtain ⟨its2, rv2, p2, _⟩ := I.list hqy
    obtain ⟨its3, rv3, p3, _⟩ := I.tuple hqz
    have l1 := rv.length
    have l2 := rv2.length
    have l3 := rv3.length
    have D1 := Draws.list (prog := X.prog) (w := X.w) (A := X.A.in1) (I.ok.hd hc) i1 a ha its.toArray
    have D2 := Draws.list (prog := X.prog) (w := X.w) (A := X.A.in1) (I.ok.hd hc) i2 b hb its2.toArray
    have D3 := Draws.tuple (prog := X.prog) (w := X.w) (A := X.A.in1) (I.ok.hd hc) i3 c hc3 its3.toArray
    refine wpAny_pyNext_zipD3_end D D1 D2 D3 hz hTI hTO (i := i) ⟨h1, p.isList⟩ ⟨h2, p2.isList⟩ ⟨h3, p3⟩ (by simp; omega) (by simp; omega) (by simp; omega) (by left; simp; omega) fun h' tk hk => ⟨rfl, ?_⟩
    exact I.turnedL (t' := tk) (ch := [z, TI, TO, i1, i2, i3]) (fun c o hb q =>
      hk c o (fun q' => hb (by simp [q'])) (fun q' => hb (by simp [q'])) (fun q' => hb (by simp [q'])) (fun q' => hb (by simp [q'])) (fun q' => hb (by simp [q'])) q) hf
  self := fun A i s Q E st h => wpAny_pyIter_zip st.1 h
def iZip3 (K : PySem.W.Frag) (ta : TA) : TI := fun σ H R => ta σ H fun vs H1 => ∃ a b c xs ys zs, vs = [.ref a, .ref b, .ref c] ∧ SqL K H1 a xs ∧ SqL K H1 b ys ∧ SqT K H1 c zs ∧ R (Itz3 K a b c) H1
theorem pi_zip3 {X : Cx} {e e2 e3 : Expr} {ta : TA} {p pos tpos : Pos} {elts : List Expr} {kk : Nat} (hg : Gl X "zip") (hm : X.mg "zip" = none) (ha : PA X [e, e2, e3] ta)
    (hs : starEach [e, e2, e3] X.env = (false, eval e X.env) :: starEach [e2, e3] X.env := by rfl) (hpl : (backTo pos (starEach [e2, e3] X.env)).any (·.1) = false := by rfl) :
    PI X (.Tuple elts kk tpos) (.Call (.Name "zip" p) [e, e2, e3] [] pos) (iZip3 X.K ta) := by
  refine ⟨fun pins s σ H R I h => ?_⟩
  refine Call_ (ld_blt I hg hm PyProof.Rows.boot_zip (PyProof.Rows.callWith_type1 (thn (ha.run pos pins s σ H _ I h) fun us s1 ⟨vs, H1, I1, r1, q1⟩ => ?_) hs hpl))
  obtain ⟨a, b, c, xs, ys, zs, ex, hqx, hqy, hqz, q⟩ := q1
  subst ex
  cases r1 with
  | cons r rr =>
    cases rr with
    | cons r' rr =>
      cases rr with
      | cons r'' rr =>
        cases rr
        cases r
        cases r'
        cases r''
        obtain ⟨its, rv, p1, _⟩ := I1.list hqx
        obtain ⟨its2, rv2, p2, _⟩ := I1.list hqy
        obtain ⟨its3, rv3, p3, _⟩ := I1.tuple hqz
        have la : a < s1.heap.objs.size := p1.lt
        have lb : b < s1.heap.objs.size := p2.lt
        have lc : c < s1.heap.objs.size := by obtain ⟨_, q, _⟩ := id p3; exact Heap.lt_size q
        refine zip_begins3 (begins_list a its.toArray) (begins_list b its2.toArray) (begins_tuple c its3.toArray) p1.isList p2.isList p3 fun h' hz hTI hTO h1 h2 h3 hsz hk => wpAny_pyIter_zip hz ?_
        have I2 : Inv X pins σ H1 { s1 with heap := h' } := I1.kept (t' := s1.toks) hk
        refine ⟨s1.heap.objs.size + 5, [s1.heap.objs.size + 5, s1.heap.objs.size + 3, s1.heap.objs.size + 4, s1.heap.objs.size, s1.heap.objs.size + 1, s1.heap.objs.size + 2], _, _, H1, rfl, I2, turn_zip3 (zip_sep3 (N := s1.heap.objs.size) (fp1 := [a]) (fp2 := [b]) (fp3 := [c]) (by simpa using la) (by simpa using lb) (by simpa using lc)) (Nat.ne_of_lt la) (Nat.ne_of_lt (Nat.lt_succ_of_lt lb)) (Nat.ne_of_lt (Nat.lt_succ_of_lt (Nat.lt_succ_of_lt lc))), ⟨hz, hTI, ⟨_, _, _, hTO⟩, ⟨_, h1, rfl, rfl⟩, ⟨_, h2, rfl, rfl⟩, ⟨_, h3, rfl, rfl⟩⟩, fun c hcm => ?_, q⟩
        have e' : c = s1.heap.objs.size + 5 ∨ c = s1.heap.objs.size + 3 ∨ c = s1.heap.objs.size + 4 ∨ c = s1.heap.objs.size ∨ c = s1.heap.objs.size + 1 ∨ c = s1.heap.objs.size + 2 := by simpa using hcm
        have hle : s1.heap.objs.size ≤ c := by
          rcases e' with z | z | z | z | z | z
          · rw [z]; exact Nat.le_add_right _ _
          · rw [z]; exact Nat.le_add_right _ _
          · rw [z]; exact Nat.le_add_right _ _
          · rw [z]; exact Nat.le_refl _
          · rw [z]; exact Nat.le_add_right _ _
          · rw [z]; exact Nat.le_add_right _ _
        exact I1.fpOk hle (I1.hok.fresh hle)
end KR
end

section
set_option Elab.async false
set_option linter.all false
set_option maxRecDepth 100000
set_option maxHeartbeats 4000000
/-! Rules over HandS: an item by getItem, sum of a tuple, in over a tuple of data, set of a tuple, repr of data. -/
namespace KR
open PySem PySem.Spec PyProof.Rows L2
section
variable {X : Cx}
theorem get_list : PGet X (rIxL X.K) := by
  intro pins s σ H o i ov iv Q I rx ry h
  obtain ⟨p, xs, i, z, rfl, rfl, hq, he, q⟩ := h
  cases rx
  obtain ⟨t, rfl⟩ := ry
  obtain ⟨its, r, pl, hz⟩ := I.list hq
  obtain ⟨j, h1, h2, h3, h4, h5⟩ := atI_get he
  obtain ⟨w, ew, rw'⟩ := r.get h2
  have hl := r.length
  have hn := line63
  have fin : EP X pins σ Q w s := ⟨z, H, I, rw', q⟩
  by_cases h0 : 0 ≤ i
  · have hj : i.toNat = j := by
      rw [seqIndex_of h0 h5] at h1
      exact Option.some.inj h1
    exact wpAny_getItem_list pl.isList h0 (by omega) (by rw [hj]; simpa using ew) fin
  · have hj : (i + (its.toArray.size : Int)).toNat = j := by
      rw [seqIndex_neg (by omega) h4] at h1
      rw [List.size_toArray, ← hl]
      exact Option.some.inj h1
    exact wpAny_getItem_list_neg pl.isList (by omega) (by rw [List.size_toArray] <;> omega) (by omega) (by rw [hj]; simpa using ew) fin
def rSumTu (K : PySem.W.Frag) : List V → Hp → VK → Prop := fun vs H Q => ∃ (a : Addr) (ns : List Int), vs = [V.ref a] ∧ SqT K H a (ns.map V.int) ∧ Q (.int ns.sum) H
theorem sum_tup {prog : Program} {w : World} {A : Around} {E : Value → Shared → Prop} {s : Shared} {l : Addr} {its : List Value} {ns : List Int} {Q : Value → Shared → Prop} (hh : A.handled = none) (hl : s.heap.IsTuple l its.toArray) (hi : IntsAre its ns)
    (h : ∀ h' tk t', (∀ b o, s.heap.get? b = some o → h'.get? b = some o) → Q (.int ns.sum t') { s with heap := h', toks := tk }) : wpAny (model prog w) A (call (.builtin "sum") [.ref l]) Q E s := by
  obtain ⟨xs, e⟩ := hi.allInts.items
  have hn : numsOf (intItems xs).toList = ns := by rw [← e]; exact hi.numsOf
  rw [nums_intItems] at hn
  rw [e] at hl
  have hlt : l < s.heap.objs.size := by obtain ⟨_, e, _⟩ := id hl; exact Heap.lt_size e
  have hsz : (s.heap.push { cls := .type "tuple_iterator", data := .fields #[.ref l, .int 0 0] }).objs.size = s.heap.objs.size + 1 := Heap.size_push ..
  refine call_sum_walkG (wpAny_pyIter_tuple hl ?_)
  refine ⟨_, _, _, _, _, _, numAt xs, rfl, Walks.tuple (A := A.in1) hh _ l (Nat.ne_of_lt hlt) (intItems xs), ⟨⟨_, Heap.get?_push_size _ rfl, rfl, rfl⟩, hl.push _⟩, fun b hb => ?_, (fun _ _ => intItems_at), fun h' tk t' hk => ?_⟩
  · show b < (s.heap.push _).objs.size
    rw [hsz]
    rcases List.mem_cons.mp hb with rfl | hb
    · exact Nat.lt_succ_self _
    · rcases List.mem_cons.mp hb with rfl | hb
      · exact Nat.lt_succ_of_lt hlt
      · cases hb
  · have := h h' tk t' fun b o e => hk b o (fun hm => by
      have z := Heap.lt_size e
      rw [List.mem_singleton.mp hm] at z
      exact Nat.lt_irrefl _ z) (Heap.get?_push_of_some _ e)
    have e2 : preSum (numAt xs) (intItems xs).size = ns.sum := by
      rw [preSum_eq, List.take_of_length_le (by simp [intItems]), hn]
    rw [e2]
    exact this
theorem cr_sumTu (hc : X.calm = true) : CallR X (.builtin "sum") (rSumTu X.K) := by
  intro pins s σ H vs us Q I r h
  obtain ⟨a, ns, rfl, hs, q⟩ := h
  obtain ⟨its, rv, hl, _⟩ := I.tuple hs
  rw [Vals.ref1 r]
  exact sum_tup (I.ok.hd hc) hl rv.ints fun h' tk t' hk => ⟨.int _, H, I.kept hk, ⟨_, rfl⟩, q⟩
def rNotInTD (K : PySem.W.Frag) : R2 := fun x y H Q => ∃ d ds, Dp K H x d ∧ Dp K H y (.tuple ds) ∧ SeqAt.shaped d = true ∧ SeqAt.shaped (.tuple ds) = true ∧ Q (.bl (!ds.any fun z => PyData.eqv z d)) H
theorem op_notInTD (hu : X.A.units + 65 < cLine) : OpR X (compareOp .NotIn) (rNotInTD X.K) := by
  intro pins s σ H x y v u Q I rx ry h
  obtain ⟨d, ds, hd, he, sd, se, q⟩ := h
  obtain ⟨as, r1⟩ := Dp.reads I d x v hd rx
  obtain ⟨bs, r2⟩ := Dp.reads I (.tuple ds) y u he ry
  exact SeqAt.notIn_tuple_reads r2 r1 (SeqAt.canLay_of_shaped se) (SeqAt.canLay_of_shaped sd) (room_in_shaped sd hu) ⟨.bl _, H, I, rfl, q⟩
/-- repr(x), x data -/
def rReprD (K : PySem.W.Frag) : List V → Hp → VK → Prop := fun vs H Q => ∃ (v : V) (d : PyData), vs = [v] ∧ Dp K H v d ∧ isDisplay d = true ∧ d.hasDict = false ∧ d.showable = true ∧ d.depth ≤ 64 ∧ d.shown.length ≤ sizeLine ∧ Q (.str d.shown) H
theorem cr_reprD (hg : X.A.guards = some []) (hu : X.A.units + 70 < cLine) : CallR X (.builtin "repr") (rReprD X.K) := by
  intro pins s σ H vs us Q I r h
  obtain ⟨v, d, rfl, hd, hdd, h1, h2, h3, h4, q⟩ := h
  obtain ⟨u, rfl, ru⟩ := r.one
  obtain ⟨as, r1⟩ := Dp.reads I d v u hd ru
  obtain ⟨a, rfl⟩ := isRef_of_reads r1 hdd
  exact repr_of_reads' r1 h2 (PyData.noDict_hsm h1) hg (by omega) (fun _ _ e => e) (fun h' u tk hk => ⟨.str _, H, I.kept hk, ⟨_, rfl⟩, q⟩) h4
end
section
variable {P : Program} {w : World} {A : Around} {E : Value → Shared → Prop} {s : Shared}
theorem set_of_tup {l : Addr} {items : Array Value} (ks : List (Addr × List Int)) {Q : Value → Shared → Prop} (hh : A.handled = none) (hl : s.heap.IsTuple l items) (hit : items.toList = ks.map fun p => Value.ref p.1)
    (hk : ∀ p ∈ ks, IsT P w s.heap p.2 p.1) (hfew : ks.length < 64) (hu : A.units + 3 < cLine)
    (h : ∀ (h' : Heap) (tk : Nat) L es ep t, SetTR P w h' s.heap.objs.size L es ep t → Got ks ks.length L → (∀ b o, s.heap.get? b = some o → h'.get? b = some o) → Q (.ref s.heap.objs.size) { s with heap := h', toks := tk }) :
    wpAny (model P w) A (call (.type "set") [.ref l]) Q E s := by
  have hisz : items.size = ks.length := by
    have q := congrArg List.length hit
    rw [Array.length_toList, List.length_map] at q
    exact q
  obtain ⟨c, tl, hmro⟩ := F.called_set.mro
  have hmade := F.called_set.made
  have hsub := F.called_set.sub
  refine wpAny_call (codeAny_of_tree ?_)
  show wpAny _ _ (callAny (.type "set") _) _ _ _
  refine wpAny_pure ⟨Code.quiet_builtin _ (by decide +kernel), codeAny_builtin F.entry_type_call ?_⟩
  rw [Around.under_plain (weight_type_call_type "set" [.ref l] []) rfl]
  have h1 := F.called_set.notType
  have h2 := F.called_set.canCreate
  have hct := F.typeCall_set_1 (.ref l)
  repeat (any_goals (first | assumption | wp_step))

  refine codeAny_mono (code_set_led1 (.ref l) (E := E) (Q₁ := fun obj s₁ => obj = .ref s.heap.objs.size ∧ s₁ = { s with heap := s.heap.push { cls := .type "set", dict := none, data := .set #[] 0 (.fresh 0 0 (!w.params.followText "set-order")) } }) ⟨rfl, rfl⟩) fun r s₁ hr => ?_
  cases r with
  | error e => exact hr
  | ok fl =>
    cases fl with
    | ret obj =>
      obtain ⟨rfl, rfl⟩ := hr
      have hS : (s.heap.push { cls := .type "set", dict := none, data := .set #[] 0 (.fresh 0 0 (!w.params.followText "set-order")) }).get? s.heap.objs.size = some { cls := .type "set", dict := none, data := .set #[] 0 (.fresh 0 0 (!w.params.followText "set-order")) } := Heap.get?_push_size _ rfl
      have hT : Shared.TypeIs { s with heap := s.heap.push { cls := .type "set", dict := none, data := .set #[] 0 (.fresh 0 0 (!w.params.followText "set-order")) } } (.ref s.heap.objs.size) "set" := ⟨_, hS, rfl⟩
      have hli := F.called_set.init.lookup
      have hbi := F.called_set.init.bind (.ref s.heap.objs.size)
      repeat (any_goals (first | assumption | wp_step))

      refine codeAny_mono (codeAny_call_builtin (R := wants (fun r s₂ => r = .none ∧ ∃ h' tk L es ep t, s₂ = { s with heap := h', toks := tk } ∧ SetTR P w h' s.heap.objs.size L es ep t ∧ Got ks ks.length L ∧
          (∀ b o, s.heap.get? b = some o → h'.get? b = some o)) E) F.called_set.init.plain F.entry_set_init (check_set_init_1 hT ?_)) fun r₂ s₂ hr₂ => ?_
      · obtain ⟨ol, hol, hcl, nl, hdl⟩ := hl
        obtain ⟨ocls, odict, odata, oslots⟩ := ol
        simp only at hcl hdl
        subst hcl; subst hdl
        have hol' : (s.heap.push { cls := .type "set", dict := none, data := .set #[] 0 (.fresh 0 0 (!w.params.followText "set-order")) }).get? l = some { cls := .type "tuple", dict := odict, data := .seq items nl, slots := oslots } := Heap.get?_push_of_some _ hol
        have hsls := F.sub_tuple_set
        have hslf := F.sub_tuple_frozenset
        have hne : (Value.type "tuple" == Value.type "dict") = false := by decide
        have hl1 : (s.heap.push { cls := .type "set", dict := none, data := .set #[] 0 (.fresh 0 0 (!w.params.followText "set-order")) }).IsTuple l items := ⟨_, hol', rfl, nl, rfl⟩
        unfold Builtin.«set.__init__» noKeywords Builtin.Frozenset.updateFrom
        generalize hPI : pyIter = PI
        wp_walk
        subst hPI

        refine wpAny_pyIter_tuple hl1 ?_
        refine wpAny_bind (wpAny_runValue ?_)
        have hlS : l < s.heap.objs.size := Heap.lt_size hol
        have hh3 : A.in1.in1.in1.handled = none := by simp [hh]
        have hz1 : (s.heap.push { cls := .type "set", dict := none, data := .set #[] 0 (.fresh 0 0 (!w.params.followText "set-order")) }).objs.size = s.heap.objs.size + 1 := Heap.size_push ..
        have hneI : l ≠ (s.heap.push { cls := .type "set", dict := none, data := .set #[] 0 (.fresh 0 0 (!w.params.followText "set-order")) }).objs.size := by
          rw [Heap.size_push]; exact Nat.ne_of_lt (Nat.lt_succ_of_lt hlS)
        have hSf : s.heap.objs.size ∉ [(s.heap.push { cls := .type "set", dict := none, data := .set #[] 0 (.fresh 0 0 (!w.params.followText "set-order")) }).objs.size, l] := by
          rw [Heap.size_push]; simp only [List.mem_cons, List.mem_singleton, List.not_mem_nil, or_false, not_or]
          exact ⟨Nat.ne_of_lt (Nat.lt_succ_self _), Nat.ne_of_gt hlS⟩
        have hval : ∀ (i : Nat) (v : Value), items[i]? = some v → ∃ p, ks[i]? = some p ∧ v = .ref p.1 := fun i v hv => by
          have q : items.toList[i]? = some v := by rw [Array.getElem?_toList]; exact hv
          rw [hit, List.getElem?_map] at q
          cases hq : ks[i]? with
          | none => rw [hq] at q; cases q
          | some p =>
            rw [hq] at q
            exact ⟨p, rfl, (Option.some.inj q).symm⟩
        have none_of : ∀ b, s.heap.objs.size ≤ b → s.heap.get? b = none := fun b hb => by
          cases q : s.heap.get? b with
          | none => rfl
          | some o => exact absurd (Nat.lt_of_lt_of_le (Heap.lt_size q) hb) (Nat.lt_irrefl _)
        refine set_update_tups ((Walks.tuple hh3 _ l hneI items).toS) s.heap.objs.size
          hSf ks hisz hfew hval s.heap hk (none_of _ (Nat.le_refl _)) (fun b hb => none_of b (by
            rw [List.mem_singleton.mp hb, Heap.size_push]
            exact Nat.le_succ _)) hu (items.size - 0) 0 _ (by omega) (Nat.zero_le _)
          ⟨⟨_, Heap.get?_push_size _ rfl, rfl, rfl⟩, (hl1.push _)⟩ (fun b o e => Heap.get?_push_of_some _ (Heap.get?_push_of_some _ e)) ?hS0 ?hR
        case hS0 =>
          have hget : ((s.heap.push { cls := .type "set", dict := none, data := .set #[] 0 (.fresh 0 0 (!w.params.followText "set-order")) }).push { cls := .type "tuple_iterator", data := .fields #[.ref l, .int 0 0] }).get? s.heap.objs.size
              = some { cls := .type "set", dict := none, data := .set #[] 0 (.fresh 0 0 (!w.params.followText "set-order")) } := Heap.get?_push_of_some _ hS
          exact ⟨[], #[], 0, _, setTR_fresh hget, Got.zero ks⟩
        case hR =>
          intro s' L es ep t hm hS' g' hkp
          obtain ⟨h', g2, d', tk', os'⟩ := s'
          have eg : g2 = s.gens := hm.gens
          have ed : d' = s.drawn := hm.drawn
          have eo : os' = s.os := hm.os
          subst eg; subst ed; subst eo
          show wpAny _ _ _ _ _ _
          refine wpAny_pure ?_
          show wpAny _ _ (ret Value.none) _ _ _
          rw [hisz] at g'
          exact wpAny_pure ⟨rfl, h', tk', L, es, ep, t, rfl, hS', g', hkp⟩

      · cases r₂ with
        | error e => exact hr₂
        | ok fl₂ =>
          cases fl₂ with
          | ret r =>
            obtain ⟨rfl, h', tk, L, es, ep, t, rfl, hS', g', hk'⟩ := hr₂
            repeat (any_goals (first | assumption | wp_step))
            exact h _ _ _ _ _ _ hS' g' hk'
          | _ => exact hr₂.elim
    | _ => exact hr.elim
end
section
variable {X : Cx}
/-- set(xs), xs a tuple of tuples of ints -/
def rSetTT (K : PySem.W.Frag) (P : Program) (w : World) : List V → Hp → VK → Prop := fun xs H Q => ∃ (l : Addr) (ks : List (Addr × List Int)), xs = [V.ref l] ∧ SqT K H l (ks.map fun p => V.ref p.1) ∧ (∀ p ∈ ks, SqT K H p.1 (p.2.map V.int)) ∧ ks.length < 64 ∧
  ∀ a L, H a = none → (∀ p ∈ L, p ∈ ks) → (∀ p ∈ ks, p.2 ∈ L.map (·.2)) → Q (.ref a) (upd H a (SetTO P w a L))
theorem cr_setTT (hc : X.calm = true) (hu : X.A.units + 64 < cLine) : CallR X (.type "set") (rSetTT X.K X.prog X.w) := by
  intro pins s σ H xs us Q I r h
  obtain ⟨l, ks, rfl, hl, hk, hf, q⟩ := h
  rw [Vals.ref1 r]
  obtain ⟨its, rv, pl, hz⟩ := I.tuple hl
  have hn : H s.heap.objs.size = none := I.hok.fresh (Nat.le_refl _)
  refine set_of_tup (P := X.prog) (w := X.w) ks (I.ok.hd hc) pl (by simpa using refs_of_vals rv) (fun p hp => I.isT (hk p hp)) hf (by omega) fun h' tk L es ep t R g k => ?_
  refine ⟨.ref s.heap.objs.size, upd H s.heap.objs.size (SetTO X.prog X.w s.heap.objs.size L), I.laid (t' := tk) k (Nat.le_refl _) (setTO_new R.t0), rfl, q _ L hn (fun p hp => ?_) fun p hp => ?_⟩
  · exact List.mem_of_mem_take (g.sub p hp)
  · exact g.all p (by rw [List.take_length]; exact hp)
end
end KR
end

section
set_option Elab.async false
set_option linter.all false
set_option maxRecDepth 100000
set_option maxHeartbeats 4000000
/-! More rules over data. -/
namespace DL
open PySem PySem.Spec PyProof.Rows L2
theorem itd_enumT {K : PySem.W.Frag} {G : Hp} {a : Addr} {ws : List V} {ds : List PyData} (hq : SqT K G a ws) (hd : DpAll K G ws ds) : ItD K (KR.IteT K a) G (enumD ds) where
  at_ := fun H2 M2 s dm i d e => by
    obtain ⟨e0, he, rfl⟩ := enumD_get e
    obtain ⟨v, hv, z⟩ := dpa_get hd he
    have hq2 := sqt_same (s.trans hid_same) hq
    refine ⟨⟨ws, v, hq2, hv⟩, fun v' H3 ⟨T, x, e1, nT, e3, y⟩ => ?_⟩
    subst e1 e3
    have : x = v := by
      have := y ws hq2
      rw [hv] at this
      exact (Option.some.inj this).symm
    subst this
    exact new_tupM nT dm (.cons (.int _) (.cons (dp_same s z) .nil))
  stop := fun H2 s i h => ⟨ws, sqt_same s hq, by rw [dpa_len hd]; rw [enumD_len] at h; exact h⟩
theorem dpa3 {K : PySem.W.Frag} {H : Hp} {xs : List V} {d1 d2 d3 : PyData} (h : DpAll K H xs [d1, d2, d3]) : ∃ v w u, xs = [v, w, u] ∧ Dp K H v d1 ∧ Dp K H w d2 ∧ Dp K H u d3 := by
  cases h with
  | cons h t =>
    cases t with
    | cons h2 t =>
      cases t with
      | cons h3 t => cases t; exact ⟨_, _, _, rfl, h, h2, h3⟩
def zip3D (a b c : List PyData) : List PyData := (List.range a.length).map fun (i : Nat) => .tuple [a.getD i .none, b.getD i .none, c.getD i .none]
theorem zip3D_len {a b c : List PyData} : (zip3D a b c).length = a.length := by unfold zip3D; simp
theorem zip3D_get {a b c : List PyData} {i : Nat} {d : PyData} (h : (zip3D a b c)[i]? = some d) : i < a.length ∧ d = .tuple [a.getD i .none, b.getD i .none, c.getD i .none] := by
  unfold zip3D at h
  rw [List.getElem?_map] at h
  by_cases hi : i < a.length
  · rw [List.getElem?_range hi] at h; exact ⟨hi, (Option.some.inj h).symm⟩
  · rw [List.getElem?_eq_none (by simpa using hi)] at h; cases h
theorem getD_some {l : List PyData} {i : Nat} (h : i < l.length) : l[i]? = some (l.getD i .none) := by
  rw [List.getD_eq_getElem?_getD, List.getElem?_eq_getElem h]; rfl
theorem itd_zip3 {K : PySem.W.Frag} {G : Hp} {a b c : Addr} {ws us ts : List V} {da db dc : List PyData} (h1 : SqL K G a ws) (z1 : DpAll K G ws da) (h2 : SqL K G b us) (z2 : DpAll K G us db) (h3 : SqT K G c ts) (z3 : DpAll K G ts dc)
    (l1 : db.length = da.length) (l2 : dc.length = da.length) : ItD K (KR.Itz3 K a b c) G (zip3D da db dc) where
  at_ := fun H2 M2 s dm i d e => by
    obtain ⟨hi, rfl⟩ := zip3D_get e
    obtain ⟨v1, e1, y1⟩ := dpa_get z1 (getD_some hi)
    obtain ⟨v2, e2, y2⟩ := dpa_get z2 (getD_some (i := i) (by omega))
    obtain ⟨v3, e3, y3⟩ := dpa_get z3 (getD_some (i := i) (by omega))
    have q1 := (s.trans hid_same).seq h1
    have q2 := (s.trans hid_same).seq h2
    have q3 := sqt_same (s.trans hid_same) h3
    refine ⟨⟨ws, us, ts, v1, v2, v3, q1, q2, q3, e1, e2, e3⟩, fun v' H3 ⟨T, x, y, z, f1, nT, f3, g1, g2, g3⟩ => ?_⟩
    subst f1 f3
    have ex : x = v1 := by
      have := g1 ws q1
      rw [e1] at this
      exact (Option.some.inj this).symm
    have ey : y = v2 := by
      have := g2 us q2
      rw [e2] at this
      exact (Option.some.inj this).symm
    have ez : z = v3 := by
      have := g3 ts q3
      rw [e3] at this
      exact (Option.some.inj this).symm
    subst ex ey ez
    exact new_tupM nT dm (.cons (dp_same s y1) (.cons (dp_same s y2) (.cons (dp_same s y3) .nil)))
  stop := fun H2 s i h => ⟨ws, us, ts, s.seq h1, s.seq h2, sqt_same s h3, by rw [zip3D_len] at h; rw [dpa_len z1]; exact h, by rw [zip3D_len] at h; rw [dpa_len z2]; omega, by rw [zip3D_len] at h; rw [dpa_len z3]; omega⟩
section
variable {𝓜 : Md → Prop} {X : Cx} {ε ε' : List Ent} {a b c e tg : Expr} {es : List Expr} {P P1 P2 P3 R : PP} {pos p : Pos} {L : PL'} {k j i : Nat} {rest bl : List Stmt} {N N1 : List Ent → Prop}
theorem id_enumT {ds : List PyData} {elts : List Expr} {kk : Nat} {tpos : Pos} (hg : Gl X "enumerate") (hm : X.mg "enumerate" = none) (h : PD 𝓜 X ε a (Is (.tuple ds))) (hs : starEach [a] X.env = [(false, eval a X.env)] := by rfl) : ID 𝓜 X ε (.Tuple elts kk tpos) (.Call (.Name "enumerate" p) [a] [] pos) (IsL (enumD ds)) :=
  pi_mono (KR.pi_enumT hg hm (pdl_cons h pdl_nil (by rw [hs]; rfl)) hs) fun σ H R ⟨md, Mo, C, M, F, m, o, q⟩ => ⟨md, Mo, C, M, F, m, o, fun vs H1 l e r i1 z => by
    cases e
    obtain ⟨v, rfl, z1⟩ := dpa1 z
    obtain ⟨a, ws, rfl, hq, hd⟩ := dp_tup z1
    exact ⟨a, ws, rfl, sqt_same hid_same hq, q _ H1 _ rfl r i1 (itd_enumT hq hd)⟩⟩
theorem id_zip3 {da db dc : List PyData} {elts : List Expr} {kk : Nat} {tpos : Pos} (hg : Gl X "zip") (hm : X.mg "zip" = none) (h1 : PD 𝓜 X ε a (Is (.list da))) (h2 : PD 𝓜 X ε b (Is (.list db))) (h3 : PD 𝓜 X ε c (Is (.tuple dc))) (l1 : db.length = da.length) (l2 : dc.length = da.length)
    (hs : starEach [a, b, c] X.env = (false, eval a X.env) :: starEach [b, c] X.env := by rfl) (hs2 : starEach [b, c] X.env = (false, eval b X.env) :: starEach [c] X.env := by rfl) (hs3 : starEach [c] X.env = (false, eval c X.env) :: starEach [] X.env := by rfl) (hpl : (backTo pos (starEach [b, c] X.env)).any (·.1) = false := by rfl) : ID 𝓜 X ε (.Tuple elts kk tpos) (.Call (.Name "zip" p) [a, b, c] [] pos) (IsL (zip3D da db dc)) :=
  pi_mono (KR.pi_zip3 hg hm (pdl_cons h1 (pdl_cons h2 (pdl_cons h3 pdl_nil hs3) hs2) hs) hs hpl) fun σ H R ⟨md, Mo, C, M, F, m, o, q⟩ => ⟨md, Mo, C, M, F, m, o, fun vs H1 l e r i1 z => by
    cases e
    obtain ⟨v, w, u, rfl, z1, z2, z3⟩ := dpa3 z
    obtain ⟨a, ws, rfl, hq, hd⟩ := dp_lst z1
    obtain ⟨b, us, rfl, hq', hd'⟩ := dp_lst z2
    obtain ⟨c, ts, rfl, hq'', hd''⟩ := dp_tup z3
    exact ⟨a, b, c, ws, us, ts, rfl, hid_same.seq hq, hid_same.seq hq', sqt_same hid_same hq'', q _ H1 _ rfl r i1 (itd_zip3 hq hd hq' hd' hq'' hd'' l1 l2)⟩⟩
/-- x[i] += e, of whole numbers -/
theorem bd_augAt (i : Nat) {x : Str} {vp sp : Pos} {ds : List PyData} {n old v : Int} {j : Nat} (h : ε[i]? = some (.lm ds)) (hb : PD 𝓜 X ε b (Is (.int n))) (he : PD 𝓜 X ε e (Is (.int v))) (hn : ixN ds.length n = some j) (hd : ds[j]? = some (.int old)) (h2 : BD 𝓜 X (ε.set i (.lm (ds.set j (.int (old + v))))) rest N R)
    (hN : X.N[i]? = some x := by rfl) (hv : Vis X.env.scope x := by first | exact Or.inl rfl | exact Or.inr (Or.inl rfl) | exact Or.inr (Or.inr rfl)) (hdb : (x == ("__debug__" : Str)) = false := by decide) (hcd : (x == ("__classdict__" : Str)) = false := by decide)
    (ha : ∀ ov iv new, augStore b ov iv new = (do holding [new, ov, iv] (setItem ov iv new); release [new, ov, iv] []; pure Flow.next) := by intros; rfl) : BD 𝓜 X ε (.AugAssign (.Subscript (.Name x vp) b sp) .Add e pos :: rest) N R :=
  bd_cons (N1 := fun ε' => ε' = ε.set i (.lm (ds.set j (.int (old + v))))) (ps_mono (ps_augS (pv i hN hv hdb hcd) hb KR.get_list he ip_add set_list ha) fun D σ H ⟨md, Mo, C, M, F, m, o, q, qr⟩ => by
    obtain ⟨p, xs, hi, hC, h0, hp, z⟩ := o.lm i ds h
    refine ⟨.ref p, hi, md, Mo, C, M, F, m, o, fun w1 H1 d1 p1 r1 i1 z1 => ?_⟩
    cases p1
    have o1 := o.rel r1 i1
    obtain ⟨w, hw, zw⟩ := dpa_get z hd
    have hw2 : w = .int old := dp_int zw
    subst hw2
    refine ⟨p, xs, n, .int old, rfl, dp_int z1, .inl (.inl (r1 p _ h0 hp)), by unfold atI; rw [dpa_len z, hn]; exact hw, md, Mo, C, M, F, m, o1, fun w2 H2 d2 p2 r2 i2 z2 => ?_⟩
    cases p2
    have o2 := o1.rel r2 i2
    have hp2 := (r1.trans r2) p _ h0 hp
    refine ⟨old, v, rfl, dp_int z2, p, xs, n, j, rfl, dp_int z1, hp2, by rw [dpa_len z]; exact hn, q _ _ C M _ rfl (o2.put i h hi (dpa_set j (dpa_same (o.keep (r1.trans r2)) z) (.int _)))⟩) fun ε' e => by subst e; exact h2
/-- x = ([..], [..]), a pair of lists of one's own -/
theorem bd_ownT (i : Nat) {x : Str} {pos' tp : Pos} {kt : Nat} {l l' : List PyData} (hN : X.N.Nodup) (ha : LD 𝓜 X ε a (IsL l)) (hb : LD 𝓜 X ε b (IsL l')) (nt : noOwn ε = true) (h2 : BD 𝓜 X (ε.set i (.tm l l')) rest N R) (hx : Loc X.env.scope x := by first | exact .inl rfl | exact .inr rfl) (hi : X.N[i]? = some x := by rfl)
    (hs : swapsWith (.Tuple [a, b] kt tp) (some (.Name x pos')) pos.line X.env = pure false := by rfl) (hf : X.fn x = true ∨ X.env.scope.names.lookup x = some .local := by first | exact .inl rfl | exact .inr rfl | assumption)
    (h1 : starEach [a, b] X.env = (false, eval a X.env) :: starEach [b] X.env := by rfl) (h1' : starEach [b] X.env = (false, eval b X.env) :: starEach [] X.env := by rfl) : BD 𝓜 X ε (.Assign [.Name x pos'] (.Tuple [a, b] kt tp) pos :: rest) N R :=
  bd_cons (N1 := fun ε' => ε' = ε.set i (.tm l l')) (ps_mono (ps_set hN hi hx (pe_tup (pa_cons ha (pa_cons hb pa_nil h1') h1)) hs hf) fun D σ H ⟨md, Mo, C, M, F, m, o, q, qr⟩ => ⟨md, Mo, C, M, F, m, o, fun p H1 xs ds pd r iv hp hp' z => by
    cases pd
    have o1 := o.add hp r iv (by rw [hp']; exact fun z => nomatch z)
    refine ⟨md, Mo, _, _, F, m, o1, fun p2 H2 ys es pe r2 i2 hp2 hp2' z2 => ?_⟩
    cases pe
    refine ⟨by show 2 ≤ sizeLine; decide, fun T nT => ?_⟩
    exact q _ _ _ _ _ rfl (o.ownT i nt hp r iv hp' z hp2 r2 i2 hp2' z2 nT)⟩) fun ε' e => by subst e; exact h2
/-- x[s][n] += e in it -/
theorem bd_augT (i : Nat) {x : Str} {vp sp sp2 : Pos} {la lb : List PyData} {s n old v : Int} {j : Nat} (h : ε[i]? = some (.tm la lb)) (hbs : PD 𝓜 X ε a (Is (.int s))) (hb : PD 𝓜 X ε b (Is (.int n))) (he : PD 𝓜 X ε e (Is (.int v))) (hs : s = 0 ∨ s = 1)
    (hn : ixN (if s = 0 then la else lb).length n = some j) (hd : (if s = 0 then la else lb)[j]? = some (.int old)) (h2 : BD 𝓜 X (ε.set i (.tm (if s = 0 then la.set j (.int (old + v)) else la) (if s = 0 then lb else lb.set j (.int (old + v))))) rest N R)
    (hN : X.N[i]? = some x := by rfl) (hv : Vis X.env.scope x := by first | exact Or.inl rfl | exact Or.inr (Or.inl rfl) | exact Or.inr (Or.inr rfl)) (hdb : (x == ("__debug__" : Str)) = false := by decide) (hcd : (x == ("__classdict__" : Str)) = false := by decide) (hpl : PlainIx a := by exact fun _ _ => rfl)
    (ha : ∀ ov iv new, augStore b ov iv new = (do holding [new, ov, iv] (setItem ov iv new); release [new, ov, iv] []; pure Flow.next) := by intros; rfl) : BD 𝓜 X ε (.AugAssign (.Subscript (.Subscript (.Name x vp) a sp) b sp2) .Add e pos :: rest) N R :=
  bd_cons (N1 := fun ε' => ε' = ε.set i (.tm (if s = 0 then la.set j (.int (old + v)) else la) (if s = 0 then lb else lb.set j (.int (old + v))))) (ps_mono (ps_augS (pe_ix ix_tup (pv i hN hv hdb hcd) hbs hpl) hb KR.get_list he ip_add set_list ha) fun D σ H ⟨md, Mo, C, M, F, m, o, q, qr⟩ => by
    obtain ⟨T, p1, p2, xs, ys, hi, hT, hne, ⟨c1, m1, g1, z1⟩, ⟨c2, m2, g2, z2⟩⟩ := o.tm i la lb h
    refine ⟨.ref T, hi, md, Mo, C, M, F, m, o, fun w1 H1 d1 e1 r1 i1 y1 => ?_⟩
    cases e1
    have o1 := o.rel r1 i1
    rcases hs with rfl | rfl
    · rw [if_pos rfl] at hn hd
      rw [if_pos rfl, if_pos rfl] at q
      refine ⟨T, _, 0, .ref p1, rfl, dp_int y1, sqt_same ((o.keep r1).trans hid_same) hT, at0, md, Mo, C, M, F, m, o1, fun w2 H2 d2 e2 r2 i2 y2 => ?_⟩
      cases e2
      have o2 := o1.rel r2 i2
      obtain ⟨w, hw, zw⟩ := dpa_get z1 hd
      obtain rfl : w = .int old := dp_int zw
      refine ⟨p1, xs, n, .int old, rfl, dp_int y2, .inl (.inl ((r1.trans r2) p1 _ m1 g1)), by unfold atI; rw [dpa_len z1, hn]; exact hw, md, Mo, C, M, F, m, o2, fun w3 H3 d3 e3 r3 i3 y3 => ?_⟩
      cases e3
      have o3 := o2.rel r3 i3
      have r13 := (r1.trans r2).trans r3
      have kp := o.keep r13
      refine ⟨old, v, rfl, dp_int y3, p1, xs, n, j, rfl, dp_int y2, r13 p1 _ m1 g1, by rw [dpa_len z1]; exact hn, q _ _ C M _ rfl (o3.putT i h hi (sqt_same kp hT) hne ⟨c1, m1⟩ ⟨c2, m2⟩ (.inl rfl) ⟨_, upd_same, dpa_set j (dpa_same kp z1) (.int _)⟩ ⟨ys, ?_, dpa_same kp z2⟩)⟩
      rw [upd_ne (fun z => hne z.symm)]
      exact r13 p2 _ m2 g2
    · rw [if_neg (by decide)] at hn hd
      rw [if_neg (by decide), if_neg (by decide)] at q
      refine ⟨T, _, 1, .ref p2, rfl, dp_int y1, sqt_same ((o.keep r1).trans hid_same) hT, at1, md, Mo, C, M, F, m, o1, fun w2 H2 d2 e2 r2 i2 y2 => ?_⟩
      cases e2
      have o2 := o1.rel r2 i2
      obtain ⟨w, hw, zw⟩ := dpa_get z2 hd
      obtain rfl : w = .int old := dp_int zw
      refine ⟨p2, ys, n, .int old, rfl, dp_int y2, .inl (.inl ((r1.trans r2) p2 _ m2 g2)), by unfold atI; rw [dpa_len z2, hn]; exact hw, md, Mo, C, M, F, m, o2, fun w3 H3 d3 e3 r3 i3 y3 => ?_⟩
      cases e3
      have o3 := o2.rel r3 i3
      have r13 := (r1.trans r2).trans r3
      have kp := o.keep r13
      refine ⟨old, v, rfl, dp_int y3, p2, ys, n, j, rfl, dp_int y2, r13 p2 _ m2 g2, by rw [dpa_len z2]; exact hn, q _ _ C M _ rfl (o3.putT i h hi (sqt_same kp hT) hne ⟨c1, m1⟩ ⟨c2, m2⟩ (.inr rfl) ⟨xs, ?_, dpa_same kp z1⟩ ⟨_, upd_same, dpa_set j (dpa_same kp z2) (.int _)⟩)⟩
      rw [upd_ne hne]
      exact r13 p1 _ m1 g1) fun ε' e => by subst e; exact h2
theorem bd_freezeT (i : Nat) {la lb : List PyData} (h : ε[i]? = some (.tm la lb)) (h2 : BD 𝓜 X (ε.set i (.dat (.tuple [.list la, .list lb]))) bl N R) : BD 𝓜 X ε bl N R :=
  pss_mono h2 fun D σ H ⟨md, Mo, C, M, F, m, o, q, qr⟩ => by
    obtain ⟨C', M', o'⟩ := o.freezeT i h
    exact ⟨md, Mo, C', M', F, m, o', q, qr⟩
/-- t + u of tuples -/
theorem o_catT {K : PySem.W.Frag} {as bs : List PyData} (hz : as.length + bs.length ≤ 100000) : O2 K (rCatA K) (Is (.tuple as)) (Is (.tuple bs)) (Is (.tuple (as ++ bs))) := fun md M H x y _ _ Q i dm m0 p1 p2 x1 y1 q => by
  cases p1; cases p2
  obtain ⟨p, xs, rfl, hp, zp⟩ := dp_tup x1
  obtain ⟨p', ys, rfl, hp', zp'⟩ := dp_tup y1
  refine ⟨p, p', xs, ys, rfl, rfl, sqt_same hid_same hp, sqt_same hid_same hp', by rw [dpa_len zp, dpa_len zp', sizeLine_eq]; omega, fun e => ?_, fun _ e => ?_, fun _ _ t nt => ?_⟩
  · subst e
    have : as = [] := by have := dpa_len zp; exact List.length_eq_zero_iff.mp this.symm
    subst this
    exact q _ H _ rfl Rel.refl i y1
  · subst e
    have : bs = [] := by have := dpa_len zp'; exact List.length_eq_zero_iff.mp this.symm
    subst this
    rw [List.append_nil] at q
    exact q _ H _ rfl Rel.refl i x1
  · exact q _ _ _ rfl (new_same nt) (md.stab _ _ i (same_new nt)) (new_tup nt dm (dpa_append zp zp'))
theorem pd_catT {dd : PyData} {as bs : List PyData} (ha : PD 𝓜 X ε a (Is (.tuple as))) (hb : PD 𝓜 X ε b (Is (.tuple bs))) (hz : as.length + bs.length ≤ 100000) (hdd : PyData.tuple (as ++ bs) = dd := by rfl) : PD 𝓜 X ε (.BinOp a .Add b pos) (Is dd) :=
  pd_to (pd_bin op_catA (o_catT hz) ha hb) hdd
/-- x.extend(new list) -/
theorem bd_ext (i : Nat) {x : Str} {vp ap cp : Pos} {ds : List PyData} (h : ε[i]? = some (.lm ds)) (he : LD 𝓜 X ε e L) (hz : ∀ l, L l → ds.length + l.length ≤ 100000) (h2 : ∀ l, L l → BD 𝓜 X (ε.set i (.lm (ds ++ l))) rest N R)
    (hN : X.N[i]? = some x := by rfl) (hv : Vis X.env.scope x := by first | exact Or.inl rfl | exact Or.inr (Or.inl rfl) | exact Or.inr (Or.inr rfl)) (hd : (x == ("__debug__" : Str)) = false := by decide) (hcd : (x == ("__classdict__" : Str)) = false := by decide)
    (hbase : attributeBase (.Name x vp) "extend" X.env (eval (.Name x vp) X.env) = eval (.Name x vp) X.env := by rfl)
    (hfew : ((backTo cp (starEach [e] X.env)).all (fun x => !x.1) && (backToKw cp (keywordEach [] X.env)).all (fun x => x.1.isSome) && decide (([e] : List Expr).length + ([] : List Keyword).length + (if ([] : List Keyword).isEmpty then 0 else 1) < 30)) = true := by rfl)
    (hline : (ap.endLine == cp.line) = true := by rfl) (hs : starEach [e] X.env = (false, eval e X.env) :: starEach [] X.env := by rfl) (hplain : (backTo cp (starEach [] X.env)).any (·.1) = false := by rfl)
    (hsw : swapsWith (.Call (.Attribute (.Name x vp) "extend" ap) [e] [] cp) none pos.line X.env = pure false := by rfl) : BD 𝓜 X ε (.Expr (.Call (.Attribute (.Name x vp) "extend" ap) [e] [] cp) pos :: rest) N R :=
  bd_cons (N1 := fun ε' => ∃ l, L l ∧ ε' = ε.set i (.lm (ds ++ l))) (ps_mono (ps_expr (pe_bm PySem.F.plainAttrs_list PySem.F.slot_list_extend PySem.F.type_list_extend mt_extend (pv i hN hv hd hcd) (pa_cons he pa_nil hs) hbase hfew hline hs hplain) hsw) fun D σ H ⟨md, Mo, C, M, F, m, o, q, qr⟩ => by
    obtain ⟨p, xs, hi, hC, h0, hp, z⟩ := o.lm i ds h
    refine ⟨.ref p, hi, .inl ⟨rfl, xs, .inl (.inl hp)⟩, md, Mo, C, M, F, m, o, fun p2 H1 ys es pe r iv hp2 hp2' z1 => ?_⟩
    have o1 := o.rel r iv
    have hp1 := r p _ h0 hp
    have := hz es pe
    have z2 : DpAll X.K (hid H1 M) ys es := dpa_same (hid_anti fun a h => adM_of h) z1
    refine ⟨p, p2, xs, ys, rfl, rfl, hp1, hp2', by rw [dpa_len z, dpa_len z1, sizeLine_eq]; omega, q _ _ C M _ ⟨es, pe, rfl⟩ (o1.put i h hi (dpa_append (dpa_same (o.keep r) z) z2))⟩) fun ε' ⟨l, pl, e⟩ => by subst e; exact h2 l pl
theorem pd_sumT {dd : PyData} {ns : List Int} (hc : X.calm = true) (hg : Gl X "sum") (hm : X.mg "sum" = none) (ha : PD 𝓜 X ε a (Is (.tuple (ns.map PyData.int)))) (hs : starEach [a] X.env = (false, eval a X.env) :: starEach [] X.env := by rfl) (hpl : (backTo pos (starEach [] X.env)).any (·.1) = false := by rfl) (hdd : PyData.int ns.sum = dd := by rfl) :
    PD 𝓜 X ε (.Call (.Name "sum" p) [a] [] pos) (Is dd) :=
  pd_to (pd_cb (KR.cr_sumTu hc) (P := Is (.int ns.sum)) (L := IsL [.tuple (ns.map PyData.int)]) (fun md M H xs l Q i dm m0 e z q => by
    cases e
    obtain ⟨v, rfl, z1⟩ := dpa1 z
    obtain ⟨a, ys, rfl, hq, hy⟩ := dp_tup z1
    obtain rfl := dpa_ints hy
    exact ⟨a, ns, rfl, sqt_same hid_same hq, q _ H _ rfl Rel.refl i (.int _)⟩) hg hm (by decide +kernel) (pdl_cons ha pdl_nil hs) (by decide) (by decide) hs hpl) hdd
theorem o_notInTD {K : PySem.W.Frag} {d : PyData} {ds : List PyData} (s1 : SeqAt.shaped d = true) (s2 : SeqAt.shaped (.tuple ds) = true) : O2 K (KR.rNotInTD K) (Is d) (Is (.tuple ds)) (Is (.bool (!ds.any fun z => PyData.eqv z d))) := fun md M H x y _ _ Q i _ _ p1 p2 x1 y1 q => by
  cases p1; cases p2
  exact ⟨d, ds, dp_same hid_same x1, dp_same hid_same y1, s1, s2, q _ H _ rfl Rel.refl i (.bl _)⟩
theorem pdt_notInTD {dd : Bool} {d : PyData} {ds : List PyData} (hu : X.A.units + 65 < cLine) (s1 : SeqAt.shaped d = true) (s2 : SeqAt.shaped (.tuple ds) = true) (hm : behindInMarks .NotIn b = false) (ha : PD 𝓜 X ε a (Is d)) (hb : PD 𝓜 X ε b (Is (.tuple ds))) (hdd : (!ds.any fun z => PyData.eqv z d) = dd := by rfl) : PDT 𝓜 X ε (.Compare a [.NotIn] [b] pos) (IsB dd) :=
  pdt_to (pdt_cmpV (KR.op_notInTD hu) (o_notInTD s1 s2) ha hb hm) hdd
theorem pd_repr {d : PyData} (gd : X.A.guards = some []) (hu : X.A.units + 70 < cLine) (hg : Gl X "repr") (hm : X.mg "repr" = none) (h0 : isDisplay d = true) (h1 : d.hasDict = false) (h2 : d.showable = true) (h3 : d.depth ≤ 64) (h4 : d.shown.length ≤ sizeLine) (ha : PD 𝓜 X ε a (Is d))
    (hs : starEach [a] X.env = (false, eval a X.env) :: starEach [] X.env := by rfl) (hpl : (backTo pos (starEach [] X.env)).any (·.1) = false := by rfl) : PD 𝓜 X ε (.Call (.Name "repr" p) [a] [] pos) (Is (.str d.shown)) :=
  pd_cb (KR.cr_reprD gd hu) (L := IsL [d]) (fun md M H xs l Q i dm m0 e z q => by
    cases e
    obtain ⟨v, rfl, z1⟩ := dpa1 z
    exact ⟨v, d, rfl, dp_same hid_same z1, h0, h1, h2, h3, h4, q _ H _ rfl Rel.refl i (.str _)⟩) hg hm (by decide +kernel) (pdl_cons ha pdl_nil hs) (by decide) (by decide) hs hpl
end
end DL
end

section
set_option Elab.async false
set_option linter.all false
set_option maxRecDepth 100000
set_option maxHeartbeats 4000000
/-! sorted(set(rows)); [.. for .. in .. for .. in ..]. -/
namespace DL
open PySem PySem.Spec PyProof.Rows L2
theorem dpa_ks {K : PySem.W.Frag} {H : Hp} : ∀ {ys : List V} {rows : List (List Int)}, DpAll K H ys (rows.map encI) → ∃ ks : List (Addr × List Int), ys = ks.map (fun p => V.ref p.1) ∧ ks.map (·.2) = rows ∧ ∀ p ∈ ks, SqT K H p.1 (p.2.map V.int)
  | _, [], .nil => ⟨[], rfl, rfl, fun _ h => nomatch h⟩
  | _, r :: rows, .cons h t => by
    obtain ⟨ks, e1, e2, h3⟩ := dpa_ks t
    obtain ⟨a, rfl, hq⟩ := tupI_of h
    refine ⟨(a, r) :: ks, by rw [e1]; rfl, by rw [List.map_cons, e2], fun p hp => ?_⟩
    rcases List.mem_cons.mp hp with rfl | hp
    · exact hq
    · exact h3 p hp
theorem dpa_of_ks {K : PySem.W.Frag} {H : Hp} : ∀ {ks : List (Addr × List Int)}, (∀ p ∈ ks, SqT K H p.1 (p.2.map V.int)) → DpAll K H (ks.map fun p => V.ref p.1) ((ks.map (·.2)).map encI)
  | [], _ => .nil
  | p :: ks, h => .cons (.tup (h p List.mem_cons_self) (dpa_of_ints _)) (dpa_of_ks fun q hq => h q (List.mem_cons_of_mem _ hq))
section
variable {𝓜 : Md → Prop} {X : Cx} {ε : List Ent} {a : Expr} {pos pos2 p p2 : Pos} {d : Nat} {B : Int} {rows rows' : List (List Int)}
theorem pd_sortedSet {dd : PyData} (hc : X.calm = true) (hu : X.A.units + 64 < cLine) (hd : 1 ≤ d) (hg : Gl X "sorted") (hm : X.mg "sorted" = none) (hg2 : Gl X "set") (hm2 : X.mg "set" = none) (hr : RowsOk d B rows') (hp : rows'.Perm rows) (ha : Asc B rows') (hnd : rows.Nodup) (h64 : rows.length < 64) (he : PD 𝓜 X ε a (Is (.tuple (rows.map encI))))
    (hs : starEach [a] X.env = (false, eval a X.env) :: starEach [] X.env := by rfl) (hpl : (backTo pos2 (starEach [] X.env)).any (·.1) = false := by rfl)
    (hs1 : starEach [.Call (.Name "set" p2) [a] [] pos2] X.env = (false, eval (.Call (.Name "set" p2) [a] [] pos2) X.env) :: starEach [] X.env := by rfl) (hpl1 : (backTo pos (starEach [] X.env)).any (·.1) = false := by rfl) (hdd : PyData.list (rows'.map encI) = dd := by rfl) :
    PD 𝓜 X ε (.Call (.Name "sorted" p) [.Call (.Name "set" p2) [a] [] pos2] [] pos) (Is dd) :=
  pd_to (pd_pe (pe_callB (cr_sortedT hc) hg hm (by decide +kernel) (pa_cons (pe_callTy (KR.cr_setTT hc hu) hg2 hm2 (by decide +kernel) (pdl_cons he pdl_nil hs) (by decide) (by decide) hs hpl) pa_nil hs1) (by decide) (by decide) hs1 hpl1) fun md Mo C M F H σ Q m o q =>
    ⟨md, Mo, C, M, F, m, o, fun vs H1 ds e r i z => by
      cases e
      obtain ⟨v, rfl, z1⟩ := dpa1 z
      obtain ⟨t, ys, rfl, hq, hy⟩ := dp_tup z1
      obtain ⟨ks, rfl, e2, h3⟩ := dpa_ks hy
      have o1 := o.rel r i
      have hl : ks.length = rows.length := by rw [← e2, List.length_map]
      refine ⟨t, ks, rfl, sqt_same hid_same hq, fun p hp => sqt_same hid_same (h3 p hp), by rw [hl]; exact h64, fun A L nA hL hall => ?_⟩
      have sA := same_new (o := SetTO X.prog X.w A L) nA
      have hB : ∀ p ∈ L, p.2.length = d ∧ TS.Bd B p.2 := fun p hp2 => hr.all _ (hp.mem_iff.mpr (by rw [← e2]; exact List.mem_map.mpr ⟨p, hL p hp2, rfl⟩))
      refine ⟨A, L, d, B, rfl, upd_same, fun p hp => sqt_same (hid_same.trans sA) (h3 p (hL p hp)), hd, hB, fun L' P pm nd len asc nP => ?_⟩
      have nL : ∀ p ∈ L', SqT X.K (hid H1 M) p.1 (p.2.map V.int) := fun p hp => h3 p (hL p (pm.mem_iff.mp hp))
      have pr : (L'.map (·.2)).Perm rows := (List.perm_ext_iff_of_nodup nd hnd).mpr fun x => by
        constructor
        · intro hx
          obtain ⟨p, hp, rfl⟩ := List.mem_map.mp hx
          rw [← e2]
          exact List.mem_map.mpr ⟨p, hL p (pm.mem_iff.mp hp), rfl⟩
        · intro hx
          rw [← e2] at hx
          obtain ⟨p, hp, rfl⟩ := List.mem_map.mp hx
          obtain ⟨p', hp', e⟩ := List.mem_map.mp (hall p hp)
          exact List.mem_map.mpr ⟨p', pm.mem_iff.mpr hp', e⟩
      have as : Asc B (L'.map (·.2)) := by
        show List.Pairwise _ _
        rw [List.pairwise_map]
        exact asc
      obtain e := asc_unique hr (pr.trans hp.symm) ha as
      have i2 := md.stab _ _ i sA
      have dm2 : ∀ a, M a = true → upd H1 A (SetTO X.prog X.w A L) a ≠ none := fun a h => by
        by_cases c : a = A
        · rw [c, upd_same]; exact fun z => nomatch z
        · rw [upd_ne c]; exact o1.dom a h
      have sh : Same (hid H1 M) (hid (upd H1 A (SetTO X.prog X.w A L)) M) := hid_keep fun a u _ h => sA a u h
      have res := new_lst nP dm2 (dpa_of_ks fun p hp => sqt_same sh (nL p hp))
      exact q (.ref P) _ _ (by rw [e]; rfl) (r.trans ((Rel.of sA).trans (new_same nP))) (md.stab _ _ i2 (same_new nP)) res⟩) hdd
end
/-! ### a change at one hidden place that no name holds -/
theorem Ok.offD {K : PySem.W.Frag} {md : Md} {Mo C M : Hd} {F H H' : Hp} {σ : L2.St} {ε : List Ent} {D : Addr} (o : Ok K md Mo C M F H σ ε) (no : noOwn ε = true) (hC : C D = true) (r : ∀ a u, a ≠ D → md.m0 a = false → H a = some u → H' a = some u) (i : md.inv H') (hD : H' D ≠ none) : Ok K md Mo C M F H' σ ε := by
  have vis : Same (hid H M) (hid H' M) := hid_keep fun a u h1 h2 => by
    refine r a u (fun e => ?_) ?_ h2
    · rw [e, o.CM D hC] at h1; cases h1
    · cases c : md.m0 a with
      | false => rfl
      | true => rw [o.m0M a c] at h1; cases h1
  refine { o with dom := fun a h => ?_, inv := i, fix := fun a u h => ?_, dat := fun j d h => ?_, lm := fun j ds h => ?_, tm := fun j a b h => ?_ }
  · by_cases e : a = D
    · rw [e]; exact hD
    · cases c : md.m0 a with
      | true => exact md.dom H' a i c
      | false =>
        cases q : H a with
        | none => exact absurd q (o.dom a h)
        | some u => rw [r a u e c q]; exact fun z => nomatch z
  · refine r a u (fun e => ?_) ?_ (o.fix a u h)
    · rw [e, o.CF D hC] at h; cases h
    · cases c : md.m0 a with
      | false => rfl
      | true => rw [o.CF a (o.m0C a c)] at h; cases h
  · obtain ⟨v, e, q⟩ := o.dat j d h
    exact ⟨v, e, dp_same vis q⟩
  · exact (noOwn_get no h rfl).elim
  · exact (noOwn_get no h rfl).elim
/-! ### two generators -/
section
variable {𝓜 : Md → Prop} {ε : List Ent} {xs : List PyData} {f2 : PyData → List PyData} {g : PyData → PyData} {t t1 : Tg} {vs vs1 : List Nat}
abbrev Sub2 (ε : List Ent) (vs : List Nat) (t : Tg) (xs : List PyData) := { z : PyData × List Ent // z.1 ∈ xs ∧ asg t z.1 (wipeE ε vs) = some z.2 }
abbrev Sub3 (ε : List Ent) (vs vs1 : List Nat) (t t1 : Tg) (xs : List PyData) (f2 : PyData → List PyData) := { z : (PyData × List Ent) × PyData × List Ent // (z.1.1 ∈ xs ∧ asg t z.1.1 (wipeE ε vs) = some z.1.2) ∧ z.2.1 ∈ f2 z.1.1 ∧ asg t1 z.2.1 (wipeE z.1.2 vs1) = some z.2.2 }
theorem flat_succ {F : PyData → List PyData} {i : Nat} (h : i < xs.length) : (xs.take (i + 1)).flatMap F = (xs.take i).flatMap F ++ F xs[i] := by
  have e : xs.take (i + 1) = xs.take i ++ [xs[i]] := by rw [List.take_succ, List.getElem?_eq_getElem h]; rfl
  rw [e, List.flatMap_append]
  simp
theorem flat_pre {F : PyData → List PyData} {i : Nat} (h : i < xs.length) : ((xs.take i).flatMap F).length + (F xs[i]).length ≤ (xs.flatMap F).length := by
  have e : xs.flatMap F = (xs.take (i + 1)).flatMap F ++ (xs.drop (i + 1)).flatMap F := by rw [← List.flatMap_append, List.take_append_drop]
  rw [e, flat_succ h, List.length_append, List.length_append]
  omega
theorem tlc2_of {K : PySem.W.Frag} {σ : L2.St} {H : Hp} {Q : VK} (ha : ∀ d ∈ xs, ∃ ε', asg t d (wipeE ε vs) = some ε' ∧ noOwn ε' = true ∧ ∀ e ∈ f2 d, ∃ ε2, asg t1 e (wipeE ε' vs1) = some ε2) (hsl : ∀ i ∈ t.slots, i ∈ vs) (hsl1 : ∀ i ∈ t1.slots, i ∈ vs1) (hz : (xs.flatMap fun d => (f2 d).map g).length ≤ 100000) (w : tL 𝓜 K ε (IsL (xs.flatMap fun d => (f2 d).map g)) σ H Q) :
    tLc2 (tI 𝓜 K ε (IsL xs)) (gT K t) tYes (fun σ H R => ∃ z : Sub2 ε vs t xs, tI 𝓜 K z.1.2 (IsL (f2 z.1.1)) σ H R) (gT K t1) tYes (fun σ H Q => ∃ z : Sub3 ε vs vs1 t t1 xs f2, tD 𝓜 K z.1.2.2 (Is (g z.1.2.1)) σ H Q) vs vs1 σ H Q := by
  obtain ⟨md, Mo, C, M, F, m, o, q⟩ := w
  refine ⟨md, Mo, C, M, F, m, o, fun J H1 xs' e r1 i1 it => ?_⟩
  cases e
  intro D nD
  have o1 := o.rel r1 i1
  have hD0 : md.m0 D = false := by
    cases c : md.m0 D with
    | false => rfl
    | true => exact absurd nD (md.dom H1 D i1 c)
  have nDH := back_none r1 i1 nD
  let Fn : PyData → List PyData := fun d => (f2 d).map g
  refine ⟨fun i m' H2 => m' = xs.length - i ∧ i ≤ xs.length ∧ ∃ ws, Rel md H1 H2 ∧ md.inv H2 ∧ H2 D = some (.lst ws) ∧ DpAll K (hid H2 (adM M D)) ws ((xs.take i).flatMap Fn),
    ⟨xs.length, by simp, Nat.zero_le _, [], new_same nD, md.stab _ _ i1 (same_new nD), upd_same, .nil⟩, ?_⟩
  rintro i m' H2 ⟨rfl, hi, ws, r2, i2, hD2, hws⟩
  have o2 := o1.add nD r2 i2 (by rw [hD2]; exact fun z => nomatch z)
  have vis : Same (hid H1 M) (hid H2 (adM M D)) := fun a u h => by
    obtain ⟨e1, e2⟩ := hid_some h
    have hne : a ≠ D := fun z => by subst z; rw [nD] at e2; cases e2
    rw [hid_off (by rw [adM_ne hne]; exact e1)]
    refine r2 a u ?_ e2
    cases c : md.m0 a with
    | false => rfl
    | true => rw [o1.m0M a c] at e1; cases e1
  by_cases hlt : i < xs.length
  · have hget : xs[i]? = some xs[i] := List.getElem?_eq_getElem hlt
    have hmem : xs[i] ∈ xs := List.getElem_mem hlt
    obtain ⟨g1, g2⟩ := it.at_ H2 (adM M D) vis o2.dom i xs[i] hget
    obtain ⟨ε', he', no', hin⟩ := ha xs[i] hmem
    refine .inr ⟨g1, fun H' => ∃ ws, Rel md H1 H' ∧ md.inv H' ∧ H' D = some (.lst ws) ∧ DpAll K (hid H' (adM M D)) ws ((xs.take (i + 1)).flatMap Fn), fun H' h => ⟨xs.length - (i + 1), by omega, rfl, hlt, h⟩, fun v H3 y => ?_⟩
    obtain ⟨s3, z3⟩ := g2 v H3 y
    have o3 := (o2.rel (Rel.of s3) (md.stab _ _ i2 s3)).wipe vs
    refine ⟨md, Mo, _, _, F, wipeE ε vs, xs[i], ε', o3, z3, he', fun σ4 b4 o4 => ?_⟩
    refine ⟨by rw [b4 vs hsl, wipe_ov vs vs fun _ h => h], ?_⟩
    unfold tYes
    dsimp only
    rw [if_pos rfl]
    refine ⟨⟨(xs[i], ε'), hmem, he'⟩, md, Mo, _, _, F, m, o4, fun J1 H4 xs1 e1 r4 i4 it1 => ?_⟩
    have e1 : xs1 = f2 xs[i] := e1
    subst e1
    have o4' := o4.rel r4 i4
    have r24 : Rel md H2 H4 := (Rel.of s3).trans r4
    have hD4 : H4 D = some (.lst ws) := r24 D _ hD0 hD2
    refine ⟨fun j k H5 => k = (f2 xs[i]).length - j ∧ j ≤ (f2 xs[i]).length ∧ ∃ ws, (∀ a u, a ≠ D → md.m0 a = false → H4 a = some u → H5 a = some u) ∧ md.inv H5 ∧ H5 D = some (.lst ws) ∧ DpAll K (hid H5 (adM M D)) ws ((xs.take i).flatMap Fn ++ ((f2 xs[i]).take j).map g),
      ⟨_, rfl, Nat.zero_le _, ws, fun a u _ _ h => h, i4, hD4, by rw [List.take_zero, List.map_nil, List.append_nil]; exact dpa_same (r24.hid o2.m0M) hws⟩, ?_⟩
    rintro j k H5 ⟨rfl, hj, ws5, rd, i5, hD5, hws5⟩
    have o5 := o4'.offD no' adM_p rd i5 (by rw [hD5]; exact fun z => nomatch z)
    have vis1 : Same (hid H4 (adM M D)) (hid H5 (adM M D)) := hid_keep fun a u h1 h2 => by
      refine rd a u (fun e => ?_) ?_ h2
      · rw [e, adM_p] at h1; cases h1
      · cases c : md.m0 a with
        | false => rfl
        | true => rw [o4'.m0M a c] at h1; cases h1
    by_cases hlt1 : j < (f2 xs[i]).length
    · have hget1 : (f2 xs[i])[j]? = some (f2 xs[i])[j] := List.getElem?_eq_getElem hlt1
      have hmem1 : (f2 xs[i])[j] ∈ f2 xs[i] := List.getElem_mem hlt1
      have htake1 : (f2 xs[i]).take (j + 1) = (f2 xs[i]).take j ++ [(f2 xs[i])[j]] := by rw [List.take_succ, hget1]; rfl
      obtain ⟨g1', g2'⟩ := it1.at_ H5 (adM M D) vis1 o5.dom j _ hget1
      obtain ⟨ε2, he2⟩ := hin _ hmem1
      refine .inr ⟨g1', fun H' => ∃ ws, (∀ a u, a ≠ D → md.m0 a = false → H4 a = some u → H' a = some u) ∧ md.inv H' ∧ H' D = some (.lst ws) ∧ DpAll K (hid H' (adM M D)) ws ((xs.take i).flatMap Fn ++ ((f2 xs[i]).take (j + 1)).map g), fun H' h => ⟨(f2 xs[i]).length - (j + 1), by omega, rfl, hlt1, h⟩, fun v1 H6 y1 => ?_⟩
      obtain ⟨s6, z6⟩ := g2' v1 H6 y1
      have o6 := (o5.rel (Rel.of s6) (md.stab _ _ i5 s6)).wipe vs1
      refine ⟨md, Mo, _, _, F, wipeE ε' vs1, _, ε2, o6, z6, he2, fun σ7 b7 o7 => ?_⟩
      refine ⟨by rw [b7 vs1 hsl1, wipe_ov vs1 vs1 fun _ h => h], ?_⟩
      rw [if_pos rfl]
      refine ⟨⟨((xs[i], ε'), ((f2 xs[i])[j], ε2)), ⟨hmem, he'⟩, hmem1, he2⟩, md, Mo, _, _, F, m, o7, fun w H7 d pd r7 i7 z7 => ?_⟩
      have pd : d = g (f2 xs[i])[j] := pd
      subst pd
      have r57 : Rel md H5 H7 := (Rel.of s6).trans r7
      have hD7 : H7 D = some (.lst ws5) := r57 D _ hD0 hD5
      have hb : ws5.length < 100000 := by
        have h1 := flat_pre (F := Fn) hlt
        have h2 : (Fn xs[i]).length = (f2 xs[i]).length := by simp [Fn]
        rw [dpa_len hws5, List.length_append, List.length_map, List.length_take]
        have hz' : (xs.flatMap Fn).length ≤ 100000 := hz
        omega
      refine ⟨ws5, hD7, by rw [sizeLine_eq]; omega, ws5 ++ [w], fun a u hne h0 h1 => ?_, ?_, upd_same, ?_⟩
      · rw [upd_ne hne]
        exact r57 a u h0 (rd a u hne h0 h1)
      · refine md.stab' _ _ i7 fun a u c h => ?_
        rw [upd_ne (fun z => by subst z; rw [hD0] at c; cases c)]
        exact h
      · have same : Same (hid H7 (adM M D)) (hid (upd H7 D (.lst (ws5 ++ [w]))) (adM M D)) := fun a u h => by
          obtain ⟨e1, e2⟩ := hid_some h
          have hne : a ≠ D := fun z => by subst z; rw [adM_p] at e1; cases e1
          rw [hid_off e1, upd_ne hne]
          exact e2
        rw [htake1, List.map_append, ← List.append_assoc]
        exact dpa_same same (dpa_append (dpa_same (r57.hid o5.m0M) hws5) (.cons z7 .nil))
    · have e : j = (f2 xs[i]).length := by omega
      subst e
      refine .inl ⟨it1.stop H5 (vis1.trans hid_same) _ rfl, ws5, fun a u h0 h1 => ?_, i5, hD5, ?_⟩
      · have hne : a ≠ D := fun z => by subst z; rw [nD] at h1; cases h1
        exact rd a u hne h0 ((r2.trans r24) a u h0 h1)
      · rw [flat_succ hlt]
        rw [List.take_length] at hws5
        exact hws5
  · have e : i = xs.length := by omega
    subst e
    refine .inl ⟨it.stop H2 (vis.trans hid_same) _ rfl, q D H2 ws _ (by rw [List.take_length]; rfl) (r1.trans r2) i2 nDH hD2 hws⟩
end
section
variable {𝓜 : Md → Prop} {X : Cx} {ε : List Ent} {xs : List PyData} {f2 : PyData → List PyData} {g : PyData → PyData} {t t1 : Tg} {vs1 : List Nat} {tg tg1 iter iter1 elt : Expr} {scope : Scope} {own : List (Str × Nat)} {pos : Pos}
/-- x = [e for .. in .. for .. in ..], x a plain local -/
theorem bd_lc2 (i : Nat) {y : Str} {py spos : Pos} {rest : List Stmt} {N : List Ent → Prop} {R : PP} (hc : X.calm = true) (hN : X.N.Nodup) (hi : ID 𝓜 X ε tg iter (IsL xs)) (ok : blkC X.N X.env.scope scope own = true) (hg : ∀ s H C cl fp, TD (Blk X scope s H C cl fp) tg t)
    (hg1 : ∀ s H C cl fp, TD (Blk X scope s H C cl fp) tg1 t1)
    (he : ∀ d ∈ xs, ∃ ε', asg t d (wipeE ε (own.map (·.2))) = some ε' ∧ noOwn ε' = true ∧ (∀ s H C cl fp, ID 𝓜 (Blk X scope s H C cl fp) ε' tg1 iter1 (IsL (f2 d))) ∧ ∀ e ∈ f2 d, ∃ ε2, asg t1 e (wipeE ε' vs1) = some ε2 ∧ ∀ s H C cl fp, PD 𝓜 (Blk X scope s H C cl fp) ε2 elt (Is (g e)))
    (hz : (xs.flatMap fun d => (f2 d).map g).length ≤ 100000) (h2 : BD 𝓜 X (ε.set i (.lm (xs.flatMap fun d => (f2 d).map g))) rest N R) (hv : ∀ i ∈ vs1, i ∈ own.map (·.2) := by decide) (hsl : ∀ i ∈ t.slots, i ∈ own.map (·.2) := by decide) (hsl1 : ∀ i ∈ t1.slots, i ∈ vs1 := by decide)
    (hy : X.N[i]? = some y := by rfl) (hyl : X.env.scope.names.lookup y = some .local := by rfl) (hsw : swapsWith (.ListComp elt [⟨tg, iter, [], 0⟩, ⟨tg1, iter1, [], 0⟩] scope pos) (some (.Name y py)) spos.line X.env = pure true := by exact sw_true rfl rfl rfl (by decide +kernel))
    (hs : ∀ x, foldedSetIterable iter X.env x = pure x := by intro _; rfl) (hs1 : ∀ env x, foldedSetIterable iter1 env x = pure x := by intro _ _; rfl) (nt : noTm ε = true := by rfl) : BD 𝓜 X ε (.Assign [.Name y py] (.ListComp elt [⟨tg, iter, [], 0⟩, ⟨tg1, iter1, [], 0⟩] scope pos) spos :: rest) N R := by
  have hte : ∀ s H C cl fp, PE (Blk X scope s H C cl fp) elt (fun σ H Q => ∃ z : Sub3 ε (own.map (·.2)) vs1 t t1 xs f2, tD 𝓜 X.K z.1.2.2 (Is (g z.1.2.1)) σ H Q) := fun s H C cl fp => pe_fam fun ⟨⟨⟨d, ε'⟩, e, ε2⟩, ⟨h1, h2⟩, h3, h4⟩ => by
    have h1 : d ∈ xs := h1
    have h2 : asg t d (wipeE ε (own.map (·.2))) = some ε' := h2
    have h3 : e ∈ f2 d := h3
    have h4 : asg t1 e (wipeE ε' vs1) = some ε2 := h4
    obtain ⟨ε'', e1, _, _, k⟩ := he d h1
    rw [h2] at e1
    cases e1
    obtain ⟨ε3, e2, k2⟩ := k e h3
    rw [h4] at e2
    cases e2
    exact k2 s H C cl fp
  have hti : ∀ s H C cl fp, PI (Blk X scope s H C cl fp) tg1 iter1 (fun σ H R => ∃ z : Sub2 ε (own.map (·.2)) t xs, tI 𝓜 X.K z.1.2 (IsL (f2 z.1.1)) σ H R) := fun s H C cl fp => ⟨fun pins s' σ H' R I ⟨⟨⟨d, ε'⟩, h1, h2⟩, q⟩ => by
    have h1 : d ∈ xs := h1
    have h2 : asg t d (wipeE ε (own.map (·.2))) = some ε' := h2
    obtain ⟨ε'', e1, _, k, _⟩ := he d h1
    rw [h2] at e1
    cases e1
    exact (k s H C cl fp).run pins s' σ H' R I q⟩
  exact bd_cons (N1 := fun ε' => ε' = ε.set i (.lm (xs.flatMap fun d => (f2 d).map g))) (ps_mono (ps_setLc2 (vs1 := vs1) hc hN hy hyl hsw hi (blkOk_by ok) hv hg (fun _ _ _ _ _ => pts_nil) hti hg1 (fun _ _ _ _ _ => pts_nil) hte hs hs1) fun D σ H ⟨md, Mo, C, M, F, m, o, q, qr⟩ =>
    tlc2_of (fun d hd => by obtain ⟨ε', e, no, _, k⟩ := he d hd; exact ⟨ε', e, no, fun e he => (k e he).imp fun _ h => h.1⟩) hsl hsl1 hz ⟨md, Mo, C, M, F, m, o, fun p H1 ws ds pd r iv hp hp' z => by
      cases pd
      exact q _ H1 _ _ _ rfl (o.own i nt hp r iv hp' z)⟩) fun ε' e => by subst e; exact h2
end
end DL
end

section
set_option Elab.async false
set_option linter.all false
set_option maxRecDepth 100000
/-! Plain mathematics: rows, ends, what stands at an address. -/
namespace MA
abbrev Tie := Nat × Nat × Nat
abbrev Web := Nat × List Tie
abbrev Gar := Web × List Web
abbrev Row := List Nat
abbrev Ad := Row × Nat
def tieAt (w : Web) (i : Nat) : Tie := w.2.getD i (0, 0, 0)
def growth (g : Gar) (k : Nat) : Web := g.2.getD k (0, [])
def stepW (g : Gar) (w : Web) (i : Nat) : Web := growth g (tieAt w i).2.2
def web (g : Gar) (r : Row) : Web := r.foldl (stepW g) g.1
def Al (g : Gar) : Web → Row → Prop
  | _, [] => True
  | w, i :: r => i < w.2.length ∧ Al g (stepW g w i) r
abbrev Ro (g : Gar) (r : Row) : Prop := Al g g.1 r
theorem getD_of {α : Type} {l : List α} {i : Nat} (d : α) (h : i < l.length) : l.getD i d = l[i] := by rw [List.getD_eq_getElem?_getD, List.getElem?_eq_getElem h]; rfl
theorem web_snoc (g : Gar) (r : Row) (i : Nat) : web g (r ++ [i]) = stepW g (web g r) i := by simp [web]
theorem al_append (g : Gar) : ∀ (w : Web) (a b : Row), Al g w (a ++ b) ↔ Al g w a ∧ Al g (a.foldl (stepW g) w) b
  | w, [], b => by simp [Al]
  | w, i :: a, b => by simp [Al, al_append g (stepW g w i) a b, and_assoc]
theorem ro_snoc (g : Gar) (r : Row) (i : Nat) : Ro g (r ++ [i]) ↔ Ro g r ∧ i < (web g r).2.length := by
  unfold Ro
  rw [al_append]
  simp [Al, web]
theorem ro_take {g : Gar} {r : Row} (h : Ro g r) (n : Nat) : Ro g (r.take n) := by
  have := (al_append g g.1 (r.take n) (r.drop n)).mp (by rw [List.take_append_drop]; exact h)
  exact this.1
theorem ro_get {g : Gar} {r : Row} (h : Ro g r) (n : Nat) (hn : n < r.length) : r[n] < (web g (r.take n)).2.length := by
  have e : r.take (n + 1) = r.take n ++ [r[n]] := by rw [List.take_succ_eq_append_getElem hn]
  have := ro_take h (n + 1)
  rw [e] at this
  exact ((ro_snoc g _ _).mp this).2
/-- the kind of a row -/
def kind (g : Gar) (r : Row) : Nat := (tieAt (web g r.dropLast) (r.getLastD 0)).2.2
theorem kind_snoc (g : Gar) (r : Row) (i : Nat) : kind g (r ++ [i]) = (tieAt (web g r) i).2.2 := by
  unfold kind
  rw [List.dropLast_concat, List.getLastD_concat]
theorem snoc_of {r : Row} (h : r ≠ []) : ∃ q i, r = q ++ [i] := ⟨r.dropLast, r.getLast h, (List.dropLast_concat_getLast h).symm⟩
theorem web_kind (g : Gar) {r : Row} (h : r ≠ []) : web g r = growth g (kind g r) := by
  obtain ⟨q, i, rfl⟩ := snoc_of h
  rw [web_snoc, kind_snoc]
  rfl
/-- sides -/
def pl (t : Tie) (s : Nat) : Nat := if s = 0 then t.1 else t.2.1
def sd (e : Ad × Ad) (s : Nat) : Ad := if s = 0 then e.1 else e.2
def pick (e : Ad × Ad) (p : Row) (v : Nat) : Ad := if v < 2 then sd e v else (p, v)
/-- one end -/
def endR (g : Gar) : List Nat → Nat → Ad
  | [], _ => ([], 0)
  | [i], s => ([], pl (tieAt g.1 i) s)
  | i :: j :: q, s => let v := pl (tieAt (web g (j :: q).reverse) i) s; if v < 2 then endR g (j :: q) v else ((j :: q).reverse, v)
def en (g : Gar) (r : Row) (s : Nat) : Ad := endR g r.reverse s
def ends (g : Gar) (r : Row) : Ad × Ad := (en g r 0, en g r 1)
theorem sd_ends (g : Gar) (r : Row) {s : Nat} (h : s < 2) : sd (ends g r) s = en g r s := by
  match s, h with
  | 0, _ => rfl
  | 1, _ => rfl
theorem en_one (g : Gar) (i s : Nat) : en g [i] s = ([], pl (tieAt g.1 i) s) := rfl
theorem en_snoc (g : Gar) {r : Row} (i s : Nat) (h : r ≠ []) : en g (r ++ [i]) s = if pl (tieAt (web g r) i) s < 2 then en g r (pl (tieAt (web g r) i) s) else (r, pl (tieAt (web g r) i) s) := by
  unfold en
  rw [List.reverse_append]
  have hr : r.reverse ≠ [] := by simpa using h
  have e : r = r.reverse.reverse := by simp
  revert e
  generalize r.reverse = z at *
  intro e
  cases z with
  | nil => exact absurd rfl hr
  | cons j q =>
    subst e
    rfl
theorem ends_snoc (g : Gar) {r : Row} (i : Nat) (h : r ≠ []) : ends g (r ++ [i]) = (pick (ends g r) r (tieAt (web g r) i).1, pick (ends g r) r (tieAt (web g r) i).2.1) := by
  have key : ∀ v, pick (ends g r) r v = if v < 2 then en g r v else (r, v) := fun v => by
    unfold pick
    split
    · rename_i h; exact sd_ends g r h
    · rfl
  unfold ends
  rw [en_snoc g i 0 h, en_snoc g i 1 h, ← key, ← key]
  rfl
/-! what holds of a garden -/
structure TieOk (n k : Nat) (t : Tie) : Prop where
  a : t.1 < n
  b : t.2.1 < n
  ne : t.1 ≠ t.2.1
  c : t.2.2 < k
structure WebOk (k : Nat) (w : Web) : Prop where
  lo : 1 ≤ w.1
  hi : w.1 ≤ 7
  few : w.2.length ≤ 10
  ties : ∀ t ∈ w.2, TieOk w.1 k t
structure GarOk (g : Gar) : Prop where
  lo : 1 ≤ g.2.length
  hi : g.2.length ≤ 3
  start : WebOk g.2.length g.1
  book : ∀ w ∈ g.2, WebOk g.2.length w ∧ 2 ≤ w.1
theorem tieAt_mem {w : Web} {i : Nat} (h : i < w.2.length) : tieAt w i ∈ w.2 := by
  unfold tieAt
  rw [getD_of _ h]
  exact List.getElem_mem h
theorem growth_mem {g : Gar} {k : Nat} (h : k < g.2.length) : growth g k ∈ g.2 := by
  unfold growth
  rw [getD_of _ h]
  exact List.getElem_mem h
section
variable {g : Gar}
theorem web_ok (G : GarOk g) : ∀ {r : Row}, Ro g r → WebOk g.2.length (web g r) ∧ (r ≠ [] → kind g r < g.2.length ∧ 2 ≤ (web g r).1) := by
  intro r
  generalize hn : r.length = n
  induction n generalizing r with
  | zero => intro _; cases List.length_eq_zero_iff.mp hn; exact ⟨G.start, fun h => absurd rfl h⟩
  | succ n ih =>
    intro h
    have hr : r ≠ [] := fun z => by subst z; cases hn
    obtain ⟨q, i, rfl⟩ := snoc_of hr
    obtain ⟨h1, h2⟩ := (ro_snoc g q i).mp h
    have hq := (ih (r := q) (by simpa using hn) h1).1
    have hk : kind g (q ++ [i]) < g.2.length := by rw [kind_snoc]; exact (hq.ties _ (tieAt_mem h2)).c
    have := G.book _ (growth_mem hk)
    rw [web_kind g hr]
    exact ⟨this.1, fun _ => ⟨hk, this.2⟩⟩
theorem tie_ok (G : GarOk g) {r : Row} {i : Nat} (h : Ro g (r ++ [i])) : TieOk (web g r).1 g.2.length (tieAt (web g r) i) := by
  obtain ⟨h1, h2⟩ := (ro_snoc g r i).mp h
  exact (web_ok G h1).1.ties _ (tieAt_mem h2)
structure AdOk (g : Gar) (a : Ad) : Prop where
  row : Ro g a.1
  hi : a.2 < (web g a.1).1
  lo : a.1 ≠ [] → 2 ≤ a.2
theorem pl_lt {n k : Nat} {t : Tie} (h : TieOk n k t) (s : Nat) : pl t s < n := by
  unfold pl; split
  · exact h.a
  · exact h.b
theorem en_ok (G : GarOk g) : ∀ {r : Row}, Ro g r → r ≠ [] → (∀ s, s < 2 → AdOk g (en g r s) ∧ (en g r s).1.length < r.length) ∧ en g r 0 ≠ en g r 1 := by
  intro r
  generalize hn : r.length = n
  induction n generalizing r with
  | zero => intro _ h; cases List.length_eq_zero_iff.mp hn; exact absurd rfl h
  | succ n ih =>
    intro h hr
    obtain ⟨q, i, rfl⟩ := snoc_of hr
    have T := tie_ok G h
    obtain ⟨h1, h2⟩ := (ro_snoc g q i).mp h
    have hql : q.length = n := by simpa using hn
    by_cases hq : q = []
    · subst hq
      refine ⟨fun s hs => ⟨⟨trivial, pl_lt T s, fun z => absurd rfl z⟩, Nat.succ_pos _⟩, fun e => T.ne ?_⟩
      exact (Prod.mk.inj e).2
    · obtain ⟨e1, e2⟩ := ih (r := q) hql h1 hq
      refine ⟨fun s hs => ?_, fun e => ?_⟩
      · rw [en_snoc g i s hq]
        split
        · rename_i hv
          exact ⟨(e1 _ hv).1, by have := (e1 _ hv).2; omega⟩
        · rename_i hv
          exact ⟨⟨h1, pl_lt T s, fun _ => by simpa using hv⟩, by show q.length < _; omega⟩
      · rw [en_snoc g i 0 hq, en_snoc g i 1 hq] at e
        have hne : pl (tieAt (web g q) i) 0 ≠ pl (tieAt (web g q) i) 1 := T.ne
        revert e hne
        generalize pl (tieAt (web g q) i) 0 = x
        generalize pl (tieAt (web g q) i) 1 = y
        intro e hne
        split at e
        · rename_i hx
          split at e
          · rename_i hy
            rcases (by omega : x = 0 ∨ x = 1) with rfl | rfl
            · rcases (by omega : y = 0 ∨ y = 1) with rfl | rfl
              · exact hne rfl
              · exact e2 e
            · rcases (by omega : y = 0 ∨ y = 1) with rfl | rfl
              · exact e2 e.symm
              · exact hne rfl
          · have := (e1 x hx).2
            rw [e] at this
            have this : q.length < n := this
            omega
        · split at e
          · rename_i hy
            have := (e1 y hy).2
            rw [← e] at this
            have this : q.length < n := this
            omega
          · exact hne (Prod.mk.inj e).2
end
/-! rows at an address -/
def hits (t : Tie) (v : Nat) : Bool := v == t.1 || v == t.2.1
def sideOf (t : Tie) (v : Nat) : Nat := if v = t.1 then 0 else 1
abbrev It3 := Row × Nat × Nat
def sidedF (v : Nat) (p : Row) : Nat → List Tie → List It3
  | _, [] => []
  | i, t :: ts => if hits t v then (p ++ [i], t.2.2, sideOf t v) :: sidedF v p (i + 1) ts else sidedF v p (i + 1) ts
def sided (w : Web) (v : Nat) (p : Row) : List It3 := sidedF v p 0 w.2
def raw (g : Gar) (p : Row) (v : Nat) : Nat → List It3
  | 0 => sided (web g p) v p
  | m + 1 => (raw g p v m).flatMap fun x => sided (growth g x.2.1) x.2.2 x.1
theorem sidedF_snoc (v : Nat) (p : Row) : ∀ (ts : List Tie) (i : Nat) (t : Tie), sidedF v p i (ts ++ [t]) = sidedF v p i ts ++ (if hits t v then [(p ++ [i + ts.length], t.2.2, sideOf t v)] else [])
  | [], i, t => by simp only [List.nil_append, sidedF, List.length_nil, Nat.add_zero]
  | u :: ts, i, t => by
    have ih := sidedF_snoc v p ts (i + 1) t
    have e : i + 1 + ts.length = i + (ts.length + 1) := by omega
    rw [e] at ih
    simp only [List.cons_append, sidedF, List.length_cons]
    split
    · rw [ih]; rfl
    · rw [ih]
theorem sidedF_len (v : Nat) (p : Row) : ∀ (ts : List Tie) (i : Nat), (sidedF v p i ts).length ≤ ts.length
  | [], _ => Nat.le_refl _
  | t :: ts, i => by
    have := sidedF_len v p ts (i + 1)
    simp only [sidedF, List.length_cons]
    split
    · rw [List.length_cons]; omega
    · omega
theorem mem_sidedF (v : Nat) (p : Row) (x : It3) : ∀ (ts : List Tie) (i : Nat), x ∈ sidedF v p i ts ↔ ∃ j t, ts[j]? = some t ∧ hits t v = true ∧ x = (p ++ [i + j], t.2.2, sideOf t v)
  | [], i => by simp [sidedF]
  | t :: ts, i => by
    have ih := mem_sidedF v p x ts (i + 1)
    have key : (∃ j u, (t :: ts)[j]? = some u ∧ hits u v = true ∧ x = (p ++ [i + j], u.2.2, sideOf u v)) ↔ ((hits t v = true ∧ x = (p ++ [i], t.2.2, sideOf t v)) ∨ ∃ j u, ts[j]? = some u ∧ hits u v = true ∧ x = (p ++ [i + 1 + j], u.2.2, sideOf u v)) := by
      constructor
      · rintro ⟨j, u, h1, h2, h3⟩
        cases j with
        | zero => simp at h1; subst h1; exact .inl ⟨h2, h3⟩
        | succ j => exact .inr ⟨j, u, by simpa using h1, h2, by rw [h3]; congr 3; omega⟩
      · rintro (⟨h1, h2⟩ | ⟨j, u, h1, h2, h3⟩)
        · exact ⟨0, t, rfl, h1, h2⟩
        · exact ⟨j + 1, u, by simpa using h1, h2, by rw [h3]; congr 3; omega⟩
    rw [key, ← ih]
    simp only [sidedF]
    split
    · rename_i h; simp [h]
    · rename_i h; simp [h]
theorem mem_sided {w : Web} {v : Nat} {p : Row} {x : It3} : x ∈ sided w v p ↔ ∃ j, j < w.2.length ∧ hits (tieAt w j) v = true ∧ x = (p ++ [j], (tieAt w j).2.2, sideOf (tieAt w j) v) := by
  unfold sided
  rw [mem_sidedF]
  constructor
  · rintro ⟨j, t, h1, h2, h3⟩
    obtain ⟨hl, e⟩ := List.getElem?_eq_some_iff.mp h1
    have e2 : tieAt w j = t := by unfold tieAt; rw [getD_of _ hl]; exact e
    refine ⟨j, hl, by rw [e2]; exact h2, by rw [h3, e2, Nat.zero_add]⟩
  · rintro ⟨j, hl, h2, h3⟩
    refine ⟨j, tieAt w j, ?_, h2, by rw [h3, Nat.zero_add]⟩
    unfold tieAt
    rw [getD_of _ hl]
    exact List.getElem?_eq_getElem hl
theorem pl_side {n k : Nat} {t : Tie} {v : Nat} (T : TieOk n k t) (h : hits t v = true) : pl t (sideOf t v) = v ∧ ∀ s, s < 2 → (pl t s = v ↔ s = sideOf t v) := by
  have := T.ne
  unfold hits at h
  simp only [Bool.or_eq_true, beq_iff_eq] at h
  unfold sideOf pl
  split
  · rename_i e
    refine ⟨by simp [e], fun s hs => ?_⟩
    rcases (by omega : s = 0 ∨ s = 1) with rfl | rfl
    · simp [e]
    · simp; omega
  · rename_i e
    refine ⟨by simp; omega, fun s hs => ?_⟩
    rcases (by omega : s = 0 ∨ s = 1) with rfl | rfl
    · simp; omega
    · simp; omega
theorem side_lt (t : Tie) (v : Nat) : sideOf t v < 2 := by unfold sideOf; split <;> omega
theorem hits_iff {t : Tie} {v : Nat} : hits t v = true ↔ ∃ s, s < 2 ∧ pl t s = v := by
  unfold hits
  simp only [Bool.or_eq_true, beq_iff_eq]
  constructor
  · rintro (h | h)
    · exact ⟨0, by omega, h.symm⟩
    · exact ⟨1, by omega, h.symm⟩
  · rintro ⟨s, hs, h⟩
    rcases (by omega : s = 0 ∨ s = 1) with rfl | rfl
    · exact .inl h.symm
    · exact .inr h.symm
section
variable {g : Gar}
/-- what stands there: each with its kind and side -/
theorem raw_sound (G : GarOk g) {p : Row} {v : Nat} (A : AdOk g (p, v)) : ∀ (m : Nat) (x : It3), x ∈ raw g p v m → Ro g x.1 ∧ x.1.length = p.length + m + 1 ∧ x.2.1 = kind g x.1 ∧ x.2.2 < 2 ∧ en g x.1 x.2.2 = (p, v)
  | 0, x, h => by
    obtain ⟨j, hj, hh, rfl⟩ := mem_sided.mp h
    have hr : Ro g (p ++ [j]) := (ro_snoc g p j).mpr ⟨A.row, hj⟩
    have T := tie_ok G hr
    obtain ⟨e1, _⟩ := pl_side T hh
    refine ⟨hr, by simp, (kind_snoc g p j).symm, side_lt _ _, ?_⟩
    by_cases hp : p = []
    · subst hp
      show en g [j] _ = _
      rw [en_one, show tieAt g.1 j = tieAt (web g []) j from rfl, e1]
    · show en g (p ++ [j]) _ = _
      rw [en_snoc g j _ hp, e1, if_neg (by have := A.lo hp; exact Nat.not_lt.mpr this)]
  | m + 1, x, h => by
    obtain ⟨y, hy, hx⟩ := List.mem_flatMap.mp h
    obtain ⟨r1, l1, k1, s1, e1⟩ := raw_sound G A m y hy
    have hne : y.1 ≠ [] := fun z => by rw [z] at l1; simp at l1
    rw [k1, ← web_kind g hne] at hx
    obtain ⟨j, hj, hh, rfl⟩ := mem_sided.mp hx
    have hr : Ro g (y.1 ++ [j]) := (ro_snoc g _ j).mpr ⟨r1, hj⟩
    have T := tie_ok G hr
    obtain ⟨e2, _⟩ := pl_side T hh
    refine ⟨hr, by simp; omega, (kind_snoc g _ j).symm, side_lt _ _, ?_⟩
    show en g (y.1 ++ [j]) _ = _
    rw [en_snoc g j _ hne, e2, if_pos s1, e1]
theorem raw_other (G : GarOk g) {p : Row} {v : Nat} (A : AdOk g (p, v)) {m : Nat} {x : It3} (h : x ∈ raw g p v m) {s : Nat} (hs : s < 2) : en g x.1 s = (p, v) ↔ s = x.2.2 := by
  obtain ⟨r1, l1, k1, s1, e1⟩ := raw_sound G A m x h
  have hne : x.1 ≠ [] := fun z => by rw [z] at l1; simp at l1
  have d := (en_ok G r1 hne).2
  constructor
  · intro e
    apply Decidable.byContradiction
    intro hd
    rw [← e1] at e
    revert s1 e hd
    generalize x.2.2 = z
    intro s1 e hd
    rcases (by omega : s = 0 ∨ s = 1) with rfl | rfl
    · rcases (by omega : z = 0 ∨ z = 1) with rfl | rfl
      · exact hd rfl
      · exact d e
    · rcases (by omega : z = 0 ∨ z = 1) with rfl | rfl
      · exact d e.symm
      · exact hd rfl
  · rintro rfl; exact e1
/-- whole: each row at the address is there -/
theorem raw_whole (G : GarOk g) {p : Row} {v : Nat} : ∀ (n : Nat) (r : Row) (s : Nat), r.length = n + 1 → Ro g r → s < 2 → en g r s = (p, v) → (r, kind g r, s) ∈ raw g p v (n - p.length)
  | n, r, s, hl, hr, hs, he => by
    have hr0 : r ≠ [] := fun z => by subst z; cases hl
    obtain ⟨q, i, rfl⟩ := snoc_of hr0
    have T := tie_ok G hr
    obtain ⟨h1, h2⟩ := (ro_snoc g q i).mp hr
    have hql : q.length = n := by simpa using hl
    by_cases hq : q = []
    · subst hq
      subst hql
      rw [List.nil_append, en_one] at he
      obtain ⟨rfl, e2⟩ := Prod.mk.inj he
      refine mem_sided.mpr ⟨i, h2, hits_iff.mpr ⟨s, hs, e2⟩, ?_⟩
      have hh : hits (tieAt (web g []) i) v = true := hits_iff.mpr ⟨s, hs, e2⟩
      rw [kind_snoc, ← ((pl_side T hh).2 s hs).mp e2]
    · rw [en_snoc g i s hq] at he
      split at he
      · rename_i hv
        cases n with
        | zero => exact absurd (List.length_eq_zero_iff.mp hql) hq
        | succ n =>
          have ih := raw_whole G (p := p) (v := v) n q _ hql h1 hv he
          have hp : p.length < q.length := by
            have := ((en_ok G h1 hq).1 _ hv).2
            rw [he] at this
            exact this
          have e : n + 1 - p.length = (n - p.length) + 1 := by omega
          rw [e]
          refine List.mem_flatMap.mpr ⟨_, ih, ?_⟩
          rw [← web_kind g hq]
          have hh : hits (tieAt (web g q) i) (pl (tieAt (web g q) i) s) = true := hits_iff.mpr ⟨s, hs, rfl⟩
          refine mem_sided.mpr ⟨i, h2, hh, ?_⟩
          rw [kind_snoc, ← ((pl_side T hh).2 s hs).mp rfl]
      · rename_i hv
        obtain ⟨rfl, e2⟩ := Prod.mk.inj he
        rw [show n - q.length = 0 by omega]
        have hh : hits (tieAt (web g q) i) v = true := hits_iff.mpr ⟨s, hs, e2⟩
        refine mem_sided.mpr ⟨i, h2, hh, ?_⟩
        rw [kind_snoc, ← ((pl_side T hh).2 s hs).mp e2]
theorem sidedF_nodup (v : Nat) (p : Row) : ∀ (ts : List Tie) (i : Nat), ((sidedF v p i ts).map (·.1)).Nodup ∧ ∀ x ∈ sidedF v p i ts, ∃ j, i ≤ j ∧ x.1 = p ++ [j]
  | [], i => by simp [sidedF]
  | t :: ts, i => by
    obtain ⟨h1, h2⟩ := sidedF_nodup v p ts (i + 1)
    have h3 : ∀ x ∈ sidedF v p (i + 1) ts, ∃ j, i ≤ j ∧ x.1 = p ++ [j] := fun x hx => by
      obtain ⟨j, hj, e⟩ := h2 x hx
      exact ⟨j, by omega, e⟩
    simp only [sidedF]
    split
    · refine ⟨?_, fun x hx => ?_⟩
      · rw [List.map_cons, List.nodup_cons]
        refine ⟨fun hm => ?_, h1⟩
        obtain ⟨x, hx, e⟩ := List.mem_map.mp hm
        obtain ⟨j, hj, e2⟩ := h2 x hx
        rw [e] at e2
        have := List.append_cancel_left e2
        simp at this
        omega
      · rcases List.mem_cons.mp hx with rfl | hx
        · exact ⟨i, Nat.le_refl _, rfl⟩
        · exact h3 x hx
    · exact ⟨h1, h3⟩
theorem nodup_flat {α β : Type} {f : α → List β} {key : β → α'} {k2 : α → α'} : ∀ {l : List α}, (l.map k2).Nodup → (∀ a ∈ l, (f a).Nodup) → (∀ a ∈ l, ∀ b ∈ f a, key b = k2 a) → (l.flatMap f).Nodup
  | [], _, _, _ => List.nodup_nil
  | a :: l, h, h1, h2 => by
    rw [List.map_cons, List.nodup_cons] at h
    rw [List.flatMap_cons, List.nodup_append]
    refine ⟨h1 a List.mem_cons_self, nodup_flat h.2 (fun a h => h1 a (List.mem_cons_of_mem _ h)) (fun a h => h2 a (List.mem_cons_of_mem _ h)), fun b hb c hc e => ?_⟩
    subst e
    obtain ⟨a', ha', hb'⟩ := List.mem_flatMap.mp hc
    have e1 := h2 a List.mem_cons_self b hb
    have e2 := h2 a' (List.mem_cons_of_mem _ ha') b hb'
    exact h.1 (List.mem_map.mpr ⟨a', ha', by rw [← e2, e1]⟩)
theorem raw_nodup (p : Row) (v : Nat) : ∀ m, ((raw g p v m).map (·.1)).Nodup
  | 0 => (sidedF_nodup v p _ 0).1
  | m + 1 => by
    show (((raw g p v m).flatMap _).map _).Nodup
    rw [List.map_flatMap]
    refine nodup_flat (key := List.dropLast) (k2 := fun x : It3 => x.1) (raw_nodup p v m) (fun a _ => (sidedF_nodup _ _ _ 0).1) fun a _ b hb => ?_
    obtain ⟨x, hx, rfl⟩ := List.mem_map.mp hb
    obtain ⟨j, _, e⟩ := (sidedF_nodup _ _ _ 0).2 x hx
    rw [e, List.dropLast_concat]
end
end MA
end

section
set_option Elab.async false
set_option linter.all false
set_option maxRecDepth 100000
/-! Degrees. -/
namespace MA
def cnt (w : Web) (v s k : Nat) : Nat := w.2.countP fun t => pl t s == v && t.2.2 == k
def deg (g : Gar) (p : Row) (v m s k : Nat) : Nat := (raw g p v m).countP fun x => x.2.1 == k && x.2.2 == s
def sumR (n : Nat) (f : Nat → Nat) : Nat := ((List.range n).map f).sum
theorem sumR_zero (f : Nat → Nat) : sumR 0 f = 0 := rfl
theorem sumR_succ (n : Nat) (f : Nat → Nat) : sumR (n + 1) f = sumR n f + f n := by simp [sumR, List.range_succ]
theorem sumR_add (n : Nat) (f h : Nat → Nat) : sumR n (fun i => f i + h i) = sumR n f + sumR n h := by
  induction n with
  | zero => rfl
  | succ n ih => rw [sumR_succ, sumR_succ, sumR_succ, ih]; omega
theorem sumR_congr {n : Nat} {f h : Nat → Nat} (e : ∀ i, i < n → f i = h i) : sumR n f = sumR n h := by
  induction n with
  | zero => rfl
  | succ n ih => rw [sumR_succ, sumR_succ, ih fun i hi => e i (by omega), e n (by omega)]
theorem sumR_nil (n : Nat) : sumR n (fun _ => 0) = 0 := by
  induction n with
  | zero => rfl
  | succ n ih => rw [sumR_succ, ih]
theorem sumR_one {n k : Nat} (h : k < n) (x : Nat) : sumR n (fun i => if i = k then x else 0) = x := by
  induction n with
  | zero => omega
  | succ n ih =>
    rw [sumR_succ]
    by_cases c : k = n
    · subst c
      rw [sumR_congr (h := fun _ => 0) fun i hi => if_neg (by omega), sumR_nil]
      simp
    · rw [ih (by omega), if_neg (by omega), Nat.add_zero]
theorem sidedF_count {n K v s k : Nat} {p : Row} (hs : s < 2) : ∀ {ts : List Tie} {i : Nat}, (∀ t ∈ ts, TieOk n K t) → (sidedF v p i ts).countP (fun x => x.2.1 == k && x.2.2 == s) = ts.countP (fun t => pl t s == v && t.2.2 == k)
  | [], _, _ => rfl
  | t :: ts, i, h => by
    have T := h t List.mem_cons_self
    have ih := sidedF_count (k := k) (v := v) (p := p) hs (ts := ts) (i := i + 1) fun t ht => h t (List.mem_cons_of_mem _ ht)
    rw [List.countP_cons, ← ih]
    simp only [sidedF]
    split
    · rename_i hh
      obtain ⟨e1, e2⟩ := pl_side T hh
      rw [List.countP_cons]
      have : (t.2.2 == k && sideOf t v == s) = (pl t s == v && t.2.2 == k) := by
        rw [Bool.and_comm]
        congr 1
        rw [Bool.eq_iff_iff, beq_iff_eq, beq_iff_eq, e2 s hs]
        exact ⟨Eq.symm, Eq.symm⟩
      simp only [this]
    · rename_i hh
      have : (pl t s == v) = false := by
        rw [beq_eq_false_iff_ne]
        intro e
        exact hh (hits_iff.mpr ⟨s, hs, e⟩)
      rw [this]
      simp
theorem sided_count {K v s k : Nat} {p : Row} {w : Web} (W : WebOk K w) (hs : s < 2) : (sided w v p).countP (fun x => x.2.1 == k && x.2.2 == s) = cnt w v s k := sidedF_count hs W.ties
section
variable {g : Gar}
theorem deg_zero (G : GarOk g) {p : Row} {v s k : Nat} (A : AdOk g (p, v)) (hs : s < 2) : deg g p v 0 s k = cnt (web g p) v s k := sided_count (web_ok G A.row).1 hs
theorem flat_count {α β : Type} {f : α → List β} {q : β → Bool} : ∀ {l : List α}, (l.flatMap f).countP q = (l.map fun a => (f a).countP q).sum
  | [] => rfl
  | a :: l => by rw [List.flatMap_cons, List.countP_append, flat_count, List.map_cons, List.sum_cons]
theorem group {K : Nat} {F : Nat → Nat → Nat} : ∀ {l : List It3}, (∀ x ∈ l, x.2.1 < K ∧ x.2.2 < 2) → (l.map fun x => F x.2.1 x.2.2).sum = sumR K fun c => l.countP (fun x => x.2.1 == c && x.2.2 == 0) * F c 0 + l.countP (fun x => x.2.1 == c && x.2.2 == 1) * F c 1
  | [], _ => by simp [sumR_nil]
  | x :: l, h => by
    rw [List.map_cons, List.sum_cons, group fun x hx => h x (List.mem_cons_of_mem _ hx)]
    obtain ⟨h1, h2⟩ := h x List.mem_cons_self
    rw [← sumR_one h1 (F x.2.1 x.2.2), ← sumR_add]
    refine sumR_congr fun c _ => ?_
    rw [List.countP_cons, List.countP_cons]
    by_cases e : c = x.2.1
    · subst e
      rcases (by omega : x.2.2 = 0 ∨ x.2.2 = 1) with z | z
      · rw [z]; simp [Nat.add_mul]; omega
      · rw [z]; simp [Nat.add_mul]; omega
    · have : (x.2.1 == c) = false := by rw [beq_eq_false_iff_ne]; exact fun z => e z.symm
      rw [this, if_neg e]; simp
theorem raw_in (G : GarOk g) {p : Row} {v : Nat} (A : AdOk g (p, v)) {m : Nat} {x : It3} (h : x ∈ raw g p v m) : x.2.1 < g.2.length ∧ x.2.2 < 2 := by
  obtain ⟨r1, l1, k1, s1, _⟩ := raw_sound G A m x h
  have hne : x.1 ≠ [] := fun z => by rw [z] at l1; simp at l1
  rw [k1]
  exact ⟨((web_ok G r1).2 hne).1, s1⟩
theorem deg_succ (G : GarOk g) {p : Row} {v m s k : Nat} (A : AdOk g (p, v)) (hs : s < 2) :
    deg g p v (m + 1) s k = sumR g.2.length fun c => deg g p v m 0 c * cnt (growth g c) 0 s k + deg g p v m 1 c * cnt (growth g c) 1 s k := by
  have : deg g p v (m + 1) s k = ((raw g p v m).map fun x => cnt (growth g x.2.1) x.2.2 s k).sum := by
    show ((raw g p v m).flatMap _).countP _ = _
    rw [flat_count]
    congr 1
    refine List.map_congr_left fun x hx => ?_
    exact sided_count (G.book _ (growth_mem (raw_in G A hx).1)).1 hs
  rw [this]
  exact group (F := fun c e => cnt (growth g c) e s k) fun x hx => raw_in G A hx
theorem sum_ones {α : Type} : ∀ l : List α, (l.map fun _ => 1).sum = l.length
  | [] => rfl
  | a :: l => by rw [List.map_cons, List.sum_cons, sum_ones l, List.length_cons]; omega
theorem raw_total (G : GarOk g) {p : Row} {v m : Nat} (A : AdOk g (p, v)) : (raw g p v m).length = sumR g.2.length (deg g p v m 0) + sumR g.2.length (deg g p v m 1) := by
  have h := group (K := g.2.length) (F := fun _ _ => 1) (l := raw g p v m) fun x hx => raw_in G A hx
  have e : ((raw g p v m).map fun _ => 1).sum = (raw g p v m).length := sum_ones _
  rw [e] at h
  rw [h, ← sumR_add]
  exact sumR_congr fun c _ => by rw [Nat.mul_one, Nat.mul_one]; rfl
theorem deg_pos {p : Row} {v m : Nat} {x : It3} (h : x ∈ raw g p v m) : deg g p v m x.2.2 x.2.1 ≠ 0 := by
  have : 0 < (raw g p v m).countP (fun y => y.2.1 == x.2.1 && y.2.2 == x.2.2) := List.countP_pos_iff.mpr ⟨x, h, by simp⟩
  exact Nat.ne_of_gt this
end
/-! vectors -/
def vec (n : Nat) (f : Nat → Nat) : List Nat := (List.range n).map f
theorem vec_len (n : Nat) (f : Nat → Nat) : (vec n f).length = n := by simp [vec]
theorem vec_get {n : Nat} {f : Nat → Nat} {i : Nat} (h : i < n) : (vec n f)[i]? = some (f i) := by simp [vec, h]
theorem vec_set {n : Nat} {f : Nat → Nat} {i x : Nat} : (vec n f).set i x = vec n (fun j => if j = i then x else f j) := by
  refine List.ext_getElem? fun j => ?_
  by_cases hj : j < n
  · rw [vec_get hj]
    by_cases e : j = i
    · subst e
      rw [List.getElem?_set_self (by rw [vec_len]; exact hj), if_pos rfl]
    · rw [List.getElem?_set_ne (fun z => e z.symm), vec_get hj, if_neg e]
  · rw [List.getElem?_eq_none (by rw [List.length_set, vec_len]; omega), List.getElem?_eq_none (by rw [vec_len]; omega)]
theorem vec_congr {n : Nat} {f h : Nat → Nat} (e : ∀ i, i < n → f i = h i) : vec n f = vec n h := List.map_congr_left fun i hi => e i (List.mem_range.mp hi)
theorem vec_rep (n : Nat) : List.replicate n 0 = vec n (fun _ => 0) := by
  refine List.ext_getElem? fun j => ?_
  by_cases hj : j < n
  · rw [vec_get hj]; simp [hj]
  · rw [List.getElem?_eq_none (by rw [List.length_replicate]; omega), List.getElem?_eq_none (by rw [vec_len]; omega)]
theorem vec_sum (n : Nat) (f : Nat → Nat) : (vec n f).sum = sumR n f := rfl
end MA
end

section
set_option Elab.async false
set_option linter.all false
set_option maxRecDepth 100000
set_option maxHeartbeats 2000000
namespace TX
open PySem PySem.Spec PyProof.Rows L2 DL MA
def iD (n : Nat) : PyData := .int (n : Int)
def tieD (t : Tie) : PyData := .tuple [iD t.1, iD t.2.1, iD t.2.2]
def webD (w : Web) : PyData := .tuple [iD w.1, .tuple (w.2.map tieD)]
def garD (g : Gar) : PyData := .tuple [webD g.1, .tuple (g.2.map webD)]
def rowD (r : MA.Row) : PyData := .tuple (r.map iD)
def adD (a : Ad) : PyData := .tuple [rowD a.1, iD a.2]
theorem btw {lo i hi : Int} (h1 : lo ≤ i) (h2 : i ≤ hi) : (decide (lo ≤ i) && decide (i ≤ hi)) = true := by simp [h1, h2]
/-! shapes -/
structure Shp (n L : Nat) (d : PyData) : Prop where
  lay : d.canLay0 = true
  dep : d.depth ≤ n
  shw : d.showable = true
  len : d.shown.length ≤ L
theorem Shp.mono {n m L L' : Nat} {d : PyData} (h : Shp n L d) (a : n ≤ m) (b : L ≤ L') : Shp m L' d := ⟨h.lay, Nat.le_trans h.dep a, h.shw, Nat.le_trans h.len b⟩
theorem Shp.shaped {n L : Nat} {d : PyData} (h : Shp n L d) (a : n ≤ 64) : SeqAt.shaped d = true := by
  unfold SeqAt.shaped
  rw [h.lay, decide_eq_true (Nat.le_trans h.dep a)]
  rfl
theorem Shp.nodict {n L : Nat} {d : PyData} (h : Shp n L d) : d.hasDict = false := PyData.hasDict_of_canLay d h.lay
theorem shp_int {k n : Nat} (hk : 1 ≤ k) (h1 : n < 10 ^ k) (h2 : n.log2 < 1920) : Shp 0 (k + 1) (iD n) where
  lay := rfl
  dep := Nat.le_refl _
  shw := by
    show decide ((n : Int).natAbs.log2 < 1920) = true
    exact decide_eq_true (by simpa using h2)
  len := by
    show (Str.ofString (toString (n : Int))).length ≤ k + 1
    rw [PySem.ofString_length]
    exact int_text_length_le10 hk (by simpa using h1)
theorem shp_small {n : Nat} (h : n < 1000) : Shp 0 4 (iD n) := shp_int (k := 3) (by decide) h (Nat.lt_of_le_of_lt (Nat.log2_le_self n) (by omega))
theorem all_shp {n L : Nat} : ∀ {l : List PyData}, (∀ x ∈ l, Shp n L x) → PyData.canLayAll0 l = true ∧ PyData.depthAll l ≤ n ∧ PyData.showableAll l = true ∧ piled (PyData.shownAll l) ≤ l.length * (L + 2)
  | [], _ => ⟨rfl, Nat.zero_le _, rfl, Nat.zero_le _⟩
  | x :: l, h => by
    obtain ⟨h1, h2, h3, h4⟩ := all_shp fun y hy => h y (List.mem_cons_of_mem _ hy)
    have hx := h x List.mem_cons_self
    refine ⟨?_, ?_, ?_, ?_⟩
    · show (x.canLay0 && PyData.canLayAll0 l) = true
      rw [hx.lay, h1]; rfl
    · show max x.depth (PyData.depthAll l) ≤ n
      have := hx.dep
      omega
    · show (x.showable && PyData.showableAll l) = true
      rw [hx.shw, h3]; rfl
    · show piled (x.shown :: PyData.shownAll l) ≤ _
      have := hx.len
      rw [List.length_cons, Nat.succ_mul]
      rw [piled_cons]
      omega
theorem shp_tup {n L : Nat} {l : List PyData} (h : ∀ x ∈ l, Shp n L x) : Shp (n + 1) (3 + l.length * (L + 2)) (.tuple l) := by
  obtain ⟨h1, h2, h3, h4⟩ := all_shp h
  refine ⟨h1, ?_, h3, ?_⟩
  · show PyData.depthAll l + 1 ≤ n + 1
    omega
  · show (tupleText (PyData.shownAll l)).length ≤ _
    have e : (tupleText (PyData.shownAll l)).length ≤ 3 + (Str.join ", " (PyData.shownAll l)).length := by
      unfold tupleText
      rw [strLen_append, strLen_append]
      have e1 : (("(" : String) : Str).length = 1 := rfl
      have e2 : ((if (PyData.shownAll l).length == 1 then ",)" else ")" : String) : Str).length ≤ 2 := by split <;> decide
      omega
    by_cases hn : PyData.shownAll l = []
    · have z : (Str.join ", " (PyData.shownAll l)).length = 0 := by rw [hn]; rfl
      omega
    · have := join_length_add _ hn
      omega
theorem shp_row {r : MA.Row} (h : ∀ i ∈ r, i < 1000) : Shp 1 (3 + r.length * 6) (rowD r) := by
  have := shp_tup (n := 0) (L := 4) (l := r.map iD) fun x hx => by
    obtain ⟨i, hi, rfl⟩ := List.mem_map.mp hx
    exact shp_small (h i hi)
  rw [List.length_map] at this
  exact this
theorem shp_two {n m k L1 L2 : Nat} {a b : PyData} (ha : Shp n L1 a) (hb : Shp m L2 b) (k1 : n ≤ k) (k2 : m ≤ k) : Shp (k + 1) (7 + 2 * L1 + 2 * L2) (.tuple [a, b]) := by
  have := shp_tup (n := k) (L := L1 + L2) (l := [a, b]) fun x hx => by
    rcases List.mem_cons.mp hx with rfl | hx
    · exact ha.mono k1 (by omega)
    · rw [List.mem_singleton.mp hx]; exact hb.mono k2 (by omega)
  exact this.mono (Nat.le_refl _) (by simp; omega)
theorem shp_ad {a : Ad} (h : ∀ i ∈ a.1, i < 1000) (h2 : a.2 < 1000) : Shp 2 (40 + a.1.length * 12) (adD a) := (shp_two (k := 1) (shp_row h) (shp_small h2) (by omega) (by omega)).mono (by omega) (by omega)
theorem shp_ad0 {a : Ad} (h : ∀ i ∈ a.1, i < 1000) (h2 : a.2 < 1000) : SeqAt.shaped (adD a) = true := (shp_ad h h2).shaped (by omega)
theorem eqv_self {n L : Nat} {d : PyData} (h : Shp n L d) : PyData.eqv d d = true := SeqAt.eqv_refl d h.lay
theorem eqv_rows : ∀ (a b : List Nat), PyData.eqvAll (a.map iD) (b.map iD) = decide (a = b)
  | [], [] => by rw [decide_eq_true rfl]; rfl
  | [], _ :: _ => by rw [decide_eq_false (by simp)]; rfl
  | _ :: _, [] => by rw [decide_eq_false (by simp)]; rfl
  | x :: a, y :: b => by
    show (((x : Int) == (y : Int)) && PyData.eqvAll (a.map iD) (b.map iD)) = _
    rw [eqv_rows a b, Bool.eq_iff_iff]
    simp
    omega
theorem eqv_row (a b : List Nat) : PyData.eqv (rowD a) (rowD b) = decide (a = b) := eqv_rows a b
theorem eqv_ad (a b : Ad) : PyData.eqv (adD a) (adD b) = decide (a = b) := by
  show (PyData.eqv (rowD a.1) (rowD b.1) && (((a.2 : Int) == (b.2 : Int)) && true)) = _
  rw [eqv_row, Bool.eq_iff_iff]
  simp only [Bool.and_eq_true, decide_eq_true_eq, beq_iff_eq, Bool.and_true, Prod.ext_iff]
  exact ⟨fun ⟨h1, h2⟩ => ⟨h1, Int.ofNat.inj h2⟩, fun ⟨h1, h2⟩ => ⟨h1, by rw [h2]⟩⟩
end TX
end

section
set_option Elab.async false
set_option linter.all false
set_option maxRecDepth 100000
set_option maxHeartbeats 2000000
namespace TX
open PySem PySem.Spec PyProof.Rows L2 DL MA
section
variable {P : Program} {w : World} {K : PySem.W.Frag} {mg : Str → Option Value} {base : Heap} {f : Addr} {fd : FuncData}
abbrev s_is_tie : Stmt := top 10
theorem sc_is_tie : FnScope ["places", "thing"] ["places", "thing"] (defScope s_is_tie) := ⟨rfl, rfl, rfl, by decide +kernel, rfl, by decide +kernel, by decide +kernel⟩
def preTie (es : List Ent) (R : PP) : Prop := ∃ (n : Nat) (t : Tie), TieOk n 3 t ∧ es = [.dat (iD n), .dat (tieD t)] ∧ R = Is (.bool true)
theorem ok_is_tie (G : Glo mg) (c : CalP P w K mg base 2 "is_between" (spK pureM K preBetween)) (F : FnP K "is_tie" s_is_tie f fd) : FnOk P w K mg base CX0 3 f fd ["places", "thing"] (spK pureM K preTie) := by
  refine fn_data F sc_is_tie (fun es R ⟨n, t, _, e, _⟩ => by rw [e]; rfl) fun cdv A outer s H E es R hr ⟨n, t, T, e, eR⟩ => ?_
  subst e eR
  obtain ⟨tk, hk⟩ := G.KINDS
  obtain ⟨h1, h2, h3, h4⟩ := T
  refine bd_ifNo (pdt_to (pdt_w (pdw_orV (pdt_not (pdt_val (pd_isi "tuple" (b := true) rfl G.isinstance rfl G.tuple (by decide +kernel) (pd_var 1) rfl (by decide +kernel)))) fun _ => pdw_orV (pdt_neI (pd_lenT rfl G.len (pd_var 1)) pd_int) fun _ =>
    pdw_or1 (pdt_not (pdt_val (pd_call c hr (Nat.le_refl _) rfl (pdl_cons (pd_ixT at2 (pd_var 1) pd_int) (pdl_cons pd_int (pdl_cons (pd_sub (pd_glob rfl hk) pd_int) pdl_nil))) ⟨_, _, _, rfl, rfl⟩))))) ?_) ?_
  · rw [btw (by omega) (by omega)]; rfl
  · refine bd_ret (pd_andV (pd_to (pd_call c hr (Nat.le_refl _) rfl (pdl_cons (pd_ixT at0 (pd_var 1) pd_int) (pdl_cons pd_int (pdl_cons (pd_sub (pd_var 0) pd_int) pdl_nil))) ⟨_, _, _, rfl, rfl⟩) (congrArg PyData.bool (btw (by omega) (by omega)))) (fun _ =>
      pd_andV (pd_to (pd_call c hr (Nat.le_refl _) rfl (pdl_cons (pd_ixT at1 (pd_var 1) pd_int) (pdl_cons pd_int (pdl_cons (pd_sub (pd_var 0) pd_int) pdl_nil))) ⟨_, _, _, rfl, rfl⟩) (congrArg PyData.bool (btw (by omega) (by omega)))) (fun _ =>
        pd_one (pd_neI (pd_ixT at0 (pd_var 1) pd_int) (pd_ixT at1 (pd_var 1) pd_int) ?_)) (fun h => nomatch h)) (fun h => nomatch h))
    rw [decide_eq_false (by omega)]; rfl
end
end TX
end

section
set_option Elab.async false
set_option linter.all false
set_option maxRecDepth 100000
set_option maxHeartbeats 2000000
namespace TX
open PySem PySem.Spec PyProof.Rows L2 DL MA
def tieI (t : Tie) : List Int := [(t.1 : Int), (t.2.1 : Int), (t.2.2 : Int)]
theorem ties_enc (ts : List Tie) : ts.map tieD = (ts.map tieI).map encI := by rw [List.map_map]; rfl
def WebS (w : Web) : Prop := Asc 16 (w.2.map tieI)
structure GOk (g : Gar) : Prop where
  ok : GarOk g
  srt : WebS g.1
  srts : ∀ w ∈ g.2, WebS w
theorem ties_ok {k : Nat} {w : Web} (W : WebOk k w) (hk : k ≤ 3) : RowsOk 3 16 (w.2.map tieI) := ⟨fun r hr => by
  obtain ⟨t, ht, rfl⟩ := List.mem_map.mp hr
  obtain ⟨h1, h2, _, h4⟩ := W.ties t ht
  have := W.hi
  refine ⟨rfl, fun m hm => ?_⟩
  simp only [tieI, List.mem_cons, List.not_mem_nil, or_false] at hm
  omega⟩
theorem shp_tie {n k : Nat} {t : Tie} (T : TieOk n k t) (hn : n ≤ 7) (hk : k ≤ 3) : Shp 1 30 (tieD t) := by
  obtain ⟨h1, h2, _, h4⟩ := T
  have := shp_tup (n := 0) (L := 4) (l := [iD t.1, iD t.2.1, iD t.2.2]) fun x hx => by
    simp only [List.mem_cons, List.not_mem_nil, or_false] at hx
    rcases hx with rfl | rfl | rfl
    · exact shp_small (by omega)
    · exact shp_small (by omega)
    · exact shp_small (by omega)
  exact this.mono (Nat.le_refl _) (by show 3 + 3 * 6 ≤ 30; decide)
theorem shaped_lst {n L : Nat} {l : List PyData} (h : ∀ x ∈ l, Shp n L x) (hn : n < 64) : SeqAt.shaped (.list l) = true := by
  obtain ⟨h1, h2, _, _⟩ := all_shp h
  unfold SeqAt.shaped
  have e : (PyData.list l).canLay0 = true := h1
  have e2 : (PyData.list l).depth ≤ 64 := by show PyData.depthAll l + 1 ≤ 64; omega
  rw [e, decide_eq_true e2]; rfl
theorem lst_eqv {n L : Nat} {l : List PyData} (h : ∀ x ∈ l, Shp n L x) : PyData.eqv (.list l) (.list l) = true := SeqAt.eqv_refl _ (all_shp h).1
theorem all_true {α : Type} (xs : List α) : (xs.map fun _ => PyData.bool true) = (xs.map fun _ => true).map PyData.bool := by rw [List.map_map]; rfl
theorem all_true' {α : Type} (xs : List α) : (xs.map fun _ => true).all id = true := by simp
section
variable {P : Program} {w : World} {K : PySem.W.Frag} {mg : Str → Option Value} {base : Heap} {f : Addr} {fd : FuncData}
abbrev s_is_web_value : Stmt := top 11
theorem sc_is_web_value : FnScope ["thing", "tie"] ["thing"] (defScope s_is_web_value) := ⟨rfl, rfl, rfl, by decide +kernel, rfl, by decide +kernel, by decide +kernel⟩
def preWeb (es : List Ent) (R : PP) : Prop := ∃ (k : Nat) (v : Web), WebOk k v ∧ k ≤ 3 ∧ WebS v ∧ es = [.dat (webD v)] ∧ R = Is (.bool true)
theorem ok_is_web_value (G : Glo mg) (c1 : CalP P w K mg base 1 "is_integer" (spK pureM K preInt)) (c3 : CalP P w K mg base 3 "is_tie" (spK pureM K preTie)) (F : FnP K "is_web_value" s_is_web_value f fd) : FnOk P w K mg base CX0 4 f fd ["thing"] (spK pureM K preWeb) := by
  refine fn_data F sc_is_web_value (fun es R ⟨k, v, _, _, _, e, _⟩ => by rw [e]; rfl) fun cdv A outer s H E es R hr ⟨k, v, W, hk, S, e, eR⟩ => ?_
  subst e eR
  have hN : (["thing", "tie"] : List Str).Nodup := by decide +kernel
  have hsh : ∀ x ∈ v.2.map tieD, Shp 1 30 x := fun x hx => by
    obtain ⟨t, ht, rfl⟩ := List.mem_map.mp hx
    exact shp_tie (W.ties t ht) W.hi hk
  refine bd_ifNo (pdt_to (pdt_w (pdw_orV (pdt_not (pdt_val (pd_isi "tuple" (b := true) rfl G.isinstance rfl G.tuple (by decide +kernel) (pd_var 0) rfl (by decide +kernel)))) fun _ => pdw_orV (pdt_neI (pd_lenT rfl G.len (pd_var 0)) pd_int) fun _ =>
    pdw_orV (pdt_not (pdt_val (pd_call c1 hr (by decide) rfl (pdl_cons (pd_ixT at0 (pd_var 0) pd_int) pdl_nil) ⟨_, rfl, rfl⟩))) fun _ => pdw_or1 (pdt_lt (pd_ixT at0 (pd_var 0) pd_int) pd_int))) ?_) ?_
  · have := W.lo
    rw [decide_eq_false (show ¬((v.1 : Int) < 1) by omega)]; rfl
  · refine bd_ifNo (pdt_to (pdt_w (pdw_orV (pdt_not (pdt_val (pd_isi "tuple" (b := true) rfl G.isinstance rfl G.tuple (by decide +kernel) (pd_ixT at1 (pd_var 0) pd_int) rfl (by decide +kernel)))) fun _ =>
      pdw_or1 (pdt_not (pdt_val (pd_all rfl rfl G.all (pd_to (ld_pdX (ld_lcA (own := [("tie", 1)]) (g := fun _ => .bool true) rfl hN (LcD.mk1 (t := .nm 1) (id_tupX (pd_ixT at1 (pd_var 0) pd_int)) rfl (fun _ _ _ _ _ => td_name 1 hN) (fun d hd => ?_) (by decide) ?_))) (congrArg PyData.list (all_true _)))))))) ?_) ?_
    · obtain ⟨t, ht, rfl⟩ := List.mem_map.mp hd
      obtain ⟨h1, h2, h3, h4⟩ := W.ties t ht
      exact ⟨_, rfl, fun s H C cl fp => pd_call c3 hr (Nat.le_refl _) rfl (pdl_cons (pd_ixT at0 (pd_var 0) pd_int) (pdl_cons (pd_var 1) pdl_nil)) ⟨_, t, ⟨h1, h2, h3, by omega⟩, rfl, rfl⟩⟩
    · rw [List.length_map]; have := W.few; omega
    · rw [all_true']; rfl
    · refine bd_ret (pd_eqD hr.units (shaped_lst hsh (by decide)) (shaped_lst hsh (by decide)) (pd_listT rfl G.list (pd_ixT at1 (pd_var 0) pd_int)) (pd_sortedT (d := 3) (B := 16) (rows := v.2.map tieI) (rows' := v.2.map tieI) (by decide) rfl G.sorted (ties_ok W hk) (List.Perm.refl _) S (by rw [List.length_map]; have := W.few; omega) (pd_to (pd_ixT at1 (pd_var 0) pd_int) (congrArg PyData.tuple (ties_enc _))) (hdd := congrArg PyData.list (ties_enc _).symm)) ?_)
      rw [lst_eqv hsh]
end
end TX
end

section
set_option Elab.async false
set_option linter.all false
set_option maxRecDepth 100000
set_option maxHeartbeats 2000000
namespace TX
open PySem PySem.Spec PyProof.Rows L2 DL MA
theorem pd_allTrue {α : Type} {𝓜 : Md → Prop} {X : Cx} {ε : List Ent} {a : Expr} {pos p : Pos} {xs : List α} (hc : X.calm = true) (hg : Gl X "all") (hm : X.mg "all" = none) (ha : PD 𝓜 X ε a (Is (.list (xs.map fun _ => .bool true)))) (hs : starEach [a] X.env = (false, eval a X.env) :: starEach [] X.env := by rfl) (hpl : (backTo pos (starEach [] X.env)).any (·.1) = false := by rfl) :
    PD 𝓜 X ε (.Call (.Name "all" p) [a] [] pos) (Is (.bool true)) := pd_to (pd_all hc hg hm (pd_to ha (congrArg PyData.list (all_true _))) hs hpl) (by rw [all_true'])
section
variable {P : Program} {w : World} {K : PySem.W.Frag} {mg : Str → Option Value} {base : Heap} {f : Addr} {fd : FuncData}
abbrev s_has_kinds_below : Stmt := top 12
theorem sc_has_kinds_below : FnScope ["web", "many", "tie"] ["web", "many"] (defScope s_has_kinds_below) := ⟨rfl, rfl, rfl, by decide +kernel, rfl, by decide +kernel, by decide +kernel⟩
def preBelow (es : List Ent) (R : PP) : Prop := ∃ (v : Web) (m : Nat), (∀ t ∈ v.2, t.2.2 < m) ∧ v.2.length ≤ 10 ∧ es = [.dat (webD v), .dat (iD m)] ∧ R = Is (.bool true)
theorem ok_has_kinds_below (G : Glo mg) (F : FnP K "has_kinds_below" s_has_kinds_below f fd) : FnOk P w K mg base CX0 1 f fd ["web", "many"] (spK pureM K preBelow) := by
  refine fn_data F sc_has_kinds_below (fun es R ⟨v, m, _, _, e, _⟩ => by rw [e]; rfl) fun cdv A outer s H E es R hr ⟨v, m, h, hl, e, eR⟩ => ?_
  subst e eR
  have hN : (["web", "many", "tie"] : List Str).Nodup := by decide +kernel
  refine bd_ret (pd_allTrue rfl rfl G.all (ld_pdX (ld_lcA (own := [("tie", 2)]) (g := fun _ => .bool true) rfl hN (LcD.mk1 (t := .nm 2) (id_tupX (pd_ixT at1 (pd_var 0) pd_int)) rfl (fun _ _ _ _ _ => td_name 2 hN) (fun d hd => ?_) (by decide) ?_))))
  · obtain ⟨t, ht, rfl⟩ := List.mem_map.mp hd
    have := h t ht
    exact ⟨_, rfl, fun s H C cl fp => pd_lt (pd_ixT at2 (pd_var 2) pd_int) (pd_var 1) (he := congrArg PyData.bool (decide_eq_true (by omega)))⟩
  · rw [List.length_map]; omega
abbrev s_is_growth_value : Stmt := top 13
theorem sc_is_growth_value : FnScope ["thing"] ["thing"] (defScope s_is_growth_value) := ⟨rfl, rfl, rfl, by decide +kernel, rfl, by decide +kernel, by decide +kernel⟩
def preGrowth (es : List Ent) (R : PP) : Prop := ∃ (k : Nat) (v : Web), WebOk k v ∧ k ≤ 3 ∧ WebS v ∧ 2 ≤ v.1 ∧ es = [.dat (webD v)] ∧ R = Is (.bool true)
theorem ok_is_growth_value (c : CalP P w K mg base 4 "is_web_value" (spK pureM K preWeb)) (F : FnP K "is_growth_value" s_is_growth_value f fd) : FnOk P w K mg base CX0 5 f fd ["thing"] (spK pureM K preGrowth) := by
  refine fn_data F sc_is_growth_value (fun es R ⟨k, v, _, _, _, _, e, _⟩ => by rw [e]; rfl) fun cdv A outer s H E es R hr ⟨k, v, W, hk, S, h2, e, eR⟩ => ?_
  subst e eR
  exact bd_ret (pd_andV (pd_call c hr (Nat.le_refl _) rfl (pdl_cons (pd_var 0) pdl_nil) ⟨k, v, W, hk, S, rfl, rfl⟩) (fun _ => pd_one (pd_ge (pd_ixT at0 (pd_var 0) pd_int) pd_int (he := congrArg PyData.bool (decide_eq_true (by omega))))) (fun h => nomatch h))
abbrev s_is_book_value : Stmt := top 14
theorem sc_is_book_value : FnScope ["thing", "growth"] ["thing"] (defScope s_is_book_value) := ⟨rfl, rfl, rfl, by decide +kernel, rfl, by decide +kernel, by decide +kernel⟩
structure BookOk (b : List Web) : Prop where
  lo : 1 ≤ b.length
  hi : b.length ≤ 3
  all : ∀ v ∈ b, WebOk b.length v ∧ 2 ≤ v.1 ∧ WebS v
def preBook (es : List Ent) (R : PP) : Prop := ∃ (b : List Web), BookOk b ∧ es = [.dat (.tuple (b.map webD))] ∧ R = Is (.bool true)
theorem ok_is_book_value (G : Glo mg) (c5 : CalP P w K mg base 5 "is_growth_value" (spK pureM K preGrowth)) (c1 : CalP P w K mg base 1 "has_kinds_below" (spK pureM K preBelow)) (F : FnP K "is_book_value" s_is_book_value f fd) : FnOk P w K mg base CX0 6 f fd ["thing"] (spK pureM K preBook) := by
  refine fn_data F sc_is_book_value (fun es R ⟨b, _, e, _⟩ => by rw [e]; rfl) fun cdv A outer s H E es R hr ⟨b, B, e, eR⟩ => ?_
  subst e eR
  have hN : (["thing", "growth"] : List Str).Nodup := by decide +kernel
  obtain ⟨tk, hk⟩ := G.KINDS
  have h1 := B.lo
  have h2 := B.hi
  refine bd_ifNo (pdt_to (pdt_w (pdw_orV (pdt_not (pdt_val (pd_isi "tuple" (b := true) rfl G.isinstance rfl G.tuple (by decide +kernel) (pd_var 0) rfl (by decide +kernel)))) fun _ => pdw_or1 (pdt_not (pdt_chain_le pd_int (pd_lenT rfl G.len (pd_var 0)) (pd_glob rfl hk))))) ?_) ?_
  · rw [List.length_map, btw (by omega) (by omega)]; rfl
  · refine bd_ret (pd_allTrue rfl rfl G.all (ld_pdX (ld_lcA (own := [("growth", 1)]) (g := fun _ => .bool true) rfl hN (LcD.mk1 (t := .nm 1) (id_tupX (pd_var 0)) rfl (fun _ _ _ _ _ => td_name 1 hN) (fun d hd => ?_) (by decide) ?_))))
    · obtain ⟨v, hv, rfl⟩ := List.mem_map.mp hd
      obtain ⟨W, w2, S⟩ := B.all v hv
      refine ⟨_, rfl, fun s H C cl fp => pd_andV (pd_call c5 hr (Nat.le_refl _) rfl (pdl_cons (pd_var 1) pdl_nil) ⟨_, v, W, h2, S, w2, rfl, rfl⟩) (fun _ => pd_one (pd_call c1 hr (by decide) rfl (pdl_cons (pd_var 1) (pdl_cons (pd_lenT rfl G.len (pd_var 0)) pdl_nil)) ⟨v, b.length, fun t ht => (W.ties t ht).c, W.few, ?_, rfl⟩)) (fun h => nomatch h)⟩
      rw [List.length_map]; rfl
    · rw [List.length_map]; omega
theorem GOk.book {g : Gar} (G : GOk g) : BookOk g.2 := ⟨G.ok.lo, G.ok.hi, fun v hv => ⟨(G.ok.book v hv).1, (G.ok.book v hv).2, G.srts v hv⟩⟩
abbrev s_is_garden_value : Stmt := top 15
theorem sc_is_garden_value : FnScope ["thing"] ["thing"] (defScope s_is_garden_value) := ⟨rfl, rfl, rfl, by decide +kernel, rfl, by decide +kernel, by decide +kernel⟩
def preGar (R0 : PP) (es : List Ent) (R : PP) : Prop := ∃ (g : Gar), GOk g ∧ es = [.dat (garD g)] ∧ R = R0
theorem ok_is_garden_value (G : Glo mg) (c4 : CalP P w K mg base 4 "is_web_value" (spK pureM K preWeb)) (c6 : CalP P w K mg base 6 "is_book_value" (spK pureM K preBook)) (c1 : CalP P w K mg base 1 "has_kinds_below" (spK pureM K preBelow)) (F : FnP K "is_garden_value" s_is_garden_value f fd) : FnOk P w K mg base CX0 7 f fd ["thing"] (spK pureM K (preGar (Is (.bool true)))) := by
  refine fn_data F sc_is_garden_value (fun es R ⟨b, _, e, _⟩ => by rw [e]; rfl) fun cdv A outer s H E es R hr ⟨g, B, e, eR⟩ => ?_
  subst e eR
  refine bd_ifNo (pdt_w (pdw_orV (pdt_not (pdt_val (pd_isi "tuple" (b := true) rfl G.isinstance rfl G.tuple (by decide +kernel) (pd_var 0) rfl (by decide +kernel)))) fun _ => pdw_orV (pdt_neI (pd_lenT rfl G.len (pd_var 0)) pd_int) fun _ =>
    pdw_orV (pdt_not (pdt_val (pd_call c4 hr (by decide) rfl (pdl_cons (pd_ixT at0 (pd_var 0) pd_int) pdl_nil) ⟨_, g.1, B.ok.start, B.ok.hi, B.srt, rfl, rfl⟩))) fun _ =>
      pdw_or1 (pdt_not (pdt_val (pd_call c6 hr (by decide) rfl (pdl_cons (pd_ixT at1 (pd_var 0) pd_int) pdl_nil) ⟨g.2, B.book, rfl, rfl⟩))))) ?_
  refine bd_ret (pd_call c1 hr (by decide) rfl (pdl_cons (pd_ixT at0 (pd_var 0) pd_int) (pdl_cons (pd_lenT rfl G.len (pd_ixT at1 (pd_var 0) pd_int)) pdl_nil)) ⟨g.1, g.2.length, fun t ht => (B.ok.start.ties t ht).c, B.ok.start.few, ?_, rfl⟩)
  rw [List.length_map]; rfl
abbrev s_need_garden : Stmt := top 16
theorem sc_need_garden : FnScope ["garden"] ["garden"] (defScope s_need_garden) := ⟨rfl, rfl, rfl, by decide +kernel, rfl, by decide +kernel, by decide +kernel⟩
theorem ok_need_garden (c : CalP P w K mg base 7 "is_garden_value" (spK pureM K (preGar (Is (.bool true))))) (F : FnP K "need_garden" s_need_garden f fd) : FnOk P w K mg base CX0 8 f fd ["garden"] (spK pureM K (preGar (Is .none))) := by
  refine fn_data F sc_need_garden (fun es R ⟨b, _, e, _⟩ => by rw [e]; rfl) fun cdv A outer s H E es R hr ⟨g, B, e, eR⟩ => ?_
  subst e eR
  exact bd_ifNo (pdt_not (pdt_val (pd_call c hr (by decide) rfl (pdl_cons (pd_var 0) pdl_nil) ⟨g, B, rfl, rfl⟩))) (bd_nil rfl)
end
end TX
end

section
set_option Elab.async false
set_option linter.all false
set_option maxRecDepth 100000
set_option maxHeartbeats 2000000
namespace TX
open PySem PySem.Spec PyProof.Rows L2 DL MA
theorem le_wipe {ε : List Ent} (vs : List Nat) : Le ε (wipeE ε vs) := ⟨wipeE_len ε vs, fun i e h => (wipeE_get h).imp id fun z => z.1⟩
theorem at_last {α : Type} {l : List α} {x : α} : atI (l ++ [x]) (-1) = some x := by
  unfold atI ixN
  rw [if_neg (by decide), if_pos (by simp; omega)]
  have e : (-1 + ((l ++ [x]).length : Int)).toNat = l.length := by simp; omega
  show (l ++ [x])[(-1 + ((l ++ [x]).length : Int)).toNat]? = _
  rw [e]
  simp
structure RowOk (g : Gar) (r : MA.Row) : Prop where
  ro : Ro g r
  len : r.length ≤ 100
theorem ro_small {g : Gar} (G : GarOk g) {r : MA.Row} (h : Ro g r) : ∀ i ∈ r, i < 10 := fun i hi => by
  obtain ⟨n, hn, rfl⟩ := List.getElem_of_mem hi
  have h1 := ro_get h n hn
  have h2 := (web_ok G (ro_take h n)).1.few
  omega
theorem take_snoc {α : Type} {r : List α} {i : Nat} (h : i < r.length) : r.take (i + 1) = r.take i ++ [r[i]] := by rw [List.take_succ_eq_append_getElem h]
theorem kind_take {g : Gar} {r : MA.Row} {i : Nat} (h : i < r.length) : kind g (r.take (i + 1)) = (tieAt (web g (r.take i)) r[i]).2.2 := by rw [take_snoc h, kind_snoc]
theorem web_take {g : Gar} {r : MA.Row} {i : Nat} (h : i < r.length) : web g (r.take (i + 1)) = growth g (kind g (r.take (i + 1))) := by rw [kind_take h, take_snoc h, web_snoc]; rfl
theorem tie_get {w : Web} {i : Nat} (h : i < w.2.length) : (w.2.map tieD)[i]? = some (tieD (tieAt w i)) := by
  rw [List.getElem?_map, List.getElem?_eq_getElem h]
  unfold tieAt
  rw [getD_of _ h]; rfl
theorem gro_get {g : Gar} {i : Nat} (h : i < g.2.length) : (g.2.map webD)[i]? = some (webD (growth g i)) := by
  rw [List.getElem?_map, List.getElem?_eq_getElem h]
  unfold growth
  rw [getD_of _ h]; rfl
theorem row_get {r : MA.Row} {i : Nat} (h : i < r.length) : (r.map iD)[i]? = some (iD r[i]) := by
  rw [List.getElem?_map, List.getElem?_eq_getElem h]; rfl
theorem kind_lt {g : Gar} (G : GarOk g) {r : MA.Row} (h : Ro g r) {i : Nat} (hi : i < r.length) : kind g (r.take (i + 1)) < g.2.length := by
  have hr := ro_take h (i + 1)
  exact ((web_ok G hr).2 (by intro z; have := congrArg List.length z; rw [List.length_take, List.length_nil] at this; omega)).1
def ks (g : Gar) (r : MA.Row) (i : Nat) : List PyData := (List.range i).map fun j => iD (kind g (r.take (j + 1)))
theorem ks_succ (g : Gar) (r : MA.Row) (i : Nat) : ks g r (i + 1) = ks g r i ++ [iD (kind g (r.take (i + 1)))] := by simp [ks, List.range_succ]
theorem ks_len (g : Gar) (r : MA.Row) (i : Nat) : (ks g r i).length = i := by simp [ks]
theorem ks_last {g : Gar} {r : MA.Row} (h : r ≠ []) : ∃ l, ks g r r.length = l ++ [iD (kind g r)] := by
  obtain ⟨q, i, rfl⟩ := snoc_of h
  refine ⟨ks g (q ++ [i]) q.length, ?_⟩
  rw [List.length_append, List.length_singleton, ks_succ]
  congr 3
  rw [List.take_of_length_le (by simp)]
section
variable {P : Program} {w : World} {K : PySem.W.Frag} {mg : Str → Option Value} {base : Heap} {f : Addr} {fd : FuncData}
abbrev s_kinds_along : Stmt := top 18
theorem sc_kinds_along : FnScope ["garden", "thing", "start", "book", "found", "web", "number"] ["garden", "thing"] (defScope s_kinds_along) := ⟨rfl, rfl, rfl, by decide +kernel, rfl, by decide +kernel, by decide +kernel⟩
def preKinds (es : List Ent) (R : PP) : Prop := ∃ (g : Gar) (r : MA.Row), GOk g ∧ RowOk g r ∧ es = [.dat (garD g), .dat (rowD r)] ∧ R = Is (.list (ks g r r.length))
theorem ok_kinds_along (G : Glo mg) (c2 : CalP P w K mg base 2 "is_between" (spK pureM K preBetween)) (F : FnP K "kinds_along" s_kinds_along f fd) : FnOk P w K mg base CX0 3 f fd ["garden", "thing"] (spK pureM K preKinds) := by
  refine fn_data F sc_kinds_along (fun es R ⟨g, r, _, _, e, _⟩ => by rw [e]; rfl) fun cdv A outer s H E es R hr ⟨g, r, B, O, e, eR⟩ => ?_
  subst e eR
  have hN : (["garden", "thing", "start", "book", "found", "web", "number"] : List Str).Nodup := by decide +kernel
  refine bd_asg (pd_var 0) (td_tup rfl (tds_cons (td_name 2 hN) (tds_cons (td_name 3 hN) tds_nil))) rfl ?_
  refine bd_parOD 4 5 rfl hN (by decide) (ld_lst pdl_nil) (pd_var 2) ?_
  refine bd_cons (N1 := fun ε => ε = [.dat (garD g), .dat (rowD r), .dat (webD g.1), .dat (.tuple (g.2.map webD)), .lm (ks g r r.length), .dat (webD (web g r)), .no]) (sd_for (t := .nm 6) .never rfl (id_tupX (pd_var 1)) (td_name 6 hN)
    (fun _ i ε => ε = [.dat (garD g), .dat (rowD r), .dat (webD g.1), .dat (.tuple (g.2.map webD)), .lm (ks g r i), .dat (webD (web g (r.take i))), .no]) ?_ ?_ ?_) ?_
  · intro xs _; rfl
  · rintro xs i d ε1 ex hd rfl
    cases ex
    have hi : i < r.length := by have := (List.getElem?_eq_some_iff.mp hd).1; simpa using this
    rw [row_get hi] at hd
    cases hd
    have h1 := ro_get O.ro i hi
    refine ⟨_, rfl, bd_ifNo (pdt_to (pdt_not (pdt_val (pd_call c2 hr (Nat.le_refl _) rfl (pdl_cons (pd_var 6) (pdl_cons pd_int (pdl_cons (pd_sub (pd_lenT rfl G.len (pd_ixT at1 (pd_var 5) pd_int)) pd_int) pdl_nil))) ⟨_, _, _, rfl, rfl⟩))) ?_) ?_⟩
    · rw [List.length_map, btw (by omega) (by omega)]; rfl
    · refine bd_app 4 rfl (pd_ixT at2 (pd_ixT (atN (tie_get h1)) (pd_ixT at1 (pd_var 5) pd_int) (pd_var 6)) pd_int) (by rw [ks_len]; have := O.len; omega) fun d e => ?_
      cases e
      have hk := kind_lt B.ok O.ro hi
      rw [kind_take hi] at hk
      refine bd_set 5 hN (pd_ixT (atN (gro_get hk)) (pd_var 3) (pd_ixM 4 rfl at_last (pd_neg pd_int))) (bd_nil ⟨_, le_wipe [6], ?_⟩)
      rw [ks_succ, web_take hi, kind_take hi]
      rfl
  · intro xs ε1 ex h
    cases ex
    rw [h, List.length_map, List.take_length]
  · rintro ε' rfl
    exact bd_freeze 4 rfl (bd_ret (pd_var 4))
abbrev s_is_row_value : Stmt := top 19
theorem sc_is_row_value : FnScope ["garden", "thing"] ["garden", "thing"] (defScope s_is_row_value) := ⟨rfl, rfl, rfl, by decide +kernel, rfl, by decide +kernel, by decide +kernel⟩
def preRow (R0 : Gar → MA.Row → PP) (es : List Ent) (R : PP) : Prop := ∃ (g : Gar) (r : MA.Row), GOk g ∧ RowOk g r ∧ r ≠ [] ∧ es = [.dat (garD g), .dat (rowD r)] ∧ R = R0 g r
theorem row_shaped {g : Gar} (B : GOk g) {r : MA.Row} (O : RowOk g r) : SeqAt.shaped (rowD r) = true := (shp_row fun i hi => by have := ro_small B.ok O.ro i hi; omega).shaped (by omega)
theorem ok_is_row_value (G : Glo mg) (c3 : CalP P w K mg base 3 "kinds_along" (spK pureM K preKinds)) (F : FnP K "is_row_value" s_is_row_value f fd) : FnOk P w K mg base CX0 4 f fd ["garden", "thing"] (spK pureM K (preRow fun _ _ => Is (.bool true))) := by
  refine fn_data F sc_is_row_value (fun es R ⟨g, r, _, _, _, e, _⟩ => by rw [e]; rfl) fun cdv A outer s H E es R hr ⟨g, r, B, O, hne, e, eR⟩ => ?_
  subst e eR
  refine bd_ret (pd_andV (pd_isi "tuple" (b := true) rfl G.isinstance rfl G.tuple (by decide +kernel) (pd_var 1) rfl (by decide +kernel)) (fun _ => pd_andV (pd_neD (dd := .bool true) (d2 := .tuple []) hr.units (row_shaped B O) (by decide +kernel) (pd_var 1) (pd_tup pdl_nil) (he := ?_)) (fun _ => pd_one (pd_notN (pd_call c3 hr (Nat.le_refl _) rfl (pdl_cons (pd_var 0) (pdl_cons (pd_var 1) pdl_nil)) ⟨g, r, B, O, rfl, rfl⟩))) (fun h => nomatch h)) (fun h => nomatch h))
  have := eqv_row r []
  rw [decide_eq_false hne] at this
  exact congrArg (fun b => PyData.bool (!b)) this
abbrev s_kind_of : Stmt := top 20
theorem sc_kind_of : FnScope ["garden", "row"] ["garden", "row"] (defScope s_kind_of) := ⟨rfl, rfl, rfl, by decide +kernel, rfl, by decide +kernel, by decide +kernel⟩
theorem ok_kind_of (G : Glo mg) (c3 : CalP P w K mg base 3 "kinds_along" (spK pureM K preKinds)) (F : FnP K "kind_of" s_kind_of f fd) : FnOk P w K mg base CX0 4 f fd ["garden", "row"] (spK pureM K (preRow fun g r => Is (iD (kind g r)))) := by
  refine fn_data F sc_kind_of (fun es R ⟨g, r, _, _, _, e, _⟩ => by rw [e]; rfl) fun cdv A outer s H E es R hr ⟨g, r, B, O, hne, e, eR⟩ => ?_
  subst e eR
  obtain ⟨l, hl⟩ := ks_last (g := g) hne
  exact bd_ret (pd_ixL (by rw [hl]; exact at_last) (pd_call c3 hr (Nat.le_refl _) rfl (pdl_cons (pd_var 0) (pdl_cons (pd_var 1) pdl_nil)) ⟨g, r, B, O, rfl, rfl⟩) (pd_neg pd_int))
end
end TX
end

section
set_option Elab.async false
set_option linter.all false
set_option maxRecDepth 100000
set_option maxHeartbeats 2000000
namespace TX
open PySem PySem.Spec PyProof.Rows L2 DL MA
def endsD (e : Ad × Ad) : PyData := .tuple [adD e.1, adD e.2]
def pickD (e : Ad × Ad) (p : MA.Row) : PyData → PyData
  | .int v => adD (pick e p v.toNat)
  | _ => .none
theorem rng_iD {lo n i : Nat} {d : PyData} (h : (rng (lo : Int) n)[i]? = some d) : i < n ∧ d = iD (lo + i) := by
  rw [rng_get] at h
  split at h
  · rename_i hi
    cases h
    exact ⟨hi, congrArg PyData.int (by omega)⟩
  · cases h
theorem sd_at {e : Ad × Ad} {v : Nat} (h : v < 2) : atI [adD e.1, adD e.2] (v : Int) = some (adD (sd e v)) := by
  refine atN ?_
  match v, h with
  | 0, _ => rfl
  | 1, _ => rfl
section
variable {P : Program} {w : World} {K : PySem.W.Frag} {mg : Str → Option Value} {base : Heap} {f : Addr} {fd : FuncData}
abbrev s_ends_of : Stmt := top 21
abbrev N_ends_of : List Str := ["garden", "row", "start", "book", "tail", "head", "kind", "ends", "at", "one", "other", "following", "place"]
theorem sc_ends_of : FnScope N_ends_of ["garden", "row"] (defScope s_ends_of) := ⟨rfl, rfl, rfl, by decide +kernel, rfl, by decide +kernel, by decide +kernel⟩
theorem ok_ends_of (G : Glo mg) (F : FnP K "ends_of" s_ends_of f fd) : FnOk P w K mg base CX0 1 f fd ["garden", "row"] (spK pureM K (preRow fun g r => Is (endsD (ends g r)))) := by
  refine fn_data F sc_ends_of (fun es R ⟨g, r, _, _, _, e, _⟩ => by rw [e]; rfl) fun cdv A outer s H E es R hr ⟨g, r, B, O, hne, e, eR⟩ => ?_
  subst e eR
  have hN : N_ends_of.Nodup := by decide +kernel
  have hl : 0 < r.length := List.length_pos_iff.mpr hne
  have h0 := ro_get O.ro 0 hl
  have len := O.len
  refine bd_asg (pd_var 0) (td_tup rfl (tds_cons (td_name 2 hN) (tds_cons (td_name 3 hN) tds_nil))) rfl ?_
  refine bd_asg (pd_ixT (atN (tie_get h0)) (pd_ixT at1 (pd_var 2) pd_int) (pd_ixT (atN (n := 0) (row_get hl)) (pd_var 1) pd_int)) (td_tup rfl (tds_cons (td_name 4 hN) (tds_cons (td_name 5 hN) (tds_cons (td_name 6 hN) tds_nil)))) rfl ?_
  refine bd_set 7 hN (d := endsD (ends g (r.take 1))) (pd_tup (pdl_cons (pd_tup (pdl_cons (pd_tup pdl_nil) (pdl_cons (pd_var 4) pdl_nil))) (pdl_cons (pd_tup (pdl_cons (pd_tup pdl_nil) (pdl_cons (pd_var 5) pdl_nil))) pdl_nil)) (he := ?_)) ?_
  · rw [take_snoc hl]; rfl
  refine bd_le (le_wipe [4, 5]) ?_
  refine bd_cons (N1 := fun ε => ∃ rest, ε = .dat (garD g) :: .dat (rowD r) :: .dat (webD g.1) :: .dat (.tuple (g.2.map webD)) :: .no :: .no :: .dat (iD (kind g r)) :: .dat (endsD (ends g r)) :: rest) (sd_for (t := .nm 8) .never rfl (id_range2 rfl G.range pd_int (pd_lenT rfl G.len (pd_var 1)) (by decide) (by rw [List.length_map]; omega)) (td_name 8 hN)
    (fun _ i ε => i + 1 ≤ r.length ∧ ε = [.dat (garD g), .dat (rowD r), .dat (webD g.1), .dat (.tuple (g.2.map webD)), .no, .no, .dat (iD (kind g (r.take (1 + i)))), .dat (endsD (ends g (r.take (1 + i)))), .no, .no, .no, .no, .no]) ?_ ?_ ?_) ?_
  · intro xs _
    refine ⟨hl, ?_⟩
    rw [show r.take (1 + 0) = r.take (0 + 1) from rfl, kind_take hl]
    rfl
  · rintro xs i d ε1 ex hd ⟨hi, rfl⟩
    cases ex
    obtain ⟨hi2, rfl⟩ := rng_iD (lo := 1) hd
    rw [List.length_map] at hi2
    have h1 : 1 + i < r.length := by omega
    have hp : r.take (1 + i) ≠ [] := by intro z; have := congrArg List.length z; rw [List.length_take, List.length_nil] at this; omega
    have hk := kind_lt B.ok O.ro (i := i) (by omega)
    rw [Nat.add_comm i 1] at hk
    have ht := ro_get O.ro (1 + i) h1
    rw [web_kind g hp] at ht
    have hT := tie_ok B.ok (g := g) (r := r.take (1 + i)) (i := r[1 + i]) (by rw [← take_snoc h1]; exact ro_take O.ro _)
    refine ⟨_, rfl, bd_asg (pd_ixT (atN (tie_get ht)) (pd_ixT at1 (pd_ixT (atN (gro_get hk)) (pd_var 3) (pd_var 6)) pd_int) (pd_ixT (atN (row_get h1)) (pd_var 1) (pd_var 8))) (td_tup rfl (tds_cons (td_name 9 hN) (tds_cons (td_name 10 hN) (tds_cons (td_name 11 hN) tds_nil)))) rfl ?_⟩
    refine bd_set 7 hN (d := endsD (ends g (r.take (1 + i + 1)))) (pd_tuple rfl G.tuple (ld_pdX (ld_lcA (own := [("place", 12)]) (g := pickD (ends g (r.take (1 + i))) (r.take (1 + i))) rfl hN (LcD.mk1 (t := .nm 12) (id_tupX (pd_tup (pdl_cons (pd_var 9) (pdl_cons (pd_var 10) pdl_nil)))) rfl (fun _ _ _ _ _ => td_name 12 hN) (fun d hd => ?_) (by decide) (by exact Nat.le_of_ble_eq_true rfl)))) (he := ?_)) ?_
    · have hd : d = iD (tieAt (growth g (kind g (r.take (1 + i)))) r[1 + i]).1 ∨ d = iD (tieAt (growth g (kind g (r.take (1 + i)))) r[1 + i]).2.1 := by
        rcases List.mem_cons.mp hd with e | hd
        · exact .inl e
        · exact .inr (List.mem_singleton.mp hd)
      have key : ∃ v, d = iD v := by rcases hd with e | e; exact ⟨_, e⟩; exact ⟨_, e⟩
      obtain ⟨v, rfl⟩ := key
      refine ⟨_, rfl, fun s H C cl fp => pd_if (pdt_lt (pd_var 12) pd_int) (fun h => ?_) (fun h => ?_)⟩
      · have hv : v < 2 := by have := of_decide_eq_true h.symm; omega
        refine pd_to (pd_ixT (sd_at hv) (pd_var 7) (pd_var 12)) ?_
        show adD (sd _ v) = adD (pick _ _ (v : Int).toNat)
        rw [Int.toNat_natCast, pick, if_pos hv]
      · have hv : ¬ v < 2 := by have := of_decide_eq_false h.symm; omega
        refine pd_to (pd_tup (pdl_cons (pd_slTo (pd_var 1) (pd_var 8)) (pdl_cons (pd_var 12) pdl_nil))) ?_
        show PyData.tuple [.tuple (cutD (r.map iD) none (some ((1 + i : Nat) : Int))), iD v] = adD (pick _ _ (v : Int).toNat)
        rw [Int.toNat_natCast, pick, if_neg hv, cutD_to, ← List.map_take]
        rfl
    · rw [take_snoc h1, ends_snoc g _ hp, web_kind g hp]
      rfl
    · refine bd_set 6 hN (pd_var 11) (bd_nil ⟨_, le_wipe [8, 9, 10, 11], by omega, ?_⟩)
      rw [show 1 + (i + 1) = (1 + i) + 1 by omega, kind_take h1, web_kind g hp]
      rfl
  · intro xs ε1 ex h
    cases ex
    obtain ⟨_, h⟩ := h
    rw [rng_len, List.length_map] at h
    rw [show 1 + ((r.length : Int) - 1).toNat = r.length by omega, List.take_length] at h
    exact ⟨_, h⟩
  · rintro ε' ⟨rest, rfl⟩
    exact bd_ret (pd_var 7)
end
end TX
end

section
set_option Elab.async false
set_option linter.all false
set_option maxRecDepth 100000
set_option maxHeartbeats 2000000
namespace TX
open PySem PySem.Spec PyProof.Rows L2 DL MA
theorem bd_expr {𝓜 : Md → Prop} {X : Cx} {ε : List Ent} {e : Expr} {P R : PP} {pos : Pos} {rest : List Stmt} {N : List Ent → Prop} (he : PD 𝓜 X ε e P) (h2 : BD 𝓜 X ε rest N R) (hsw : swapsWith e none pos.line X.env = pure false := by rfl) : BD 𝓜 X ε (.Expr e pos :: rest) N R :=
  bd_cons (N1 := fun ε' => ε' = ε) (ps_mono (ps_expr he hsw) fun D σ H ⟨md, Mo, C, M, F, m, o, q, qr⟩ => td_then md Mo C M F m o fun v H1 d p r o1 z => q _ H1 C M _ rfl o1) fun ε' e => by subst e; exact h2
structure AdR (g : Gar) (a : Ad) : Prop where
  ok : AdOk g a
  len : a.1.length ≤ 100
theorem AdR.row {g : Gar} {a : Ad} (A : AdR g a) : RowOk g a.1 := ⟨A.ok.row, A.len⟩
theorem ad_shaped {g : Gar} (B : GOk g) {a : Ad} (A : AdR g a) : SeqAt.shaped (adD a) = true := shp_ad0 (fun i hi => by have := ro_small B.ok A.ok.row i hi; omega) (by
  have h1 := A.ok.hi
  have h2 := (web_ok B.ok A.ok.row).1.hi
  omega)
section
variable {P : Program} {w : World} {K : PySem.W.Frag} {mg : Str → Option Value} {base : Heap} {f : Addr} {fd : FuncData}
abbrev s_is_address_value : Stmt := top 22
theorem sc_is_address_value : FnScope ["garden", "thing"] ["garden", "thing"] (defScope s_is_address_value) := ⟨rfl, rfl, rfl, by decide +kernel, rfl, by decide +kernel, by decide +kernel⟩
def preAd (es : List Ent) (R : PP) : Prop := ∃ (g : Gar) (a : Ad), GOk g ∧ AdR g a ∧ es = [.dat (garD g), .dat (adD a)] ∧ R = Is (.bool true)
theorem ok_is_address_value (G : Glo mg) (c2 : CalP P w K mg base 2 "is_between" (spK pureM K preBetween)) (c4 : CalP P w K mg base 4 "is_row_value" (spK pureM K (preRow fun _ _ => Is (.bool true)))) (ck : CalP P w K mg base 4 "kind_of" (spK pureM K (preRow fun g r => Is (iD (kind g r))))) (F : FnP K "is_address_value" s_is_address_value f fd) : FnOk P w K mg base CX0 5 f fd ["garden", "thing"] (spK pureM K preAd) := by
  refine fn_data F sc_is_address_value (fun es R ⟨g, r, _, _, e, _⟩ => by rw [e]; rfl) fun cdv A outer s H E es R hr ⟨g, a, B, O, e, eR⟩ => ?_
  subst e eR
  have h1 := O.ok.hi
  have h2 := O.ok.lo
  refine bd_ifNo (pdt_w (pdw_orV (pdt_not (pdt_val (pd_isi "tuple" (b := true) rfl G.isinstance rfl G.tuple (by decide +kernel) (pd_var 1) rfl (by decide +kernel)))) fun _ => pdw_orV (pdt_neI (pd_lenT rfl G.len (pd_var 1)) pd_int) fun _ =>
    pdw_or1 (pdt_not (pdt_val (pd_isi "tuple" (b := true) rfl G.isinstance rfl G.tuple (by decide +kernel) (pd_ixT at0 (pd_var 1) pd_int) rfl (by decide +kernel)))))) ?_
  have sh := row_shaped B O.row
  by_cases ha : a.1 = []
  · refine bd_ifYes (pdt_to (pdt_eqD (d2 := .tuple []) hr.units sh (by decide +kernel) (pd_ixT at0 (pd_var 1) pd_int) (pd_tup pdl_nil)) ((eqv_row a.1 []).trans (decide_eq_true ha))) ?_
    rw [ha] at h1
    have h1 : a.2 < g.1.1 := h1
    refine bd_ret (pd_to (pd_call c2 hr (by decide) rfl (pdl_cons (pd_ixT at1 (pd_var 1) pd_int) (pdl_cons pd_int (pdl_cons (pd_sub (pd_ixT at0 (pd_ixT at0 (pd_var 0) pd_int) pd_int) pd_int) pdl_nil))) ⟨_, _, _, rfl, rfl⟩) (congrArg PyData.bool (btw (by omega) (by omega))))
  · refine bd_ifNo (pdt_to (pdt_eqD (d2 := .tuple []) hr.units sh (by decide +kernel) (pd_ixT at0 (pd_var 1) pd_int) (pd_tup pdl_nil)) ((eqv_row a.1 []).trans (decide_eq_false ha))) ?_
    refine bd_ifNo (pdt_not (pdt_val (pd_call c4 hr (by decide) rfl (pdl_cons (pd_var 0) (pdl_cons (pd_ixT at0 (pd_var 1) pd_int) pdl_nil)) ⟨g, a.1, B, O.row, ha, rfl, rfl⟩))) ?_
    have hk := ((web_ok B.ok O.ok.row).2 ha).1
    rw [web_kind g ha] at h1
    have h3 := h2 ha
    refine bd_ret (pd_to (pd_call c2 hr (by decide) rfl (pdl_cons (pd_ixT at1 (pd_var 1) pd_int) (pdl_cons pd_int (pdl_cons (pd_sub (pd_ixT at0 (pd_ixT (atN (gro_get hk)) (pd_ixT at1 (pd_var 0) pd_int) (pd_call ck hr (by decide) rfl (pdl_cons (pd_var 0) (pdl_cons (pd_ixT at0 (pd_var 1) pd_int) pdl_nil)) ⟨g, a.1, B, O.row, ha, rfl, rfl⟩)) pd_int) pd_int) pdl_nil))) ⟨_, _, _, rfl, rfl⟩) (congrArg PyData.bool (btw (by omega) (by omega))))
abbrev s_web_around : Stmt := top 23
theorem sc_web_around : FnScope ["garden", "row"] ["garden", "row"] (defScope s_web_around) := ⟨rfl, rfl, rfl, by decide +kernel, rfl, by decide +kernel, by decide +kernel⟩
def preAround (es : List Ent) (R : PP) : Prop := ∃ (g : Gar) (r : MA.Row), GOk g ∧ RowOk g r ∧ es = [.dat (garD g), .dat (rowD r)] ∧ R = Is (webD (web g r))
theorem ok_web_around (G : Glo mg) (ck : CalP P w K mg base 4 "kind_of" (spK pureM K (preRow fun g r => Is (iD (kind g r))))) (F : FnP K "web_around" s_web_around f fd) : FnOk P w K mg base CX0 5 f fd ["garden", "row"] (spK pureM K preAround) := by
  refine fn_data F sc_web_around (fun es R ⟨g, r, _, _, e, _⟩ => by rw [e]; rfl) fun cdv A outer s H E es R hr ⟨g, r, B, O, e, eR⟩ => ?_
  subst e eR
  refine bd_ret (pd_if (pdt_to (pdt_eqD (d2 := .tuple []) hr.units (row_shaped B O) (by decide +kernel) (pd_var 1) (pd_tup pdl_nil)) (eqv_row r [])) (fun h => ?_) (fun h => ?_))
  · have ha := of_decide_eq_true h.symm
    subst ha
    exact pd_ixT at0 (pd_var 0) pd_int
  · have ha := of_decide_eq_false h.symm
    have hk := ((web_ok B.ok O.ro).2 ha).1
    rw [web_kind g ha]
    exact pd_ixT (atN (gro_get hk)) (pd_ixT at1 (pd_var 0) pd_int) (pd_call ck hr (by decide) rfl (pdl_cons (pd_var 0) (pdl_cons (pd_var 1) pdl_nil)) ⟨g, r, B, O, ha, rfl, rfl⟩)
abbrev s_need_row : Stmt := top 24
theorem sc_need_row : FnScope ["garden", "row"] ["garden", "row"] (defScope s_need_row) := ⟨rfl, rfl, rfl, by decide +kernel, rfl, by decide +kernel, by decide +kernel⟩
theorem ok_need_row (cg : CalP P w K mg base 8 "need_garden" (spK pureM K (preGar (Is .none)))) (c4 : CalP P w K mg base 4 "is_row_value" (spK pureM K (preRow fun _ _ => Is (.bool true)))) (F : FnP K "need_row" s_need_row f fd) : FnOk P w K mg base CX0 9 f fd ["garden", "row"] (spK pureM K (preRow fun _ _ => Is .none)) := by
  refine fn_data F sc_need_row (fun es R ⟨g, r, _, _, _, e, _⟩ => by rw [e]; rfl) fun cdv A outer s H E es R hr ⟨g, r, B, O, hne, e, eR⟩ => ?_
  subst e eR
  refine bd_expr (pd_call cg hr (by decide) rfl (pdl_cons (pd_var 0) pdl_nil) ⟨g, B, rfl, rfl⟩) ?_
  exact bd_ifNo (pdt_not (pdt_val (pd_call c4 hr (by decide) rfl (pdl_cons (pd_var 0) (pdl_cons (pd_var 1) pdl_nil)) ⟨g, r, B, O, hne, rfl, rfl⟩))) (bd_nil rfl)
abbrev s_is_row : Stmt := top 25
theorem sc_is_row : FnScope ["garden", "thing"] ["garden", "thing"] (defScope s_is_row) := ⟨rfl, rfl, rfl, by decide +kernel, rfl, by decide +kernel, by decide +kernel⟩
theorem ok_is_row (cg : CalP P w K mg base 8 "need_garden" (spK pureM K (preGar (Is .none)))) (c4 : CalP P w K mg base 4 "is_row_value" (spK pureM K (preRow fun _ _ => Is (.bool true)))) (F : FnP K "is_row" s_is_row f fd) : FnOk P w K mg base CX0 9 f fd ["garden", "thing"] (spK pureM K (preRow fun _ _ => Is (.bool true))) := by
  refine fn_data F sc_is_row (fun es R ⟨g, r, _, _, _, e, _⟩ => by rw [e]; rfl) fun cdv A outer s H E es R hr ⟨g, r, B, O, hne, e, eR⟩ => ?_
  subst e eR
  refine bd_expr (pd_call cg hr (by decide) rfl (pdl_cons (pd_var 0) pdl_nil) ⟨g, B, rfl, rfl⟩) ?_
  exact bd_ret (pd_call c4 hr (by decide) rfl (pdl_cons (pd_var 0) (pdl_cons (pd_var 1) pdl_nil)) ⟨g, r, B, O, hne, rfl, rfl⟩)
abbrev s_row_kind : Stmt := top 26
theorem sc_row_kind : FnScope ["garden", "row"] ["garden", "row"] (defScope s_row_kind) := ⟨rfl, rfl, rfl, by decide +kernel, rfl, by decide +kernel, by decide +kernel⟩
theorem ok_row_kind (cn : CalP P w K mg base 9 "need_row" (spK pureM K (preRow fun _ _ => Is .none))) (ck : CalP P w K mg base 4 "kind_of" (spK pureM K (preRow fun g r => Is (iD (kind g r))))) (F : FnP K "row_kind" s_row_kind f fd) : FnOk P w K mg base CX0 10 f fd ["garden", "row"] (spK pureM K (preRow fun g r => Is (iD (kind g r)))) := by
  refine fn_data F sc_row_kind (fun es R ⟨g, r, _, _, _, e, _⟩ => by rw [e]; rfl) fun cdv A outer s H E es R hr ⟨g, r, B, O, hne, e, eR⟩ => ?_
  subst e eR
  refine bd_expr (pd_call cn hr (by decide) rfl (pdl_cons (pd_var 0) (pdl_cons (pd_var 1) pdl_nil)) ⟨g, r, B, O, hne, rfl, rfl⟩) ?_
  exact bd_ret (pd_call ck hr (by decide) rfl (pdl_cons (pd_var 0) (pdl_cons (pd_var 1) pdl_nil)) ⟨g, r, B, O, hne, rfl, rfl⟩)
abbrev s_row_ends : Stmt := top 27
theorem sc_row_ends : FnScope ["garden", "row"] ["garden", "row"] (defScope s_row_ends) := ⟨rfl, rfl, rfl, by decide +kernel, rfl, by decide +kernel, by decide +kernel⟩
theorem ok_row_ends (cn : CalP P w K mg base 9 "need_row" (spK pureM K (preRow fun _ _ => Is .none))) (ce : CalP P w K mg base 1 "ends_of" (spK pureM K (preRow fun g r => Is (endsD (ends g r))))) (F : FnP K "row_ends" s_row_ends f fd) : FnOk P w K mg base CX0 10 f fd ["garden", "row"] (spK pureM K (preRow fun g r => Is (endsD (ends g r)))) := by
  refine fn_data F sc_row_ends (fun es R ⟨g, r, _, _, _, e, _⟩ => by rw [e]; rfl) fun cdv A outer s H E es R hr ⟨g, r, B, O, hne, e, eR⟩ => ?_
  subst e eR
  refine bd_expr (pd_call cn hr (by decide) rfl (pdl_cons (pd_var 0) (pdl_cons (pd_var 1) pdl_nil)) ⟨g, r, B, O, hne, rfl, rfl⟩) ?_
  exact bd_ret (pd_call ce hr (by decide) rfl (pdl_cons (pd_var 0) (pdl_cons (pd_var 1) pdl_nil)) ⟨g, r, B, O, hne, rfl, rfl⟩)
abbrev s_is_address : Stmt := top 28
theorem sc_is_address : FnScope ["garden", "thing"] ["garden", "thing"] (defScope s_is_address) := ⟨rfl, rfl, rfl, by decide +kernel, rfl, by decide +kernel, by decide +kernel⟩
theorem ok_is_address (cg : CalP P w K mg base 8 "need_garden" (spK pureM K (preGar (Is .none)))) (c5 : CalP P w K mg base 5 "is_address_value" (spK pureM K preAd)) (F : FnP K "is_address" s_is_address f fd) : FnOk P w K mg base CX0 9 f fd ["garden", "thing"] (spK pureM K preAd) := by
  refine fn_data F sc_is_address (fun es R ⟨g, r, _, _, e, _⟩ => by rw [e]; rfl) fun cdv A outer s H E es R hr ⟨g, a, B, O, e, eR⟩ => ?_
  subst e eR
  refine bd_expr (pd_call cg hr (by decide) rfl (pdl_cons (pd_var 0) pdl_nil) ⟨g, B, rfl, rfl⟩) ?_
  exact bd_ret (pd_call c5 hr (by decide) rfl (pdl_cons (pd_var 0) (pdl_cons (pd_var 1) pdl_nil)) ⟨g, a, B, O, rfl, rfl⟩)
abbrev s_need_born : Stmt := top 29
theorem sc_need_born : FnScope ["garden", "address", "n"] ["garden", "address", "n"] (defScope s_need_born) := ⟨rfl, rfl, rfl, by decide +kernel, rfl, by decide +kernel, by decide +kernel⟩
def preBorn (R0 : Gar → Ad → Nat → PP) (es : List Ent) (R : PP) : Prop := ∃ (g : Gar) (a : Ad) (n : Nat), GOk g ∧ AdR g a ∧ a.1.length ≤ n ∧ n ≤ 100 ∧ es = [.dat (garD g), .dat (adD a), .dat (iD n)] ∧ R = R0 g a n
theorem ok_need_born (G : Glo mg) (cg : CalP P w K mg base 8 "need_garden" (spK pureM K (preGar (Is .none)))) (c5 : CalP P w K mg base 5 "is_address_value" (spK pureM K preAd)) (c1 : CalP P w K mg base 1 "is_integer" (spK pureM K preInt)) (F : FnP K "need_born" s_need_born f fd) : FnOk P w K mg base CX0 9 f fd ["garden", "address", "n"] (spK pureM K (preBorn fun _ _ _ => Is .none)) := by
  refine fn_data F sc_need_born (fun es R ⟨g, r, n, _, _, _, _, e, _⟩ => by rw [e]; rfl) fun cdv A outer s H E es R hr ⟨g, a, n, B, O, hn, _, e, eR⟩ => ?_
  subst e eR
  refine bd_expr (pd_call cg hr (by decide) rfl (pdl_cons (pd_var 0) pdl_nil) ⟨g, B, rfl, rfl⟩) ?_
  refine bd_ifNo (pdt_not (pdt_val (pd_call c5 hr (by decide) rfl (pdl_cons (pd_var 0) (pdl_cons (pd_var 1) pdl_nil)) ⟨g, a, B, O, rfl, rfl⟩))) ?_
  refine bd_ifNo (pdt_to (pdt_w (pdw_orV (pdt_not (pdt_val (pd_call c1 hr (by decide) rfl (pdl_cons (pd_var 2) pdl_nil) ⟨_, rfl, rfl⟩))) fun _ => pdw_or1 (pdt_lt (pd_var 2) (pd_lenT rfl G.len (pd_ixT at0 (pd_var 1) pd_int))))) ?_) (bd_nil rfl)
  rw [List.length_map, decide_eq_false (show ¬((n : Int) < (a.1.length : Int)) by omega)]; rfl
end
end TX
end

section
set_option Elab.async false
set_option linter.all false
set_option maxRecDepth 100000
set_option maxHeartbeats 2000000
namespace TX
open PySem PySem.Spec PyProof.Rows L2 DL MA
theorem ixN_n {n j : Nat} (hj : j < n) : ixN n (j : Int) = some j := by
  unfold ixN
  rw [if_pos (by omega), if_pos (by omega)]
  simp
def vecD (n : Nat) (f : Nat → Nat) : List PyData := (vec n f).map iD
theorem vecD_len (n : Nat) (f : Nat → Nat) : (vecD n f).length = n := by rw [vecD, List.length_map, vec_len]
theorem vecD_get {n : Nat} {f : Nat → Nat} {i : Nat} (h : i < n) : (vecD n f)[i]? = some (iD (f i)) := by rw [vecD, List.getElem?_map, vec_get h]; rfl
theorem vecD_set {n : Nat} {f : Nat → Nat} {i x : Nat} : (vecD n f).set i (iD x) = vecD n (fun j => if j = i then x else f j) := by rw [vecD, vecD, ← List.map_set, vec_set]
theorem vecD_congr {n : Nat} {f h : Nat → Nat} (e : ∀ i, i < n → f i = h i) : vecD n f = vecD n h := by rw [vecD, vecD, vec_congr e]
theorem vecD_rep (n : Nat) : List.replicate n (PyData.int 0) = vecD n (fun _ => 0) := by rw [vecD, ← vec_rep, List.map_replicate]; rfl
theorem pl_0 (t : Tie) : pl t 0 = t.1 := rfl
theorem pl_1 (t : Tie) : pl t 1 = t.2.1 := rfl
def cntL (ts : List Tie) (p s k : Nat) : Nat := ts.countP fun t => pl t s == p && t.2.2 == k
theorem cntL_snoc (ts : List Tie) (t : Tie) (p s k : Nat) : cntL (ts ++ [t]) p s k = if pl t s = p ∧ t.2.2 = k then cntL ts p s k + 1 else cntL ts p s k := by
  unfold cntL
  rw [List.countP_append, List.countP_singleton]
  by_cases h : pl t s = p ∧ t.2.2 = k
  · rw [if_pos h]; simp [h.1, h.2]
  · rw [if_neg h]
    have : (pl t s == p && t.2.2 == k) = false := by
      rw [Bool.and_eq_false_iff, beq_eq_false_iff_ne, beq_eq_false_iff_ne]
      by_cases h1 : pl t s = p
      · exact .inr fun h2 => h ⟨h1, h2⟩
      · exact .inl h1
    rw [this]; simp
theorem cntL_le (ts : List Tie) (p s k : Nat) : cntL ts p s k ≤ ts.length := List.countP_le_length
theorem aug_yes {K : Nat} {ts : List Tie} {t : Tie} {p s : Nat} (h : pl t s = p) : (vecD K (cntL ts p s)).set t.2.2 (.int ((cntL ts p s t.2.2 : Int) + 1)) = vecD K (cntL (ts ++ [t]) p s) := by
  have e : PyData.int ((cntL ts p s t.2.2 : Int) + 1) = iD (cntL ts p s t.2.2 + 1) := congrArg PyData.int (by omega)
  rw [e, vecD_set]
  refine vecD_congr fun i _ => ?_
  rw [cntL_snoc]
  by_cases hi : i = t.2.2
  · subst hi; rw [if_pos rfl, if_pos ⟨h, rfl⟩]
  · rw [if_neg hi, if_neg fun z => hi z.2.symm]
theorem aug_no {K : Nat} {ts : List Tie} {t : Tie} {p s : Nat} (h : pl t s ≠ p) : vecD K (cntL ts p s) = vecD K (cntL (ts ++ [t]) p s) := vecD_congr fun i _ => by rw [cntL_snoc, if_neg fun z => h z.1]
theorem tie_at {v : Web} {i : Nat} {d : PyData} (h : (v.2.map tieD)[i]? = some d) : ∃ t, d = tieD t ∧ t ∈ v.2 ∧ v.2.take (i + 1) = v.2.take i ++ [t] ∧ i < v.2.length := by
  rw [List.getElem?_map] at h
  cases q : v.2[i]? with
  | none => rw [q] at h; cases h
  | some t =>
    rw [q] at h
    cases h
    obtain ⟨hi, e⟩ := List.getElem?_eq_some_iff.mp q
    exact ⟨t, rfl, List.mem_of_getElem? q, by rw [take_snoc hi, e], hi⟩
section
variable {P : Program} {w : World} {K : PySem.W.Frag} {mg : Str → Option Value} {base : Heap} {f : Addr} {fd : FuncData}
abbrev s_ends_counted : Stmt := top 30
abbrev N_ends_counted : List Str := ["web", "place", "kinds", "tails", "heads", "tail", "head", "kind"]
theorem sc_ends_counted : FnScope N_ends_counted ["web", "place", "kinds"] (defScope s_ends_counted) := ⟨rfl, rfl, rfl, by decide +kernel, rfl, by decide +kernel, by decide +kernel⟩
def cntD (k : Nat) (v : Web) (p : Nat) : PyData := .tuple [.list (vecD k (cnt v p 0)), .list (vecD k (cnt v p 1))]
def preCount (es : List Ent) (R : PP) : Prop := ∃ (v : Web) (p k : Nat), WebOk k v ∧ k ≤ 3 ∧ es = [.dat (webD v), .dat (iD p), .dat (iD k)] ∧ R = Is (cntD k v p)
theorem ok_ends_counted (F : FnP K "ends_counted" s_ends_counted f fd) : FnOk P w K mg base CX0 1 f fd ["web", "place", "kinds"] (spK pureM K preCount) := by
  refine fn_data F sc_ends_counted (fun es R ⟨v, p, k, _, _, e, _⟩ => by rw [e]; rfl) fun cdv A outer s H E es R hr ⟨v, p, k, W, hk, e, eR⟩ => ?_
  subst e eR
  have hN : N_ends_counted.Nodup := by decide +kernel
  have rep : List.replicate ((k : Nat) : Int).toNat (PyData.int 0) = vecD k (cntL [] p 0) := (vecD_rep k).trans (vecD_congr fun _ _ => rfl)
  have rep1 : List.replicate ((k : Nat) : Int).toNat (PyData.int 0) = vecD k (cntL [] p 1) := (vecD_rep k).trans (vecD_congr fun _ _ => rfl)
  refine bd_parOO 3 4 rfl hN (by decide) (l := vecD k (cntL [] p 0)) (l' := vecD k (cntL [] p 1)) (rep ▸ ld_rep pd_int (pd_var 2) ⟨by omega, by omega⟩) (rep1 ▸ ld_rep pd_int (pd_var 2) ⟨by omega, by omega⟩) ?_
  refine bd_cons (N1 := fun ε => ∃ rest, ε = .dat (webD v) :: .dat (iD p) :: .dat (iD k) :: .lm (vecD k (cnt v p 0)) :: .lm (vecD k (cnt v p 1)) :: rest) (sd_for (t := .tp [.nm 5, .nm 6, .nm 7]) .never rfl (id_tupX (pd_ixT at1 (pd_var 0) pd_int)) (td_tup rfl (tds_cons (td_name 5 hN) (tds_cons (td_name 6 hN) (tds_cons (td_name 7 hN) tds_nil))))
    (fun _ i ε => ε = [.dat (webD v), .dat (iD p), .dat (iD k), .lm (vecD k (cntL (v.2.take i) p 0)), .lm (vecD k (cntL (v.2.take i) p 1)), .no, .no, .no]) ?_ ?_ ?_) ?_
  · intro xs _; rfl
  · rintro xs i d ε1 ex hd rfl
    cases ex
    obtain ⟨t, rfl, ht, tk, _⟩ := tie_at hd
    obtain ⟨h1, h2, h3, h4⟩ := W.ties t ht
    refine ⟨_, rfl, ?_⟩
    rw [tk]
    refine bd_cons (N1 := fun ε => ε = [.dat (webD v), .dat (iD p), .dat (iD k), .lm (vecD k (cntL (v.2.take i ++ [t]) p 0)), .lm (vecD k (cntL (v.2.take i) p 1)), .dat (iD t.1), .dat (iD t.2.1), .dat (iD t.2.2)]) (sd_if (pdt_eqI (pd_var 5) (pd_var 1)) (fun h => ?_) (fun h => ?_)) ?_
    · have he := of_decide_eq_true h.symm
      refine bd_augAt 3 rfl (pd_var 7) pd_int (by rw [vecD_len]; exact ixN_n h4) (vecD_get h4) (bd_nil ?_)
      rw [← aug_yes (t := t) (s := 0) (by rw [pl_0]; omega)]
      rfl
    · have he := of_decide_eq_false h.symm
      refine bd_nil ?_
      rw [← aug_no (t := t) (s := 0) (by rw [pl_0]; omega)]
      rfl
    rintro ε' rfl
    refine bd_one (sd_if (pdt_eqI (pd_var 6) (pd_var 1)) (fun h => ?_) (fun h => ?_))
    · have he := of_decide_eq_true h.symm
      refine bd_augAt 4 rfl (pd_var 7) pd_int (by rw [vecD_len]; exact ixN_n h4) (vecD_get h4) (bd_nil ⟨_, le_wipe [5, 6, 7], ?_⟩)
      rw [← aug_yes (t := t) (s := 1) (by rw [pl_1]; omega)]
      rfl
    · have he := of_decide_eq_false h.symm
      refine bd_nil ⟨_, le_wipe [5, 6, 7], ?_⟩
      rw [← aug_no (t := t) (s := 1) (by rw [pl_1]; omega)]
      rfl
  · intro xs ε1 ex h
    cases ex
    rw [h, List.length_map, List.take_length]
    exact ⟨_, rfl⟩
  · rintro ε' ⟨rest, rfl⟩
    exact bd_freeze 3 rfl (bd_freeze 4 rfl (bd_ret (pd_tup (pdl_cons (pd_var 3) (pdl_cons (pd_var 4) pdl_nil)))))
end
end TX
end

section
set_option Elab.async false
set_option linter.all false
set_option maxRecDepth 100000
set_option maxHeartbeats 2000000
namespace TX
open PySem PySem.Spec PyProof.Rows L2 DL MA
def itD (x : It3) : PyData := .tuple [rowD x.1, iD x.2.1, iD x.2.2]
def toI (r : MA.Row) : List Int := r.map fun (n : Nat) => (n : Int)
theorem row_enc (r : MA.Row) : rowD r = encI (toI r) := by unfold rowD encI toI; rw [List.map_map]; rfl
theorem rows_enc (rs : List MA.Row) : rs.map rowD = (rs.map toI).map encI := by
  rw [List.map_map]
  exact List.map_congr_left fun r _ => row_enc r
theorem toI_inj {a b : MA.Row} (h : toI a = toI b) : a = b := by
  have : a.map (fun (n : Nat) => (n : Int)) = b.map (fun (n : Nat) => (n : Int)) := h
  exact List.map_inj_right (fun x y e => Int.ofNat.inj e) |>.mp this
/-- sorted as the machine sorts -/
def srt (rs : List MA.Row) : List MA.Row := rs.mergeSort fun a b => decide (TS.code 16 (toI a) ≤ TS.code 16 (toI b))
theorem srt_perm (rs : List MA.Row) : (srt rs).Perm rs := List.mergeSort_perm _ _
theorem srt_asc (rs : List MA.Row) : Asc 16 ((srt rs).map toI) := by
  show List.Pairwise _ _
  rw [List.pairwise_map]
  refine (List.pairwise_mergeSort ?_ ?_ rs).imp fun h => of_decide_eq_true h
  · intro a b c h1 h2
    exact decide_eq_true (Int.le_trans (of_decide_eq_true h1) (of_decide_eq_true h2))
  · intro a b
    rcases Int.le_total (TS.code 16 (toI a)) (TS.code 16 (toI b)) with h | h
    · rw [decide_eq_true h]; rfl
    · rw [decide_eq_true h]; simp
structure Flat (d : Nat) (rs : List MA.Row) : Prop where
  all : ∀ r ∈ rs, r.length = d ∧ ∀ i ∈ r, i < 10
theorem Flat.ok {d : Nat} {rs : List MA.Row} (h : Flat d rs) : RowsOk d 16 (rs.map toI) := ⟨fun r hr => by
  obtain ⟨q, hq, rfl⟩ := List.mem_map.mp hr
  obtain ⟨h1, h2⟩ := h.all q hq
  refine ⟨by rw [← h1]; exact List.length_map _, fun m hm => ?_⟩
  obtain ⟨n, hn, rfl⟩ := List.mem_map.mp hm
  have := h2 n hn
  omega⟩
theorem Flat.srt {d : Nat} {rs : List MA.Row} (h : Flat d rs) : Flat d (srt rs) := ⟨fun r hr => h.all r ((srt_perm rs).mem_iff.mp hr)⟩
theorem srt_eq {d : Nat} {a b : List MA.Row} (h : Flat d a) (p : b.Perm a) : srt b = srt a := by
  have e := asc_unique (B := 16) h.srt.ok (((srt_perm b).trans (p.trans (srt_perm a).symm)).map toI) (srt_asc a) (srt_asc b)
  exact List.map_inj_right (fun x y e => toI_inj e) |>.mp e
theorem srt_self {d : Nat} {a : List MA.Row} (h : Flat d a) : srt (srt a) = srt a := srt_eq h (srt_perm a)
section
variable {P : Program} {w : World} {K : PySem.W.Frag} {mg : Str → Option Value} {base : Heap} {f : Addr} {fd : FuncData}
abbrev s_sided_rows : Stmt := top 32
abbrev N_sided_rows : List Str := ["web", "place", "row", "found", "number", "tail", "head", "kind"]
theorem sc_sided_rows : FnScope N_sided_rows ["web", "place", "row"] (defScope s_sided_rows) := ⟨rfl, rfl, rfl, by decide +kernel, rfl, by decide +kernel, by decide +kernel⟩
def preSided (es : List Ent) (R : PP) : Prop := ∃ (v : Web) (p : Nat) (r : MA.Row), v.2.length ≤ 10 ∧ r.length ≤ 200 ∧ es = [.dat (webD v), .dat (iD p), .dat (rowD r)] ∧ R = Is (.list ((sided v p r).map itD))
theorem hits_in (t : Tie) (p : Nat) : decide ((p : Int) ∈ [(t.1 : Int), (t.2.1 : Int)]) = hits t p := by
  rw [Bool.eq_iff_iff, decide_eq_true_eq]
  unfold hits
  simp only [List.mem_cons, List.not_mem_nil, or_false, Bool.or_eq_true, beq_iff_eq]
  omega
theorem ok_sided_rows (G : Glo mg) (F : FnP K "sided_rows" s_sided_rows f fd) : FnOk P w K mg base CX0 1 f fd ["web", "place", "row"] (spK pureM K preSided) := by
  refine fn_data F sc_sided_rows (fun es R ⟨v, p, r, _, _, e, _⟩ => by rw [e]; rfl) fun cdv A outer s H E es R hr ⟨v, p, r, W, hl, e, eR⟩ => ?_
  subst e eR
  have hN : N_sided_rows.Nodup := by decide +kernel
  refine bd_ownX 3 hN (ld_lst pdl_nil) ?_
  refine bd_cons (N1 := fun ε => ∃ rest, ε = .dat (webD v) :: .dat (iD p) :: .dat (rowD r) :: .lm ((sided v p r).map itD) :: rest) (sd_for (t := .tp [.nm 4, .tp [.nm 5, .nm 6, .nm 7]]) .never rfl (id_enumT rfl G.enumerate (pd_ixT at1 (pd_var 0) pd_int)) (td_tup rfl (tds_cons (td_name 4 hN) (tds_cons (td_tup rfl (tds_cons (td_name 5 hN) (tds_cons (td_name 6 hN) (tds_cons (td_name 7 hN) tds_nil)))) tds_nil)))
    (fun _ i ε => ε = [.dat (webD v), .dat (iD p), .dat (rowD r), .lm ((sidedF p r 0 (v.2.take i)).map itD), .no, .no, .no, .no]) ?_ ?_ ?_) ?_
  · intro xs _; rfl
  · rintro xs i d ε1 ex hd rfl
    cases ex
    obtain ⟨e0, he0, rfl⟩ := enumD_get hd
    obtain ⟨t, rfl, ht, tk, hi⟩ := tie_at he0
    refine ⟨_, rfl, ?_⟩
    have hlen := sidedF_len p r (v.2.take i) 0
    rw [List.length_take] at hlen
    have hs := sidedF_snoc p r (v.2.take i) 0 t
    rw [← tk, List.length_take, Nat.min_eq_left (by omega), Nat.zero_add] at hs
    refine bd_one (sd_if (pdt_to (pdt_inT (ns := [(t.1 : Int), (t.2.1 : Int)]) rfl (pd_var 1) (pd_tup (pdl_cons (pd_var 5) (pdl_cons (pd_var 6) pdl_nil)))) (hits_in t p)) (fun h => ?_) (fun h => ?_))
    · rw [← h, if_pos rfl] at hs
      refine bd_app 3 rfl (P := Is (itD (r ++ [i], t.2.2, sideOf t p))) (pd_tup (pdl_cons (pd_catT (pd_var 2) (pd_tup (pdl_cons (pd_var 4) pdl_nil)) (by rw [List.length_map]; show r.length + 1 ≤ _; omega)) (pdl_cons (pd_var 7) (pdl_cons (d := iD (sideOf t p)) (pd_if (pdt_eqI (pd_var 1) (pd_var 5)) (fun h => ?_) (fun h => ?_)) pdl_nil))) (he := ?_)) ?_ fun d e => ?_
      · have e := of_decide_eq_true h.symm
        refine pd_to pd_int ?_
        rw [sideOf, if_pos (by omega)]; rfl
      · have e := of_decide_eq_false h.symm
        refine pd_to pd_int ?_
        rw [sideOf, if_neg (by omega)]; rfl
      · show PyData.tuple [.tuple (r.map iD ++ [iD i]), iD t.2.2, iD (sideOf t p)] = .tuple [.tuple ((r ++ [i]).map iD), iD t.2.2, iD (sideOf t p)]
        rw [List.map_append]; rfl
      · rw [List.length_map]; omega
      · cases e
        refine bd_nil ⟨_, le_wipe [4, 5, 6, 7], ?_⟩
        rw [hs, List.map_append]; rfl
    · rw [← h, if_neg (by decide), List.append_nil] at hs
      refine bd_nil ⟨_, le_wipe [4, 5, 6, 7], ?_⟩
      rw [hs]; rfl
  · intro xs ε1 ex h
    cases ex
    rw [h, enumD_len, List.length_map, List.take_length]
    exact ⟨_, rfl⟩
  · rintro ε' ⟨rest, rfl⟩
    exact bd_freeze 3 rfl (bd_ret (pd_var 3))
end
end TX
end

section
set_option Elab.async false
set_option linter.all false
set_option maxRecDepth 100000
set_option maxHeartbeats 2000000
namespace TX
open PySem PySem.Spec PyProof.Rows L2 DL MA
theorem itD_get {l : List It3} {i : Nat} {d : PyData} (h : d ∈ l.map itD) : ∃ x ∈ l, d = itD x := by
  obtain ⟨x, hx, rfl⟩ := List.mem_map.mp h
  exact ⟨x, hx, rfl⟩
/-- the rows at an address, sorted -/
def rowsS (g : Gar) (a : Ad) (n : Nat) : List MA.Row := srt ((raw g a.1 a.2 (n - a.1.length)).map (·.1))
theorem raw_flat {g : Gar} (G : GarOk g) {a : Ad} (A : AdOk g a) (m : Nat) : Flat (a.1.length + m + 1) ((raw g a.1 a.2 m).map (·.1)) := ⟨fun r hr => by
  obtain ⟨x, hx, rfl⟩ := List.mem_map.mp hr
  obtain ⟨h1, h2, _⟩ := raw_sound G A m x hx
  exact ⟨h2, ro_small G h1⟩⟩
/-- all that sided_rows gives for one item, by the item's data -/
def nextD (g : Gar) : PyData → List PyData
  | .tuple [.tuple r, .int k, .int s] => (sided (growth g k.toNat) s.toNat (r.map fun d => match d with | .int i => i.toNat | _ => 0)).map itD
  | _ => []
theorem nextD_eq (g : Gar) (x : It3) : nextD g (itD x) = (sided (growth g x.2.1) x.2.2 x.1).map itD := by
  show (sided (growth g ((x.2.1 : Nat) : Int).toNat) ((x.2.2 : Nat) : Int).toNat ((x.1.map iD).map _)).map itD = _
  rw [Int.toNat_natCast, Int.toNat_natCast, List.map_map]
  congr 2
  have : ∀ l : List Nat, l.map ((fun d : PyData => match d with | .int i => i.toNat | _ => 0) ∘ iD) = l := fun l => by
    induction l with
    | nil => rfl
    | cons a l ih => rw [List.map_cons, ih]; rfl
  exact this _
theorem flat_next (g : Gar) (l : List It3) : ((l.map itD).flatMap fun d => (nextD g d).map id) = (l.flatMap fun x => sided (growth g x.2.1) x.2.2 x.1).map itD := by
  induction l with
  | nil => rfl
  | cons x l ih =>
    rw [List.map_cons, List.flatMap_cons, List.flatMap_cons, List.map_append, ih, nextD_eq, List.map_id]
def fstD : PyData → PyData
  | .tuple [r, _, _] => r
  | _ => .none
section
variable {P : Program} {w : World} {K : PySem.W.Frag} {mg : Str → Option Value} {base : Heap} {f : Addr} {fd : FuncData}
abbrev s_raw_rows_at : Stmt := top 33
abbrev N_raw_rows_at : List Str := ["garden", "address", "n", "book", "row", "place", "rows", "turn", "near", "kind", "side", "item"]
theorem sc_raw_rows_at : FnScope N_raw_rows_at ["garden", "address", "n"] (defScope s_raw_rows_at) := ⟨rfl, rfl, rfl, by decide +kernel, rfl, by decide +kernel, by decide +kernel⟩
structure FewR (g : Gar) (a : Ad) (n : Nat) : Prop where
  gok : GOk g
  adr : AdR g a
  le : a.1.length ≤ n
  hi : n ≤ 100
  few : ∀ m, m ≤ n - a.1.length → (raw g a.1 a.2 m).length ≤ 300
  end_ : (raw g a.1 a.2 (n - a.1.length)).length ≤ 40
def preRaw (R0 : Gar → Ad → Nat → PP) (es : List Ent) (R : PP) : Prop := ∃ (g : Gar) (a : Ad) (n : Nat), FewR g a n ∧ es = [.dat (garD g), .dat (adD a), .dat (iD n)] ∧ R = R0 g a n
theorem ok_raw_rows_at (G : Glo mg) (cw : CalP P w K mg base 5 "web_around" (spK pureM K preAround)) (cs : CalP P w K mg base 1 "sided_rows" (spK pureM K preSided)) (F : FnP K "raw_rows_at" s_raw_rows_at f fd) : FnOk P w K mg base CX0 6 f fd ["garden", "address", "n"] (spK pureM K (preRaw fun g a n => Is (.list ((rowsS g a n).map rowD)))) := by
  refine fn_data F sc_raw_rows_at (fun es R ⟨g, a, n, _, e, _⟩ => by rw [e]; rfl) fun cdv A outer s H E es R hr ⟨g, a, n, O, e, eR⟩ => ?_
  subst e eR
  obtain ⟨p, v⟩ := a
  have hN : N_raw_rows_at.Nodup := by decide +kernel
  have B := O.gok
  have lp : p.length ≤ 100 := O.adr.len
  have ln : p.length ≤ n := O.le
  have n100 := O.hi
  refine bd_asg (pd_tup (pdl_cons (pd_ixT at1 (pd_var 0) pd_int) (pdl_cons (pd_var 1) pdl_nil))) (td_tup rfl (tds_cons (td_name 3 hN) (tds_cons (td_tup rfl (tds_cons (td_name 4 hN) (tds_cons (td_name 5 hN) tds_nil))) tds_nil))) rfl ?_
  refine bd_set 6 hN (pd_call cs hr (by decide) rfl (pdl_cons (pd_call cw hr (by decide) rfl (pdl_cons (pd_var 0) (pdl_cons (pd_var 4) pdl_nil)) ⟨g, p, B, O.adr.row, rfl, rfl⟩) (pdl_cons (pd_var 5) (pdl_cons (pd_var 4) pdl_nil))) ⟨web g p, v, p, (web_ok B.ok O.adr.ok.row).1.few, by omega, rfl, rfl⟩) ?_
  refine bd_cons (N1 := fun ε => ε = [.dat (garD g), .dat (adD (p, v)), .dat (iD n), .dat (.tuple (g.2.map webD)), .dat (rowD p), .dat (iD v), .dat (.list ((raw g p v (n - p.length)).map itD)), .no, .no, .no, .no, .no]) (sd_for (t := .nm 7) .never rfl (id_range1 rfl G.range (pd_sub (pd_var 2) (pd_lenT rfl G.len (pd_var 4))) (by rw [List.length_map]; exact ⟨by show _ ≤ (n : Int) - (p.length : Int); omega, by show (n : Int) - (p.length : Int) < _; omega⟩)) (td_name 7 hN)
    (fun _ i ε => i ≤ n - p.length ∧ ε = [.dat (garD g), .dat (adD (p, v)), .dat (iD n), .dat (.tuple (g.2.map webD)), .dat (rowD p), .dat (iD v), .dat (.list ((raw g p v i).map itD)), .no, .no, .no, .no, .no]) ?_ ?_ ?_) ?_
  · intro xs _; exact ⟨Nat.zero_le _, rfl⟩
  · rintro xs i d ε1 ex hd ⟨hi, rfl⟩
    cases ex
    obtain ⟨hi2, rfl⟩ := rng_iD (lo := 0) hd
    rw [List.length_map] at hi2
    have hi2 : i < ((n : Int) - (p.length : Int)).toNat := hi2
    refine ⟨_, rfl, ?_⟩
    have h1 := O.few (i + 1) (by show _ ≤ n - p.length; omega)
    have e1 := flat_next g (raw g p v i)
    refine bd_lc2 6 (f2 := nextD g) (g := id) (t := .tp [.nm 8, .nm 9, .nm 10]) (t1 := .nm 11) (own := [("near", 8), ("kind", 9), ("side", 10), ("item", 11)]) (vs1 := [11]) rfl hN (id_listX (pd_var 6)) rfl (fun _ _ _ _ _ => td_tup rfl (tds_cons (td_name 8 hN) (tds_cons (td_name 9 hN) (tds_cons (td_name 10 hN) tds_nil)))) (fun _ _ _ _ _ => td_name 11 hN) (fun d hd => ?_) ?_ ?_
    · obtain ⟨x, hx, rfl⟩ := List.mem_map.mp hd
      obtain ⟨s1, s2, s3, s4, _⟩ := raw_sound B.ok O.adr.ok i x hx
      have hin := raw_in B.ok O.adr.ok hx
      have s2 : x.1.length = p.length + i + 1 := s2
      refine ⟨_, rfl, rfl, fun s H C cl fp => ?_, fun e he => ⟨_, rfl, fun s H C cl fp => pd_var 11⟩⟩
      rw [nextD_eq]
      exact id_listX (pd_call cs hr (by decide) rfl (pdl_cons (pd_ixT (atN (gro_get hin.1)) (pd_var 3) (pd_var 9)) (pdl_cons (pd_var 10) (pdl_cons (pd_var 8) pdl_nil))) ⟨growth g x.2.1, x.2.2, x.1, (B.ok.book _ (growth_mem hin.1)).1.few, by omega, rfl, rfl⟩)
    · rw [e1, List.length_map]
      have h1 : (raw g p v (i + 1)).length ≤ 300 := h1
      exact Nat.le_trans h1 (by decide)
    · rw [e1]
      refine bd_freeze 6 rfl (bd_nil ⟨_, le_wipe [7], by omega, rfl⟩)
  · intro xs ε1 ex h
    cases ex
    obtain ⟨_, h⟩ := h
    rw [rng_len, List.length_map, show ((n : Int) - (p.length : Int)).toNat = n - p.length by omega] at h
    exact h
  · rintro ε' rfl
    have hl : (raw g p v (n - p.length)).length ≤ 40 := O.end_
    have fl : Flat (p.length + (n - p.length) + 1) ((raw g p v (n - p.length)).map (fun x : It3 => x.1)) := raw_flat B.ok O.adr.ok (n - p.length)
    refine bd_ret (pd_sortedL (d := p.length + (n - p.length) + 1) (B := 16) (rows := ((raw g p v (n - p.length)).map (fun x : It3 => x.1)).map toI) (rows' := (rowsS g (p, v) n).map toI) (by omega) rfl G.sorted fl.srt.ok ((srt_perm _).map toI) (srt_asc _) (by rw [List.length_map, List.length_map]; omega) (pd_to (ld_pdX (ld_lcA (own := [("near", 8), ("kind", 9), ("side", 10)]) (g := fstD) rfl hN (LcD.mk1 (t := .tp [.nm 8, .nm 9, .nm 10]) (id_listX (pd_var 6)) rfl (fun _ _ _ _ _ => td_tup rfl (tds_cons (td_name 8 hN) (tds_cons (td_name 9 hN) (tds_cons (td_name 10 hN) tds_nil)))) (fun d hd => ?_) (by decide) (by rw [List.length_map]; omega)))) ?_) (hdd := ?_))
    · obtain ⟨x, hx, rfl⟩ := List.mem_map.mp hd
      exact ⟨_, rfl, fun s H C cl fp => pd_var 8⟩
    · congr 1
      rw [← rows_enc, List.map_map, List.map_map]
      rfl
    · rw [rows_enc]
abbrev s_rows_at : Stmt := top 34
theorem sc_rows_at : FnScope ["garden", "address", "n"] ["garden", "address", "n"] (defScope s_rows_at) := ⟨rfl, rfl, rfl, by decide +kernel, rfl, by decide +kernel, by decide +kernel⟩
theorem ok_rows_at (G : Glo mg) (cb : CalP P w K mg base 9 "need_born" (spK pureM K (preBorn fun _ _ _ => Is .none))) (cr : CalP P w K mg base 6 "raw_rows_at" (spK pureM K (preRaw fun g a n => Is (.list ((rowsS g a n).map rowD))))) (F : FnP K "rows_at" s_rows_at f fd) : FnOk P w K mg base CX0 10 f fd ["garden", "address", "n"] (spK pureM K (preRaw fun g a n => Is (.tuple ((rowsS g a n).map rowD)))) := by
  refine fn_data F sc_rows_at (fun es R ⟨g, a, n, _, e, _⟩ => by rw [e]; rfl) fun cdv A outer s H E es R hr ⟨g, a, n, O, e, eR⟩ => ?_
  subst e eR
  refine bd_expr (pd_call cb hr (by decide) rfl (pdl_cons (pd_var 0) (pdl_cons (pd_var 1) (pdl_cons (pd_var 2) pdl_nil))) ⟨g, a, n, O.gok, O.adr, O.le, O.hi, rfl, rfl⟩) ?_
  exact bd_ret (pd_tuple rfl G.tuple (pd_call cr hr (by decide) rfl (pdl_cons (pd_var 0) (pdl_cons (pd_var 1) (pdl_cons (pd_var 2) pdl_nil))) ⟨g, a, n, O, rfl, rfl⟩))
end
end TX
end

section
set_option Elab.async false
set_option linter.all false
set_option maxRecDepth 100000
set_option maxHeartbeats 4000000
namespace TX
open PySem PySem.Spec PyProof.Rows L2 DL MA
def tieU : PyData → Tie
  | .tuple [.int a, .int b, .int c] => (a.toNat, b.toNat, c.toNat)
  | _ => (0, 0, 0)
def webU : PyData → Web
  | .tuple [.int n, .tuple ts] => (n.toNat, ts.map tieU)
  | _ => (0, [])
theorem webU_eq (v : Web) : webU (webD v) = v := by
  show (((v.1 : Nat) : Int).toNat, (v.2.map tieD).map tieU) = v
  rw [Int.toNat_natCast, List.map_map]
  have : ∀ l : List Tie, l.map (tieU ∘ tieD) = l := fun l => by
    induction l with
    | nil => rfl
    | cons a l ih => rw [List.map_cons, ih]; rfl
  rw [this]
theorem two_at {f : Nat → PyData} {e : Nat} (h : e < 2) : atI [f 0, f 1] (e : Int) = some (f e) := by
  refine atN ?_
  match e, h with
  | 0, _ => rfl
  | 1, _ => rfl
theorem pair_get {i : Nat} {d : PyData} (h : ([.int 0, .int 1] : List PyData)[i]? = some d) : i < 2 ∧ d = iD i := by
  match i, h with
  | 0, h => cases h; exact ⟨by decide, rfl⟩
  | 1, h => cases h; exact ⟨by decide, rfl⟩
  | i + 2, h => simp at h
/-- pairs of vectors -/
def mk2 (n : Nat) (F : Nat → Nat → Nat) : Ent := .tm (vecD n (F 0)) (vecD n (F 1))
theorem mk2_congr {n : Nat} {F H : Nat → Nat → Nat} (e : ∀ s k, s < 2 → k < n → F s k = H s k) : mk2 n F = mk2 n H := by
  unfold mk2
  rw [vecD_congr fun i hi => e 0 i (by decide) hi, vecD_congr fun i hi => e 1 i (by decide) hi]
theorem sel2 {n s : Nat} {F : Nat → Nat → Nat} (h : s < 2) : (if (s : Int) = 0 then vecD n (F 0) else vecD n (F 1)) = vecD n (F s) := by
  match s, h with
  | 0, _ => rfl
  | 1, _ => rfl
theorem aug2 {n s j x : Nat} {y : Int} {F : Nat → Nat → Nat} (h : s < 2) (hy : y = (x : Int)) : Ent.tm (if (s : Int) = 0 then (vecD n (F 0)).set j (.int y) else vecD n (F 0)) (if (s : Int) = 0 then vecD n (F 1) else (vecD n (F 1)).set j (.int y)) = mk2 n (fun s' k => if s' = s ∧ k = j then x else F s' k) := by
  subst hy
  show Ent.tm (if (s : Int) = 0 then (vecD n (F 0)).set j (iD x) else vecD n (F 0)) (if (s : Int) = 0 then vecD n (F 1) else (vecD n (F 1)).set j (iD x)) = _
  unfold mk2
  match s, h with
  | 0, _ =>
    have z : ((0 : Nat) : Int) = 0 := rfl
    rw [if_pos z, if_pos z, vecD_set]
    refine congr (congrArg Ent.tm ?_) ?_
    · exact vecD_congr fun i _ => by by_cases e : i = j <;> simp [e]
    · exact vecD_congr fun i _ => by simp
  | 1, _ =>
    have z : ¬((1 : Nat) : Int) = 0 := by decide
    rw [if_neg z, if_neg z, vecD_set]
    refine congr (congrArg Ent.tm ?_) ?_
    · exact vecD_congr fun i _ => by simp
    · exact vecD_congr fun i _ => by by_cases e : i = j <;> simp [e]
theorem bd_lcA {𝓜 : Md → Prop} {X : Cx} {ε : List Ent} {xs : List PyData} {g : PyData → PyData} {t : Tg} {tg iter elt : Expr} {scope : Scope} {own : List (Str × Nat)} {pos : Pos} (i : Nat) {y : Str} {py spos : Pos} {rest : List Stmt} {N : List Ent → Prop} {R : PP} (hc : X.calm = true) (hN : X.N.Nodup) (l : LcD 𝓜 X ε elt tg iter [] scope own t xs (fun _ => true) (fun d => Is (g d))) (h2 : BD 𝓜 X (ε.set i (.lm (xs.map g))) rest N R)
    (hy : X.N[i]? = some y := by rfl) (hyl : X.env.scope.names.lookup y = some .local := by rfl) (hsw : swapsWith (.ListComp elt [⟨tg, iter, [], 0⟩] scope pos) (some (.Name y py)) spos.line X.env = pure true := by exact sw_true rfl rfl rfl (by decide +kernel))
    (hs : ∀ x, foldedSetIterable iter X.env x = pure x := by intro _; rfl) (nt : noTm ε = true := by rfl) : BD 𝓜 X ε (.Assign [.Name y py] (.ListComp elt [⟨tg, iter, [], 0⟩] scope pos) spos :: rest) N R :=
  bd_lc i hc hN l (fun ys h => by
    have e := h.exact (g := g) fun _ _ _ _ e => e
    rw [List.filter_eq_self.mpr (fun _ _ => rfl)] at e
    subst e
    exact h2) hy hyl hsw hs nt
section
variable {P : Program} {w : World} {K : PySem.W.Frag} {mg : Str → Option Value} {base : Heap} {f : Addr} {fd : FuncData}
abbrev s_degrees : Stmt := top 31
abbrev N_degrees : List Str := ["garden", "address", "n", "book", "row", "place", "kinds", "counts", "end", "tables", "turn", "made", "many", "parts", "side", "kind", "part", "growth"]
theorem sc_degrees : FnScope N_degrees ["garden", "address", "n"] (defScope s_degrees) := ⟨rfl, rfl, rfl, by decide +kernel, rfl, by decide +kernel, by decide +kernel⟩
/-- the degrees as they are given -/
def degD (g : Gar) (a : Ad) (n : Nat) : PyData := .tuple [.tuple (vecD g.2.length (deg g a.1 a.2 (n - a.1.length) 0)), .tuple (vecD g.2.length (deg g a.1 a.2 (n - a.1.length) 1))]
def degL (g : Gar) (p : MA.Row) (v m : Nat) : PyData := .tuple [.list (vecD g.2.length (deg g p v m 0)), .list (vecD g.2.length (deg g p v m 1))]
def tabL (g : Gar) (e : Nat) : List PyData := (g.2.map webD).map fun d => cntD g.2.length (webU d) e
theorem tabL_get {g : Gar} {e i : Nat} (h : i < g.2.length) : (tabL g e)[i]? = some (cntD g.2.length (growth g i) e) := by
  unfold tabL
  rw [List.getElem?_map, gro_get h, Option.map_some, webU_eq]
def tabsD (g : Gar) : PyData → PyData
  | .int e => .list (tabL g e.toNat)
  | _ => .none
def term (g : Gar) (p : MA.Row) (v m e c s k : Nat) : Nat := deg g p v m e c * cnt (growth g c) e s k
def acc (g : Gar) (p : MA.Row) (v m e i s k : Nat) : Nat := sumR e (fun e' => sumR g.2.length fun c => term g p v m e' c s k) + sumR i (fun c => term g p v m e c s k)
theorem acc_succ (g : Gar) (p : MA.Row) (v m e i s k : Nat) : acc g p v m e (i + 1) s k = acc g p v m e i s k + term g p v m e i s k := by unfold acc; rw [sumR_succ]; omega
theorem acc_next (g : Gar) (p : MA.Row) (v m e s k : Nat) : acc g p v m (e + 1) 0 s k = acc g p v m e g.2.length s k := by unfold acc; rw [sumR_succ, sumR_zero]; omega
def inn (g : Gar) (p : MA.Row) (v m e i s kk s' k : Nat) : Nat := if s' < s ∨ (s' = s ∧ k < kk) then acc g p v m e (i + 1) s' k else acc g p v m e i s' k
theorem inn_zero (g : Gar) (p : MA.Row) (v m e i n : Nat) : mk2 n (inn g p v m e i 0 0) = mk2 n (acc g p v m e i) := mk2_congr fun s' k _ _ => by unfold inn; rw [if_neg (by omega)]
theorem inn_row (g : Gar) (p : MA.Row) (v m e i s n : Nat) : mk2 n (inn g p v m e i s n) = mk2 n (inn g p v m e i (s + 1) 0) := mk2_congr fun s' k _ hk => by
  unfold inn
  by_cases h : s' < s + 1
  · rw [if_pos (by omega), if_pos (by omega)]
  · rw [if_neg (by omega), if_neg (by omega)]
theorem inn_two (g : Gar) (p : MA.Row) (v m e i n : Nat) : mk2 n (inn g p v m e i 2 0) = mk2 n (acc g p v m e (i + 1)) := mk2_congr fun s' k hs _ => by unfold inn; rw [if_pos (by omega)]
theorem inn_old (g : Gar) (p : MA.Row) (v m e i s kk : Nat) : inn g p v m e i s kk s kk = acc g p v m e i s kk := by unfold inn; rw [if_neg (by omega)]
theorem inn_step (g : Gar) (p : MA.Row) (v m e i s kk n : Nat) : mk2 n (fun s' k => if s' = s ∧ k = kk then acc g p v m e (i + 1) s kk else inn g p v m e i s kk s' k) = mk2 n (inn g p v m e i s (kk + 1)) := mk2_congr fun s' k _ _ => by
  unfold inn
  by_cases h : s' = s ∧ k = kk
  · rw [if_pos h, if_pos (by omega), h.1, h.2]
  · rw [if_neg h]
    by_cases h2 : s' < s ∨ (s' = s ∧ k < kk)
    · rw [if_pos h2, if_pos (by omega)]
    · rw [if_neg h2, if_neg (by omega)]
theorem acc_end {g : Gar} (G : GarOk g) {p : MA.Row} {v m s k : Nat} (A : AdOk g (p, v)) (hs : s < 2) : acc g p v m 2 0 s k = deg g p v (m + 1) s k := by
  rw [deg_succ G A hs, sumR_add]
  unfold acc
  rw [show (2 : Nat) = 0 + 1 + 1 from rfl, sumR_succ, sumR_succ, sumR_zero, sumR_zero]
  unfold term
  omega
theorem ok_degrees (G : Glo mg) (cb : CalP P w K mg base 9 "need_born" (spK pureM K (preBorn fun _ _ _ => Is .none))) (cw : CalP P w K mg base 5 "web_around" (spK pureM K preAround)) (ce : CalP P w K mg base 1 "ends_counted" (spK pureM K preCount)) (F : FnP K "degrees" s_degrees f fd) : FnOk P w K mg base CX0 10 f fd ["garden", "address", "n"] (spK pureM K (preBorn fun g a n => Is (degD g a n))) := by
  refine fn_data F sc_degrees (fun es R ⟨g, a, n, _, _, _, _, e, _⟩ => by rw [e]; rfl) fun cdv A outer s H E es R hr ⟨g, a, n, B, O, hn, n100, e, eR⟩ => ?_
  subst e eR
  obtain ⟨p, v⟩ := a
  have hN : N_degrees.Nodup := by decide +kernel
  have lp : p.length ≤ 100 := O.len
  have hn : p.length ≤ n := hn
  have K3 := B.ok.hi
  refine bd_expr (pd_call cb hr (by decide) rfl (pdl_cons (pd_var 0) (pdl_cons (pd_var 1) (pdl_cons (pd_var 2) pdl_nil))) ⟨g, (p, v), n, B, O, hn, n100, rfl, rfl⟩) ?_
  refine bd_asg (pd_tup (pdl_cons (pd_ixT at1 (pd_var 0) pd_int) (pdl_cons (pd_var 1) pdl_nil))) (td_tup rfl (tds_cons (td_name 3 hN) (tds_cons (td_tup rfl (tds_cons (td_name 4 hN) (tds_cons (td_name 5 hN) tds_nil))) tds_nil))) rfl ?_
  refine bd_set 6 hN (d := iD g.2.length) (pd_lenT rfl G.len (pd_var 3) (he := by rw [List.length_map]; rfl)) ?_
  refine bd_set 7 hN (d := degL g p v 0) (pd_to (pd_call ce hr (by decide) rfl (pdl_cons (pd_call cw hr (by decide) rfl (pdl_cons (pd_var 0) (pdl_cons (pd_var 4) pdl_nil)) ⟨g, p, B, O.row, rfl, rfl⟩) (pdl_cons (pd_var 5) (pdl_cons (pd_var 6) pdl_nil))) ⟨web g p, v, g.2.length, (web_ok B.ok O.ok.row).1, K3, rfl, rfl⟩) ?_) ?_
  · unfold cntD degL
    rw [vecD_congr fun i _ => (deg_zero B.ok O.ok (s := 0) (k := i) (by decide)).symm, vecD_congr fun i _ => (deg_zero B.ok O.ok (s := 1) (k := i) (by decide)).symm]
  refine bd_lcA 9 (g := tabsD g) (own := [("end", 8)]) rfl hN (LcD.mk1 (t := .nm 8) (id_tupX (pd_tup (pdl_cons pd_int (pdl_cons pd_int pdl_nil)))) rfl (fun _ _ _ _ _ => td_name 8 hN) (fun d hd => ?_) (by decide) (by exact Nat.le_of_ble_eq_true rfl)) ?_
  · obtain ⟨i, hi⟩ := List.getElem?_of_mem hd
    obtain ⟨hi2, rfl⟩ := pair_get hi
    refine ⟨_, rfl, fun s H C cl fp => ?_⟩
    refine ld_pdX (ld_lcA (own := [("growth", 17)]) (g := fun d => cntD g.2.length (webU d) i) rfl hN (LcD.mk1 (t := .nm 17) (id_tupX (pd_var 3)) rfl (fun _ _ _ _ _ => td_name 17 hN) (fun d hd => ?_) (by decide) (by rw [List.length_map]; omega)))
    obtain ⟨u, hu, rfl⟩ := List.mem_map.mp hd
    refine ⟨_, rfl, fun s H C cl fp => pd_to (pd_call ce hr (by decide) rfl (pdl_cons (pd_var 17) (pdl_cons (pd_var 8) (pdl_cons (pd_var 6) pdl_nil))) ⟨u, i, g.2.length, (B.ok.book u hu).1, K3, rfl, rfl⟩) ?_⟩
    rw [webU_eq]
  refine bd_freeze 9 rfl ?_
  refine bd_cons (N1 := fun ε => ε = [.dat (garD g), .dat (adD (p, v)), .dat (iD n), .dat (.tuple (g.2.map webD)), .dat (rowD p), .dat (iD v), .dat (iD g.2.length), .dat (degL g p v (n - p.length)), .no, .dat (.list [.list (tabL g 0), .list (tabL g 1)]), .no, .no, .no, .no, .no, .no, .no, .no]) (sd_for (t := .nm 10) .never rfl (id_range1 rfl G.range (pd_sub (pd_var 2) (pd_lenT rfl G.len (pd_var 4))) (by rw [List.length_map]; exact ⟨by show _ ≤ (n : Int) - (p.length : Int); omega, by show (n : Int) - (p.length : Int) < _; omega⟩)) (td_name 10 hN)
    (fun _ i ε => ε = [.dat (garD g), .dat (adD (p, v)), .dat (iD n), .dat (.tuple (g.2.map webD)), .dat (rowD p), .dat (iD v), .dat (iD g.2.length), .dat (degL g p v i), .no, .dat (.list [.list (tabL g 0), .list (tabL g 1)]), .no, .no, .no, .no, .no, .no, .no, .no]) ?_ ?_ ?_) ?_
  · intro xs _; rfl
  · rintro xs m d ε1 ex hd rfl
    cases ex
    refine ⟨_, rfl, ?_⟩
    have rep : ∀ s, List.replicate ((g.2.length : Nat) : Int).toNat (PyData.int 0) = vecD g.2.length (acc g p v m 0 0 s) := fun s => (vecD_rep g.2.length).trans (vecD_congr fun _ _ => rfl)
    refine bd_ownT 11 (l := vecD g.2.length (acc g p v m 0 0 0)) (l' := vecD g.2.length (acc g p v m 0 0 1)) hN (rep 0 ▸ ld_rep pd_int (pd_var 6) ⟨by omega, by omega⟩) (rep 1 ▸ ld_rep pd_int (pd_var 6) ⟨by omega, by omega⟩) rfl ?_
    refine bd_le (le_wipe [10]) ?_
    refine bd_cons (N1 := fun ε => ε = [.dat (garD g), .dat (adD (p, v)), .dat (iD n), .dat (.tuple (g.2.map webD)), .dat (rowD p), .dat (iD v), .dat (iD g.2.length), .dat (degL g p v m), .no, .dat (.list [.list (tabL g 0), .list (tabL g 1)]), .no, mk2 g.2.length (acc g p v m 2 0), .no, .no, .no, .no, .no, .no]) (sd_for (t := .nm 8) .never rfl (id_tupX (pd_tup (pdl_cons pd_int (pdl_cons pd_int pdl_nil)))) (td_name 8 hN)
      (fun _ e ε => ε = [.dat (garD g), .dat (adD (p, v)), .dat (iD n), .dat (.tuple (g.2.map webD)), .dat (rowD p), .dat (iD v), .dat (iD g.2.length), .dat (degL g p v m), .no, .dat (.list [.list (tabL g 0), .list (tabL g 1)]), .no, mk2 g.2.length (acc g p v m e 0), .no, .no, .no, .no, .no, .no]) ?_ ?_ ?_) ?_
    · intro xs _; rfl
    · rintro xs e d ε1 ex hd rfl
      cases ex
      obtain ⟨he, rfl⟩ := pair_get hd
      refine ⟨_, rfl, ?_⟩
      refine bd_one (sd_for (t := .tp [.nm 12, .nm 13]) .never rfl (id_zipL rfl G.zip (pd_ixT (two_at (f := fun e => .list (vecD g.2.length (deg g p v m e))) he) (pd_var 7) (pd_var 8)) (pd_ixL (two_at (f := fun e => .list (tabL g e)) he) (pd_var 9) (pd_var 8))) (td_tup rfl (tds_cons (td_name 12 hN) (tds_cons (td_name 13 hN) tds_nil)))
        (fun _ i ε => ε = [.dat (garD g), .dat (adD (p, v)), .dat (iD n), .dat (.tuple (g.2.map webD)), .dat (rowD p), .dat (iD v), .dat (iD g.2.length), .dat (degL g p v m), .dat (iD e), .dat (.list [.list (tabL g 0), .list (tabL g 1)]), .no, mk2 g.2.length (acc g p v m e i), .no, .no, .no, .no, .no, .no]) ?_ ?_ ?_)
      · intro xs _; rfl
      · rintro xs i d ε1 ex hd rfl
        cases ex
        obtain ⟨x, y, hx, hy, rfl⟩ := zipD_get hd
        have hi : i < g.2.length := by have := (List.getElem?_eq_some_iff.mp hx).1; rw [vecD_len] at this; exact this
        rw [vecD_get hi] at hx
        rw [tabL_get hi] at hy
        cases hx
        cases hy
        refine ⟨_, rfl, ?_⟩
        refine bd_one (sd_for (t := .nm 14) .never rfl (id_tupX (pd_tup (pdl_cons pd_int (pdl_cons pd_int pdl_nil)))) (td_name 14 hN)
          (fun _ s ε => ε = [.dat (garD g), .dat (adD (p, v)), .dat (iD n), .dat (.tuple (g.2.map webD)), .dat (rowD p), .dat (iD v), .dat (iD g.2.length), .dat (degL g p v m), .dat (iD e), .dat (.list [.list (tabL g 0), .list (tabL g 1)]), .no, mk2 g.2.length (inn g p v m e i s 0), .dat (iD (deg g p v m e i)), .dat (cntD g.2.length (growth g i) e), .no, .no, .no, .no]) ?_ ?_ ?_)
        · intro xs _
          rw [inn_zero]; rfl
        · rintro xs s d ε1 ex hd rfl
          cases ex
          obtain ⟨hs, rfl⟩ := pair_get hd
          refine ⟨_, rfl, ?_⟩
          refine bd_one (sd_for (t := .tp [.nm 15, .nm 16]) .never rfl (id_enumL rfl G.enumerate (pd_ixT (two_at (f := fun s => .list (vecD g.2.length (cnt (growth g i) e s))) hs) (pd_var 13) (pd_var 14))) (td_tup rfl (tds_cons (td_name 15 hN) (tds_cons (td_name 16 hN) tds_nil)))
            (fun _ kk ε => ε = [.dat (garD g), .dat (adD (p, v)), .dat (iD n), .dat (.tuple (g.2.map webD)), .dat (rowD p), .dat (iD v), .dat (iD g.2.length), .dat (degL g p v m), .dat (iD e), .dat (.list [.list (tabL g 0), .list (tabL g 1)]), .no, mk2 g.2.length (inn g p v m e i s kk), .dat (iD (deg g p v m e i)), .dat (cntD g.2.length (growth g i) e), .dat (iD s), .no, .no, .no]) ?_ ?_ ?_)
          · intro xs _; rfl
          · rintro xs kk d ε1 ex hd rfl
            cases ex
            obtain ⟨e0, he0, rfl⟩ := enumD_get hd
            have hk : kk < g.2.length := by have := (List.getElem?_eq_some_iff.mp he0).1; rw [vecD_len] at this; exact this
            rw [vecD_get hk] at he0
            cases he0
            refine ⟨_, rfl, ?_⟩
            have hc10 : cnt (growth g i) e s kk ≤ 10 := Nat.le_trans List.countP_le_length (B.ok.book _ (growth_mem hi)).1.few
            have cm : CMul (deg g p v m e i : Int) (cnt (growth g i) e s kk : Int) := .inr ⟨by omega, by omega⟩
            refine bd_augT (la := vecD g.2.length (inn g p v m e i s kk 0)) (lb := vecD g.2.length (inn g p v m e i s kk 1)) (s := (s : Int)) (n := (kk : Int)) (j := kk) (old := (inn g p v m e i s kk s kk : Int)) 11 rfl (pd_var 14) (pd_var 15) (pd_mul cm (pd_var 12) (pd_var 16)) (by omega) (by rw [sel2 hs, vecD_len]; exact ixN_n hk) (by rw [sel2 hs]; exact vecD_get hk) ?_
            rw [aug2 hs (x := acc g p v m e (i + 1) s kk) (by rw [inn_old, acc_succ]; unfold term; rw [Int.natCast_add, Int.natCast_mul]), inn_step]
            exact bd_nil ⟨_, le_wipe [15, 16], rfl⟩
          · intro xs ε1 ex h
            cases ex
            refine ⟨_, le_wipe [14], ?_⟩
            rw [h, enumD_len, vecD_len, inn_row]
            rfl
        · intro xs ε1 ex h
          cases ex
          refine ⟨_, le_wipe [12, 13], ?_⟩
          rw [h]
          show wipeE _ _ = _
          rw [show ([PyData.int 0, .int 1] : List PyData).length = 2 from rfl, inn_two]
          rfl
      · intro xs ε1 ex h
        cases ex
        refine ⟨_, le_wipe [8], ?_⟩
        have hz : (zipD (vecD g.2.length (deg g p v m e)) (tabL g e)).length = g.2.length := by
          unfold zipD tabL
          rw [List.length_zipWith, vecD_len, List.length_map, List.length_map, Nat.min_self]
        rw [h, hz, ← mk2_congr (n := g.2.length) (F := acc g p v m (e + 1) 0) (H := acc g p v m e g.2.length) fun s' k _ _ => acc_next g p v m e s' k]
        rfl
    · intro xs ε1 ex h
      cases ex
      exact h
    rintro ε' rfl
    rw [mk2_congr (n := g.2.length) (F := acc g p v m 2 0) (H := deg g p v (m + 1)) fun s' k hs _ => acc_end B.ok O.ok hs]
    exact bd_freezeT 11 rfl (bd_set 7 hN (pd_var 11) (bd_nil ⟨_, le_wipe [11], rfl⟩))
  · intro xs ε1 ex h
    cases ex
    rw [rng_len, List.length_map] at h
    have e : ((n : Int) - (p.length : Int)).toNat = n - p.length := by omega
    rw [← e]
    exact h
  · rintro ε' rfl
    refine bd_ret (pd_tuple rfl G.tuple (ld_pdX (ld_lcA (own := [("row", 4)]) (g := fun d => match d with | .list l => .tuple l | _ => .none) rfl hN (LcD.mk1 (t := .nm 4) (id_tupX (pd_var 7)) rfl (fun _ _ _ _ _ => td_name 4 hN) (fun d hd => ?_) (by decide) (by exact Nat.le_of_ble_eq_true rfl)))))
    have key : ∃ l, d = .list l := by
      rcases List.mem_cons.mp hd with e | hd
      · exact ⟨_, e⟩
      · exact ⟨_, List.mem_singleton.mp hd⟩
    obtain ⟨l, rfl⟩ := key
    exact ⟨_, rfl, fun s H C cl fp => pd_tuple rfl G.tuple (pd_var 4)⟩
end
end TX
end

section
set_option Elab.async false
set_option linter.all false
set_option maxRecDepth 100000
set_option maxHeartbeats 4000000
namespace TX
open PySem PySem.Spec PyProof.Rows L2 DL MA
def kz (g : Gar) (r : MA.Row) : Nat := if r = [] then 0 else kind g r
theorem kz_ne {g : Gar} {r : MA.Row} (h : r ≠ []) : kz g r = kind g r := if_neg h
theorem take_ne {r : MA.Row} {i : Nat} (h : i < r.length) : r.take (i + 1) ≠ [] := by intro z; have := congrArg List.length z; rw [List.length_take, List.length_nil] at this; omega
section
variable {P : Program} {w : World} {K : PySem.W.Frag} {mg : Str → Option Value} {base : Heap} {f : Addr} {fd : FuncData}
abbrev l_row_kind : Stmt := top 46
abbrev N_lrk : List Str := ["_law_garden_here", "_law_row_here", "_law_ties", "_law_kind", "_law_t"]
theorem sc_lrk : FnScope N_lrk ["_law_garden_here", "_law_row_here"] (defScope l_row_kind) := ⟨rfl, rfl, rfl, by decide +kernel, rfl, by decide +kernel, by decide +kernel⟩
theorem ok_lrk (F : FnP K "_law_row_kind" l_row_kind f fd) : FnOk P w K mg base CX0 1 f fd ["_law_garden_here", "_law_row_here"] (spK pureM K (preRow fun g r => Is (iD (kind g r)))) := by
  refine fn_data F sc_lrk (fun es R ⟨g, r, _, _, _, e, _⟩ => by rw [e]; rfl) fun cdv A outer s H E es R hr ⟨g, r, B, O, hne, e, eR⟩ => ?_
  subst e eR
  have hN : N_lrk.Nodup := by decide +kernel
  refine bd_par2 2 3 rfl hN (by decide) (pdl_cons (pd_ixT at1 (pd_ixT at0 (pd_var 0) pd_int) pd_int) (pdl_cons pd_int pdl_nil)) fun l el => ⟨_, _, el, ?_⟩
  refine bd_cons (N1 := fun ε => ε = [.dat (garD g), .dat (rowD r), .dat (.tuple ((web g r).2.map tieD)), .dat (iD (kind g r)), .no]) (sd_for (t := .nm 4) .never rfl (id_tupX (pd_var 1)) (td_name 4 hN)
    (fun _ i ε => ε = [.dat (garD g), .dat (rowD r), .dat (.tuple ((web g (r.take i)).2.map tieD)), .dat (iD (kz g (r.take i))), .no]) ?_ ?_ ?_) ?_
  · intro xs _; rfl
  · rintro xs i d ε1 ex hd rfl
    cases ex
    have hi : i < r.length := by have := (List.getElem?_eq_some_iff.mp hd).1; simpa using this
    rw [row_get hi] at hd
    cases hd
    have h1 := ro_get O.ro i hi
    have hk := kind_lt B.ok O.ro hi
    rw [kind_take hi] at hk
    refine ⟨_, rfl, bd_set 3 hN (pd_ixT at2 (pd_ixT (atN (tie_get h1)) (pd_var 2) (pd_var 4)) pd_int) (bd_set 2 hN (pd_ixT at1 (pd_ixT (atN (gro_get hk)) (pd_ixT at1 (pd_var 0) pd_int) (pd_var 3)) pd_int) (bd_nil ⟨_, le_wipe [4], ?_⟩))⟩
    rw [kz_ne (take_ne hi), web_take hi, kind_take hi]
    rfl
  · intro xs ε1 ex h
    cases ex
    rw [List.length_map, List.take_length, kz_ne hne] at h
    exact h
  · rintro ε' rfl
    exact bd_ret (pd_var 3)
abbrev l_ends : Stmt := top 47
abbrev N_le : List Str := ["_law_garden_here", "_law_row_here", "_law_a", "_law_b", "_law_c", "_law_ends_here", "_law_at_here", "_law_x", "_law_y", "_law_kind", "_law_place"]
theorem sc_le : FnScope N_le ["_law_garden_here", "_law_row_here"] (defScope l_ends) := ⟨rfl, rfl, rfl, by decide +kernel, rfl, by decide +kernel, by decide +kernel⟩
theorem ok_le (G : Glo mg) (F : FnP K "_law_ends" l_ends f fd) : FnOk P w K mg base CX0 1 f fd ["_law_garden_here", "_law_row_here"] (spK pureM K (preRow fun g r => Is (endsD (ends g r)))) := by
  refine fn_data F sc_le (fun es R ⟨g, r, _, _, _, e, _⟩ => by rw [e]; rfl) fun cdv A outer s H E es R hr ⟨g, r, B, O, hne, e, eR⟩ => ?_
  subst e eR
  have hN : N_le.Nodup := by decide +kernel
  have hl : 0 < r.length := List.length_pos_iff.mpr hne
  have h0 := ro_get O.ro 0 hl
  have len := O.len
  refine bd_asg (pd_ixT (atN (tie_get h0)) (pd_ixT at1 (pd_ixT at0 (pd_var 0) pd_int) pd_int) (pd_ixT (atN (n := 0) (row_get hl)) (pd_var 1) pd_int)) (td_tup rfl (tds_cons (td_name 2 hN) (tds_cons (td_name 3 hN) (tds_cons (td_name 4 hN) tds_nil)))) rfl ?_
  refine bd_set 5 hN (d := endsD (ends g (r.take 1))) (pd_tup (pdl_cons (pd_tup (pdl_cons (pd_tup pdl_nil) (pdl_cons (pd_var 2) pdl_nil))) (pdl_cons (pd_tup (pdl_cons (pd_tup pdl_nil) (pdl_cons (pd_var 3) pdl_nil))) pdl_nil)) (he := ?_)) ?_
  · rw [take_snoc hl]; rfl
  refine bd_le (le_wipe [2, 3]) ?_
  refine bd_cons (N1 := fun ε => ∃ rest, ε = .dat (garD g) :: .dat (rowD r) :: .no :: .no :: .dat (iD (kind g r)) :: .dat (endsD (ends g r)) :: rest) (sd_for (t := .nm 6) .never rfl (id_range2 rfl G.range pd_int (pd_lenT rfl G.len (pd_var 1)) (by decide) (by rw [List.length_map]; omega)) (td_name 6 hN)
    (fun _ i ε => i + 1 ≤ r.length ∧ ε = [.dat (garD g), .dat (rowD r), .no, .no, .dat (iD (kind g (r.take (1 + i)))), .dat (endsD (ends g (r.take (1 + i)))), .no, .no, .no, .no, .no]) ?_ ?_ ?_) ?_
  · intro xs _
    refine ⟨hl, ?_⟩
    rw [show r.take (1 + 0) = r.take (0 + 1) from rfl, kind_take hl]
    rfl
  · rintro xs i d ε1 ex hd ⟨hi, rfl⟩
    cases ex
    obtain ⟨hi2, rfl⟩ := rng_iD (lo := 1) hd
    rw [List.length_map] at hi2
    have h1 : 1 + i < r.length := by omega
    have hp : r.take (1 + i) ≠ [] := by intro z; have := congrArg List.length z; rw [List.length_take, List.length_nil] at this; omega
    have hk := kind_lt B.ok O.ro (i := i) (by omega)
    rw [Nat.add_comm i 1] at hk
    have ht := ro_get O.ro (1 + i) h1
    rw [web_kind g hp] at ht
    refine ⟨_, rfl, bd_asg (pd_ixT (atN (tie_get ht)) (pd_ixT at1 (pd_ixT (atN (gro_get hk)) (pd_ixT at1 (pd_var 0) pd_int) (pd_var 4)) pd_int) (pd_ixT (atN (row_get h1)) (pd_var 1) (pd_var 6))) (td_tup rfl (tds_cons (td_name 7 hN) (tds_cons (td_name 8 hN) (tds_cons (td_name 9 hN) tds_nil)))) rfl ?_⟩
    refine bd_set 5 hN (d := endsD (ends g (r.take (1 + i + 1)))) (pd_tuple rfl G.tuple (ld_pdX (ld_lcA (own := [("_law_place", 10)]) (g := pickD (ends g (r.take (1 + i))) (r.take (1 + i))) rfl hN (LcD.mk1 (t := .nm 10) (id_tupX (pd_tup (pdl_cons (pd_var 7) (pdl_cons (pd_var 8) pdl_nil)))) rfl (fun _ _ _ _ _ => td_name 10 hN) (fun d hd => ?_) (by decide) (by exact Nat.le_of_ble_eq_true rfl)))) (he := ?_)) ?_
    · have hd : d = iD (tieAt (growth g (kind g (r.take (1 + i)))) r[1 + i]).1 ∨ d = iD (tieAt (growth g (kind g (r.take (1 + i)))) r[1 + i]).2.1 := by
        rcases List.mem_cons.mp hd with e | hd
        · exact .inl e
        · exact .inr (List.mem_singleton.mp hd)
      have key : ∃ v, d = iD v := by rcases hd with e | e; exact ⟨_, e⟩; exact ⟨_, e⟩
      obtain ⟨v, rfl⟩ := key
      refine ⟨_, rfl, fun s H C cl fp => pd_if (pdt_lt (pd_var 10) pd_int) (fun h => ?_) (fun h => ?_)⟩
      · have hv : v < 2 := by have := of_decide_eq_true h.symm; omega
        refine pd_to (pd_ixT (sd_at hv) (pd_var 5) (pd_var 10)) ?_
        show adD (sd _ v) = adD (pick _ _ (v : Int).toNat)
        rw [Int.toNat_natCast, pick, if_pos hv]
      · have hv : ¬ v < 2 := by have := of_decide_eq_false h.symm; omega
        refine pd_to (pd_tup (pdl_cons (pd_slTo (pd_var 1) (pd_var 6)) (pdl_cons (pd_var 10) pdl_nil))) ?_
        show PyData.tuple [.tuple (cutD (r.map iD) none (some ((1 + i : Nat) : Int))), iD v] = adD (pick _ _ (v : Int).toNat)
        rw [Int.toNat_natCast, pick, if_neg hv, cutD_to, ← List.map_take]
        rfl
    · rw [take_snoc h1, ends_snoc g _ hp, web_kind g hp]
      rfl
    · refine bd_set 4 hN (pd_var 9) (bd_nil ⟨_, le_wipe [6, 7, 8, 9], by omega, ?_⟩)
      rw [show 1 + (i + 1) = (1 + i) + 1 by omega, kind_take h1, web_kind g hp]
      rfl
  · intro xs ε1 ex h
    cases ex
    obtain ⟨_, h⟩ := h
    rw [rng_len, List.length_map] at h
    rw [show 1 + ((r.length : Int) - 1).toNat = r.length by omega, List.take_length] at h
    exact ⟨_, h⟩
  · rintro ε' ⟨rest, rfl⟩
    exact bd_ret (pd_var 5)
abbrev l_at : Stmt := top 48
abbrev N_la : List Str := ["_law_web_here", "_law_side", "_law_place", "_law_kinds", "_law_d", "_law_tie_here"]
theorem sc_la : FnScope N_la ["_law_web_here", "_law_side", "_law_place", "_law_kinds"] (defScope l_at) := ⟨rfl, rfl, rfl, by decide +kernel, rfl, by decide +kernel, by decide +kernel⟩
theorem tieU_eq (t : Tie) : tieU (tieD t) = t := rfl
theorem pl_at {t : Tie} {s : Nat} (h : s < 2) : atI [iD t.1, iD t.2.1, iD t.2.2] (s : Int) = some (iD (pl t s)) := by
  refine atN ?_
  match s, h with
  | 0, _ => rfl
  | 1, _ => rfl
def hitF (p s k : Nat) (d : PyData) : Bool := pl (tieU d) s == p && (tieU d).2.2 == k
theorem hit_len (ts : List Tie) (p s k : Nat) : ((((ts.map tieD).filter (hitF p s k)).map id).length : Int) = (cntL ts p s k : Int) := by
  rw [List.map_id, List.filter_map, List.length_map, cntL, List.countP_eq_length_filter]
  rfl
theorem dec_nat {a b : Nat} : decide ((a : Int) = (b : Int)) = (a == b) := by
  rw [Bool.eq_iff_iff, decide_eq_true_eq, beq_iff_eq]; omega
def preLat (es : List Ent) (R : PP) : Prop := ∃ (v : Web) (s p k : Nat), v.2.length ≤ 10 ∧ s < 2 ∧ k ≤ 3 ∧ es = [.dat (webD v), .dat (iD s), .dat (iD p), .dat (iD k)] ∧ R = Is (.list (vecD k (cnt v p s)))
theorem ok_la (G : Glo mg) (F : FnP K "_law_at" l_at f fd) : FnOk P w K mg base CX0 1 f fd ["_law_web_here", "_law_side", "_law_place", "_law_kinds"] (spK pureM K preLat) := by
  refine fn_data F sc_la (fun es R ⟨v, s, p, k, _, _, _, e, _⟩ => by rw [e]; rfl) fun cdv A outer s0 H E es R hr ⟨v, s, p, k, W, hs, hk, e, eR⟩ => ?_
  subst e eR
  have hN : N_la.Nodup := by decide +kernel
  refine bd_ret (pd_to (ld_pdX (ld_lcA (own := [("_law_d", 4)]) (g := fun d => match d with | .int d => iD (cnt v p s d.toNat) | _ => .none) rfl hN (LcD.mk1 (t := .nm 4) (id_range1 rfl G.range (pd_var 3) (by omega)) rfl (fun _ _ _ _ _ => td_name 4 hN) (fun d hd => ?_) (by decide) (by rw [rng_len]; omega)))) ?_)
  · obtain ⟨i, hi⟩ := List.getElem?_of_mem hd
    obtain ⟨_, rfl⟩ := rng_iD (lo := 0) hi
    rw [Nat.zero_add]
    refine ⟨_, rfl, fun s1 H C cl fp => ?_⟩
    refine pd_to (pd_lenL rfl G.len (ld_pdX (ld_lcX (own := [("_law_tie_here", 5)]) (g := id) rfl hN (LcD.mkIf (f := hitF p s i) (t := .nm 5) (id_tupX (pd_ixT at1 (pd_var 0) pd_int)) rfl (fun _ _ _ _ _ => td_name 5 hN) (fun d hd => ?_) (by decide) (by rw [List.length_map]; omega))))) ?_
    · obtain ⟨t, ht, rfl⟩ := List.mem_map.mp hd
      refine ⟨_, rfl, fun s H C cl fp => pdt_to (pdt_w (pdw_andV (pdt_eqI (pd_ixT (pl_at hs) (pd_var 5) (pd_var 1)) (pd_var 2)) fun _ => pdw_and1 (pdt_eqI (pd_ixT at2 (pd_var 5) pd_int) (pd_var 4)))) ?_, fun _ s H C cl fp => pd_var 5⟩
      rw [dec_nat, dec_nat]; rfl
    · exact congrArg PyData.int (hit_len v.2 p s i)
  · congr 1
    unfold rng vecD vec
    rw [List.map_map, List.map_map]
    refine List.map_congr_left fun i _ => ?_
    show iD (cnt v p s ((0 : Int) + (i : Int)).toNat) = iD (cnt v p s i)
    rw [show ((0 : Int) + (i : Int)).toNat = i by omega]
end
end TX
end

section
set_option Elab.async false
set_option linter.all false
set_option maxRecDepth 100000
set_option maxHeartbeats 4000000
namespace TX
open PySem PySem.Spec PyProof.Rows L2 DL MA
/-- partial sums by the growths -/
def tsum (g : Gar) (D : Nat → Nat → Nat) (i s k : Nat) : Nat := sumR i fun c => D 0 c * cnt (growth g c) 0 s k + D 1 c * cnt (growth g c) 1 s k
theorem tsum_succ (g : Gar) (D : Nat → Nat → Nat) (i s k : Nat) : tsum g D (i + 1) s k = tsum g D i s k + D 0 i * cnt (growth g i) 0 s k + D 1 i * cnt (growth g i) 1 s k := by unfold tsum; rw [sumR_succ]; omega
theorem tsum_end {g : Gar} (G : GarOk g) {p : MA.Row} {v m s k : Nat} (A : AdOk g (p, v)) (hs : s < 2) : tsum g (deg g p v m) g.2.length s k = deg g p v (m + 1) s k := (deg_succ G A hs).symm
def sumsD (K : Nat) (a : Nat → Nat) : PyData → PyData
  | .int d => iD (a d.toNat)
  | _ => .none
theorem rng_vec (n : Nat) (a : Nat → Nat) : (rng 0 n).map (sumsD n a) = vecD n a := by
  unfold rng vecD vec
  rw [List.map_map, List.map_map]
  refine List.map_congr_left fun i _ => ?_
  show iD (a ((0 : Int) + (i : Int)).toNat) = iD (a i)
  rw [show ((0 : Int) + (i : Int)).toNat = i by omega]
/-- what next_degrees is asked: both as tuples -/
def degV (n : Nat) (D : Nat → Nat → Nat) : PyData := .tuple [.tuple (vecD n (D 0)), .tuple (vecD n (D 1))]
theorem cnt_le {g : Gar} (G : GarOk g) {i : Nat} (hi : i < g.2.length) (e s k : Nat) : cnt (growth g i) e s k ≤ 10 := Nat.le_trans List.countP_le_length (G.book _ (growth_mem hi)).1.few
theorem bd_parDO {𝓜 : Md → Prop} {X : Cx} {ε : List Ent} {a b : Expr} {pos : Pos} {rest : List Stmt} {N : List Ent → Prop} {R : PP} (i j : Nat) {x y : Str} {px py pt : Pos} {kt k2 pt2} {l : List PyData} {d : PyData} (hc : X.calm = true) (hN : X.N.Nodup) (hij : i ≠ j) (ha : PD 𝓜 X ε a (Is d)) (hb : LD 𝓜 X ε b (IsL l)) (h2 : BD 𝓜 X ((ε.set i (.dat d)).set j (.lm l)) rest N R)
    (hi : X.N[i]? = some x := by rfl) (hj : X.N[j]? = some y := by rfl) (hx : X.env.scope.names.lookup x = some .local := by rfl) (hy : X.env.scope.names.lookup y = some .local := by rfl)
    (hw : swappedStores [.Tuple [.Name x px, .Name y py] kt pt] (.Tuple [a, b] k2 pt2) X.env = pure (some [x, y]) := by rfl)
    (hs : swapsWithSole [.Tuple [.Name x px, .Name y py] kt pt] (.Tuple [a, b] k2 pt2) pos.line X.env = pure false := by rfl)
    (h1 : starEach [a, b] X.env = (false, eval a X.env) :: starEach [b] X.env := by rfl) (h1' : starEach [b] X.env = (false, eval b X.env) :: starEach [] X.env := by rfl) (nt : noTm ε = true := by rfl) : BD 𝓜 X ε (.Assign [.Tuple [.Name x px, .Name y py] kt pt] (.Tuple [a, b] k2 pt2) pos :: rest) N R :=
  bd_cons (N1 := fun ε' => ε' = (ε.set i (.dat d)).set j (.lm l)) (ps_mono (ps_par hc hN hi hj hij hx hy (pa_cons ha (pa_cons hb pa_nil h1') h1) hw hs) fun D σ H ⟨md, Mo, C, M, F, m, o, q, qr⟩ => ⟨md, Mo, C, M, F, m, o, fun v H1 d1 p1 r1 i1 z1 => by
    cases p1
    have o1 := o.rel r1 i1
    refine ⟨md, Mo, C, M, F, m, o1, fun p2 H2 ys es pe r2 i2 hp2 hp2' z2 => ?_⟩
    cases pe
    exact ⟨v, .ref p2, rfl, q _ H2 _ _ _ rfl ((o1.set i z1).own j (noTm_set nt rfl) hp2 r2 i2 hp2' z2)⟩⟩) fun ε' e => by subst e; exact h2
section
variable {P : Program} {w : World} {K : PySem.W.Frag} {mg : Str → Option Value} {base : Heap} {f : Addr} {fd : FuncData}
abbrev l_next : Stmt := top 53
abbrev N_ln : List Str := ["_law_garden_here", "_law_both", "_law_kinds", "_law_found", "_law_side", "_law_total", "_law_c", "_law_growth_here", "_law_near", "_law_far", "_law_d"]
theorem sc_ln : FnScope N_ln ["_law_garden_here", "_law_both"] (defScope l_next) := ⟨rfl, rfl, rfl, by decide +kernel, rfl, by decide +kernel, by decide +kernel⟩
def preNext (es : List Ent) (R : PP) : Prop := ∃ (g : Gar) (D : Nat → Nat → Nat), GOk g ∧ es = [.dat (garD g), .dat (degV g.2.length D)] ∧ R = Is (degV g.2.length fun s k => tsum g D g.2.length s k)
theorem ok_ln (G : Glo mg) (ca : CalP P w K mg base 1 "_law_at" (spK pureM K preLat)) (F : FnP K "_law_next_degrees" l_next f fd) : FnOk P w K mg base CX0 2 f fd ["_law_garden_here", "_law_both"] (spK pureM K preNext) := by
  refine fn_data F sc_ln (fun es R ⟨g, D, _, e, _⟩ => by rw [e]; rfl) fun cdv A outer s0 H E es R hr ⟨g, D, B, e, eR⟩ => ?_
  subst e eR
  have hN : N_ln.Nodup := by decide +kernel
  have K3 := B.ok.hi
  have rep : List.replicate ((g.2.length : Nat) : Int).toNat (PyData.int 0) = vecD g.2.length (fun _ => 0) := vecD_rep g.2.length
  refine bd_parDO 2 3 (d := iD g.2.length) rfl hN (by decide) (pd_lenT rfl G.len (pd_ixT at1 (pd_var 0) pd_int) (he := by rw [List.length_map]; rfl)) (ld_lst pdl_nil) ?_
  refine bd_cons (N1 := fun ε => ∃ rest, ε = .dat (garD g) :: .dat (degV g.2.length D) :: .dat (iD g.2.length) :: .lm [.tuple (vecD g.2.length (tsum g D g.2.length 0)), .tuple (vecD g.2.length (tsum g D g.2.length 1))] :: rest) (sd_for (t := .nm 4) .never rfl (id_tupX (pd_tup (pdl_cons pd_int (pdl_cons pd_int pdl_nil)))) (td_name 4 hN)
    (fun _ s ε => ε = [.dat (garD g), .dat (degV g.2.length D), .dat (iD g.2.length), .lm ((List.range s).map fun s' => .tuple (vecD g.2.length (tsum g D g.2.length s'))), .no, .no, .no, .no, .no, .no, .no]) ?_ ?_ ?_) ?_
  · intro xs _; rfl
  · rintro xs s d ε1 ex hd rfl
    cases ex
    obtain ⟨hs, rfl⟩ := pair_get hd
    refine ⟨_, rfl, ?_⟩
    refine bd_set 5 hN (d := .list (vecD g.2.length (tsum g D 0 s))) (pd_to (ld_pdX (ld_rep pd_int (pd_var 2) ⟨by omega, by omega⟩)) (by rw [rep]; rfl)) ?_
    refine bd_cons (N1 := fun ε => ε = [.dat (garD g), .dat (degV g.2.length D), .dat (iD g.2.length), .lm ((List.range s).map fun s' => .tuple (vecD g.2.length (tsum g D g.2.length s'))), .dat (iD s), .dat (.list (vecD g.2.length (tsum g D g.2.length s))), .no, .no, .no, .no, .no]) (sd_for (t := .tp [.nm 6, .nm 7]) .never rfl (id_enumT rfl G.enumerate (pd_ixT at1 (pd_var 0) pd_int)) (td_tup rfl (tds_cons (td_name 6 hN) (tds_cons (td_name 7 hN) tds_nil)))
      (fun _ i ε => ε = [.dat (garD g), .dat (degV g.2.length D), .dat (iD g.2.length), .lm ((List.range s).map fun s' => .tuple (vecD g.2.length (tsum g D g.2.length s'))), .dat (iD s), .dat (.list (vecD g.2.length (tsum g D i s))), .no, .no, .no, .no, .no]) ?_ ?_ ?_) ?_
    · intro xs _; rfl
    · rintro xs i d ε1 ex hd rfl
      cases ex
      obtain ⟨e0, he0, rfl⟩ := enumD_get hd
      have hi : i < g.2.length := by have := (List.getElem?_eq_some_iff.mp he0).1; rw [List.length_map] at this; exact this
      rw [gro_get hi] at he0
      cases he0
      refine ⟨_, rfl, ?_⟩
      have few := (B.ok.book _ (growth_mem hi)).1.few
      refine bd_asg (pd_tup (pdl_cons (pd_call ca hr (by decide) rfl (pdl_cons (pd_var 7) (pdl_cons (pd_var 4) (pdl_cons pd_int (pdl_cons (pd_var 2) pdl_nil)))) ⟨growth g i, s, 0, g.2.length, few, hs, K3, rfl, rfl⟩) (pdl_cons (pd_call ca hr (by decide) rfl (pdl_cons (pd_var 7) (pdl_cons (pd_var 4) (pdl_cons pd_int (pdl_cons (pd_var 2) pdl_nil)))) ⟨growth g i, s, 1, g.2.length, few, hs, K3, rfl, rfl⟩) pdl_nil))) (td_tup rfl (tds_cons (td_name 8 hN) (tds_cons (td_name 9 hN) tds_nil))) rfl ?_
      refine bd_set 5 hN (d := .list (vecD g.2.length (tsum g D (i + 1) s))) (pd_to (ld_pdX (ld_lcA (own := [("_law_d", 10)]) (g := sumsD g.2.length (tsum g D (i + 1) s)) rfl hN (LcD.mk1 (t := .nm 10) (id_range1 rfl G.range (pd_var 2) (by omega)) rfl (fun _ _ _ _ _ => td_name 10 hN) (fun d hd => ?_) (by decide) (by rw [rng_len]; omega)))) (congrArg PyData.list (rng_vec _ _))) ?_
      · obtain ⟨j, hj⟩ := List.getElem?_of_mem hd
        obtain ⟨hj2, rfl⟩ := rng_iD (lo := 0) hj
        rw [Nat.zero_add]
        have hj3 : j < g.2.length := by omega
        have c0 := cnt_le B.ok hi 0 s j
        have c1 := cnt_le B.ok hi 1 s j
        have cm0 : CMul (D 0 i : Int) (cnt (growth g i) 0 s j : Int) := .inr ⟨by omega, by omega⟩
        have cm1 : CMul (D 1 i : Int) (cnt (growth g i) 1 s j : Int) := .inr ⟨by omega, by omega⟩
        refine ⟨_, rfl, fun s1 H C cl fp => pd_to (pd_add (pd_add (pd_ixL (atN (vecD_get hj3)) (pd_var 5) (pd_var 10)) (pd_mul cm0 (pd_ixT (atN (vecD_get hi)) (pd_ixT at0 (pd_var 1) pd_int) (pd_var 6)) (pd_ixL (atN (vecD_get hj3)) (pd_var 8) (pd_var 10)))) (pd_mul cm1 (pd_ixT (atN (vecD_get hi)) (pd_ixT at1 (pd_var 1) pd_int) (pd_var 6)) (pd_ixL (atN (vecD_get hj3)) (pd_var 9) (pd_var 10)))) ?_⟩
        show _ = iD (tsum g D (i + 1) s ((j : Int).toNat))
        rw [Int.toNat_natCast, tsum_succ]
        refine congrArg PyData.int ?_
        rw [Int.natCast_add, Int.natCast_add, Int.natCast_mul, Int.natCast_mul]
      · exact bd_nil ⟨_, le_wipe [6, 7, 8, 9], rfl⟩
    · intro xs ε1 ex h
      cases ex
      rw [enumD_len, List.length_map] at h
      exact h
    rintro ε' rfl
    refine bd_app 3 rfl (P := Is (.tuple (vecD g.2.length (tsum g D g.2.length s)))) (pd_tuple rfl G.tuple (pd_var 5)) (by rw [List.length_map, List.length_range]; omega) fun d e => ?_
    cases e
    refine bd_nil ⟨_, le_wipe [4, 5], ?_⟩
    rw [List.range_succ, List.map_append]
    rfl
  · intro xs ε1 ex h
    cases ex
    exact ⟨_, h⟩
  · rintro ε' ⟨rest, rfl⟩
    exact bd_freeze 3 rfl (bd_ret (pd_tuple rfl G.tuple (pd_var 3)))
end
end TX
end

section
set_option Elab.async false
set_option linter.all false
set_option maxRecDepth 100000
set_option maxHeartbeats 4000000
namespace TX
open PySem PySem.Spec PyProof.Rows L2 DL MA
section
variable {P : Program} {w : World} {K : PySem.W.Frag} {mg : Str → Option Value} {base : Heap} {f : Addr} {fd : FuncData}
abbrev l_deg : Stmt := top 49
abbrev N_ld : List Str := ["_law_garden_here", "_law_address", "_law_n", "_law_row_here", "_law_place", "_law_book_here", "_law_kinds", "_law_web_here", "_law_side", "_law_both", "_law_tables", "_law_turn", "_law_found", "_law_total", "_law_c", "_law_near", "_law_far", "_law_it", "_law_d"]
theorem sc_ld : FnScope N_ld ["_law_garden_here", "_law_address", "_law_n"] (defScope l_deg) := ⟨rfl, rfl, rfl, by decide +kernel, rfl, by decide +kernel, by decide +kernel⟩
def bothL (g : Gar) (p : MA.Row) (v m : Nat) : PyData := .list [.list (vecD g.2.length (deg g p v m 0)), .list (vecD g.2.length (deg g p v m 1))]
/-- one side's table: each growth's counts at both of its ends -/
def tab2 (g : Gar) (s : Nat) : List PyData := (g.2.map webD).map fun d => .tuple [.list (vecD g.2.length (cnt (webU d) 0 s)), .list (vecD g.2.length (cnt (webU d) 1 s))]
theorem tab2_get {g : Gar} {s i : Nat} (h : i < g.2.length) : (tab2 g s)[i]? = some (.tuple [.list (vecD g.2.length (cnt (growth g i) 0 s)), .list (vecD g.2.length (cnt (growth g i) 1 s))]) := by
  unfold tab2
  rw [List.getElem?_map, gro_get h, Option.map_some, webU_eq]
def tabs2 (g : Gar) : PyData → PyData
  | .int s => .list (tab2 g s.toNat)
  | _ => .none
def first (g : Gar) (p : MA.Row) (v : Nat) : PyData → PyData
  | .int s => .list (vecD g.2.length (cnt (web g p) v s.toNat))
  | _ => .none
theorem ok_ld (G : Glo mg) (ck : CalP P w K mg base 1 "_law_row_kind" (spK pureM K (preRow fun g r => Is (iD (kind g r))))) (ca : CalP P w K mg base 1 "_law_at" (spK pureM K preLat)) (F : FnP K "_law_degrees" l_deg f fd) : FnOk P w K mg base CX0 2 f fd ["_law_garden_here", "_law_address", "_law_n"] (spK pureM K (preBorn fun g a n => Is (degD g a n))) := by
  refine fn_data F sc_ld (fun es R ⟨g, a, n, _, _, _, _, e, _⟩ => by rw [e]; rfl) fun cdv A outer s0 H E es R hr ⟨g, a, n, B, O, hn, n100, e, eR⟩ => ?_
  subst e eR
  obtain ⟨p, v⟩ := a
  have hN : N_ld.Nodup := by decide +kernel
  have lp : p.length ≤ 100 := O.len
  have hn : p.length ≤ n := hn
  have K3 := B.ok.hi
  have W := (web_ok B.ok O.ok.row).1
  have rep : List.replicate ((g.2.length : Nat) : Int).toNat (PyData.int 0) = vecD g.2.length (fun _ => 0) := vecD_rep g.2.length
  refine bd_asg (pd_var 1) (td_tup rfl (tds_cons (td_name 3 hN) (tds_cons (td_name 4 hN) tds_nil))) rfl ?_
  refine bd_asg (d := .tuple [.tuple (g.2.map webD), iD g.2.length]) (pd_tup (pdl_cons (pd_ixT at1 (pd_var 0) pd_int) (pdl_cons (pd_lenT rfl G.len (pd_ixT at1 (pd_var 0) pd_int) (he := by rw [List.length_map] <;> rfl)) pdl_nil))) (td_tup rfl (tds_cons (td_name 5 hN) (tds_cons (td_name 6 hN) tds_nil))) rfl ?_
  refine bd_set 7 hN (d := webD (web g p)) (pd_if (pdt_to (pdt_eqD (d2 := .tuple []) hr.units (row_shaped B O.row) (by decide +kernel) (pd_var 3) (pd_tup pdl_nil)) (eqv_row p [])) (fun h => ?_) (fun h => ?_)) ?_
  · have ha := of_decide_eq_true h.symm
    subst ha
    exact pd_ixT at0 (pd_var 0) pd_int
  · have ha := of_decide_eq_false h.symm
    have hk := ((web_ok B.ok O.ok.row).2 ha).1
    rw [web_kind g ha]
    exact pd_ixT (atN (gro_get hk)) (pd_var 5) (pd_call ck hr (by decide) rfl (pdl_cons (pd_var 0) (pdl_cons (pd_var 3) pdl_nil)) ⟨g, p, B, O.row, ha, rfl, rfl⟩)
  refine bd_set 9 hN (d := bothL g p v 0) (pd_to (ld_pdX (ld_lcA (own := [("_law_side", 8)]) (g := first g p v) rfl hN (LcD.mk1 (t := .nm 8) (id_tupX (pd_tup (pdl_cons pd_int (pdl_cons pd_int pdl_nil)))) rfl (fun _ _ _ _ _ => td_name 8 hN) (fun d hd => ?_) (by decide) (by exact Nat.le_of_ble_eq_true rfl)))) ?_) ?_
  · obtain ⟨i, hi⟩ := List.getElem?_of_mem hd
    obtain ⟨hi2, rfl⟩ := pair_get hi
    exact ⟨_, rfl, fun s H C cl fp => pd_call ca hr (by decide) rfl (pdl_cons (pd_var 7) (pdl_cons (pd_var 8) (pdl_cons (pd_var 4) (pdl_cons (pd_var 6) pdl_nil)))) ⟨web g p, i, v, g.2.length, W.few, hi2, K3, rfl, rfl⟩⟩
  · show PyData.list [.list (vecD g.2.length (cnt (web g p) v 0)), .list (vecD g.2.length (cnt (web g p) v 1))] = _
    unfold bothL
    rw [vecD_congr fun i _ => (deg_zero B.ok O.ok (s := 0) (k := i) (by decide)).symm, vecD_congr fun i _ => (deg_zero B.ok O.ok (s := 1) (k := i) (by decide)).symm]
  refine bd_lcA 10 (g := tabs2 g) (own := [("_law_side", 8)]) rfl hN (LcD.mk1 (t := .nm 8) (id_tupX (pd_tup (pdl_cons pd_int (pdl_cons pd_int pdl_nil)))) rfl (fun _ _ _ _ _ => td_name 8 hN) (fun d hd => ?_) (by decide) (by exact Nat.le_of_ble_eq_true rfl)) ?_
  · obtain ⟨i, hi⟩ := List.getElem?_of_mem hd
    obtain ⟨hi2, rfl⟩ := pair_get hi
    refine ⟨_, rfl, fun s H C cl fp => ?_⟩
    refine ld_pdX (ld_lcA (own := [("_law_it", 17)]) (g := fun d => .tuple [.list (vecD g.2.length (cnt (webU d) 0 i)), .list (vecD g.2.length (cnt (webU d) 1 i))]) rfl hN (LcD.mk1 (t := .nm 17) (id_tupX (pd_var 5)) rfl (fun _ _ _ _ _ => td_name 17 hN) (fun d hd => ?_) (by decide) (by rw [List.length_map]; omega)))
    obtain ⟨u, hu, rfl⟩ := List.mem_map.mp hd
    have few := (B.ok.book u hu).1.few
    refine ⟨_, rfl, fun s H C cl fp => pd_to (pd_tup (pdl_cons (pd_call ca hr (by decide) rfl (pdl_cons (pd_var 17) (pdl_cons (pd_var 8) (pdl_cons pd_int (pdl_cons (pd_var 6) pdl_nil)))) ⟨u, i, 0, g.2.length, few, hi2, K3, rfl, rfl⟩) (pdl_cons (pd_call ca hr (by decide) rfl (pdl_cons (pd_var 17) (pdl_cons (pd_var 8) (pdl_cons pd_int (pdl_cons (pd_var 6) pdl_nil)))) ⟨u, i, 1, g.2.length, few, hi2, K3, rfl, rfl⟩) pdl_nil))) ?_⟩
    rw [webU_eq]
  refine bd_freeze 10 rfl ?_
  refine bd_cons (N1 := fun ε => ∃ rest, ε = .dat (garD g) :: .dat (adD (p, v)) :: .dat (iD n) :: .dat (rowD p) :: .dat (iD v) :: .dat (.tuple (g.2.map webD)) :: .dat (iD g.2.length) :: .dat (webD (web g p)) :: .no :: .dat (bothL g p v (n - p.length)) :: rest) (sd_for (t := .nm 11) .never rfl (id_range1 rfl G.range (pd_sub (pd_var 2) (pd_lenT rfl G.len (pd_var 3))) (by rw [List.length_map]; exact ⟨by show _ ≤ (n : Int) - (p.length : Int); omega, by show (n : Int) - (p.length : Int) < _; omega⟩)) (td_name 11 hN)
    (fun _ m ε => ε = [.dat (garD g), .dat (adD (p, v)), .dat (iD n), .dat (rowD p), .dat (iD v), .dat (.tuple (g.2.map webD)), .dat (iD g.2.length), .dat (webD (web g p)), .no, .dat (bothL g p v m), .dat (.list [.list (tab2 g 0), .list (tab2 g 1)]), .no, .no, .no, .no, .no, .no, .no, .no]) ?_ ?_ ?_) ?_
  · intro xs _; rfl
  · rintro xs m d ε1 ex hd rfl
    cases ex
    refine ⟨_, rfl, ?_⟩
    refine bd_le (le_wipe [11]) ?_
    refine bd_ownX 12 hN (ld_lst pdl_nil) ?_
    refine bd_cons (N1 := fun ε => ε = [.dat (garD g), .dat (adD (p, v)), .dat (iD n), .dat (rowD p), .dat (iD v), .dat (.tuple (g.2.map webD)), .dat (iD g.2.length), .dat (webD (web g p)), .no, .dat (bothL g p v m), .dat (.list [.list (tab2 g 0), .list (tab2 g 1)]), .no, .lm [.list (vecD g.2.length (tsum g (deg g p v m) g.2.length 0)), .list (vecD g.2.length (tsum g (deg g p v m) g.2.length 1))], .no, .no, .no, .no, .no, .no]) (sd_for (t := .nm 8) .never rfl (id_tupX (pd_tup (pdl_cons pd_int (pdl_cons pd_int pdl_nil)))) (td_name 8 hN)
      (fun _ s ε => ε = [.dat (garD g), .dat (adD (p, v)), .dat (iD n), .dat (rowD p), .dat (iD v), .dat (.tuple (g.2.map webD)), .dat (iD g.2.length), .dat (webD (web g p)), .no, .dat (bothL g p v m), .dat (.list [.list (tab2 g 0), .list (tab2 g 1)]), .no, .lm ((List.range s).map fun s' => .list (vecD g.2.length (tsum g (deg g p v m) g.2.length s'))), .no, .no, .no, .no, .no, .no]) ?_ ?_ ?_) ?_
    · intro xs _; rfl
    · rintro xs s d ε1 ex hd rfl
      cases ex
      obtain ⟨hs, rfl⟩ := pair_get hd
      refine ⟨_, rfl, ?_⟩
      refine bd_set 13 hN (d := .list (vecD g.2.length (tsum g (deg g p v m) 0 s))) (pd_to (ld_pdX (ld_rep pd_int (pd_var 6) ⟨by omega, by omega⟩)) (by rw [rep]; rfl)) ?_
      refine bd_cons (N1 := fun ε => ε = [.dat (garD g), .dat (adD (p, v)), .dat (iD n), .dat (rowD p), .dat (iD v), .dat (.tuple (g.2.map webD)), .dat (iD g.2.length), .dat (webD (web g p)), .dat (iD s), .dat (bothL g p v m), .dat (.list [.list (tab2 g 0), .list (tab2 g 1)]), .no, .lm ((List.range s).map fun s' => .list (vecD g.2.length (tsum g (deg g p v m) g.2.length s'))), .dat (.list (vecD g.2.length (tsum g (deg g p v m) g.2.length s))), .no, .no, .no, .no, .no]) (sd_for (t := .tp [.nm 14, .tp [.nm 15, .nm 16]]) .never rfl (id_enumL rfl G.enumerate (pd_ixL (two_at (f := fun s => .list (tab2 g s)) hs) (pd_var 10) (pd_var 8))) (td_tup rfl (tds_cons (td_name 14 hN) (tds_cons (td_tup rfl (tds_cons (td_name 15 hN) (tds_cons (td_name 16 hN) tds_nil))) tds_nil)))
        (fun _ i ε => ε = [.dat (garD g), .dat (adD (p, v)), .dat (iD n), .dat (rowD p), .dat (iD v), .dat (.tuple (g.2.map webD)), .dat (iD g.2.length), .dat (webD (web g p)), .dat (iD s), .dat (bothL g p v m), .dat (.list [.list (tab2 g 0), .list (tab2 g 1)]), .no, .lm ((List.range s).map fun s' => .list (vecD g.2.length (tsum g (deg g p v m) g.2.length s'))), .dat (.list (vecD g.2.length (tsum g (deg g p v m) i s))), .no, .no, .no, .no, .no]) ?_ ?_ ?_) ?_
      · intro xs _; rfl
      · rintro xs i d ε1 ex hd rfl
        cases ex
        obtain ⟨e0, he0, rfl⟩ := enumD_get hd
        have hi : i < g.2.length := by have := (List.getElem?_eq_some_iff.mp he0).1; unfold tab2 at this; rw [List.length_map, List.length_map] at this; exact this
        rw [tab2_get hi] at he0
        cases he0
        refine ⟨_, rfl, ?_⟩
        refine bd_set 13 hN (d := .list (vecD g.2.length (tsum g (deg g p v m) (i + 1) s))) (pd_to (ld_pdX (ld_lcA (own := [("_law_d", 18)]) (g := sumsD g.2.length (tsum g (deg g p v m) (i + 1) s)) rfl hN (LcD.mk1 (t := .nm 18) (id_range1 rfl G.range (pd_var 6) (by omega)) rfl (fun _ _ _ _ _ => td_name 18 hN) (fun d hd => ?_) (by decide) (by rw [rng_len]; omega)))) (congrArg PyData.list (rng_vec _ _))) ?_
        · obtain ⟨j, hj⟩ := List.getElem?_of_mem hd
          obtain ⟨hj2, rfl⟩ := rng_iD (lo := 0) hj
          rw [Nat.zero_add]
          have hj3 : j < g.2.length := by omega
          have c0 := cnt_le B.ok hi 0 s j
          have c1 := cnt_le B.ok hi 1 s j
          have cm0 : CMul (deg g p v m 0 i : Int) (cnt (growth g i) 0 s j : Int) := .inr ⟨by omega, by omega⟩
          have cm1 : CMul (deg g p v m 1 i : Int) (cnt (growth g i) 1 s j : Int) := .inr ⟨by omega, by omega⟩
          refine ⟨_, rfl, fun s1 H C cl fp => pd_to (pd_add (pd_add (pd_ixL (atN (vecD_get hj3)) (pd_var 13) (pd_var 18)) (pd_mul cm0 (pd_ixL (atN (vecD_get hi)) (pd_ixL at0 (pd_var 9) pd_int) (pd_var 14)) (pd_ixL (atN (vecD_get hj3)) (pd_var 15) (pd_var 18)))) (pd_mul cm1 (pd_ixL (atN (vecD_get hi)) (pd_ixL at1 (pd_var 9) pd_int) (pd_var 14)) (pd_ixL (atN (vecD_get hj3)) (pd_var 16) (pd_var 18)))) ?_⟩
          show _ = iD (tsum g (deg g p v m) (i + 1) s ((j : Int).toNat))
          rw [Int.toNat_natCast, tsum_succ]
          refine congrArg PyData.int ?_
          rw [Int.natCast_add, Int.natCast_add, Int.natCast_mul, Int.natCast_mul]
        · exact bd_nil ⟨_, le_wipe [14, 15, 16], rfl⟩
      · intro xs ε1 ex h
        cases ex
        rw [enumD_len] at h
        unfold tab2 at h
        rw [List.length_map, List.length_map] at h
        exact h
      rintro ε' rfl
      refine bd_app 12 rfl (pd_var 13) (by rw [List.length_map, List.length_range]; omega) fun d e => ?_
      cases e
      refine bd_nil ⟨_, le_wipe [8, 13], ?_⟩
      rw [List.range_succ, List.map_append]
      rfl
    · intro xs ε1 ex h
      cases ex
      exact h
    rintro ε' rfl
    refine bd_freeze 12 rfl (bd_set 9 hN (pd_var 12) (bd_nil ⟨_, le_wipe [12], ?_⟩))
    unfold bothL
    rw [vecD_congr fun k _ => (tsum_end B.ok O.ok (m := m) (s := 0) (k := k) (by decide)).symm, vecD_congr fun k _ => (tsum_end B.ok O.ok (m := m) (s := 1) (k := k) (by decide)).symm]
    rfl
  · intro xs ε1 ex h
    cases ex
    rw [rng_len, List.length_map] at h
    have e : ((n : Int) - (p.length : Int)).toNat = n - p.length := by omega
    rw [← e]
    exact ⟨_, h⟩
  · rintro ε' ⟨rest, rfl⟩
    exact bd_ret (pd_tup (pdl_cons (pd_tuple rfl G.tuple (pd_ixL at0 (pd_var 9) pd_int)) (pdl_cons (pd_tuple rfl G.tuple (pd_ixL at1 (pd_var 9) pd_int)) pdl_nil)))
end
end TX
end

section
set_option Elab.async false
set_option linter.all false
set_option maxRecDepth 100000
set_option maxHeartbeats 4000000
namespace TX
open PySem PySem.Spec PyProof.Rows L2 DL MA
theorem sum_cast : ∀ l : List Nat, (l.map fun (n : Nat) => (n : Int)).sum = (l.sum : Int)
  | [] => rfl
  | a :: l => by rw [List.map_cons, List.sum_cons, sum_cast l, List.sum_cons, Int.natCast_add]
theorem vecD_ints (n : Nat) (f : Nat → Nat) : vecD n f = ((vec n f).map fun (n : Nat) => (n : Int)).map PyData.int := by rw [List.map_map]; rfl
theorem sum_vec (n : Nat) (f : Nat → Nat) : ((vec n f).map fun (n : Nat) => (n : Int)).sum = ((sumR n f : Nat) : Int) := by rw [sum_cast, vec_sum]
theorem pd_sumV {𝓜 : Md → Prop} {X : Cx} {ε : List Ent} {a : Expr} {pos p : Pos} {n : Nat} {f : Nat → Nat} (hc : X.calm = true) (hg : Gl X "sum") (hm : X.mg "sum" = none) (ha : PD 𝓜 X ε a (Is (.list (vecD n f)))) (hs : starEach [a] X.env = (false, eval a X.env) :: starEach [] X.env := by rfl) (hpl : (backTo pos (starEach [] X.env)).any (·.1) = false := by rfl) :
    PD 𝓜 X ε (.Call (.Name "sum" p) [a] [] pos) (Is (iD (sumR n f))) := pd_to (pd_sumL hc hg hm (pd_to ha (congrArg PyData.list (vecD_ints n f))) hs hpl) (congrArg PyData.int (sum_vec n f))
theorem pd_sumVT {𝓜 : Md → Prop} {X : Cx} {ε : List Ent} {a : Expr} {pos p : Pos} {n : Nat} {f : Nat → Nat} (hc : X.calm = true) (hg : Gl X "sum") (hm : X.mg "sum" = none) (ha : PD 𝓜 X ε a (Is (.tuple (vecD n f)))) (hs : starEach [a] X.env = (false, eval a X.env) :: starEach [] X.env := by rfl) (hpl : (backTo pos (starEach [] X.env)).any (·.1) = false := by rfl) :
    PD 𝓜 X ε (.Call (.Name "sum" p) [a] [] pos) (Is (iD (sumR n f))) := pd_sumT hc hg hm (pd_to ha (congrArg PyData.tuple (vecD_ints n f))) hs hpl (congrArg PyData.int (sum_vec n f))
def part (g : Gar) (D : Nat → Nat → Nat) (i : Nat) (ts : List Tie) (s k : Nat) : Nat := tsum g D i s k + D 0 i * cntL ts 0 s k + D 1 i * cntL ts 1 s k
theorem part_nil (g : Gar) (D : Nat → Nat → Nat) (i s : Nat) : part g D i [] s = tsum g D i s := by
  funext k
  unfold part cntL
  simp
theorem part_all (g : Gar) (D : Nat → Nat → Nat) (i s : Nat) : part g D i (growth g i).2 s = tsum g D (i + 1) s := by
  funext k
  rw [tsum_succ]
  rfl
theorem part_step {g : Gar} {D : Nat → Nat → Nat} {i : Nat} {ts : List Tie} {t : Tie} {s n : Nat} : (vecD n (part g D i ts s)).set t.2.2 (.int ((part g D i ts s t.2.2 : Int) + (D 0 i : Int) * (if decide ((pl t s : Int) = 0) = true then 1 else 0) + (D 1 i : Int) * (if decide ((pl t s : Int) = 1) = true then 1 else 0))) = vecD n (part g D i (ts ++ [t]) s) := by
  have e : PyData.int ((part g D i ts s t.2.2 : Int) + (D 0 i : Int) * (if decide ((pl t s : Int) = 0) = true then 1 else 0) + (D 1 i : Int) * (if decide ((pl t s : Int) = 1) = true then 1 else 0)) = iD (part g D i (ts ++ [t]) s t.2.2) := by
    refine congrArg PyData.int ?_
    unfold part
    rw [cntL_snoc, cntL_snoc]
    by_cases h0 : pl t s = 0
    · have h1 : ¬ pl t s = 1 := by omega
      rw [if_pos (decide_eq_true (by omega)), if_neg (by rw [decide_eq_false (by omega)]; decide), if_pos ⟨h0, rfl⟩, if_neg fun z => h1 z.1]
      rw [Nat.mul_add]; omega
    · rw [if_neg (by rw [decide_eq_false (by omega)]; decide), if_neg (c := pl t s = 0 ∧ _) fun z => h0 z.1]
      by_cases h1 : pl t s = 1
      · rw [if_pos (decide_eq_true (by omega)), if_pos ⟨h1, rfl⟩, Nat.mul_add]; omega
      · rw [if_neg (by rw [decide_eq_false (by omega)]; decide), if_neg (c := pl t s = 1 ∧ _) fun z => h1 z.1]; omega
  rw [e, vecD_set]
  refine vecD_congr fun k _ => ?_
  by_cases hk : k = t.2.2
  · rw [if_pos hk, hk]
  · rw [if_neg hk]
    unfold part
    rw [cntL_snoc, cntL_snoc, if_neg fun z => hk z.2.symm, if_neg fun z => hk z.2.symm]
theorem getD_vec {n i : Nat} {f : Nat → Nat} (h : i < n) : (vecD n f).getD i .none = iD (f i) := by rw [List.getD_eq_getElem?_getD, vecD_get h]; rfl
theorem getD_gro {g : Gar} {i : Nat} (h : i < g.2.length) : (g.2.map webD).getD i .none = webD (growth g i) := by rw [List.getD_eq_getElem?_getD, gro_get h]; rfl
def iD' (n : Nat) : Int := (n : Int)
section
variable {P : Program} {w : World} {K : PySem.W.Frag} {mg : Str → Option Value} {base : Heap} {f : Addr} {fd : FuncData}
abbrev l_few : Stmt := top 50
abbrev N_lf : List Str := ["_law_garden_here", "_law_address", "_law_n", "_law_row_here", "_law_place", "_law_web_here", "_law_t", "_law_c", "_law_tails", "_law_heads", "_law_turn", "_law_near", "_law_far", "_law_many", "_law_more", "_law_growth_here", "_law_a", "_law_b", "_law_tie_here"]
theorem sc_lf : FnScope N_lf ["_law_garden_here", "_law_address", "_law_n"] (defScope l_few) := ⟨rfl, rfl, rfl, by decide +kernel, rfl, by decide +kernel, by decide +kernel⟩
def fewB (g : Gar) (a : Ad) (n : Nat) : PP := fun d => ∃ b, d = .bool b ∧ (b = true → ∀ m, m ≤ n - a.1.length → (raw g a.1 a.2 m).length ≤ 300)
theorem ok_lf (G : Glo mg) (F : FnP K "_law_few_rows" l_few f fd) : FnOk P w K mg base CX0 1 f fd ["_law_garden_here", "_law_address", "_law_n"] (spK pureM K (preBorn fewB)) := by
  refine fn_data F sc_lf (fun es R ⟨g, a, n, _, _, _, _, e, _⟩ => by rw [e]; rfl) fun cdv A outer s0 H E es R hr ⟨g, a, n, B, O, hn, n100, e, eR⟩ => ?_
  subst e eR
  obtain ⟨p, v⟩ := a
  have hN : N_lf.Nodup := by decide +kernel
  have lp : p.length ≤ 100 := O.len
  have hn : p.length ≤ n := hn
  have K3 := B.ok.hi
  have W : WebOk g.2.length (web g p) := (web_ok B.ok O.ok.row).1
  refine bd_asg (pd_var 1) (td_tup rfl (tds_cons (td_name 3 hN) (tds_cons (td_name 4 hN) tds_nil))) rfl ?_
  refine bd_set 5 hN (pd_ixT at0 (pd_var 0) pd_int) ?_
  refine bd_cons (N1 := fun ε => ε = [.dat (garD g), .dat (adD (p, v)), .dat (iD n), .dat (rowD p), .dat (iD v), .dat (webD (web g p)), .no, .no, .no, .no, .no, .no, .no, .no, .no, .no, .no, .no, .no]) (sd_for (t := .nm 6) .never rfl (id_tupX (pd_var 3)) (td_name 6 hN)
    (fun _ i ε => ε = [.dat (garD g), .dat (adD (p, v)), .dat (iD n), .dat (rowD p), .dat (iD v), .dat (webD (web g (p.take i))), .no, .no, .no, .no, .no, .no, .no, .no, .no, .no, .no, .no, .no]) ?_ ?_ ?_) ?_
  · intro xs _; rfl
  · rintro xs i d ε1 ex hd rfl
    cases ex
    have hi : i < p.length := by have := (List.getElem?_eq_some_iff.mp hd).1; simpa using this
    rw [row_get hi] at hd
    cases hd
    have h1 := ro_get O.row.ro i hi
    have hk := kind_lt B.ok O.row.ro hi
    rw [kind_take hi] at hk
    refine ⟨_, rfl, bd_set 5 hN (pd_ixT (atN (gro_get hk)) (pd_ixT at1 (pd_var 0) pd_int) (pd_ixT at2 (pd_ixT (atN (tie_get h1)) (pd_ixT at1 (pd_var 5) pd_int) (pd_var 6)) pd_int)) (bd_nil ⟨_, le_wipe [6], ?_⟩)⟩
    rw [web_take hi, kind_take hi]
    rfl
  · intro xs ε1 ex h
    cases ex
    rw [List.length_map, List.take_length] at h
    exact h
  rintro ε' rfl
  refine bd_lcA 8 (g := sumsD g.2.length (deg g p v 0 0)) (own := [("_law_c", 7)]) rfl hN (LcD.mk1 (t := .nm 7) (xs := rng 0 g.2.length) (id_range1 (n := (g.2.length : Int)) rfl G.range (pd_lenT rfl G.len (pd_ixT at1 (pd_var 0) pd_int) (he := by rw [List.length_map])) (by omega)) rfl (fun _ _ _ _ _ => td_name 7 hN) (fun d hd => ?_) (by decide) (by rw [rng_len]; omega)) ?_
  · obtain ⟨i, hi⟩ := List.getElem?_of_mem hd
    obtain ⟨_, rfl⟩ := rng_iD (lo := 0) hi
    rw [Nat.zero_add]
    refine ⟨_, rfl, fun s1 H C cl fp => ?_⟩
    refine pd_to (pd_lenL rfl G.len (ld_pdX (ld_lcX (own := [("_law_tie_here", 18)]) (g := id) rfl hN (LcD.mkIf (f := hitF v 0 i) (t := .nm 18) (id_tupX (pd_ixT at1 (pd_var 5) pd_int)) rfl (fun _ _ _ _ _ => td_name 18 hN) (fun d hd => ?_) (by decide) (by rw [List.length_map]; have := W.few; omega))))) ?_
    · obtain ⟨t, ht, rfl⟩ := List.mem_map.mp hd
      refine ⟨_, rfl, fun s H C cl fp => pdt_to (pdt_w (pdw_andV (pdt_eqI (pd_ixT at0 (pd_var 18) pd_int) (pd_var 4)) fun _ => pdw_and1 (pdt_eqI (pd_ixT at2 (pd_var 18) pd_int) (pd_var 7)))) ?_, fun _ s H C cl fp => pd_var 18⟩
      rw [dec_nat, dec_nat]; rfl
    · refine congrArg PyData.int ((hit_len (web g p).2 v 0 i).trans ?_)
      show ((cnt (web g p) v 0 i : Nat) : Int) = ((deg g p v 0 0 ((i : Int).toNat) : Nat) : Int)
      rw [Int.toNat_natCast, deg_zero B.ok O.ok (by decide)]
  rw [rng_vec]
  refine bd_lcA 9 (g := sumsD g.2.length (deg g p v 0 1)) (own := [("_law_c", 7)]) rfl hN (LcD.mk1 (t := .nm 7) (xs := rng 0 g.2.length) (id_range1 (n := (g.2.length : Int)) rfl G.range (pd_lenT rfl G.len (pd_ixT at1 (pd_var 0) pd_int) (he := by rw [List.length_map])) (by omega)) rfl (fun _ _ _ _ _ => td_name 7 hN) (fun d hd => ?_) (by decide) (by rw [rng_len]; omega)) ?_
  · obtain ⟨i, hi⟩ := List.getElem?_of_mem hd
    obtain ⟨_, rfl⟩ := rng_iD (lo := 0) hi
    rw [Nat.zero_add]
    refine ⟨_, rfl, fun s1 H C cl fp => ?_⟩
    refine pd_to (pd_lenL rfl G.len (ld_pdX (ld_lcX (own := [("_law_tie_here", 18)]) (g := id) rfl hN (LcD.mkIf (f := hitF v 1 i) (t := .nm 18) (id_tupX (pd_ixT at1 (pd_var 5) pd_int)) rfl (fun _ _ _ _ _ => td_name 18 hN) (fun d hd => ?_) (by decide) (by rw [List.length_map]; have := W.few; omega))))) ?_
    · obtain ⟨t, ht, rfl⟩ := List.mem_map.mp hd
      refine ⟨_, rfl, fun s H C cl fp => pdt_to (pdt_w (pdw_andV (pdt_eqI (pd_ixT at1 (pd_var 18) pd_int) (pd_var 4)) fun _ => pdw_and1 (pdt_eqI (pd_ixT at2 (pd_var 18) pd_int) (pd_var 7)))) ?_, fun _ s H C cl fp => pd_var 18⟩
      rw [dec_nat, dec_nat]; rfl
    · refine congrArg PyData.int ((hit_len (web g p).2 v 1 i).trans ?_)
      show ((cnt (web g p) v 1 i : Nat) : Int) = ((deg g p v 0 1 ((i : Int).toNat) : Nat) : Int)
      rw [Int.toNat_natCast, deg_zero B.ok O.ok (by decide)]
  rw [rng_vec]
  refine bd_freeze 8 rfl (bd_freeze 9 rfl ?_)
  have tot : ∀ m, sumR g.2.length (deg g p v m 0) + sumR g.2.length (deg g p v m 1) = (raw g p v m).length := fun m => (raw_total B.ok O.ok).symm
  refine bd_cons (N1 := fun ε => (∀ m, m < n - p.length → (raw g p v m).length ≤ 300) ∧ ε = [.dat (garD g), .dat (adD (p, v)), .dat (iD n), .dat (rowD p), .dat (iD v), .dat (webD (web g p)), .no, .no, .dat (.list (vecD g.2.length (deg g p v (n - p.length) 0))), .dat (.list (vecD g.2.length (deg g p v (n - p.length) 1))), .no, .no, .no, .no, .no, .no, .no, .no, .no]) (sd_for (t := .nm 10) .never rfl (id_range1 rfl G.range (pd_sub (pd_var 2) (pd_lenT rfl G.len (pd_var 3))) (by rw [List.length_map]; exact ⟨by show _ ≤ (n : Int) - (p.length : Int); omega, by show (n : Int) - (p.length : Int) < _; omega⟩)) (td_name 10 hN)
    (fun _ m ε => (∀ m', m' < m → (raw g p v m').length ≤ 300) ∧ ε = [.dat (garD g), .dat (adD (p, v)), .dat (iD n), .dat (rowD p), .dat (iD v), .dat (webD (web g p)), .no, .no, .dat (.list (vecD g.2.length (deg g p v m 0))), .dat (.list (vecD g.2.length (deg g p v m 1))), .no, .no, .no, .no, .no, .no, .no, .no, .no]) ?_ ?_ ?_) ?_
  · intro xs _; exact ⟨fun m' h => absurd h (Nat.not_lt_zero _), rfl⟩
  · rintro xs m d ε1 ex hd ⟨hb, rfl⟩
    cases ex
    refine ⟨_, rfl, ?_⟩
    refine bd_le (le_wipe [10]) ?_
    refine bd_ifRet (pdt_gt (pd_add (pd_sumV rfl rfl G.sum (pd_var 8)) (pd_sumV rfl rfl G.sum (pd_var 9))) pd_int) (fun _ => bd_retP (P := Is (.bool false)) (fun d e => ⟨false, e, fun z => nomatch z⟩) pd_bl) (fun h => ?_)
    have h300 := of_decide_eq_false h.symm
    have hm : (raw g p v m).length ≤ 300 := by rw [← tot m]; omega
    refine bd_parOO 11 12 rfl hN (by decide) (l := vecD g.2.length (tsum g (deg g p v m) 0 0)) (l' := vecD g.2.length (tsum g (deg g p v m) 0 1)) ?_ ?_ ?_
    · exact ld_imp (ld_rep (n := (g.2.length : Int)) pd_int (pd_lenL rfl G.len (pd_var 8) (he := by rw [vecD_len])) ⟨by omega, by omega⟩) fun l e => Eq.trans e (vecD_rep g.2.length)
    · exact ld_imp (ld_rep (n := (g.2.length : Int)) pd_int (pd_lenL rfl G.len (pd_var 8) (he := by rw [vecD_len])) ⟨by omega, by omega⟩) fun l e => Eq.trans e (vecD_rep g.2.length)
    refine bd_cons (N1 := fun ε => ε = [.dat (garD g), .dat (adD (p, v)), .dat (iD n), .dat (rowD p), .dat (iD v), .dat (webD (web g p)), .no, .no, .dat (.list (vecD g.2.length (deg g p v m 0))), .dat (.list (vecD g.2.length (deg g p v m 1))), .no, .lm (vecD g.2.length (tsum g (deg g p v m) g.2.length 0)), .lm (vecD g.2.length (tsum g (deg g p v m) g.2.length 1)), .no, .no, .no, .no, .no, .no]) (sd_for (t := .tp [.nm 13, .nm 14, .nm 15]) .never rfl (id_zip3 rfl G.zip (pd_var 8) (pd_var 9) (pd_ixT at1 (pd_var 0) pd_int) (by rw [vecD_len, vecD_len]) (by rw [vecD_len, List.length_map])) (td_tup rfl (tds_cons (td_name 13 hN) (tds_cons (td_name 14 hN) (tds_cons (td_name 15 hN) tds_nil))))
      (fun _ i ε => ε = [.dat (garD g), .dat (adD (p, v)), .dat (iD n), .dat (rowD p), .dat (iD v), .dat (webD (web g p)), .no, .no, .dat (.list (vecD g.2.length (deg g p v m 0))), .dat (.list (vecD g.2.length (deg g p v m 1))), .no, .lm (vecD g.2.length (tsum g (deg g p v m) i 0)), .lm (vecD g.2.length (tsum g (deg g p v m) i 1)), .no, .no, .no, .no, .no, .no]) ?_ ?_ ?_) ?_
    · intro xs _; rfl
    · rintro xs i d ε1 ex hd rfl
      cases ex
      obtain ⟨hi, rfl⟩ := zip3D_get hd
      rw [vecD_len] at hi
      rw [getD_vec hi, getD_vec hi, getD_gro hi]
      refine ⟨_, rfl, ?_⟩
      have Wi := (B.ok.book _ (growth_mem hi)).1
      refine bd_one (sd_for (t := .tp [.nm 16, .nm 17, .nm 7]) .never rfl (id_tupX (pd_ixT at1 (pd_var 15) pd_int)) (td_tup rfl (tds_cons (td_name 16 hN) (tds_cons (td_name 17 hN) (tds_cons (td_name 7 hN) tds_nil))))
        (fun _ j ε => ε = [.dat (garD g), .dat (adD (p, v)), .dat (iD n), .dat (rowD p), .dat (iD v), .dat (webD (web g p)), .no, .no, .dat (.list (vecD g.2.length (deg g p v m 0))), .dat (.list (vecD g.2.length (deg g p v m 1))), .no, .lm (vecD g.2.length (part g (deg g p v m) i ((growth g i).2.take j) 0)), .lm (vecD g.2.length (part g (deg g p v m) i ((growth g i).2.take j) 1)), .dat (iD (deg g p v m 0 i)), .dat (iD (deg g p v m 1 i)), .dat (webD (growth g i)), .no, .no, .no]) ?_ ?_ ?_)
      · intro xs _
        rw [List.take_zero, part_nil, part_nil]
        rfl
      · rintro xs j d ε1 ex hd rfl
        cases ex
        obtain ⟨t, rfl, ht, tk, _⟩ := tie_at hd
        have h4 := (Wi.ties t ht).c
        refine ⟨_, rfl, ?_⟩
        refine bd_setAt 11 (ds := vecD g.2.length (part g (deg g p v m) i ((growth g i).2.take j) 0)) (n := (t.2.2 : Int)) (j := t.2.2) rfl (pd_add (pd_add (pd_ixM 11 rfl (atN (vecD_get h4)) (pd_var 7)) (pd_mul (.inr ?_) (pd_var 13) (pd_intB rfl G.int (pd_eqI (pd_var 16) pd_int)))) (pd_mul (.inr ?_) (pd_var 14) (pd_intB rfl G.int (pd_eqI (pd_var 16) pd_int)))) (pd_var 7) (by rw [vecD_len]; exact ixN_n h4) ?_
        · split <;> omega
        · split <;> omega
        refine bd_setAt 12 (ds := vecD g.2.length (part g (deg g p v m) i ((growth g i).2.take j) 1)) (n := (t.2.2 : Int)) (j := t.2.2) rfl (pd_add (pd_add (pd_ixM 12 rfl (atN (vecD_get h4)) (pd_var 7)) (pd_mul (.inr ?_) (pd_var 13) (pd_intB rfl G.int (pd_eqI (pd_var 17) pd_int)))) (pd_mul (.inr ?_) (pd_var 14) (pd_intB rfl G.int (pd_eqI (pd_var 17) pd_int)))) (pd_var 7) (by rw [vecD_len]; exact ixN_n h4) ?_
        · split <;> omega
        · split <;> omega
        refine bd_nil ⟨_, le_wipe [7, 16, 17], ?_⟩
        rw [tk, ← part_step (s := 0) (t := t), ← part_step (s := 1) (t := t)]
        rfl
      · intro xs ε1 ex h
        cases ex
        refine ⟨_, le_wipe [13, 14, 15], ?_⟩
        rw [List.length_map, List.take_length, part_all, part_all] at h
        rw [h]; rfl
    · intro xs ε1 ex h
      cases ex
      rw [zip3D_len, vecD_len] at h
      exact h
    rintro ε' rfl
    refine bd_freeze 11 rfl (bd_freeze 12 rfl (bd_par2 8 9 rfl hN (by decide) (pdl_cons (pd_var 11) (pdl_cons (pd_var 12) pdl_nil)) fun l el => ⟨_, _, el, bd_nil ⟨_, le_wipe [11, 12], fun m' h' => ?_, ?_⟩⟩))
    · rcases Nat.lt_succ_iff_lt_or_eq.mp h' with z | z
      · exact hb m' z
      · rw [z]; exact hm
    · rw [vecD_congr fun k _ => (tsum_end B.ok O.ok (m := m) (s := 0) (k := k) (by decide)).symm, vecD_congr fun k _ => (tsum_end B.ok O.ok (m := m) (s := 1) (k := k) (by decide)).symm]
      rfl
  · rintro xs ε1 ex ⟨hb, h⟩
    cases ex
    rw [rng_len, List.length_map] at h hb
    have e : ((n : Int) - (p.length : Int)).toNat = n - p.length := by omega
    have hb : ∀ m', m' < ((n : Int) - (p.length : Int)).toNat → (raw g p v m').length ≤ 300 := hb
    rw [e] at hb
    refine ⟨hb, ?_⟩
    rw [← e]
    exact h
  · rintro ε' ⟨hb, rfl⟩
    refine bd_retP (P := Is (.bool (decide ((iD' (sumR g.2.length (deg g p v (n - p.length) 0)) + iD' (sumR g.2.length (deg g p v (n - p.length) 1))) ≤ 300)))) (fun d e => ⟨_, e, fun z m hm => ?_⟩) (pd_le (pd_add (pd_sumV rfl rfl G.sum (pd_var 8)) (pd_sumV rfl rfl G.sum (pd_var 9))) pd_int)
    have z := of_decide_eq_true z
    have hm : m ≤ n - p.length := hm
    rcases Nat.lt_or_eq_of_le hm with h | h
    · exact hb m h
    · have t := tot (n - p.length)
      unfold iD' at z
      show (raw g p v m).length ≤ 300
      rw [h, ← t]; omega
end
end TX
end

section
set_option Elab.async false
set_option linter.all false
set_option maxRecDepth 100000
set_option maxHeartbeats 4000000
namespace TX
open PySem PySem.Spec PyProof.Rows L2 DL MA
def sideR (g : Gar) (a : Ad) (r : MA.Row) : Nat := if en g r 0 = a then 0 else 1
def extR (g : Gar) (a : Ad) (r : MA.Row) : List MA.Row := (sided (growth g (kind g r)) (sideR g a r) r).map (·.1)
theorem extR_raw {g : Gar} (G : GarOk g) {a : Ad} (A : AdOk g a) {m : Nat} {x : It3} (h : x ∈ raw g a.1 a.2 m) : x.2.1 = kind g x.1 ∧ x.2.2 = sideR g a x.1 ∧ x.2.2 < 2 := by
  obtain ⟨_, _, h3, h4, h5⟩ := raw_sound G A m x h
  refine ⟨h3, ?_, h4⟩
  have ho := raw_other G A h (s := 0) (by decide)
  unfold sideR
  by_cases e : en g x.1 0 = (a.1, a.2)
  · rw [if_pos e]; exact (ho.mp e).symm
  · rw [if_neg e]
    have : x.2.2 ≠ 0 := fun z => e (ho.mpr z.symm)
    omega
theorem ext_perm {g : Gar} (G : GarOk g) {a : Ad} (A : AdOk g a) (n : Nat) (hn : a.1.length ≤ n) : ((rowsS g a n).flatMap (extR g a)).Perm ((raw g a.1 a.2 (n + 1 - a.1.length)).map (·.1)) := by
  rw [show n + 1 - a.1.length = (n - a.1.length) + 1 by omega]
  refine ((srt_perm _).flatMap_right _).trans ?_
  rw [List.flatMap_map]
  show List.Perm _ (List.map _ ((raw g a.1 a.2 (n - a.1.length)).flatMap _))
  rw [List.map_flatMap]
  have : ∀ l : List It3, (∀ x ∈ l, x ∈ raw g a.1 a.2 (n - a.1.length)) → (l.flatMap fun x => extR g a x.1) = l.flatMap fun x => (sided (growth g x.2.1) x.2.2 x.1).map (·.1) := fun l => by
    induction l with
    | nil => intro _; rfl
    | cons x l ih =>
      intro h
      obtain ⟨e1, e2, _⟩ := extR_raw G A (h x List.mem_cons_self)
      rw [List.flatMap_cons, List.flatMap_cons, ih fun y hy => h y (List.mem_cons_of_mem _ hy), e1, e2]
      rfl
  rw [this _ fun x hx => hx]
theorem flat_len {α β : Type} {f : α → List β} {c : Nat} : ∀ {l : List α}, (∀ x ∈ l, (f x).length ≤ c) → (l.flatMap f).length ≤ c * l.length
  | [], _ => by simp
  | x :: l, h => by
    have h1 := h x List.mem_cons_self
    have h2 := flat_len fun y hy => h y (List.mem_cons_of_mem _ hy)
    rw [List.flatMap_cons, List.length_append, List.length_cons, Nat.mul_succ]
    omega
def folF (s : Nat) : PyData → Bool
  | .tuple [_, t] => hits (tieU t) s
  | _ => false
def folG (r : MA.Row) : PyData → PyData
  | .tuple [.int i, _] => rowD (r ++ [i.toNat])
  | _ => .none
theorem enumD_snoc (ds : List PyData) (d : PyData) : enumD (ds ++ [d]) = enumD ds ++ [.tuple [.int (ds.length : Nat), d]] := by
  unfold enumD
  rw [List.length_append, List.length_singleton, List.range_succ, List.map_append]
  congr 1
  · refine List.map_congr_left fun i hi => ?_
    have hi := List.mem_range.mp hi
    congr 3
    rw [List.getD_eq_getElem?_getD, List.getD_eq_getElem?_getD, List.getElem?_append_left hi]
  · rw [List.map_singleton]
    congr 3
    rw [List.getD_eq_getElem?_getD, List.getElem?_append_right (Nat.le_refl _), Nat.sub_self]
    rfl
theorem fol_eq (r : MA.Row) (s : Nat) (ts : List Tie) : ((enumD (ts.map tieD)).filter (folF s)).map (folG r) = ((sidedF s r 0 ts).map (·.1)).map rowD := by
  generalize hn : ts.length = n
  induction n generalizing ts with
  | zero => cases List.length_eq_zero_iff.mp hn; rfl
  | succ n ih =>
    have hne : ts ≠ [] := fun z => by subst z; cases hn
    have e := (List.dropLast_concat_getLast hne).symm
    generalize ts.dropLast = q at e
    generalize ts.getLast hne = t at e
    subst e
    have hq : q.length = n := by simpa using hn
    rw [List.map_append, List.map_singleton, enumD_snoc, List.filter_append, List.map_append, ih q hq, sidedF_snoc, List.map_append, List.map_append]
    congr 1
    rw [List.length_map, Nat.zero_add]
    have ef : folF s (.tuple [.int (q.length : Nat), tieD t]) = hits t s := rfl
    cases hh : hits t s with
    | true => rw [List.filter_cons_of_pos (by rw [ef, hh])]; rfl
    | false => rw [List.filter_cons_of_neg (by rw [ef, hh]; decide)]; rfl
section
variable {P : Program} {w : World} {K : PySem.W.Frag} {mg : Str → Option Value} {base : Heap} {f : Addr} {fd : FuncData}
abbrev l_fol : Stmt := top 51
abbrev N_lfo : List Str := ["_law_garden_here", "_law_address", "_law_rows", "_law_found", "_law_row_here", "_law_ends_here", "_law_kind", "_law_sides", "_law_side", "_law_s", "_law_tie_here"]
theorem sc_lfo : FnScope N_lfo ["_law_garden_here", "_law_address", "_law_rows"] (defScope l_fol) := ⟨rfl, rfl, rfl, by decide +kernel, rfl, by decide +kernel, by decide +kernel⟩
def preFol (es : List Ent) (R : PP) : Prop := ∃ (g : Gar) (a : Ad) (n : Nat), FewR g a n ∧ n < 100 ∧ (raw g a.1 a.2 (n + 1 - a.1.length)).length ≤ 40 ∧ es = [.dat (garD g), .dat (adD a), .dat (.tuple ((rowsS g a n).map rowD))] ∧ R = Is (.tuple ((rowsS g a (n + 1)).map rowD))
def sdF (g : Gar) (a : Ad) (r : MA.Row) : PyData → Bool
  | .int s => decide (en g r s.toNat = a)
  | _ => false
theorem ok_lfo (G : Glo mg) (ce : CalP P w K mg base 10 "row_ends" (spK pureM K (preRow fun g r => Is (endsD (ends g r))))) (ck : CalP P w K mg base 10 "row_kind" (spK pureM K (preRow fun g r => Is (iD (kind g r))))) (F : FnP K "_law_follow" l_fol f fd) : FnOk P w K mg base CX0 11 f fd ["_law_garden_here", "_law_address", "_law_rows"] (spK pureM K preFol) := by
  refine fn_data F sc_lfo (fun es R ⟨g, a, n, _, _, _, e, _⟩ => by rw [e]; rfl) fun cdv A outer s0 H E es R hr ⟨g, a, n, O, h100, h40, e, eR⟩ => ?_
  subst e eR
  have hN : N_lfo.Nodup := by decide +kernel
  have B := O.gok
  have le := O.le
  have hrows : ∀ r ∈ rowsS g a n, RowOk g r ∧ r ≠ [] ∧ ∃ x ∈ raw g a.1 a.2 (n - a.1.length), x.1 = r := fun r hr => by
    obtain ⟨x, hx, e⟩ := List.mem_map.mp ((srt_perm _).mem_iff.mp hr)
    obtain ⟨h1, h2, _⟩ := raw_sound B.ok O.adr.ok _ x hx
    rw [← e]
    exact ⟨⟨h1, by omega⟩, fun z => by rw [z] at h2; simp at h2, x, hx, rfl⟩
  have hlen : (rowsS g a n).length ≤ 40 := by
    have := (srt_perm ((raw g a.1 a.2 (n - a.1.length)).map (·.1))).length_eq
    rw [List.length_map] at this
    have h2 := O.end_
    show (srt _).length ≤ 40
    omega
  have hext : ∀ r ∈ rowsS g a n, (extR g a r).length ≤ 10 := fun r hr => by
    obtain ⟨h1, h2, _⟩ := hrows r hr
    have hk := ((web_ok B.ok h1.ro).2 h2).1
    have := (B.ok.book _ (growth_mem hk)).1.few
    unfold extR
    rw [List.length_map]
    exact Nat.le_trans (sidedF_len _ _ _ _) this
  refine bd_ownX 3 hN (ld_lst pdl_nil) ?_
  refine bd_cons (N1 := fun ε => ∃ rest, ε = .dat (garD g) :: .dat (adD a) :: .dat (.tuple ((rowsS g a n).map rowD)) :: .lm (((rowsS g a n).flatMap (extR g a)).map rowD) :: rest) (sd_for (t := .nm 4) .never rfl (id_tupX (pd_var 2)) (td_name 4 hN)
    (fun _ i ε => ε = [.dat (garD g), .dat (adD a), .dat (.tuple ((rowsS g a n).map rowD)), .lm ((((rowsS g a n).take i).flatMap (extR g a)).map rowD), .no, .no, .no, .no, .no, .no, .no]) ?_ ?_ ?_) ?_
  · intro xs _; rfl
  · rintro xs i d ε1 ex hd rfl
    cases ex
    have hi : i < (rowsS g a n).length := by have := (List.getElem?_eq_some_iff.mp hd).1; simpa using this
    have ed : d = rowD (rowsS g a n)[i] := by
      rw [List.getElem?_map, List.getElem?_eq_getElem hi] at hd
      exact (Option.some.inj hd).symm
    subst ed
    have hmem : (rowsS g a n)[i] ∈ rowsS g a n := List.getElem_mem hi
    obtain ⟨r1, rne, x, hx, ex⟩ := hrows _ hmem
    have he := hext _ hmem
    have htk : ((rowsS g a n).take (i + 1)).flatMap (extR g a) = ((rowsS g a n).take i).flatMap (extR g a) ++ extR g a (rowsS g a n)[i] := by
      rw [take_snoc hi, List.flatMap_append]; simp
    have hfl : (((rowsS g a n).take i).flatMap (extR g a)).length ≤ 10 * ((rowsS g a n).take i).length := flat_len fun y hy => hext y (List.mem_of_mem_take hy)
    rw [List.length_take] at hfl
    rw [htk]
    revert hmem r1 rne ex he
    generalize (rowsS g a n)[i] = r
    intro hmem r1 rne ex he
    subst ex
    obtain ⟨k1, k2, k3⟩ := extR_raw B.ok O.adr.ok hx
    have hk := ((web_ok B.ok r1.ro).2 rne).1
    have enok := (en_ok B.ok r1.ro rne).1
    refine ⟨_, rfl, ?_⟩
    refine bd_asg (pd_tup (pdl_cons (pd_call ce hr (by decide) rfl (pdl_cons (pd_var 0) (pdl_cons (pd_var 4) pdl_nil)) ⟨g, x.1, B, r1, rne, rfl, rfl⟩) (pdl_cons (pd_call ck hr (by decide) rfl (pdl_cons (pd_var 0) (pdl_cons (pd_var 4) pdl_nil)) ⟨g, x.1, B, r1, rne, rfl, rfl⟩) pdl_nil))) (td_tup rfl (tds_cons (td_name 5 hN) (tds_cons (td_name 6 hN) tds_nil))) rfl ?_
    refine bd_set 7 hN (d := .list [iD (sideR g a x.1)]) (pd_to (ld_pdX (ld_lcX (own := [("_law_side", 8)]) (g := id) rfl hN (LcD.mkIf (f := sdF g a x.1) (t := .nm 8) (id_tupX (pd_tup (pdl_cons pd_int (pdl_cons pd_int pdl_nil)))) rfl (fun _ _ _ _ _ => td_name 8 hN) (fun d hd => ?_) (by decide) (by exact Nat.le_of_ble_eq_true rfl)))) ?_) ?_
    · obtain ⟨s, hs⟩ := List.getElem?_of_mem hd
      obtain ⟨hs2, rfl⟩ := pair_get hs
      have A1 : AdR g (en g x.1 s) := ⟨(enok s hs2).1, by have := (enok s hs2).2; have := r1.len; omega⟩
      refine ⟨_, rfl, fun s1 H C cl fp => pdt_to (pdt_eqD (d1 := adD (en g x.1 s)) hr.units (ad_shaped B A1) (ad_shaped B O.adr) (pd_ixT (two_at (f := fun s => adD (en g x.1 s)) hs2) (pd_var 5) (pd_var 8)) (pd_var 1)) ?_, fun _ s H C cl fp => pd_var 8⟩
      rw [eqv_ad]
      show _ = decide (en g x.1 ((s : Int).toNat) = a)
      rw [Int.toNat_natCast]
    · congr 1
      have h0 := raw_other B.ok O.adr.ok hx (s := 0) (by decide)
      have h1 := raw_other B.ok O.adr.ok hx (s := 1) (by decide)
      rw [List.map_id, ← k2]
      have f0 : sdF g a x.1 (.int 0) = decide (en g x.1 0 = a) := rfl
      have f1 : sdF g a x.1 (.int 1) = decide (en g x.1 1 = a) := rfl
      rcases (by omega : x.2.2 = 0 ∨ x.2.2 = 1) with z | z
      · rw [List.filter_cons_of_pos (by rw [f0]; exact decide_eq_true (h0.mpr z.symm)), List.filter_cons_of_neg (by rw [f1]; intro q; have := h1.mp (of_decide_eq_true q); omega), z]
        rfl
      · rw [List.filter_cons_of_neg (by rw [f0]; intro q; have := h0.mp (of_decide_eq_true q); omega), List.filter_cons_of_pos (by rw [f1]; exact decide_eq_true (h1.mpr z.symm)), z]
        rfl
    · have few := (B.ok.book _ (growth_mem hk)).1.few
      refine bd_ext 3 (L := IsL ((extR g a x.1).map rowD)) rfl (ld_imp (ld_lcX (own := [("_law_s", 9), ("_law_tie_here", 10)]) (g := folG x.1) rfl hN (LcD.mkIf (f := folF (sideR g a x.1)) (t := .tp [.nm 9, .nm 10]) (id_enumT rfl G.enumerate (pd_ixT at1 (pd_ixT (atN (gro_get hk)) (pd_ixT at1 (pd_var 0) pd_int) (pd_var 6)) pd_int)) rfl (fun _ _ _ _ _ => td_tup rfl (tds_cons (td_name 9 hN) (tds_cons (td_name 10 hN) tds_nil))) (fun d hd => ?_) (by decide) (by rw [enumD_len, List.length_map]; omega))) fun l e => ?_) (fun l e => ?_) (fun l e => ?_)
      · obtain ⟨j, hj⟩ := List.getElem?_of_mem hd
        obtain ⟨e0, he0, rfl⟩ := enumD_get hj
        obtain ⟨t, rfl, ht, _, _⟩ := tie_at he0
        refine ⟨_, rfl, fun s1 H C cl fp => ?_, fun _ s H C cl fp => ?_⟩
        · refine pdt_to (pdt_neD (d1 := .list (([iD (sideR g a x.1)].filter fun d => hits t (sideR g a x.1)).map id)) (d2 := .list []) hr.units (shaped_lst (n := 0) (L := 4) (fun y hy => ?_) (by decide)) (by decide +kernel) (ld_pdX (ld_lcX (own := [("_law_side", 8)]) (g := id) rfl hN (LcD.mkIf (f := fun d => hits t (sideR g a x.1)) (t := .nm 8) (id_listX (pd_var 7)) rfl (fun _ _ _ _ _ => td_name 8 hN) (fun d hd => ?_) (by decide) (by exact Nat.le_of_ble_eq_true rfl)))) (pd_lst pdl_nil)) ?_
          · rw [List.map_id] at hy
            have := List.mem_singleton.mp (List.mem_filter.mp hy).1
            rw [this]
            exact shp_small (by omega)
          · rw [List.mem_singleton.mp hd]
            refine ⟨_, rfl, fun s1 H C cl fp => pdt_to (pdt_inT (ns := [(t.1 : Int), (t.2.1 : Int)]) rfl (pd_var 8) (pd_to (pd_slTo (pd_var 10) pd_int) (congrArg PyData.tuple (cutD_to 2)))) (hits_in t _), fun _ s H C cl fp => pd_var 8⟩
          · show (!PyData.eqv _ _) = hits (tieU (tieD t)) _
            rw [tieU_eq]
            cases hits t (sideR g a x.1) <;> rfl
        · refine pd_to (pd_catT (pd_var 4) (pd_tup (pdl_cons (pd_var 9) pdl_nil)) (by rw [List.length_map]; have := r1.len; show x.1.length + 1 ≤ _; omega)) ?_
          show PyData.tuple (x.1.map iD ++ [.int (j : Nat)]) = rowD (x.1 ++ [((j : Nat) : Int).toNat])
          rw [Int.toNat_natCast, rowD, List.map_append]
          rfl
      · have e : l = _ := e
        rw [e, fol_eq]
        rfl
      · have e : l = _ := e
        rw [e, List.length_map, List.length_map]
        omega
      · have e : l = _ := e
        subst e
        refine bd_nil ⟨_, le_wipe [4, 5, 6, 7], ?_⟩
        rw [List.map_append]
        rfl
  · intro xs ε1 ex h
    cases ex
    rw [List.length_map, List.take_length] at h
    exact ⟨_, h⟩
  · rintro ε' ⟨rest, rfl⟩
    have pm := ext_perm B.ok O.adr.ok n le
    have fl := raw_flat B.ok O.adr.ok (n + 1 - a.1.length)
    refine bd_freeze 3 rfl (bd_ret (pd_tuple rfl G.tuple (pd_sortedL (d := a.1.length + (n + 1 - a.1.length) + 1) (B := 16) (rows := ((rowsS g a n).flatMap (extR g a)).map toI) (rows' := (rowsS g a (n + 1)).map toI) (by omega) rfl G.sorted fl.srt.ok (((srt_perm _).trans pm.symm).map toI) (srt_asc _) ?_ (pd_to (pd_var 3) (congrArg PyData.list (rows_enc _))) (hdd := congrArg PyData.list (rows_enc _).symm))))
    have := pm.length_eq
    rw [List.length_map] at this
    rw [List.length_map]
    omega
end
end TX
end

section
set_option Elab.async false
set_option linter.all false
set_option maxRecDepth 100000
set_option maxHeartbeats 4000000
/-! Promises that hold where no guard stands around: for repr. -/
namespace DL
open PySem PySem.Spec PyProof.Rows L2
structure FnG (P : Program) (w : World) (K : PySem.W.Frag) (mg : Str → Option Value) (base : Heap) (k : Nat) (f : Addr) (fd : FuncData) (ps : List Str) (sp : Sp) : Prop where
  len : ∀ vs H Q E, sp vs H Q E → vs.length = ps.length
  run : ∀ (A : Around) (outer : List Env) (s : Shared) (H : Hp) (args : Args) (us : List Value) (vs : List V) (Q : VK) (E : XK), Room k A → A.guards = some [] → Env0 P w K mg base A outer s H → BindsTo s fd args (ps.zip us) → Vals vs us → sp vs H Q E →
    codeAny (model P w) A (.call (.ref f) args) (CR CX0 outer P w H s Q E) s
section
variable {P : Program} {w : World} {K : PySem.W.Frag} {mg : Str → Option Value} {base : Heap} {x qual : Str} {params : Arguments} {body : List Stmt} {scope : Scope} {dvs : List V} {kws : List (Str × V)} {f : Addr} {fd : FuncData}
theorem fnG_of {N ps : List Str} {k : Nat} {sp : Sp} (F : FunD K x qual params body scope dvs kws f fd) (S : FnScope N ps scope) (len : ∀ vs H Q E, sp vs H Q E → vs.length = ps.length)
    (hbody : ∀ (cdv : Value) (A : Around) (outer : List Env) (s : Shared) (H : Hp) (vs : List V) (Q : VK) (E : XK), Room k (A.deeper (envOfC qual scope s.heap.objs.size f cdv)) → A.guards = some [] → sp vs H Q E →
      ∃ t, PSs (cxOf CX0 P w K mg base N qual scope f cdv A outer s H E) body t ∧ t { nx := fun _ H' => Q .non H', rt := Q } (L2.start N vs) H) : FnG P w K mg base (k + 1) f fd ps sp := by
  obtain ⟨oc, od, dV, kV, doc, pm, an, cdv, ct, osl, rfl, lk, hcd, _, _⟩ := F.ex
  refine ⟨len, fun A outer s H args us vs Q E hr hg e0 hb r hsp => ?_⟩
  have hl := len _ _ _ _ hsp
  have KX : K.In s.heap := e0.mod.kin.keeps fun b o e => (e0.bs b o e).1
  have lim : s.heap.NoLimit := e0.mod.nolimit.keeps fun b o e => (e0.bs b o e).1
  have hkind : ∀ y ∈ ps.zip us, scope.names.lookup y.1 = some .local ∨ (scope.names.lookup y.1 = some .cell ∧ ((cellsFrom (s.heap.objs.size + 1) scope.names []).lookup y.1).isSome = true) := fun ⟨n, v⟩ hy => by
    rcases S.par n (List.of_mem_zip hy).1 with q | q
    · exact .inl q
    · exact .inr ⟨q, PySem.W.cellsFrom_some _ _ _ (.inl q)⟩
  refine codeAny_call_function hr.depth (KX _ _ lk) rfl S.co S.gen rfl (PySem.W.codeRec_of KX hcd) (hb _ _ _ _ ?_)
  refine wpAny_newFunctionEnv_cells S.kind hkind fun env he s1 z => ?_
  subst he
  refine ⟨lim.keeps z.toInCall.keep, codeAny_func ?_⟩
  obtain ⟨t, ht, hq⟩ := hbody cdv A outer s H vs Q E (hr.deeper _) hg hsp
  have I : Inv (cxOf CX0 P w K mg base N qual scope f cdv A outer s H E) [] (L2.start N vs) H s1 := inv_start S hr.hd e0 hl r z
  refine wpAny_mono (ht.run [] s1 (L2.start N vs) H _ I hq) (fun fl s' hs => ?_) fun e s' hs => hs
  have fin : ∀ {σ' : L2.St} {H' : Hp} {v : V} {u : Value}, Inv (cxOf CX0 P w K mg base N qual scope f cdv A outer s H E) [] σ' H' s' → RelV v u → Q v H' → CE outer P w H s Q u s' :=
    fun {σ' H' v u} J rv q => ⟨v, H', J.os, J.bare, J.base, J.hok, rv, q⟩
  cases fl with
  | ret u =>
    obtain ⟨v, σ', H', J, rv, q⟩ := hs
    exact fin J rv q
  | next =>
    obtain ⟨σ', H', J, q⟩ := hs
    exact fin (v := V.non) (u := Value.none) J rfl q
  | brk =>
    obtain ⟨_, _, _, q⟩ := hs
    exact False.elim q
  | cont =>
    obtain ⟨_, _, _, q⟩ := hs
    exact False.elim q
theorem fnG_data {𝓜 : Md → Prop} {N ps : List Str} {k : Nat} {pre : List Ent → PP → Prop} (F : FunD K x qual params body scope dvs kws f fd) (S : FnScope N ps scope) (len : ∀ es P, pre es P → es.length = ps.length)
    (hbody : ∀ (cdv : Value) (A : Around) (outer : List Env) (s : Shared) (H : Hp) (E : XK) (es : List Ent) (R : PP), Room k (A.deeper (envOfC qual scope s.heap.objs.size f cdv)) → A.guards = some [] → pre es R →
      BD 𝓜 (cxOf CX0 P w K mg base N qual scope f cdv A outer s H E).nox (envE N es) body (fun _ => R .none) R) : FnG P w K mg base (k + 1) f fd ps (spK 𝓜 K pre) := by
  refine fnG_of F S (fun vs H Q E ⟨md, M, es, R, _, _, _, _, z, hp, _⟩ => by rw [entv_len z, len es R hp]) fun cdv A outer s H vs Q E hr hg ⟨md, M, es, R, m, h0, dm, i, z, hp, q⟩ => ⟨_, PSs.nox (hbody cdv A outer s H E es R hr hg hp), ?_⟩
  refine ⟨md, M, md.m0, M, hid H md.m0, m, ok_start h0 dm i z, fun σ' H' C' M' ε' n o' => ?_, fun v H' d p s1 i1 z1 => q v H' d p (fun a u c h => s1 a u (by rw [hid_off c]; exact h)) i1 z1⟩
  exact q .non H' .none n (fun a u c h => o'.fix a u (by rw [hid_off c]; exact h)) o'.inv .non
end
def CalG (P : Program) (w : World) (K : PySem.W.Frag) (mg : Str → Option Value) (base : Heap) (k : Nat) (x : Str) (sp : Sp) : Prop :=
  ∃ f fd ps, FnG P w K mg base k f fd ps sp ∧ mg x = some (.ref f) ∧ PySem.W.keepIn K (.ref f) = true ∧ Binds K fd ps []
theorem FnG.mono {P : Program} {w : World} {K : PySem.W.Frag} {mg : Str → Option Value} {base : Heap} {j k : Nat} {f : Addr} {fd : FuncData} {ps : List Str} {sp : Sp} (F : FnG P w K mg base j f fd ps sp) (h : j ≤ k) : FnG P w K mg base k f fd ps sp :=
  ⟨F.len, fun A outer s H args us vs Q E hr => F.run A outer s H args us vs Q E (hr.mono h)⟩
section
variable {X : Cx} {k j : Nat} {f : Addr} {fd : FuncData} {ps : List Str} {sp : Sp} {E : XK} {x : Str} {p pos : Pos} {e : Expr} {es : List Expr} {t : TA} {𝓜 : Md → Prop} {ε : List Ent} {P : PP} {L : PL'}
theorem pe_callG (F : FnG X.prog X.w X.K X.mg X.base k f fd ps sp) (hr : Room k X.A) (gd : X.A.guards = some []) (hg : Gl X x) (hm : X.mg x = some (.ref f)) (hk : PySem.W.keepIn X.K (.ref f) = true) (hb : Binds X.K fd ps []) (hx : Passes CX0 X E)
    (ha : PA X (e :: es) t) (hdb : (x == ("__debug__" : Str)) = false := by decide) (he : starEach (e :: es) X.env = (false, eval e X.env) :: starEach es X.env := by rfl) (hpl : (backTo pos (starEach es X.env)).any (·.1) = false := by rfl) :
    PE X (.Call (.Name x p) (e :: es) [] pos) (tCall sp [] E t) := by
  refine ⟨fun pins s σ H Q I h => ?_⟩
  refine wpAny_Call_Name_kw (ld_glob I hg hm ?_ hdb)
  refine PySem.W.callWith_K (h₀ := X.base) I.ok.mod.kin hk (thn (ha.run pos pins s σ H _ I h) fun us s1 ⟨vs, H1, I1, r, q⟩ => ⟨I1.kIn, ?_⟩) he hpl
  have q : sp (vs ++ []) H1 Q E := q
  rw [List.append_nil] at q
  have hl : us.length = ps.length := by rw [← r.length]; exact F.len _ _ _ _ q
  refine wpAny_call (codeAny_mono (F.run X.A X.stack s1 H1 ⟨us, []⟩ us vs Q E hr gd I1.env0 (by have := hb s1 us I1.kIn (by rw [List.append_nil]; exact hl); rw [List.append_nil] at this; exact this) r q) fun r s' hq => ?_)
  cases r with
  | error e => exact hx pins σ H1 s1 e s' I1 hq
  | ok fl =>
    cases fl with
    | ret u => exact I1.after hq
    | next => exact False.elim hq
    | brk => exact False.elim hq
    | cont => exact False.elim hq
theorem pd_callG {pre : List Ent → PP → Prop} {l : List PyData} (c : CalG X.prog X.w X.K X.mg X.base k x (spK pureM X.K pre)) (gd : X.A.guards = some []) (hr : Room j X.A) (hk : k ≤ j) (hg : Gl X x) (ha : PDL 𝓜 X ε (e :: es) (IsL l)) (hp : pre (l.map Ent.dat) P)
    (hdb : (x == ("__debug__" : Str)) = false := by decide) (he : starEach (e :: es) X.env = (false, eval e X.env) :: starEach es X.env := by rfl) (hpl : (backTo pos (starEach es X.env)).any (·.1) = false := by rfl) : PD 𝓜 X ε (.Call (.Name x p) (e :: es) [] pos) P := by
  obtain ⟨f, fd, ps, F, gx, kp, bd⟩ := c
  refine pd_pe (pe_callG F (hr.mono hk) gd hg gx kp bd pass0 ha hdb he hpl) fun md Mo C M F' H σ Q m o q => ⟨md, Mo, C, M, F', m, o, fun vs H1 ds p1 r1 i1 x1 => ?_⟩
  have o1 := o.rel r1 i1
  have p1 : ds = l := p1
  subst p1
  refine ⟨pureMd, M, ds.map Ent.dat, P, rfl, (fun a h => nomatch h), o1.dom, trivial, ?_, hp, fun v H' d pd r i z => q v H' d pd (r1.trans (Rel.of r.pure)) (md.stab _ _ i1 r.pure) z⟩
  rw [List.append_nil]
  exact paired_dat x1
end
end DL
end

section
set_option Elab.async false
set_option linter.all false
set_option maxRecDepth 100000
set_option maxHeartbeats 4000000
namespace TX
open PySem PySem.Spec PyProof.Rows L2 DL MA
theorem room70 {k : Nat} {A : Around} (r : Room k A) : A.units + 70 < cLine := by have := r.un; omega
theorem room65 {k : Nat} {A : Around} (r : Room k A) : A.units + 65 < cLine := by have := r.un; omega
theorem shp_en {g : Gar} (B : GOk g) {r : MA.Row} (O : RowOk g r) (hne : r ≠ []) {s : Nat} (hs : s < 2) : Shp 2 2000 (adD (en g r s)) := by
  obtain ⟨A1, A2⟩ := (en_ok B.ok O.ro hne).1 s hs
  refine (shp_ad (fun i hi => by have := ro_small B.ok A1.row i hi; omega) ?_).mono (Nat.le_refl _) ?_
  · have h1 := A1.hi
    have h2 := (web_ok B.ok A1.row).1.hi
    omega
  · have := O.len; omega
theorem shp_ends {g : Gar} (B : GOk g) {r : MA.Row} (O : RowOk g r) (hne : r ≠ []) {k : Nat} (hk : k < 3) : Shp 4 20000 (.tuple [endsD (ends g r), iD k]) :=
  (shp_two (k := 3) (shp_two (k := 2) (shp_en B O hne (s := 0) (by decide)) (shp_en B O hne (s := 1) (by decide)) (by omega) (by omega)) (shp_small (n := k) (by omega)) (by omega) (by omega)).mono (by omega) (by omega)
theorem pd_reprS {𝓜 : Md → Prop} {X : Cx} {ε : List Ent} {a : Expr} {pos p : Pos} {d : PyData} {n L : Nat} (sh : Shp n L d) (hn : n ≤ 64) (hL : L ≤ 16777216) (gd : X.A.guards = some []) (hu : X.A.units + 70 < cLine) (hg : Gl X "repr") (hm : X.mg "repr" = none) (h0 : isDisplay d = true) (ha : PD 𝓜 X ε a (Is d))
    (hs : starEach [a] X.env = (false, eval a X.env) :: starEach [] X.env := by rfl) (hpl : (backTo pos (starEach [] X.env)).any (·.1) = false := by rfl) : PD 𝓜 X ε (.Call (.Name "repr" p) [a] [] pos) (Is (.str d.shown)) :=
  pd_repr gd hu hg hm h0 sh.nodict sh.shw (Nat.le_trans sh.dep hn) (by rw [sizeLine_eq]; exact Nat.le_trans sh.len hL) ha hs hpl
section
variable {P : Program} {w : World} {K : PySem.W.Frag} {mg : Str → Option Value} {base : Heap} {f : Addr} {fd : FuncData}
abbrev l_told : Stmt := top 52
abbrev N_lt : List Str := ["_law_garden_here", "_law_row_here", "_law_ends_here", "_law_near", "_law_kind", "_law_tie_here", "_law_due", "_law_place"]
theorem sc_lt : FnScope N_lt ["_law_garden_here", "_law_row_here"] (defScope l_told) := ⟨rfl, rfl, rfl, by decide +kernel, rfl, by decide +kernel, by decide +kernel⟩
def preTold (es : List Ent) (R : PP) : Prop := ∃ (g : Gar) (r : MA.Row), GOk g ∧ RowOk g r ∧ 2 ≤ r.length ∧ es = [.dat (garD g), .dat (rowD r)] ∧ R = Is (.bool true)
theorem ok_lt (G : Glo mg) (ce : CalP P w K mg base 10 "row_ends" (spK pureM K (preRow fun g r => Is (endsD (ends g r))))) (ck : CalP P w K mg base 10 "row_kind" (spK pureM K (preRow fun g r => Is (iD (kind g r))))) (ci : CalP P w K mg base 9 "is_row" (spK pureM K (preRow fun _ _ => Is (.bool true)))) (F : FnP K "_law_ends_are_told" l_told f fd) : FnG P w K mg base 11 f fd ["_law_garden_here", "_law_row_here"] (spK pureM K preTold) := by
  refine fnG_data F sc_lt (fun es R ⟨g, r, _, _, _, e, _⟩ => by rw [e]; rfl) fun cdv A outer s0 H E es R hr gd ⟨g, r, B, O, h2, e, eR⟩ => ?_
  subst e eR
  have hN : N_lt.Nodup := by decide +kernel
  have hne : r ≠ [] := fun z => by subst z; simp at h2
  obtain ⟨q, i, rfl⟩ := snoc_of hne
  have hql : (q ++ [i]).length = q.length + 1 := by simp
  have hq : q ≠ [] := fun z => by subst z; simp at h2
  obtain ⟨ro1, hi⟩ := (ro_snoc g q i).mp O.ro
  have Oq : RowOk g q := ⟨ro1, by have := O.len; omega⟩
  have hk := ((web_ok B.ok ro1).2 hq).1
  have hkr : kind g (q ++ [i]) < g.2.length := ((web_ok B.ok O.ro).2 hne).1
  have K3 := B.ok.hi
  have hcut : PyData.tuple (cutD ((q ++ [i]).map iD) none (some (-1))) = rowD q := by
    rw [cutD_last (by simp), List.map_append]
    simp [rowD]
  have hlast : atI ((q ++ [i]).map iD) (-1) = some (iD i) := by rw [List.map_append]; exact at_last
  rw [web_kind g hq] at hi
  have slq : ∀ {𝓜 : Md → Prop} {X : Cx} {ε : List Ent} {a b : Expr} {pos p2 : Pos}, PD 𝓜 X ε a (Is (rowD (q ++ [i]))) → PD 𝓜 X ε b (Is (.int (-1))) → PD 𝓜 X ε (.Subscript a (.Slice none (some b) none p2) pos) (Is (rowD q)) := fun ha hb => pd_to (pd_slTo ha hb) hcut
  refine bd_asg (pd_tup (pdl_cons (pd_call ce hr (by decide) rfl (pdl_cons (pd_var 0) (pdl_cons (pd_var 1) pdl_nil)) ⟨g, q ++ [i], B, O, hne, rfl, rfl⟩) (pdl_cons (pd_call ce hr (by decide) rfl (pdl_cons (pd_var 0) (pdl_cons (slq (pd_var 1) (pd_neg pd_int)) pdl_nil)) ⟨g, q, B, Oq, hq, rfl, rfl⟩) (pdl_cons (pd_call ck hr (by decide) rfl (pdl_cons (pd_var 0) (pdl_cons (slq (pd_var 1) (pd_neg pd_int)) pdl_nil)) ⟨g, q, B, Oq, hq, rfl, rfl⟩) pdl_nil)))) (td_tup rfl (tds_cons (td_name 2 hN) (tds_cons (td_name 3 hN) (tds_cons (td_name 4 hN) tds_nil)))) rfl ?_
  refine bd_set 5 hN (pd_ixT (atN (tie_get hi)) (pd_ixT at1 (pd_ixT (atN (gro_get hk)) (pd_ixT at1 (pd_var 0) pd_int) (pd_var 4)) pd_int) (pd_ixT hlast (pd_var 1) (pd_neg pd_int))) ?_
  refine bd_set 6 hN (d := endsD (ends g (q ++ [i]))) (pd_tuple rfl G.tuple (ld_pdX (ld_lcA (own := [("_law_place", 7)]) (g := pickD (ends g q) q) rfl hN (LcD.mk1 (t := .nm 7) (id_tupX (pd_to (pd_slTo (pd_var 5) pd_int) (congrArg PyData.tuple (cutD_to 2)))) rfl (fun _ _ _ _ _ => td_name 7 hN) (fun d hd => ?_) (by decide) (by exact Nat.le_of_ble_eq_true rfl)))) (he := ?_)) ?_
  · have hd : d = iD (tieAt (growth g (kind g q)) i).1 ∨ d = iD (tieAt (growth g (kind g q)) i).2.1 := by
      rcases List.mem_cons.mp hd with e | hd
      · exact .inl e
      · exact .inr (List.mem_singleton.mp hd)
    have key : ∃ v, d = iD v := by rcases hd with e | e; exact ⟨_, e⟩; exact ⟨_, e⟩
    obtain ⟨v, rfl⟩ := key
    refine ⟨_, rfl, fun s H C cl fp => pd_if (pdt_lt (pd_var 7) pd_int) (fun h => ?_) (fun h => ?_)⟩
    · have hv : v < 2 := by have := of_decide_eq_true h.symm; omega
      refine pd_to (pd_ixT (sd_at hv) (pd_var 3) (pd_var 7)) ?_
      show adD (sd _ v) = adD (pick _ _ (v : Int).toNat)
      rw [Int.toNat_natCast, pick, if_pos hv]
    · have hv : ¬ v < 2 := by have := of_decide_eq_false h.symm; omega
      refine pd_to (pd_tup (pdl_cons (slq (pd_var 1) (pd_neg pd_int)) (pdl_cons (pd_var 7) pdl_nil))) ?_
      show PyData.tuple [rowD q, iD v] = adD (pick _ _ (v : Int).toNat)
      rw [Int.toNat_natCast, pick, if_neg hv]
      rfl
  · rw [ends_snoc g _ hq, web_kind g hq]
    rfl
  · have ek : kind g (q ++ [i]) = (tieAt (growth g (kind g q)) i).2.2 := by rw [kind_snoc, web_kind g hq]
    refine bd_ret (pd_andV (x := true) (pd_eqS (s := (PyData.tuple [endsD (ends g (q ++ [i])), iD (kind g (q ++ [i]))]).shown) (t := (PyData.tuple [endsD (ends g (q ++ [i])), iD (kind g (q ++ [i]))]).shown)
      (pd_reprS (shp_ends B O hne (by omega)) (by decide) (by decide) gd (room70 hr) rfl G.repr rfl (pd_tup (pdl_cons (pd_var 2) (pdl_cons (pd_call ck hr (by decide) rfl (pdl_cons (pd_var 0) (pdl_cons (pd_var 1) pdl_nil)) ⟨g, q ++ [i], B, O, hne, rfl, rfl⟩) pdl_nil))))
      (pd_reprS (shp_ends B O hne (by omega)) (by decide) (by decide) gd (room70 hr) rfl G.repr rfl (pd_tup (pdl_cons (pd_var 6) (pdl_cons (pd_ixT at2 (pd_var 5) pd_int) pdl_nil)) (he := by rw [ek]))) (he := congrArg PyData.bool (decide_eq_true rfl))) (fun _ => pd_one (pd_isB (pd_call ci hr (by decide) rfl (pdl_cons (pd_var 0) (pdl_cons (slq (pd_var 1) (pd_neg pd_int)) pdl_nil)) ⟨g, q, B, Oq, hq, rfl, rfl⟩) pd_bl)) (fun h => nomatch h))
end
end TX
end

section
set_option Elab.async false
set_option linter.all false
set_option maxRecDepth 100000
set_option maxHeartbeats 4000000
namespace TX
open PySem PySem.Spec PyProof.Rows L2 DL MA
section
variable {𝓜 : Md → Prop} {X : Cx} {ε : List Ent} {a b : Expr} {pos : Pos}
theorem pdt_isN {d : PyData} {j : Nat} {p2 : Pos} (ha : PD 𝓜 X ε a (Is d)) : PDT 𝓜 X ε (.Compare a [.Is] [.Constant .none j p2] pos) (IsB (noneD d)) :=
  pdt_cmpV op_isN (P1 := Is d) (P2 := Is .none) (fun md M H x y _ _ Q i _ _ p1 p2 x1 y1 q => by
    cases p1; cases p2
    refine ⟨dp_none y1, ?_⟩
    rw [dp_isN x1]
    exact q _ H _ rfl Rel.refl i (.bl _)) ha pd_non (nomark _)
theorem pdt_notB {k j : Bool} (ha : PD 𝓜 X ε a (Is (.bool k))) (hb : PD 𝓜 X ε b (Is (.bool j))) : PDT 𝓜 X ε (.Compare a [.IsNot] [b] pos) (IsB (!decide (k = j))) :=
  pdt_cmpV op_notBl (P1 := Is (.bool k)) (P2 := Is (.bool j)) (fun md M H x y _ _ Q i _ _ p1 p2 x1 y1 q => by
    cases p1; cases p2
    exact ⟨k, j, dp_bool x1, dp_bool y1, q _ H _ rfl Rel.refl i (.bl _)⟩) ha hb (nomark _)
end
theorem raw_bound {g : Gar} (G : GarOk g) {a : Ad} (A : AdOk g a) : ∀ m, (raw g a.1 a.2 m).length ≤ 10 ^ (m + 1)
  | 0 => Nat.le_trans (sidedF_len _ _ _ _) (web_ok G A.row).1.few
  | m + 1 => by
    refine Nat.le_trans (flat_len (c := 10) fun x hx => Nat.le_trans (sidedF_len _ _ _ _) (G.book _ (growth_mem (raw_in G A hx).1)).1.few) ?_
    have := raw_bound G A m
    rw [Nat.pow_succ, Nat.mul_comm]
    exact Nat.mul_le_mul_right _ this
theorem deg_bound {g : Gar} (G : GarOk g) {a : Ad} (A : AdOk g a) (m s k : Nat) (hm : m ≤ 100) : deg g a.1 a.2 m s k < 10 ^ 102 := by
  have h1 : deg g a.1 a.2 m s k ≤ (raw g a.1 a.2 m).length := List.countP_le_length
  have h2 := raw_bound G A m
  have h3 : 10 ^ (m + 1) ≤ 10 ^ 101 := Nat.pow_le_pow_right (by decide) (by omega)
  have h4 : 10 ^ 101 < 10 ^ 102 := by decide +kernel
  omega
theorem shp_big {n : Nat} (h : n < 10 ^ 102) : Shp 0 103 (iD n) := shp_int (k := 102) (by decide) h (by
  by_cases h0 : n = 0
  · subst h0; decide
  · rw [Nat.log2_lt h0]
    exact Nat.lt_trans h (by decide +kernel))
theorem shp_vec {n L : Nat} {f : Nat → Nat} (hn : n ≤ 3) (h : ∀ k, Shp 0 L (iD (f k))) : Shp 1 (9 + 3 * L) (.tuple (vecD n f)) := by
  have := shp_tup (n := 0) (L := L) (l := vecD n f) fun x hx => by
    obtain ⟨k, _, rfl⟩ := List.mem_map.mp hx
    rename_i hk
    obtain ⟨i, _, rfl⟩ := List.mem_map.mp hk
    exact h i
  refine this.mono (Nat.le_refl _) ?_
  rw [vecD_len]
  have : n * (L + 2) ≤ 3 * (L + 2) := Nat.mul_le_mul_right _ hn
  omega
theorem shp_deg {g : Gar} (B : GOk g) {a : Ad} (A : AdOk g a) {n : Nat} (hn : n ≤ 100) : Shp 2 10000 (degD g a n) :=
  (shp_two (k := 1) (shp_vec B.ok.hi fun k => shp_big (deg_bound B.ok A _ 0 k (by omega))) (shp_vec B.ok.hi fun k => shp_big (deg_bound B.ok A _ 1 k (by omega))) (by omega) (by omega)).mono (by omega) (by omega)
theorem next_eq {g : Gar} (B : GOk g) {a : Ad} (A : AdOk g a) {n : Nat} (hn : a.1.length ≤ n) : degV g.2.length (fun s k => tsum g (deg g a.1 a.2 (n - a.1.length)) g.2.length s k) = degD g a (n + 1) := by
  unfold degV degD
  rw [show n + 1 - a.1.length = (n - a.1.length) + 1 by omega]
  have h0 := vecD_congr (n := g.2.length) fun k _ => tsum_end B.ok (p := a.1) (v := a.2) A (m := n - a.1.length) (s := 0) (k := k) (by decide)
  have h1 := vecD_congr (n := g.2.length) fun k _ => tsum_end B.ok (p := a.1) (v := a.2) A (m := n - a.1.length) (s := 1) (k := k) (by decide)
  rw [h0, h1]
theorem shp_rows {g : Gar} {rs : List MA.Row} (h : ∀ r ∈ rs, r.length ≤ 200 ∧ ∀ i ∈ r, i < 10) (hl : rs.length ≤ 40) : Shp 2 100000 (.tuple (rs.map rowD)) := by
  have := shp_tup (n := 1) (L := 1300) (l := rs.map rowD) fun x hx => by
    obtain ⟨r, hr, rfl⟩ := List.mem_map.mp hx
    obtain ⟨h1, h2⟩ := h r hr
    exact (shp_row fun i hi => by have := h2 i hi; omega).mono (Nat.le_refl _) (by omega)
  refine this.mono (Nat.le_refl _) ?_
  rw [List.length_map]
  have : rs.length * (1300 + 2) ≤ 40 * (1300 + 2) := Nat.mul_le_mul_right _ hl
  omega
theorem FewR.rows {g : Gar} {a : Ad} {n : Nat} (O : FewR g a n) : (∀ r ∈ rowsS g a n, r.length ≤ 200 ∧ ∀ i ∈ r, i < 10) ∧ (rowsS g a n).length = (raw g a.1 a.2 (n - a.1.length)).length ∧ (rowsS g a n).Nodup := by
  have fl := raw_flat O.gok.ok O.adr.ok (n - a.1.length)
  have pm := srt_perm ((raw g a.1 a.2 (n - a.1.length)).map (·.1))
  refine ⟨fun r hr => ?_, ?_, ?_⟩
  · obtain ⟨h1, h2⟩ := fl.all r (pm.mem_iff.mp hr)
    have := O.le
    have := O.hi
    exact ⟨by omega, h2⟩
  · show (srt _).length = _
    rw [pm.length_eq, List.length_map]
  · exact pm.nodup_iff.mpr (raw_nodup _ _ _)
section
variable {P : Program} {w : World} {K : PySem.W.Frag} {mg : Str → Option Value} {base : Heap} {f : Addr} {fd : FuncData}
abbrev l_met : Stmt := top 54
abbrev N_lm : List Str := ["_law_garden_here", "_law_address", "_law_n", "_law_row_here", "_law_side", "_law_both", "_law_rows", "_law_before"]
theorem sc_lm : FnScope N_lm ["_law_garden_here", "_law_address", "_law_n", "_law_row_here", "_law_side"] (defScope l_met) := ⟨rfl, rfl, rfl, by decide +kernel, rfl, by decide +kernel, by decide +kernel⟩
def preMet (es : List Ent) (R : PP) : Prop := ∃ (g : Gar) (r : MA.Row) (s n : Nat), GOk g ∧ RowOk g r ∧ r.length = n + 1 ∧ 1 ≤ n ∧ n ≤ 60 ∧ s < 2 ∧ es = [.dat (garD g), .dat (adD (en g r s)), .dat (iD n), .dat (rowD r), .dat (iD s)] ∧ R = Is (.bool true)
theorem ok_lm (G : Glo mg) (cd : CalP P w K mg base 10 "degrees" (spK pureM K (preBorn fun g a n => Is (degD g a n)))) (cl : CalP P w K mg base 2 "_law_degrees" (spK pureM K (preBorn fun g a n => Is (degD g a n))))
    (ck : CalP P w K mg base 10 "row_kind" (spK pureM K (preRow fun g r => Is (iD (kind g r))))) (cn : CalP P w K mg base 2 "_law_next_degrees" (spK pureM K preNext)) (cf : CalP P w K mg base 1 "_law_few_rows" (spK pureM K (preBorn fewB)))
    (cr : CalP P w K mg base 10 "rows_at" (spK pureM K (preRaw fun g a n => Is (.tuple ((rowsS g a n).map rowD))))) (co : CalP P w K mg base 11 "_law_follow" (spK pureM K preFol)) (F : FnP K "_law_is_met" l_met f fd) : FnG P w K mg base 12 f fd ["_law_garden_here", "_law_address", "_law_n", "_law_row_here", "_law_side"] (spK pureM K preMet) := by
  refine fnG_data F sc_lm (fun es R ⟨g, r, s, n, _, _, _, _, _, _, e, _⟩ => by rw [e]; rfl) fun cdv A outer s0 H E es R hr gd ⟨g, r, s, n, B, O, hlen, h1n, hn60, hs, e, eR⟩ => ?_
  subst e eR
  have hN : N_lm.Nodup := by decide +kernel
  have hne : r ≠ [] := fun z => by subst z; cases hlen
  obtain ⟨A0, A1⟩ := (en_ok B.ok O.ro hne).1 s hs
  have le : (en g r s).1.length ≤ n := by omega
  have hw := raw_whole B.ok (p := (en g r s).1) (v := (en g r s).2) n r s hlen O.ro hs rfl
  revert A0 A1 le hw
  generalize en g r s = a
  intro A0 A1 le hw
  have AR : AdR g a := ⟨A0, by omega⟩
  have K3 := B.ok.hi
  have hk := ((web_ok B.ok O.ro).2 hne).1
  have hpos : deg g a.1 a.2 (n - a.1.length) s (kind g r) ≠ 0 := deg_pos hw
  have tot : ∀ m, sumR g.2.length (deg g a.1 a.2 m 0) + sumR g.2.length (deg g a.1 a.2 m 1) = (raw g a.1 a.2 m).length := fun m => (raw_total B.ok A0).symm
  have sd := shp_deg B A0 (n := n) (by omega)
  have sd1 := shp_deg B A0 (n := n + 1) (by omega)
  refine bd_set 5 hN (pd_call cd hr (by decide) rfl (pdl_cons (pd_var 0) (pdl_cons (pd_var 1) (pdl_cons (pd_var 2) pdl_nil))) ⟨g, a, n, B, AR, le, by omega, rfl, rfl⟩) ?_
  refine bd_ifNo (pdt_to (pdt_w (pdw_orV (pdt_neS (s := (degD g a n).shown) (t := (degD g a n).shown) (pd_reprS sd (by decide) (by decide) gd (room70 hr) rfl G.repr rfl (pd_var 5)) (pd_reprS sd (by decide) (by decide) gd (room70 hr) rfl G.repr rfl (pd_call cl hr (by decide) rfl (pdl_cons (pd_var 0) (pdl_cons (pd_var 1) (pdl_cons (pd_var 2) pdl_nil))) ⟨g, a, n, B, AR, le, by omega, rfl, rfl⟩))) fun _ =>
    pdw_or1 (pdt_eqI (pd_ixT (atN (vecD_get hk)) (pd_ixT (two_at (f := fun s => .tuple (vecD g.2.length (deg g a.1 a.2 (n - a.1.length) s))) hs) (pd_var 5) (pd_var 4)) (pd_call ck hr (by decide) rfl (pdl_cons (pd_var 0) (pdl_cons (pd_var 3) pdl_nil)) ⟨g, r, B, O, hne, rfl, rfl⟩)) pd_int))) ?_) ?_
  · rw [decide_eq_true (rfl : (degD g a n).shown = (degD g a n).shown), decide_eq_false (show ¬ ((deg g a.1 a.2 (n - a.1.length) s (kind g r) : Nat) : Int) = 0 by omega)]; rfl
  refine bd_ifNo (pdt_to (pdt_w (pdw_andV (pdt_lt (pd_var 2) pd_int) fun _ => pdw_and1 (pdt_neS (s := (degD g a (n + 1)).shown) (t := (degD g a (n + 1)).shown) (pd_reprS sd1 (by decide) (by decide) gd (room70 hr) rfl G.repr rfl (pd_call cd hr (by decide) rfl (pdl_cons (pd_var 0) (pdl_cons (pd_var 1) (pdl_cons (pd_add (pd_var 2) pd_int) pdl_nil))) ⟨g, a, n + 1, B, AR, by omega, by omega, rfl, rfl⟩))
    (pd_reprS sd1 (by decide) (by decide) gd (room70 hr) rfl G.repr rfl (pd_to (pd_call cn hr (by decide) rfl (pdl_cons (pd_var 0) (pdl_cons (pd_var 5) pdl_nil)) ⟨g, deg g a.1 a.2 (n - a.1.length), B, rfl, rfl⟩) (next_eq B A0 le)))))) ?_) ?_
  · rw [decide_eq_true (rfl : (degD g a (n + 1)).shown = (degD g a (n + 1)).shown)]; simp
  refine bd_ifRet (T := fun x => x = false → sumR g.2.length (deg g a.1 a.2 (n - a.1.length) 0) + sumR g.2.length (deg g a.1 a.2 (n - a.1.length) 1) ≤ 40 ∧ ∀ m, m ≤ n - a.1.length → (raw g a.1 a.2 m).length ≤ 300)
    (pdt_w (pdw_or (T := IsB (decide ((40 : Int) < (sumR g.2.length (deg g a.1 a.2 (n - a.1.length) 0) : Int) + (sumR g.2.length (deg g a.1 a.2 (n - a.1.length) 1) : Int)))) (U := fun x => x = false → ∀ m, m ≤ n - a.1.length → (raw g a.1 a.2 m).length ≤ 300)
      (pdt_gt (pd_add (pd_sumVT rfl rfl G.sum (pd_ixT at0 (pd_var 5) pd_int)) (pd_sumVT rfl rfl G.sum (pd_ixT at1 (pd_var 5) pd_int))) pd_int)
      (fun _ => pdw_or1 (pdt_imp (pdt_notT (pdt_of (pd_call (P := fewB g a n) cf hr (by decide) rfl (pdl_cons (pd_var 0) (pdl_cons (pd_var 1) (pdl_cons (pd_var 2) pdl_nil))) ⟨g, a, n, B, AR, le, by omega, rfl, rfl⟩))) fun y h hy => h (by rw [hy]; rfl)))
      (fun _ h => nomatch h) (fun x h1 h2 hx => ⟨by have := of_decide_eq_false h1.symm; omega, h2 hx⟩))) (fun _ => bd_ret pd_bl) (fun hT => ?_)
  obtain ⟨h40, h300⟩ := hT rfl
  have h40 : (raw g a.1 a.2 (n - a.1.length)).length ≤ 40 := by rw [← tot]; exact h40
  have FR : FewR g a n := ⟨B, AR, le, by omega, h300, h40⟩
  obtain ⟨w1, w2, w3⟩ := FR.rows
  refine bd_set 6 hN (pd_call cr hr (by decide) rfl (pdl_cons (pd_var 0) (pdl_cons (pd_var 1) (pdl_cons (pd_var 2) pdl_nil))) ⟨g, a, n, FR, rfl, rfl⟩) ?_
  have srows := shp_rows (g := g) w1 (by omega)
  have hall : ∀ x ∈ (rowsS g a n).map rowD, Shp 1 1300 x := fun x hx => by
    obtain ⟨q, hq, rfl⟩ := List.mem_map.mp hx
    obtain ⟨q1, q2⟩ := w1 q hq
    exact (shp_row fun i hi => by have := q2 i hi; omega).mono (Nat.le_refl _) (by omega)
  have hin : r ∈ rowsS g a n := (srt_perm _).mem_iff.mpr (List.mem_map.mpr ⟨_, hw, rfl⟩)
  have fl := raw_flat B.ok A0 (n - a.1.length)
  refine bd_ifNo (pdt_to (pdt_w (pdw_orV (pdt_notInTD (dd := false) (room65 hr) (row_shaped B O) (srows.shaped (by decide)) rfl (pd_var 3) (pd_var 6) (hdd := ?_)) fun _ => pdw_orV (pdt_neI (pd_lenT rfl G.len (pd_var 6)) (pd_add (pd_sumVT rfl rfl G.sum (pd_ixT at0 (pd_var 5) pd_int)) (pd_sumVT rfl rfl G.sum (pd_ixT at1 (pd_var 5) pd_int)))) fun _ =>
    pdw_or1 (pdt_neD hr.units (shaped_lst hall (by decide)) (shaped_lst hall (by decide)) (pd_listT rfl G.list (pd_var 6)) (pd_sortedSet (d := a.1.length + (n - a.1.length) + 1) (B := 16) (rows := (rowsS g a n).map toI) (rows' := (rowsS g a n).map toI) rfl hr.units (by omega) rfl G.sorted rfl G.set fl.srt.ok (List.Perm.refl _) (srt_asc _) ?_ (by rw [List.length_map]; omega) (pd_to (pd_var 6) (congrArg PyData.tuple (rows_enc _))) (hdd := congrArg PyData.list (rows_enc _).symm))))) ?_) ?_
  · have : ((rowsS g a n).map rowD).any (fun z => PyData.eqv z (rowD r)) = true := List.any_eq_true.mpr ⟨rowD r, List.mem_map.mpr ⟨r, hin, rfl⟩, by rw [eqv_row]; exact decide_eq_true rfl⟩
    rw [this]; rfl
  · exact List.Pairwise.map _ (fun x y h e => h (toI_inj e)) w3
  · rw [List.length_map, lst_eqv hall]
    have t := tot (n - a.1.length)
    rw [decide_eq_true (show ((rowsS g a n).length : Int) = (sumR g.2.length (deg g a.1 a.2 (n - a.1.length) 0) : Int) + (sumR g.2.length (deg g a.1 a.2 (n - a.1.length) 1) : Int) by omega)]
    rfl
  by_cases hb : a.1.length < n
  · refine bd_set 7 hN (d := degD g a (n - 1)) (pd_if (pdt_gt (pd_var 2) (pd_lenT rfl G.len (pd_ixT at0 (pd_var 1) pd_int))) (fun _ => pd_call cd hr (by decide) rfl (pdl_cons (pd_var 0) (pdl_cons (pd_var 1) (pdl_cons (d := iD (n - 1)) (pd_sub (pd_var 2) pd_int (he := congrArg PyData.int (by omega))) pdl_nil))) ⟨g, a, n - 1, B, AR, by omega, by omega, rfl, rfl⟩) (fun h => ?_)) ?_
    · rw [List.length_map] at h
      have := of_decide_eq_false h.symm
      omega
    refine bd_ifRet (pdt_w (pdw_orV (pdt_isN (pd_var 7)) fun _ => pdw_or1 (pdt_gt (pd_add (pd_sumVT rfl rfl G.sum (pd_ixT at0 (pd_var 7) pd_int)) (pd_sumVT rfl rfl G.sum (pd_ixT at1 (pd_var 7) pd_int))) pd_int))) (fun _ => bd_ret pd_bl) (fun hT => ?_)
    have t := tot (n - 1 - a.1.length)
    have h40' : (raw g a.1 a.2 (n - 1 - a.1.length)).length ≤ 40 := by
      have := of_decide_eq_false (show false = decide _ from hT).symm
      omega
    have FR1 : FewR g a (n - 1) := ⟨B, AR, by omega, by omega, fun m hm => h300 m (by omega), h40'⟩
    have e1 : n - 1 + 1 = n := by omega
    refine bd_ret (pd_eqS (s := (PyData.tuple ((rowsS g a n).map rowD)).shown) (t := (PyData.tuple ((rowsS g a n).map rowD)).shown) (pd_reprS srows (by decide) (by decide) gd (room70 hr) rfl G.repr rfl (pd_call co hr (by decide) rfl (pdl_cons (pd_var 0) (pdl_cons (pd_var 1) (pdl_cons (pd_call cr hr (by decide) rfl (pdl_cons (pd_var 0) (pdl_cons (pd_var 1) (pdl_cons (d := iD (n - 1)) (pd_sub (pd_var 2) pd_int (he := congrArg PyData.int (by omega))) pdl_nil))) ⟨g, a, n - 1, FR1, rfl, rfl⟩) pdl_nil))) ⟨g, a, n - 1, FR1, by omega, by rw [e1]; exact h40, rfl, by rw [e1]⟩)) (pd_reprS srows (by decide) (by decide) gd (room70 hr) rfl G.repr rfl (pd_var 6)) (he := congrArg PyData.bool (decide_eq_true rfl)))
  · refine bd_set 7 hN (d := .none) (pd_if (pdt_gt (pd_var 2) (pd_lenT rfl G.len (pd_ixT at0 (pd_var 1) pd_int))) (fun h => ?_) (fun h => pd_non)) ?_
    · rw [List.length_map] at h
      have := of_decide_eq_true h.symm
      omega
    exact bd_ifYes (pdt_to (pdt_w (pdw_orV (x := true) (y := true) (pdt_to (pdt_isN (d := .none) (pd_var 7)) rfl) fun h => nomatch h)) rfl) (bd_ret pd_bl)
end
end TX
end

section
set_option Elab.async false
set_option linter.all false
set_option maxRecDepth 100000
set_option maxHeartbeats 4000000
/-! The deck: a dict with a list of whole numbers and two whole numbers. -/
namespace DL
open PySem PySem.Spec PyProof.Rows L2
def deckK (cA : Addr) (m dr : Int) : List (Key × V) := [(.inr "cells", .ref cA), (.inr "mixed", .int m), (.inr "draws", .int dr)]
theorem dk_cells (cA : Addr) (m dr : Int) : valV (deckK cA m dr) (.inr "cells") = some (.ref cA) := by rfl
theorem dk_mixed (cA : Addr) (m dr : Int) : valV (deckK cA m dr) (.inr "mixed") = some (.int m) := by rfl
theorem dk_draws (cA : Addr) (m dr : Int) : valV (deckK cA m dr) (.inr "draws") = some (.int dr) := by rfl
theorem dk_put (cA : Addr) (m dr i : Int) : putK (deckK cA m dr) (.inr "draws") (.int i) = deckK cA m i := by rfl
def twoM (dA cA : Addr) : Hd := fun a => decide (a = dA) || decide (a = cA)
theorem twoM_iff {dA cA a : Addr} : twoM dA cA a = true ↔ a = dA ∨ a = cA := by unfold twoM; simp
def deckI (dA cA : Addr) (c : List Int) (m dr : Int) (H : Hp) : Prop := dA ≠ cA ∧ H dA = some (.dK (deckK cA m dr)) ∧ H cA = some (.lst (c.map V.int)) ∧ c.length ≤ 100
def deckMd (dA cA : Addr) : Md where
  m0 := twoM dA cA
  inv := fun H => ∃ c m dr, deckI dA cA c m dr H
  ref := .ref dA
  stab' := fun H H' ⟨c, m, dr, h1, h2, h3, h4⟩ s => ⟨c, m, dr, h1, s _ _ (twoM_iff.mpr (.inl rfl)) h2, s _ _ (twoM_iff.mpr (.inr rfl)) h3, h4⟩
  dom := fun H a ⟨c, m, dr, h1, h2, h3, h4⟩ h => by
    rcases twoM_iff.mp h with rfl | rfl
    · rw [h2]; exact fun z => nomatch z
    · rw [h3]; exact fun z => nomatch z
def deckX (dA cA : Addr) (c : List Int) (m dr : Int) : Md where
  m0 := twoM dA cA
  inv := deckI dA cA c m dr
  ref := .ref dA
  stab' := fun H H' ⟨h1, h2, h3, h4⟩ s => ⟨h1, s _ _ (twoM_iff.mpr (.inl rfl)) h2, s _ _ (twoM_iff.mpr (.inr rfl)) h3, h4⟩
  dom := fun H a ⟨h1, h2, h3, h4⟩ h => by
    rcases twoM_iff.mp h with rfl | rfl
    · rw [h2]; exact fun z => nomatch z
    · rw [h3]; exact fun z => nomatch z
def deckM : Md → Prop := fun md => ∃ dA cA, md = deckMd dA cA
abbrev XM (c : List Int) (m dr : Int) : Md → Prop := fun md => ∃ dA cA, md = deckX dA cA c m dr
/-- another mode over the same hidden things -/
theorem Ok.mode {K : PySem.W.Frag} {md md' : Md} {Mo C M : Hd} {F H H' : Hp} {σ : L2.St} {ε : List Ent} (o : Ok K md Mo C M F H σ ε) (e0 : md'.m0 = md.m0) (er : md'.ref = md.ref) (r : Rel md H H') (i : md'.inv H') : Ok K md' Mo C M F H' σ ε where
  len := o.len
  m0C := fun a h => o.m0C a (by rw [← e0]; exact h)
  m0o := fun a h => o.m0o a (by rw [← e0]; exact h)
  oM := o.oM
  CM := o.CM
  MM := o.MM
  dom := fun a h => by
    cases c : md.m0 a with
    | true => exact md'.dom H' a i (by rw [e0]; exact c)
    | false =>
      cases q : H a with
      | none => exact absurd q (o.dom a h)
      | some u => rw [r a u c q]; exact fun z => nomatch z
  inv := i
  fix := fun a u h => by
    refine r a u ?_ (o.fix a u h)
    cases c : md.m0 a with
    | false => rfl
    | true => rw [o.CF a (o.m0C a c)] at h; cases h
  CF := o.CF
  out := fun a h h0 => o.out a h (by rw [← e0]; exact h0)
  dat := fun j d h => by
    obtain ⟨v, e, q⟩ := o.dat j d h
    exact ⟨v, e, dp_same (o.keep r) q⟩
  dk := fun j h => by rw [er]; exact o.dk j h
  lm := fun j ds h => by
    obtain ⟨p, xs, e, hc, h0, hp, q⟩ := o.lm j ds h
    exact ⟨p, xs, e, hc, by rw [e0]; exact h0, r p _ h0 hp, dpa_same (o.keep r) q⟩
  sep := o.sep
  tm := fun j a b h => by
    obtain ⟨T, p, q, xs, ys, e, hT, hne, ⟨c1, m1, h1, z1⟩, ⟨c2, m2, h2, z2⟩⟩ := o.tm j a b h
    exact ⟨T, p, q, xs, ys, e, sqt_same (o.keep r) hT, hne, ⟨c1, by rw [e0]; exact m1, r p _ m1 h1, dpa_same (o.keep r) z1⟩, ⟨c2, by rw [e0]; exact m2, r q _ m2 h2, dpa_same (o.keep r) z2⟩⟩
  tsep := o.tsep
/-- statements that know the deck exactly -/
def tX (K : PySem.W.Frag) (c : List Int) (m dr : Int) (ε : List Ent) (N : List Int → Int → Int → List Ent → Prop) (R : PP) : TS := fun D σ H => ∃ dA cA Mo C M F, Ok K (deckX dA cA c m dr) Mo C M F H σ ε ∧
  (∀ σ' H' C' M' ε' c' m' dr', N c' m' dr' ε' → Ok K (deckX dA cA c' m' dr') Mo C' M' F H' σ' ε' → D.nx σ' H') ∧
  (∀ v H' d, R d → Same F H' → (deckMd dA cA).inv H' → Dp K (hid H' Mo) v d → D.rt v H')
abbrev SX (X : Cx) (c : List Int) (m dr : Int) (ε : List Ent) (st : Stmt) (N : List Int → Int → Int → List Ent → Prop) (R : PP) : Prop := PS X st (tX X.K c m dr ε N R)
abbrev BX (X : Cx) (c : List Int) (m dr : Int) (ε : List Ent) (st : List Stmt) (N : List Int → Int → Int → List Ent → Prop) (R : PP) : Prop := PSs X st (tX X.K c m dr ε N R)
section
variable {X : Cx} {c : List Int} {m dr : Int} {ε : List Ent} {st : Stmt} {rest bl bl' : List Stmt} {N N1 : List Int → Int → Int → List Ent → Prop} {R : PP} {cnd e : Expr} {pos : Pos} {P : PP}
theorem bx_nil (h : N c m dr ε) : BX X c m dr ε [] N R := pss_mono pss_nil fun D σ H ⟨dA, cA, Mo, C, M, F, o, q, _⟩ => q σ H C M ε c m dr h o
theorem bx_cons (h1 : SX X c m dr ε st N1 R) (h2 : ∀ c' m' dr' ε', N1 c' m' dr' ε' → BX X c' m' dr' ε' rest N R) : BX X c m dr ε (st :: rest) N R := by
  have f : PSs X rest (fun D σ H => ∃ i : { z : List Int × Int × Int × List Ent // N1 z.1 z.2.1 z.2.2.1 z.2.2.2 }, tX X.K i.1.1 i.1.2.1 i.1.2.2.1 i.1.2.2.2 N R D σ H) := pss_fam fun i => h2 i.1.1 i.1.2.1 i.1.2.2.1 i.1.2.2.2 i.2
  refine pss_mono (pss_cons h1 f) fun D σ H ⟨dA, cA, Mo, C, M, F, o, q, qr⟩ => ?_
  exact ⟨dA, cA, Mo, C, M, F, o, fun σ' H' C' M' ε' c' m' dr' n o' => ⟨⟨(c', m', dr', ε'), n⟩, dA, cA, Mo, C', M', F, o', q, qr⟩, qr⟩
theorem sx_of {N0 : List Ent → Prop} (h : SD (XM c m dr) X ε st N0 R) : SX X c m dr ε st (fun c' m' dr' ε' => c' = c ∧ m' = m ∧ dr' = dr ∧ N0 ε') R :=
  ps_mono h fun D σ H ⟨dA, cA, Mo, C, M, F, o, q, qr⟩ => ⟨deckX dA cA c m dr, Mo, C, M, F, ⟨dA, cA, rfl⟩, o, fun σ' H' C' M' ε' n o' => q σ' H' C' M' ε' c m dr ⟨rfl, rfl, rfl, n⟩ o', fun v H' d p s i z => qr v H' d p s ⟨c, m, dr, i⟩ z⟩
theorem bx_st {N0 : List Ent → Prop} (h : SD (XM c m dr) X ε st N0 R) (h2 : ∀ ε', N0 ε' → BX X c m dr ε' rest N R) : BX X c m dr ε (st :: rest) N R :=
  bx_cons (sx_of h) fun c' m' dr' ε' ⟨e1, e2, e3, n⟩ => by subst e1 e2 e3; exact h2 ε' n
theorem bx_set (i : Nat) {x : Str} {pos' : Pos} {d : PyData} (hN : X.N.Nodup) (he : PD (XM c m dr) X ε e (Is d)) (h2 : BX X c m dr (ε.set i (.dat d)) rest N R) (hx : Loc X.env.scope x := by first | exact .inl rfl | exact .inr rfl) (hi : X.N[i]? = some x := by rfl) (hs : swapsWith e (some (.Name x pos')) pos.line X.env = pure false := by rfl)
    (hf : X.fn x = true ∨ X.env.scope.names.lookup x = some .local := by first | exact .inl rfl | exact .inr rfl | assumption) : BX X c m dr ε (.Assign [.Name x pos'] e pos :: rest) N R :=
  bx_st (sd_setP i hN hx he hi hs hf) fun ε' ⟨d', p, e'⟩ => by cases p; subst e'; exact h2
theorem bx_ret (he : PD (XM c m dr) X ε e R) : BX X c m dr ε (.Return (some e) pos :: rest) N R := bx_st (N0 := fun _ => False) (sd_ret he) fun _ h => h.elim
theorem sx_if {b : Bool} (hc : PDT (XM c m dr) X ε cnd (IsB b)) (ha : b = true → BX X c m dr ε bl N R) (hb : b = false → BX X c m dr ε bl' N R) : SX X c m dr ε (.If cnd bl bl' pos) N R := by
  have h1 : PSs X bl (fun D σ H => ∃ _ : b = true, tX X.K c m dr ε N R D σ H) := pss_fam fun h => ha h
  have h2 : PSs X bl' (fun D σ H => ∃ _ : b = false, tX X.K c m dr ε N R D σ H) := pss_fam fun h => hb h
  refine ps_mono (ps_if hc h1 h2) fun D σ H ⟨dA, cA, Mo, C, M, F, o, q, qr⟩ => ⟨deckX dA cA c m dr, Mo, C, M, F, ⟨dA, cA, rfl⟩, o, fun y H1 p r i => ?_⟩
  have w : tX X.K c m dr ε N R D σ H1 := ⟨dA, cA, Mo, C, M, F, o.rel r i, q, qr⟩
  have p : y = b := p
  cases y with
  | true => exact iteT ⟨p.symm, w⟩
  | false => exact iteF ⟨p.symm, w⟩
/-! reading -/
theorem pd_dk (i : Nat) (key : Str) {x : Str} {vp kp : Pos} {j : Nat} {n : Int} (hu : X.A.units + 1 < cLine) (h : ε[i]? = some .dk) (hv0 : ∀ cA, valV (deckK cA m dr) (.inr key) = some (.int n)) (hN : X.N[i]? = some x := by rfl) (hv : Vis X.env.scope x := by first | exact Or.inl rfl | exact Or.inr (Or.inl rfl) | exact Or.inr (Or.inr rfl))
    (hd : (x == ("__debug__" : Str)) = false := by decide) (hcd : (x == ("__classdict__" : Str)) = false := by decide) (hs : NoSl (.Constant (.str key) j kp) := by exact fun _ _ => rfl) : PD (XM c m dr) X ε (.Subscript (.Name x vp) (.Constant (.str key) j kp) pos) (Is (.int n)) :=
  pd_pe (pe_dget hu (pv i hN hv hd hcd) pe_str hs) fun md Mo C M F H σ Q ⟨dA, cA, em⟩ o q => by
    subst em
    have iv : deckI dA cA c m dr H := o.inv
    obtain ⟨h1, h2, h3⟩ := iv
    refine ⟨.ref dA, o.dk i h, dA, .int n, rfl, .inl ⟨_, .inr key, .inl h2, rfl, (hv0 cA).symm⟩, q _ H _ rfl Rel.refl o.inv (.int n)⟩
theorem pe_cells (i : Nat) {x : Str} {vp kp : Pos} {j : Nat} (hu : X.A.units + 1 < cLine) (hN : X.N[i]? = some x) (hv : Vis X.env.scope x) (hd : (x == ("__debug__" : Str)) = false) (hcd : (x == ("__classdict__" : Str)) = false) : PE X (.Subscript (.Name x vp) (.Constant (.str "cells") j kp) pos) (tDGet (tVar i) (tC (.str "cells"))) :=
  pe_dget hu (pv i hN hv hd hcd) pe_str fun _ _ => rfl
theorem ints_shaped : ∀ c : List Int, SeqAt.shaped (.list (c.map PyData.int)) = true := fun c => by
  have h : ∀ c : List Int, PyData.canLayAll0 (c.map PyData.int) = true ∧ PyData.depthAll (c.map PyData.int) = 0 := fun c => by
    induction c with
    | nil => exact ⟨rfl, rfl⟩
    | cons a c ih =>
      refine ⟨?_, ?_⟩
      · show (true && PyData.canLayAll0 (c.map PyData.int)) = true
        rw [ih.1]; rfl
      · show max 0 (PyData.depthAll (c.map PyData.int)) = 0
        rw [ih.2]; rfl
  unfold SeqAt.shaped
  have e : (PyData.list (c.map PyData.int)).canLay0 = true := (h c).1
  have e2 : (PyData.list (c.map PyData.int)).depth ≤ 64 := by show PyData.depthAll _ + 1 ≤ 64; rw [(h c).2]; decide
  rw [e, decide_eq_true e2]; rfl
/-- d['cells'] != [] -/
theorem pdt_cells (i : Nat) {x : Str} {vp kp sp lp : Pos} {j : Nat} (hu : X.A.units + 64 < cLine) (h : ε[i]? = some .dk) (hN : X.N[i]? = some x := by rfl) (hv : Vis X.env.scope x := by first | exact Or.inl rfl | exact Or.inr (Or.inl rfl) | exact Or.inr (Or.inr rfl))
    (hd : (x == ("__debug__" : Str)) = false := by decide) (hcd : (x == ("__classdict__" : Str)) = false := by decide) : PDT (XM c m dr) X ε (.Compare (.Subscript (.Name x vp) (.Constant (.str "cells") j kp) sp) [.NotEq] [.List [] lp] pos) (IsB (!c.isEmpty)) :=
  pt_mono (pt_cmpR (op_neD hu) (pe_cells i (by omega) hN hv hd hcd) (pe_lst pa_nil) (nomark _)) fun σ H Q ⟨md, Mo, C, M, F, ⟨dA, cA, em⟩, o, q⟩ => by
    subst em
    have iv : deckI dA cA c m dr H := o.inv
    obtain ⟨h1, h2, h3, h4⟩ := iv
    refine ⟨.ref dA, o.dk i h, dA, .ref cA, rfl, .inl ⟨_, .inr "cells", .inl h2, rfl, (dk_cells cA m dr).symm⟩, Nat.zero_le _, fun p np => ?_⟩
    have hne : cA ≠ p := fun z => by rw [← z, h3] at np; cases np
    refine ⟨.list (c.map PyData.int), .list [], .lst (.inl (.inl (by rw [upd_ne hne]; exact h3))) (dpa_of_ints c), .lst (.inl (.inl upd_same)) .nil, ints_shaped c, by decide +kernel, _, rfl, ?_⟩
    have e : (!PyData.eqv (.list (c.map PyData.int)) (.list [])) = !c.isEmpty := by cases c <;> rfl
    rw [e]
    exact q _ _ rfl (Rel.of (same_new np)) ((deckX dA cA c m dr).stab _ _ o.inv (same_new np))
end
end DL
end

section
set_option Elab.async false
set_option linter.all false
set_option maxRecDepth 100000
set_option maxHeartbeats 4000000
namespace DL
open PySem PySem.Spec PyProof.Rows L2
section
variable {X : Cx} {c : List Int} {m dr : Int} {ε : List Ent} {st : Stmt} {rest bl bl' : List Stmt} {N N1 : List Int → Int → Int → List Ent → Prop} {R : PP} {cnd e : Expr} {pos : Pos} {P : PP}
theorem rel_at {dA cA : Addr} {c : List Int} {m dr : Int} {H : Hp} {a : Addr} {u : HO} (h : a = dA ∨ a = cA) : Rel (deckX dA cA c m dr) H (upd H a u) := fun b o h0 h1 => by
  have h0 : twoM dA cA b = false := h0
  have hne : b ≠ a := fun z => by
    have : twoM dA cA b = true := twoM_iff.mpr (by rw [z]; exact h)
    rw [h0] at this; cases this
  rw [upd_ne hne]
  exact h1
/-- d['draws'] = e -/
theorem bx_draws (i : Nat) {x : Str} {vp kp sp : Pos} {j : Nat} {n : Int} (hu : X.A.units + 1 < cLine) (h : ε[i]? = some .dk) (he : PD (XM c m dr) X ε e (Is (.int n))) (h2 : BX X c m n ε rest N R) (hN : X.N[i]? = some x := by rfl) (hv : Vis X.env.scope x := by first | exact Or.inl rfl | exact Or.inr (Or.inl rfl) | exact Or.inr (Or.inr rfl))
    (hd : (x == ("__debug__" : Str)) = false := by decide) (hcd : (x == ("__classdict__" : Str)) = false := by decide) (hs : swapsWith e (some (.Subscript (.Name x vp) (.Constant (.str "draws") j kp) sp)) pos.line X.env = pure false := by rfl) :
    BX X c m dr ε (.Assign [.Subscript (.Name x vp) (.Constant (.str "draws") j kp) sp] e pos :: rest) N R :=
  bx_cons (N1 := fun c' m' dr' ε' => c' = c ∧ m' = m ∧ dr' = n ∧ ε' = ε) (ps_mono (ps_dput hu (pv i hN hv hd hcd) pe_str he hs) fun D σ H ⟨dA, cA, Mo, C, M, F, o, q, qr⟩ => ⟨deckX dA cA c m dr, Mo, C, M, F, ⟨dA, cA, rfl⟩, o, fun v H1 d p r i1 z => by
    cases p
    rw [dp_int z]
    have iv : deckI dA cA c m dr H1 := i1
    obtain ⟨g1, g2, g3, g4⟩ := iv
    refine ⟨.ref dA, o.dk i h, dA, _, rfl, DPut.k (k := .inr "draws") g2 (by show 3 < sizeLine; decide), ?_⟩
    rw [dk_put]
    refine q _ _ C M ε c m n ⟨rfl, rfl, rfl, rfl⟩ (o.mode rfl rfl (r.trans (rel_at (.inl rfl))) ⟨g1, upd_same, ?_, g4⟩)
    rw [upd_ne (fun z => g1 z.symm)]
    exact g3⟩) fun c' m' dr' ε' ⟨e1, e2, e3, e4⟩ => by subst e1 e2 e3 e4; exact h2
/-- y = d['cells'].pop() -/
theorem bx_pop (i k : Nat) {x y : Str} {vp kp sp ap cp yp : Pos} {j : Nat} {n : Int} (hu : X.A.units + 1 < cLine) (hNd : X.N.Nodup) (h : ε[i]? = some .dk) (h2 : BX X c m dr (ε.set k (.dat (.int n))) rest N R) (hN : X.N[i]? = some x := by rfl) (hv : Vis X.env.scope x := by first | exact Or.inl rfl | exact Or.inr (Or.inl rfl) | exact Or.inr (Or.inr rfl))
    (hd : (x == ("__debug__" : Str)) = false := by decide) (hcd : (x == ("__classdict__" : Str)) = false := by decide) (hx : Loc X.env.scope y := by first | exact .inl rfl | exact .inr rfl) (hi : X.N[k]? = some y := by rfl) (hf : X.fn y = true ∨ X.env.scope.names.lookup y = some .local := by first | exact .inl rfl | exact .inr rfl | assumption)
    (hbase : attributeBase (.Subscript (.Name x vp) (.Constant (.str "cells") j kp) sp) "pop" X.env (eval (.Subscript (.Name x vp) (.Constant (.str "cells") j kp) sp) X.env) = eval (.Subscript (.Name x vp) (.Constant (.str "cells") j kp) sp) X.env := by rfl) (hline : (ap.endLine == cp.line) = true := by rfl)
    (hs : swapsWith (.Call (.Attribute (.Subscript (.Name x vp) (.Constant (.str "cells") j kp) sp) "pop" ap) [] [] cp) (some (.Name y yp)) pos.line X.env = pure false := by rfl) :
    BX X (c ++ [n]) m dr ε (.Assign [.Name y yp] (.Call (.Attribute (.Subscript (.Name x vp) (.Constant (.str "cells") j kp) sp) "pop" ap) [] [] cp) pos :: rest) N R :=
  bx_cons (N1 := fun c' m' dr' ε' => c' = c ∧ m' = m ∧ dr' = dr ∧ ε' = ε.set k (.dat (.int n))) (ps_mono (ps_set hNd hi hx (pe_bm0 PySem.F.plainAttrs_list PySem.F.slot_list_pop PySem.F.type_list_pop mt_pop (pe_cells i hu hN hv hd hcd) hbase hline) hs hf) fun D σ H ⟨dA, cA, Mo, C, M, F, o, q, qr⟩ => by
    have iv : deckI dA cA (c ++ [n]) m dr H := o.inv
    obtain ⟨g1, g2, g3, g4⟩ := iv
    refine ⟨.ref dA, o.dk i h, dA, .ref cA, rfl, .inl ⟨_, .inr "cells", .inl g2, rfl, (dk_cells cA m dr).symm⟩, .inl ⟨rfl, _, .inl (.inl g3)⟩, cA, _, .int n, rfl, rfl, g3, ?_, ?_⟩
    · rw [List.map_append, List.length_append]
      simp
    · have ed : ((c ++ [n]).map V.int).dropLast = c.map V.int := by rw [List.map_append]; simp
      rw [ed]
      have o1 : Ok X.K (deckX dA cA c m dr) Mo C M F (upd H cA (.lst (c.map V.int))) σ ε := o.mode rfl rfl (rel_at (.inr rfl)) ⟨g1, by rw [upd_ne g1]; exact g2, upd_same, by rw [List.length_append] at g4; omega⟩
      exact q _ _ C M _ c m dr ⟨rfl, rfl, rfl, rfl⟩ (o1.set k (.int n))) fun c' m' dr' ε' ⟨e1, e2, e3, e4⟩ => by subst e1 e2 e3 e4; exact h2
/-- d['cells'].append(e) -/
theorem bx_capp (i : Nat) {x : Str} {vp kp sp ap cp : Pos} {j : Nat} {n : Int} (hu : X.A.units + 1 < cLine) (h : ε[i]? = some .dk) (hc : c.length < 100) (he : PD (XM c m dr) X ε e (Is (.int n))) (h2 : BX X (c ++ [n]) m dr ε rest N R) (hN : X.N[i]? = some x := by rfl) (hv : Vis X.env.scope x := by first | exact Or.inl rfl | exact Or.inr (Or.inl rfl) | exact Or.inr (Or.inr rfl))
    (hd : (x == ("__debug__" : Str)) = false := by decide) (hcd : (x == ("__classdict__" : Str)) = false := by decide)
    (hbase : attributeBase (.Subscript (.Name x vp) (.Constant (.str "cells") j kp) sp) "append" X.env (eval (.Subscript (.Name x vp) (.Constant (.str "cells") j kp) sp) X.env) = eval (.Subscript (.Name x vp) (.Constant (.str "cells") j kp) sp) X.env := by rfl)
    (hfew : ((backTo cp (starEach [e] X.env)).all (fun x => !x.1) && (backToKw cp (keywordEach [] X.env)).all (fun x => x.1.isSome) && decide (([e] : List Expr).length + ([] : List Keyword).length + (if ([] : List Keyword).isEmpty then 0 else 1) < 30)) = true := by rfl)
    (hline : (ap.endLine == cp.line) = true := by rfl) (hs : starEach [e] X.env = (false, eval e X.env) :: starEach [] X.env := by rfl) (hplain : (backTo cp (starEach [] X.env)).any (·.1) = false := by rfl)
    (hsw : swapsWith (.Call (.Attribute (.Subscript (.Name x vp) (.Constant (.str "cells") j kp) sp) "append" ap) [e] [] cp) none pos.line X.env = pure false := by rfl) :
    BX X c m dr ε (.Expr (.Call (.Attribute (.Subscript (.Name x vp) (.Constant (.str "cells") j kp) sp) "append" ap) [e] [] cp) pos :: rest) N R :=
  bx_cons (N1 := fun c' m' dr' ε' => c' = c ++ [n] ∧ m' = m ∧ dr' = dr ∧ ε' = ε) (ps_mono (ps_expr (pe_bm PySem.F.plainAttrs_list PySem.F.slot_list_append PySem.F.type_list_append mt_append (pe_cells i hu hN hv hd hcd) (pa_cons he pa_nil hs) hbase hfew hline hs hplain) hsw) fun D σ H ⟨dA, cA, Mo, C, M, F, o, q, qr⟩ => by
    have iv : deckI dA cA c m dr H := o.inv
    obtain ⟨g1, g2, g3, g4⟩ := iv
    refine ⟨.ref dA, o.dk i h, dA, .ref cA, rfl, .inl ⟨_, .inr "cells", .inl g2, rfl, (dk_cells cA m dr).symm⟩, .inl ⟨rfl, _, .inl (.inl g3)⟩, deckX dA cA c m dr, Mo, C, M, F, ⟨dA, cA, rfl⟩, o, fun v H1 d p r i1 z => ?_⟩
    cases p
    rw [dp_int z]
    have iv1 : deckI dA cA c m dr H1 := i1
    obtain ⟨f1, f2, f3, f4⟩ := iv1
    refine ⟨cA, c.map V.int, .int n, rfl, rfl, f3, by rw [List.length_map, sizeLine_eq]; omega, ?_⟩
    refine q _ _ C M ε (c ++ [n]) m dr ⟨rfl, rfl, rfl, rfl⟩ (o.mode rfl rfl (r.trans (rel_at (.inr rfl))) ⟨f1, by rw [upd_ne f1]; exact f2, by rw [upd_same, List.map_append]; rfl, by rw [List.length_append, List.length_singleton]; omega⟩)) fun c' m' dr' ε' ⟨e1, e2, e3, e4⟩ => by subst e1 e2 e3 e4; exact h2
end
section
variable {𝓜 : Md → Prop} {X : Cx} {ε : List Ent} {a b : Expr} {pos p : Pos}
theorem pd_mod {dd : PyData} {i j : Int} (h : 0 < j) (ha : PD 𝓜 X ε a (Is (.int i))) (hb : PD 𝓜 X ε b (Is (.int j))) (hdd : PyData.int (i % j) = dd := by rfl) : PD 𝓜 X ε (.BinOp a .Mod b pos) (Is dd) :=
  pd_to (pd_bin op_mod (o_IC (P := Is (.int (i % j))) (W := fun _ j => 0 < j) (g := fun i j => i % j) fun _ _ h1 h2 => ⟨i, j, h1, h2, h, rfl⟩) ha hb) hdd
theorem pd_fdiv {dd : PyData} {i j : Int} (h : CDiv i j) (ha : PD 𝓜 X ε a (Is (.int i))) (hb : PD 𝓜 X ε b (Is (.int j))) (hdd : PyData.int (i / j) = dd := by rfl) : PD 𝓜 X ε (.BinOp a .FloorDiv b pos) (Is dd) :=
  pd_to (pd_bin op_fdiv (o_IC (P := Is (.int (i / j))) (W := CDiv) (g := fun i j => i / j) fun _ _ h1 h2 => ⟨i, j, h1, h2, h, rfl⟩) ha hb) hdd
theorem pd_pow {dd : PyData} {i j : Int} (h : CPow i j) (ha : PD 𝓜 X ε a (Is (.int i))) (hb : PD 𝓜 X ε b (Is (.int j))) (hdd : PyData.int (i ^ j.toNat) = dd := by rfl) : PD 𝓜 X ε (.BinOp a .Pow b pos) (Is dd) :=
  pd_to (pd_bin op_pow (o_IC (P := Is (.int (i ^ j.toNat))) (W := CPow) (g := fun i j => i ^ j.toNat) fun _ _ h1 h2 => ⟨i, j, h1, h2, h, rfl⟩) ha hb) hdd
theorem pd_intI {i : Int} (hg : Gl X "int") (hm : X.mg "int" = none) (ha : PD 𝓜 X ε a (Is (.int i))) (hs : starEach [a] X.env = (false, eval a X.env) :: starEach [] X.env := by rfl) (hpl : (backTo pos (starEach [] X.env)).any (·.1) = false := by rfl) : PD 𝓜 X ε (.Call (.Name "int" p) [a] [] pos) (Is (.int i)) :=
  pd_ct call_int1 (L := IsL [.int i]) (fun md M H xs l Q iv dm m0 e z q => by
    cases e
    obtain ⟨v, rfl, z1⟩ := dpa1 z
    rw [dp_int z1]
    exact .inl ⟨i, rfl, q _ H _ rfl Rel.refl iv (.int _)⟩) hg hm (by decide +kernel) (pdl_cons ha pdl_nil hs) (by decide) (by decide) hs hpl
theorem pd_max2 {i j : Int} (hc : X.calm = true) (hg : Gl X "max") (hm : X.mg "max" = none) (ha : PD 𝓜 X ε a (Is (.int i))) (hb : PD 𝓜 X ε b (Is (.int j))) (hs : starEach [a, b] X.env = (false, eval a X.env) :: starEach [b] X.env := by rfl) (hs2 : starEach [b] X.env = (false, eval b X.env) :: starEach [] X.env := by rfl) (hpl : (backTo pos (starEach [b] X.env)).any (·.1) = false := by rfl) : PD 𝓜 X ε (.Call (.Name "max" p) [a, b] [] pos) (Is (.int (if j > i then j else i))) :=
  pd_cb (call_max2 hc) (L := IsL [.int i, .int j]) (fun md M H xs l Q iv dm m0 e z q => by
    cases e
    obtain ⟨v, w, rfl, z1, z2⟩ := dpa2 z
    rw [dp_int z1, dp_int z2]
    exact ⟨i, j, rfl, q _ H _ rfl Rel.refl iv (.int _)⟩) hg hm (by decide +kernel) (pdl_cons ha (pdl_cons hb pdl_nil hs2) hs) (by decide) (by decide) hs hpl
end
end DL
end

section
set_option Elab.async false
set_option linter.all false
set_option maxRecDepth 100000
set_option maxHeartbeats 4000000
namespace DL
open PySem PySem.Spec PyProof.Rows L2
section
variable {P : Program} {w : World} {K : PySem.W.Frag} {mg : Str → Option Value} {base : Heap} {x qual : Str} {params : Arguments} {body : List Stmt} {scope : Scope} {dvs : List V} {kws : List (Str × V)} {f : Addr} {fd : FuncData}
theorem fn_deck {N ps : List Str} {k : Nat} {pre : List Ent → PP → Prop} (F : FunD K x qual params body scope dvs kws f fd) (S : FnScope N ps scope) (len : ∀ es P, pre es P → es.length = ps.length)
    (hbody : ∀ (cdv : Value) (A : Around) (outer : List Env) (s : Shared) (H : Hp) (E : XK) (es : List Ent) (R : PP) (c : List Int) (m dr : Int), Room k (A.deeper (envOfC qual scope s.heap.objs.size f cdv)) → pre es R → c.length ≤ 100 →
      BX (cxOf CX0 P w K mg base N qual scope f cdv A outer s H E).nox c m dr (envE N es) body (fun _ _ _ _ => R .none) R) : FnOk P w K mg base CX0 (k + 1) f fd ps (spK deckM K pre) := by
  refine F.ok S (fun vs H Q E ⟨md, M, es, R, _, _, _, _, z, hp, _⟩ => by rw [entv_len z, len es R hp]) fun cdv A outer s H vs Q E hr ⟨md, M, es, R, ⟨dA, cA, em⟩, h0, dm, i, z, hp, q⟩ => ?_
  subst em
  obtain ⟨c, m, dr, iv⟩ := i
  refine ⟨_, PSs.nox (hbody cdv A outer s H E es R c m dr hr hp iv.2.2.2), ?_⟩
  refine ⟨dA, cA, M, twoM dA cA, M, hid H (twoM dA cA), (ok_start (md := deckMd dA cA) h0 dm ⟨c, m, dr, iv⟩ z).mode (md' := deckX dA cA c m dr) rfl rfl Rel.refl iv, fun σ' H' C' M' ε' c' m' dr' n o' => ?_, fun v H' d p s1 i1 z1 => q v H' d p (fun a u c h => s1 a u ((hid_off (M := twoM dA cA) c).trans h)) i1 z1⟩
  exact q .non H' .none n (fun a u c h => o'.fix a u ((hid_off (M := twoM dA cA) c).trans h)) ⟨c', m', dr', o'.inv⟩ .non
end
end DL
namespace TX
open PySem PySem.Spec PyProof.Rows L2 DL MA
theorem modD {x k : Int} (hk : 0 < k) : ∃ r : Nat, (r : Int) < k ∧ PyData.int (x % k) = iD r := by
  have h1 := Int.emod_nonneg x (by omega : k ≠ 0)
  have h2 := Int.emod_lt_of_pos x hk
  exact ⟨(x % k).toNat, by omega, congrArg PyData.int (by omega)⟩
section
variable {P : Program} {w : World} {K : PySem.W.Frag} {mg : Str → Option Value} {base : Heap} {f : Addr} {fd : FuncData}
abbrev l_draw : Stmt := top 37
abbrev N_dr : List Str := ["_law_deck_here", "_law_many", "_law_number", "_law_cell"]
theorem sc_dr : FnScope N_dr ["_law_deck_here", "_law_many"] (defScope l_draw) := ⟨rfl, rfl, rfl, by decide +kernel, rfl, by decide +kernel, by decide +kernel⟩
def lessD (k : Int) : PP := fun d => ∃ r : Nat, (r : Int) < k ∧ d = iD r
def preDraw (es : List Ent) (R : PP) : Prop := ∃ k : Int, 1 ≤ k ∧ k < 1000 ∧ es = [.dk, .dat (.int k)] ∧ R = lessD k
theorem ok_dr (G : Glo mg) (F : FnP K "_law_draw" l_draw f fd) : FnOk P w K mg base CX0 1 f fd ["_law_deck_here", "_law_many"] (spK deckM K preDraw) := by
  refine fn_deck F sc_dr (fun es R ⟨k, _, _, e, _⟩ => by rw [e]; rfl) fun cdv A outer s0 H E es R c m dr hr ⟨k, h1, h2, e, eR⟩ hc => ?_
  subst e eR
  have hN : N_dr.Nodup := by decide +kernel
  have hu1 : A.units + 3 + 1 < cLine := by have := hr.un; show A.units + 3 + 1 < _; have e : (A.deeper (envOfC "_law_draw" (defScope l_draw) s0.heap.objs.size f cdv)).units = A.units + 3 := rfl; omega
  refine bx_draws 0 hu1 rfl (pd_add (pd_dk 0 "draws" hu1 rfl fun cA => dk_draws cA m dr) pd_int) ?_
  refine bx_set 2 hN (pd_add (pd_dk 0 "mixed" hu1 rfl fun cA => dk_mixed cA m _) (pd_mul (.inl ⟨by omega, by omega⟩) pd_int (pd_dk 0 "draws" hu1 rfl fun cA => dk_draws cA m _))) ?_
  refine bx_cons (N1 := fun c' m' dr' ε' => ∃ z e3, ε' = [.dk, .dat (.int k), .dat (.int z), e3]) (sx_if (pdt_cells 0 hr.units rfl) (fun hb => ?_) (fun _ => bx_nil ⟨_, _, rfl⟩)) ?_
  · have hne : c ≠ [] := fun z => by subst z; cases hb
    obtain ⟨c0, x, rfl⟩ : ∃ c0 x, c = c0 ++ [x] := ⟨c.dropLast, c.getLast hne, (List.dropLast_concat_getLast hne).symm⟩
    rw [List.length_append, List.length_singleton] at hc
    refine bx_pop 0 3 hu1 hN rfl ?_
    refine bx_cons (N1 := fun c' m' dr' ε' => c' = c0 ∧ m' = m ∧ dr' = dr + 1 ∧ ∃ z, ε' = [.dk, .dat (.int k), .dat (.int z), .dat (.int x)]) (sx_if (pdt_ge (pd_var 3) (pd_pow ⟨by decide, by decide, by decide⟩ pd_int pd_int)) (fun _ => ?_) (fun _ => bx_nil ⟨rfl, rfl, rfl, _, rfl⟩)) ?_
    · refine bx_capp 0 hu1 rfl (by omega) (pd_fdiv (i := x) ⟨?_, ?_⟩ (pd_var 3) (pd_max2 rfl rfl G.max pd_int (pd_var 1))) ?_
      · split <;> omega
      · split <;> omega
      exact bx_ret (pd_imp (pd_mod (i := x) (j := k) (by omega) (pd_intI rfl G.int (pd_var 3)) (pd_var 1)) fun d e => by
        obtain ⟨r, hr, e2⟩ := modD (x := x) (k := k) (by omega)
        exact ⟨r, hr, e.trans e2⟩)
    · rintro c' m' dr' ε' ⟨rfl, rfl, rfl, z, rfl⟩
      exact bx_set 2 hN (pd_add (pd_var 2) (pd_mod (by decide) (pd_intI rfl G.int (pd_var 3)) pd_int)) (bx_nil ⟨_, _, rfl⟩)
  · rintro c' m' dr' ε' ⟨z, e3, rfl⟩
    refine bx_set 2 hN (pd_mod (by decide) (pd_intI rfl G.int (pd_add (pd_mul (.inr ⟨by decide, by decide⟩) (pd_var 2) pd_int) pd_int)) pd_int) ?_
    have b1 := Int.emod_nonneg (z * 39373 + 91) (by decide : (2147483647 : Int) ≠ 0)
    have b2 := Int.emod_lt_of_pos (z * 39373 + 91) (by decide : (0 : Int) < 2147483647)
    generalize (z * 39373 + 91) % 2147483647 = y at *
    have cy : CMul y y := .inl ⟨by omega, by omega⟩
    refine bx_set 2 hN (pd_mod (by decide) (pd_intI rfl G.int (pd_add (pd_add (pd_mul cy (pd_var 2) (pd_var 2)) (pd_mul (i := 52713) (.inl ⟨by omega, by omega⟩) pd_int (pd_dk 0 "draws" hu1 rfl fun cA => dk_draws cA m' dr'))) pd_int)) pd_int) ?_
    refine bx_set 2 hN (pd_mod (by decide) (pd_intI rfl G.int (pd_mul (.inr ⟨by decide, by decide⟩) (pd_var 2) pd_int)) pd_int) ?_
    refine bx_ret (pd_imp (pd_mod (j := k) (by omega) (pd_intI rfl G.int (pd_fdiv ⟨by decide, by decide⟩ (pd_var 2) pd_int)) (pd_var 1)) fun d e => ?_)
    obtain ⟨r, hr, e2⟩ := modD (x := _) (k := k) (by omega)
    exact ⟨r, hr, e.trans e2⟩
end
end TX
end

section
set_option Elab.async false
set_option linter.all false
set_option maxRecDepth 100000
set_option maxHeartbeats 4000000
namespace TX
open PySem PySem.Spec PyProof.Rows L2 DL MA
section
variable {𝓜 : Md → Prop} {X : Cx} {ε : List Ent} {a b : Expr} {pos p : Pos} {P P1 P2 : PP}
theorem pd_ixTP {ds : List PyData} (ha : PD 𝓜 X ε a (Is (.tuple ds))) (hb : PD 𝓜 X ε b P1) (h : ∀ d, P1 d → ∃ i x, d = .int i ∧ atI ds i = some x ∧ P x) (hs : PlainIx b := by exact fun _ _ => rfl) : PD 𝓜 X ε (.Subscript a b pos) P :=
  pd_ix ix_tup (fun md M H x y _ _ Q n _ _ p1 p2 x1 y1 q => by
    cases p1
    obtain ⟨i, z, rfl, hz, pz⟩ := h _ p2
    obtain ⟨p, xs, rfl, hq, ha⟩ := dp_tup x1
    obtain ⟨v, hv, w⟩ := atI_dpa ha hz
    exact ⟨p, xs, i, v, rfl, dp_int y1, sqt_same hid_same hq, hv, q v H z pz Rel.refl n w⟩) ha hb hs
theorem pd_ixLP {ds : List PyData} (ha : PD 𝓜 X ε a (Is (.list ds))) (hb : PD 𝓜 X ε b P1) (h : ∀ d, P1 d → ∃ i x, d = .int i ∧ atI ds i = some x ∧ P x) (hs : PlainIx b := by exact fun _ _ => rfl) : PD 𝓜 X ε (.Subscript a b pos) P :=
  pd_ix ix_list (fun md M H x y _ _ Q n _ _ p1 p2 x1 y1 q => by
    cases p1
    obtain ⟨i, z, rfl, hz, pz⟩ := h _ p2
    obtain ⟨p, xs, rfl, hq, ha⟩ := dp_lst x1
    obtain ⟨v, hv, w⟩ := atI_dpa ha hz
    exact ⟨p, xs, i, v, rfl, dp_int y1, hid_same.seq hq, hv, q v H z pz Rel.refl n w⟩) ha hb hs
theorem pdt_eqP (ha : PD 𝓜 X ε a P1) (hb : PD 𝓜 X ε b P2) (h : ∀ d1 d2, P1 d1 → P2 d2 → ∃ i j, d1 = .int i ∧ d2 = .int j) : PDT 𝓜 X ε (.Compare a [.Eq] [b] pos) (fun _ => True) :=
  pdt_cmp op_eq (o_eqI fun d1 d2 h1 h2 => by
    obtain ⟨i, j, e1, e2⟩ := h d1 d2 h1 h2
    exact ⟨i, j, e1, e2, _, rfl, trivial⟩) ha hb (nomark _)
theorem pd_eqP (ha : PD 𝓜 X ε a P1) (hb : PD 𝓜 X ε b P2) (h : ∀ d1 d2, P1 d1 → P2 d2 → ∃ i j, d1 = .int i ∧ d2 = .int j) : PD 𝓜 X ε (.Compare a [.Eq] [b] pos) (fun d => ∃ b, d = .bool b) :=
  pd_cmp op_eq (o_eqI fun d1 d2 h1 h2 => by
    obtain ⟨i, j, e1, e2⟩ := h d1 d2 h1 h2
    exact ⟨i, j, e1, e2, _, rfl⟩) ha hb (nomark _)
theorem pd_addP {Q : PP} (ha : PD 𝓜 X ε a P1) (hb : PD 𝓜 X ε b P2) (h : ∀ d1 d2, P1 d1 → P2 d2 → ∃ i j, d1 = .int i ∧ d2 = .int j ∧ Q (.int (i + j))) : PD 𝓜 X ε (.BinOp a .Add b pos) Q :=
  pd_bin op_add (o_II (g := fun i j => i + j) fun d1 d2 h1 h2 => h d1 d2 h1 h2) ha hb
end
section
variable {P : Program} {w : World} {K : PySem.W.Frag} {mg : Str → Option Value} {base : Heap} {f : Addr} {fd : FuncData}
abbrev CalD (P : Program) (w : World) (K : PySem.W.Frag) (mg : Str → Option Value) (base : Heap) (k : Nat) (x : Str) (pre : List Ent → PP → Prop) : Prop := CalP P w K mg base k x (spK deckM K pre)
/-- a draw below k -/
theorem pd_draw {X : Cx} {ε : List Ent} {x a : Expr} {pos p : Pos} {k : Int} {j n : Nat} (c : CalD X.prog X.w X.K X.mg X.base n "_law_draw" preDraw) (hr : Room j X.A) (hn : n ≤ j) (hg : Gl X "_law_draw") (ha : PDA deckM X ε [x, a] (fun l => l = [.dk, .dat (.int k)])) (h1 : 1 ≤ k) (h2 : k < 1000)
    (he : starEach [x, a] X.env = (false, eval x X.env) :: starEach [a] X.env := by rfl) (hpl : (backTo pos (starEach [a] X.env)).any (·.1) = false := by rfl) : PD deckM X ε (.Call (.Name "_law_draw" p) [x, a] [] pos) (lessD k) :=
  pd_callM c hr hn hg ha (fun l e => ⟨_, ⟨k, h1, h2, e, rfl⟩, fun _ h => h⟩) (by decide) he hpl
theorem pda_dk1 {X : Cx} {ε : List Ent} {e : Expr} {pos : Pos} (i : Nat) {x : Str} {d : PyData} (ha : PD deckM X ε e (Is d)) (h : ε[i]? = some .dk := by rfl) (hN : X.N[i]? = some x := by rfl) (hv : Vis X.env.scope x := by first | exact Or.inl rfl | exact Or.inr (Or.inl rfl) | exact Or.inr (Or.inr rfl))
    (hd : (x == ("__debug__" : Str)) = false := by decide) (hcd : (x == ("__classdict__" : Str)) = false := by decide)
    (hs : starEach [.Name x pos, e] X.env = (false, eval (.Name x pos) X.env) :: starEach [e] X.env := by rfl) (hs2 : starEach [e] X.env = (false, eval e X.env) :: starEach [] X.env := by rfl) : PDA deckM X ε [.Name x pos, e] (fun l => l = [.dk, .dat d]) :=
  pda_imp (pda_dk i (pda_dat ha pda_nil hs2) h hN hv hd hcd hs) fun l ⟨r, e1, e2⟩ => by rw [e2, e1]
abbrev l_pick : Stmt := top 38
abbrev N_pk : List Str := ["_law_deck_here", "_law_some"]
theorem sc_pk : FnScope N_pk ["_law_deck_here", "_law_some"] (defScope l_pick) := ⟨rfl, rfl, rfl, by decide +kernel, rfl, by decide +kernel, by decide +kernel⟩
def prePick (es : List Ent) (R : PP) : Prop := ∃ l : List PyData, l ≠ [] ∧ l.length < 1000 ∧ es = [.dk, .dat (.list l)] ∧ R = fun d => d ∈ l
theorem ok_pk (G : Glo mg) (c : CalD P w K mg base 1 "_law_draw" preDraw) (F : FnP K "_law_pick" l_pick f fd) : FnOk P w K mg base CX0 2 f fd ["_law_deck_here", "_law_some"] (spK deckM K prePick) := by
  refine fn_data F sc_pk (fun es R ⟨l, _, _, e, _⟩ => by rw [e]; rfl) fun cdv A outer s0 H E es R hr ⟨l, h1, h2, e, eR⟩ => ?_
  subst e eR
  have hl : 0 < l.length := List.length_pos_iff.mpr h1
  refine bd_ret (pd_ixLP (P1 := lessD (l.length : Int)) (pd_var 1) (pd_draw c hr (by decide) rfl (pda_dk1 0 (pd_lenL rfl G.len (pd_var 1))) (by omega) (by omega)) fun d ⟨r, hr, e⟩ => ?_)
  have hr : r < l.length := by omega
  exact ⟨(r : Int), l[r], e, atN (List.getElem?_eq_getElem hr), List.getElem_mem hr⟩
abbrev l_tie : Stmt := top 39
abbrev N_ti : List Str := ["_law_deck_here", "_law_n", "_law_kinds", "_law_a", "_law_b"]
theorem sc_ti : FnScope N_ti ["_law_deck_here", "_law_n", "_law_kinds"] (defScope l_tie) := ⟨rfl, rfl, rfl, by decide +kernel, rfl, by decide +kernel, by decide +kernel⟩
def tieP (n k : Nat) : PP := fun d => ∃ t : Tie, TieOk n k t ∧ d = tieD t
def preTi (es : List Ent) (R : PP) : Prop := ∃ n k : Nat, 2 ≤ n ∧ n ≤ 7 ∧ 1 ≤ k ∧ k ≤ 3 ∧ es = [.dk, .dat (iD n), .dat (iD k)] ∧ R = tieP n k
theorem ok_ti (c : CalD P w K mg base 1 "_law_draw" preDraw) (F : FnP K "_law_tie" l_tie f fd) : FnOk P w K mg base CX0 2 f fd ["_law_deck_here", "_law_n", "_law_kinds"] (spK deckM K preTi) := by
  refine fn_data F sc_ti (fun es R ⟨n, k, _, _, _, _, e, _⟩ => by rw [e]; rfl) fun cdv A outer s0 H E es R hr ⟨n, k, n2, n7, k1, k3, e, eR⟩ => ?_
  subst e eR
  have hN : N_ti.Nodup := by decide +kernel
  refine bd_par2 3 4 rfl hN (by decide) (L := fun l => ∃ r1 r2 : Nat, (r1 : Int) < n ∧ (r2 : Int) < n - 1 ∧ l = [iD r1, iD r2]) (pdl_consP (P := lessD n) (L := fun l => ∃ r2 : Nat, (r2 : Int) < n - 1 ∧ l = [iD r2]) ?_ (pdl_consP (P := lessD (n - 1)) (L := IsL []) ?_ pdl_nil ?_) ?_) fun l ⟨r1, r2, h1, h2, el⟩ => ⟨_, _, el, ?_⟩
  · exact pd_draw c hr (by decide) rfl (pda_dk1 0 (pd_var 1)) (by omega) (by omega)
  · exact pd_draw c hr (by decide) rfl (pda_dk1 0 (pd_sub (pd_var 1) pd_int)) (by omega) (by omega)
  · rintro d l ⟨r, h, e⟩ el
    cases el
    exact ⟨r, h, by rw [e]⟩
  · rintro d l ⟨r, h, e⟩ ⟨r2, h2, e2⟩
    exact ⟨r, r2, h, h2, by rw [e, e2]⟩
  have hb : TieOk n (k + 1) (r1, (if r2 < r1 then r2 else r2 + 1), 0) := by
    refine ⟨by show r1 < n; omega, ?_, ?_, Nat.succ_pos _⟩
    · show (if r2 < r1 then r2 else r2 + 1) < n
      split <;> omega
    · show r1 ≠ (if r2 < r1 then r2 else r2 + 1)
      split <;> omega
  refine bd_ret (pd_tupP (L := fun l => ∃ r : Nat, (r : Int) < k ∧ l = [iD r1, iD (if r2 < r1 then r2 else r2 + 1), iD r]) (pdl_consP (P := Is (iD r1)) (L := fun l => ∃ r : Nat, (r : Int) < k ∧ l = [iD (if r2 < r1 then r2 else r2 + 1), iD r]) (pd_var 3) (pdl_consP (P := Is (iD (if r2 < r1 then r2 else r2 + 1))) (L := fun l => ∃ r : Nat, (r : Int) < k ∧ l = [iD r]) (pd_if (pdt_lt (pd_var 4) (pd_var 3)) (fun h => ?_) (fun h => ?_)) (pdl_consP (P := lessD k) (L := IsL []) ?_ pdl_nil ?_) ?_) ?_) fun l ⟨r, h, e⟩ => ?_)
  · have := of_decide_eq_true h.symm
    rw [if_pos (by omega)]
    exact pd_var 4
  · have := of_decide_eq_false h.symm
    rw [if_neg (by omega)]
    exact pd_add (pd_var 4) pd_int
  · exact pd_draw c hr (by decide) rfl (pda_dk1 0 (pd_var 2)) (by omega) (by omega)
  · rintro d l ⟨r, h, e⟩ el
    cases el
    exact ⟨r, h, by rw [e]⟩
  · rintro d l e ⟨r, h, e2⟩
    exact ⟨r, h, by rw [show d = _ from e, e2]⟩
  · rintro d l e ⟨r, h, e2⟩
    exact ⟨r, h, by rw [show d = _ from e, e2]⟩
  · rw [e]
    refine ⟨by exact Nat.le_of_ble_eq_true rfl, (r1, (if r2 < r1 then r2 else r2 + 1), r), ⟨hb.a, hb.b, hb.ne, by show r < k; omega⟩, rfl⟩
end
end TX
end

section
set_option Elab.async false
set_option linter.all false
set_option maxRecDepth 100000
set_option maxHeartbeats 4000000
namespace TX
open PySem PySem.Spec PyProof.Rows L2 DL MA
theorem pda_dkX {X : Cx} {ε : List Ent} {es : List Expr} {pos : Pos} (i : Nat) {x : Str} {l : List Ent} (hr : PDA deckM X ε es (fun x => x = l)) (h : ε[i]? = some .dk := by rfl) (hN : X.N[i]? = some x := by rfl) (hv : Vis X.env.scope x := by first | exact Or.inl rfl | exact Or.inr (Or.inl rfl) | exact Or.inr (Or.inr rfl))
    (hd : (x == ("__debug__" : Str)) = false := by decide) (hcd : (x == ("__classdict__" : Str)) = false := by decide)
    (hs : starEach (.Name x pos :: es) X.env = (false, eval (.Name x pos) X.env) :: starEach es X.env := by rfl) : PDA deckM X ε (.Name x pos :: es) (fun x => x = .dk :: l) :=
  pda_imp (pda_dk i hr h hN hv hd hcd hs) fun l ⟨r, e1, e2⟩ => by rw [e2, e1]
theorem sel_all {α : Type} {Q : α → Prop} {enc : α → PyData} {f : PyData → Bool} {xs ys : List PyData} (h : Sel f (fun _ d => ∃ t, Q t ∧ d = enc t) xs ys) (hf : ∀ x, f x = true) : ∃ ts : List α, ys = ts.map enc ∧ (∀ t ∈ ts, Q t) ∧ ts.length = xs.length := by
  induction h with
  | nil => exact ⟨[], rfl, (fun _ h => nomatch h), rfl⟩
  | yes h1 h2 h3 ih =>
    obtain ⟨ts, e, q, l⟩ := ih
    obtain ⟨t, qt, et⟩ := h3
    refine ⟨ts ++ [t], by rw [e, et, List.map_append]; rfl, fun u hu => ?_, by rw [List.length_append, List.length_append, l]; rfl⟩
    rcases List.mem_append.mp hu with hu | hu
    · exact q u hu
    · rw [List.mem_singleton.mp hu]; exact qt
  | no h1 h2 ih => rw [hf] at h2; cases h2
def srtT (ts : List Tie) : List Tie := ts.mergeSort fun a b => decide (TS.code 16 (tieI a) ≤ TS.code 16 (tieI b))
theorem srtT_perm (ts : List Tie) : (srtT ts).Perm ts := List.mergeSort_perm _ _
theorem srtT_asc (ts : List Tie) : Asc 16 ((srtT ts).map tieI) := by
  show List.Pairwise _ _
  rw [List.pairwise_map]
  refine (List.pairwise_mergeSort ?_ ?_ ts).imp fun h => of_decide_eq_true h
  · intro a b c h1 h2
    exact decide_eq_true (Int.le_trans (of_decide_eq_true h1) (of_decide_eq_true h2))
  · intro a b
    rcases Int.le_total (TS.code 16 (tieI a)) (TS.code 16 (tieI b)) with h | h
    · rw [decide_eq_true h]; rfl
    · rw [decide_eq_true h]; simp
theorem srtT_web {n k : Nat} {ts : List Tie} (n1 : 1 ≤ n) (n7 : n ≤ 7) (h : ∀ t ∈ ts, TieOk n k t) (hl : ts.length ≤ 10) : WebOk k (n, srtT ts) ∧ WebS (n, srtT ts) :=
  ⟨⟨n1, n7, by rw [(srtT_perm ts).length_eq]; exact hl, fun t ht => h t ((srtT_perm ts).mem_iff.mp ht)⟩, srtT_asc ts⟩
/-- tuple(sorted(..)) of ties -/
theorem pd_sortT {𝓜 : Md → Prop} {X : Cx} {ε : List Ent} {a : Expr} {pos pos2 p p2 : Pos} {n k : Nat} {ts : List Tie} (hk : k ≤ 3) (n1 : 1 ≤ n) (n7 : n ≤ 7) (hok : ∀ t ∈ ts, TieOk n k t) (hl : ts.length ≤ 10) (hg : Gl X "sorted") (hm : X.mg "sorted" = none) (hg2 : Gl X "tuple") (hm2 : X.mg "tuple" = none) (ha : PD 𝓜 X ε a (Is (.list (ts.map tieD))))
    (hs : starEach [a] X.env = (false, eval a X.env) :: starEach [] X.env := by rfl) (hpl : (backTo pos2 (starEach [] X.env)).any (·.1) = false := by rfl)
    (hs1 : starEach [.Call (.Name "sorted" p2) [a] [] pos2] X.env = (false, eval (.Call (.Name "sorted" p2) [a] [] pos2) X.env) :: starEach [] X.env := by rfl) (hpl1 : (backTo pos (starEach [] X.env)).any (·.1) = false := by rfl) :
    PD 𝓜 X ε (.Call (.Name "tuple" p) [.Call (.Name "sorted" p2) [a] [] pos2] [] pos) (Is (.tuple ((srtT ts).map tieD))) := by
  have W := (srtT_web n1 n7 hok hl).1
  have RO := ties_ok W hk
  exact pd_tuple hg2 hm2 (pd_sortedL (d := 3) (B := 16) (rows := ts.map tieI) (rows' := (srtT ts).map tieI) (by decide) hg hm RO ((srtT_perm ts).map tieI) (srtT_asc ts) (by rw [List.length_map]; omega) (pd_to ha (congrArg PyData.list (ties_enc ts))) hs hpl (congrArg PyData.list (ties_enc _).symm)) hs1 hpl1
def webP (k : Nat) : PP := fun d => ∃ v : Web, WebOk k v ∧ WebS v ∧ d = webD v
section
variable {P : Program} {w : World} {K : PySem.W.Frag} {mg : Str → Option Value} {base : Heap} {f : Addr} {fd : FuncData}
abbrev l_web : Stmt := top 40
abbrev N_lw : List Str := ["_law_deck_here", "_law_n", "_law_kinds", "_law_many", "_law_ties", "_law_turn"]
theorem sc_lw : FnScope N_lw ["_law_deck_here", "_law_n", "_law_kinds", "_law_many"] (defScope l_web) := ⟨rfl, rfl, rfl, by decide +kernel, rfl, by decide +kernel, by decide +kernel⟩
def preLw (es : List Ent) (R : PP) : Prop := ∃ n k many : Nat, 1 ≤ n ∧ n ≤ 7 ∧ 1 ≤ k ∧ k ≤ 3 ∧ many ≤ 10 ∧ es = [.dk, .dat (iD n), .dat (iD k), .dat (iD many)] ∧ R = fun d => ∃ v : Web, WebOk k v ∧ WebS v ∧ v.1 = n ∧ d = webD v
theorem ok_lw (G : Glo mg) (c : CalD P w K mg base 1 "_law_draw" preDraw) (ct : CalD P w K mg base 2 "_law_tie" preTi) (F : FnP K "_law_web" l_web f fd) : FnOk P w K mg base CX0 3 f fd ["_law_deck_here", "_law_n", "_law_kinds", "_law_many"] (spK deckM K preLw) := by
  refine fn_data F sc_lw (fun es R ⟨n, k, m, _, _, _, _, _, e, _⟩ => by rw [e]; rfl) fun cdv A outer s0 H E es R hr ⟨n, k, m, n1, n7, k1, k3, m10, e, eR⟩ => ?_
  subst e eR
  have hN : N_lw.Nodup := by decide +kernel
  refine bd_lc 4 (own := [("_law_turn", 5)]) (t := .nm 5) (xs := rng 0 (if 1 < n then m else 0)) (f := fun _ => true) (Pe := fun _ => tieP n k) rfl hN (LcD.mk1 (id_range1 (n := ((if 1 < n then m else 0 : Nat) : Int)) rfl G.range (pd_if (pdt_gt (pd_var 1) pd_int) (fun h => ?_) (fun h => ?_)) ?_) rfl (fun _ _ _ _ _ => td_name 5 hN) (fun d hd => ⟨_, rfl, fun s H C cl fp => ?_⟩) (by decide) ?_) fun ys hsel => ?_
  · have := of_decide_eq_true h.symm
    rw [if_pos (by omega)]
    exact pd_var 3
  · have := of_decide_eq_false h.symm
    rw [if_neg (by omega)]
    exact pd_int
  · split <;> omega
  · have hn1 : 1 < n := by
      obtain ⟨i, hi⟩ := List.getElem?_of_mem hd
      have := (rng_iD (lo := 0) hi).1
      split at this
      · assumption
      · omega
    exact pd_callM (L := fun l => l = [.dk, .dat (iD n), .dat (iD k)]) ct hr (by decide) rfl (pda_dkX 0 (pda_dat (pd_var 1) (pda_dat (pd_var 2) pda_nil))) fun l e => ⟨tieP n k, ⟨n, k, by omega, n7, k1, k3, e, rfl⟩, fun _ h => h⟩
  · rw [rng_len]; split <;> omega
  · obtain ⟨ts, rfl, hok, hlen⟩ := sel_all hsel fun _ => rfl
    have hl10 : ts.length ≤ 10 := by rw [hlen, rng_len]; split <;> omega
    clear hsel hlen
    refine bd_cons (N1 := fun ε => ∃ ts : List Tie, (∀ t ∈ ts, TieOk n k t) ∧ ts.length ≤ 10 ∧ ε = [.dk, .dat (iD n), .dat (iD k), .dat (iD m), .lm (ts.map tieD), .no]) (sd_if (T := fun x => x = true → 1 < ts.length) (pdt_w (pdw_and (T := IsB (decide (1 < (ts.length : Int)))) (U := fun _ => True) (pdt_gt (pd_lenM 4 rfl G.len rfl (he := by rw [List.length_map])) pd_int) (fun _ => pdw_and1 (pdt_eqP (P1 := lessD 4) (P2 := Is (.int 0)) (pd_draw c hr (by decide) rfl (pda_dk1 0 pd_int) (by decide) (by decide)) pd_int fun d1 d2 ⟨r, _, e⟩ e2 => ⟨_, _, e, e2⟩)) (fun _ h => nomatch h) (fun x h _ _ => by have := of_decide_eq_true (show true = _ from h).symm; omega))) (fun hT => ?_) (fun _ => bd_nil ⟨ts, hok, hl10, rfl⟩)) ?_
    · have h1 := hT rfl
      have hne : ts ≠ [] := fun z => by subst z; cases h1
      obtain ⟨q, t, rfl⟩ : ∃ q t, ts = q ++ [t] := ⟨ts.dropLast, ts.getLast hne, (List.dropLast_concat_getLast hne).symm⟩
      refine bd_setAt 4 (ds := (q ++ [t]).map tieD) (n := 0) (j := 0) (d := tieD t) rfl (pd_ixM 4 rfl (by rw [List.map_append]; exact at_last) (pd_neg pd_int)) pd_int (by rw [List.length_map]; exact ixN_n (j := 0) (by omega)) (bd_nil ⟨(q ++ [t]).set 0 t, fun u hu => ?_, by rw [List.length_set]; exact hl10, ?_⟩)
      · rcases List.mem_or_eq_of_mem_set hu with h | h
        · exact hok u h
        · rw [h]; exact hok t (by simp)
      · rw [List.map_set]; rfl
    · rintro ε' ⟨ts, hok, hl, rfl⟩
      obtain ⟨W, S⟩ := srtT_web n1 n7 hok hl
      exact bd_freeze 4 rfl (bd_retP (P := Is (webD (n, srtT ts))) (fun d e => ⟨_, W, S, rfl, e⟩) (pd_tup (pdl_cons (pd_var 1) (pdl_cons (pd_sortT k3 n1 n7 hok hl rfl G.sorted rfl G.tuple (pd_var 4)) pdl_nil))))
end
end TX
end

section
set_option Elab.async false
set_option linter.all false
set_option maxRecDepth 100000
set_option maxHeartbeats 4000000
namespace TX
open PySem PySem.Spec PyProof.Rows L2 DL MA
theorem pda_dkP {X : Cx} {ε : List Ent} {es : List Expr} {pos : Pos} (i : Nat) {x : Str} {L L' : List Ent → Prop} (hr : PDA deckM X ε es L) (k : ∀ l, L l → L' (.dk :: l)) (h : ε[i]? = some .dk := by rfl) (hN : X.N[i]? = some x := by rfl) (hv : Vis X.env.scope x := by first | exact Or.inl rfl | exact Or.inr (Or.inl rfl) | exact Or.inr (Or.inr rfl))
    (hd : (x == ("__debug__" : Str)) = false := by decide) (hcd : (x == ("__classdict__" : Str)) = false := by decide)
    (hs : starEach (.Name x pos :: es) X.env = (false, eval (.Name x pos) X.env) :: starEach es X.env := by rfl) : PDA deckM X ε (.Name x pos :: es) L' :=
  pda_imp (pda_dk i hr h hN hv hd hcd hs) fun l ⟨r, e1, e2⟩ => by rw [e2]; exact k r e1
def growP (k : Nat) : PP := fun d => ∃ v : Web, WebOk k v ∧ WebS v ∧ 2 ≤ v.1 ∧ d = webD v
theorem grow_of {n k : Nat} {ts : List Tie} (n2 : 2 ≤ n) (n7 : n ≤ 7) (h : ∀ t ∈ ts, TieOk n k t) (hl : ts.length ≤ 10) (hs : WebS (n, ts)) : growP k (webD (n, ts)) := ⟨(n, ts), ⟨by show 1 ≤ n; omega, n7, hl, h⟩, hs, n2, rfl⟩
theorem grow_srt {n k : Nat} {ts : List Tie} (n2 : 2 ≤ n) (n7 : n ≤ 7) (h : ∀ t ∈ ts, TieOk n k t) (hl : ts.length ≤ 10) : growP k (webD (n, srtT ts)) := by
  obtain ⟨W, S⟩ := srtT_web (by omega) n7 h hl
  exact ⟨_, W, S, n2, rfl⟩
theorem tk {a b c n k : Nat} (h1 : a < n) (h2 : b < n) (h3 : a ≠ b) (h4 : c < k) : TieOk n k (a, b, c) := ⟨h1, h2, h3, h4⟩
theorem s_nil (n : Nat) : WebS (n, []) := List.Pairwise.nil
theorem s_one (n : Nat) (t : Tie) : WebS (n, [t]) := List.pairwise_singleton _ _
theorem s_two {n : Nat} {a b : Tie} (h : a.1 < b.1) (ha : a.2.1 < 16 ∧ a.2.2 < 16) (hb : b.2.1 < 16 ∧ b.2.2 < 16) : WebS (n, [a, b]) := by
  show List.Pairwise _ [tieI a, tieI b]
  rw [List.pairwise_cons]
  refine ⟨fun x hx => ?_, List.pairwise_singleton _ _⟩
  rw [List.mem_singleton.mp hx]
  have bd : ∀ t : Tie, t.2.1 < 16 ∧ t.2.2 < 16 → TS.Bd 16 [(t.2.1 : Int), (t.2.2 : Int)] := fun t ht m hm => by
    simp only [List.mem_cons, List.not_mem_nil, or_false] at hm
    omega
  exact Int.le_of_lt (TS.code_lt (d := (a.1 : Int)) rfl (bd a ha) (bd b hb) (by omega))
section
variable {P : Program} {w : World} {K : PySem.W.Frag} {mg : Str → Option Value} {base : Heap} {f : Addr} {fd : FuncData}
abbrev l_gro : Stmt := top 41
abbrev N_lg : List Str := ["_law_deck_here", "_law_kinds", "_law_full", "_law_way", "_law_kind", "_law_other"]
theorem sc_lg : FnScope N_lg ["_law_deck_here", "_law_kinds", "_law_full"] (defScope l_gro) := ⟨rfl, rfl, rfl, by decide +kernel, rfl, by decide +kernel, by decide +kernel⟩
def preGro (es : List Ent) (R : PP) : Prop := ∃ (k : Nat) (b : Bool), 1 ≤ k ∧ k ≤ 3 ∧ es = [.dk, .dat (iD k), .dat (.bool b)] ∧ R = growP k
theorem ok_lg (G : Glo mg) (c : CalD P w K mg base 1 "_law_draw" preDraw) (cw : CalD P w K mg base 3 "_law_web" preLw) (F : FnP K "_law_growth" l_gro f fd) : FnOk P w K mg base CX0 4 f fd ["_law_deck_here", "_law_kinds", "_law_full"] (spK deckM K preGro) := by
  refine fn_data F sc_lg (fun es R ⟨k, b, _, _, e, _⟩ => by rw [e]; rfl) fun cdv A outer s0 H E es R hr ⟨k, b, k1, k3, e, eR⟩ => ?_
  subst e eR
  have hN : N_lg.Nodup := by decide +kernel
  refine bd_setP 3 hN (P := lessD 9) (pd_draw c hr (by decide) rfl (pda_dk1 0 pd_int) (by decide) (by decide)) fun d ⟨y, hy, e⟩ => ?_
  subst e
  refine bd_par2 4 5 rfl hN (by decide) (L := fun l => ∃ r1 r2 : Nat, (r1 : Int) < k ∧ (r2 : Int) < k ∧ l = [iD r1, iD r2]) (pdl_consP (P := lessD k) (L := fun l => ∃ r2 : Nat, (r2 : Int) < k ∧ l = [iD r2]) ?_ (pdl_consP (P := lessD k) (L := IsL []) ?_ pdl_nil ?_) ?_) fun l ⟨r1, r2, h1, h2, el⟩ => ⟨_, _, el, ?_⟩
  · exact pd_draw c hr (by decide) rfl (pda_dk1 0 (pd_var 1)) (by omega) (by omega)
  · exact pd_draw c hr (by decide) rfl (pda_dk1 0 (pd_var 1)) (by omega) (by omega)
  · rintro d l ⟨r, h, e⟩ el
    cases el
    exact ⟨r, h, by rw [e]⟩
  · rintro d l ⟨r, h, e⟩ ⟨r2, h2, e2⟩
    exact ⟨r, r2, h, h2, by rw [e, e2]⟩
  have h1 : r1 < k := by omega
  have h2 : r2 < k := by omega
  refine bd_ifRet (pdt_eqI (pd_var 3) pd_int) (fun _ => bd_ret (pd_tupP (L := fun l => ∃ r : Nat, (r : Int) < 2 ∧ l = [iD (2 + r), .tuple []]) (pdl_consP (P := fun d => ∃ r : Nat, (r : Int) < 2 ∧ d = iD (2 + r)) (L := IsL [.tuple []]) ?_ (pdl_cons (pd_tup pdl_nil) pdl_nil) ?_) ?_)) (fun _ => ?_)
  · exact pd_addP (P1 := Is (.int 2)) (P2 := lessD 2) pd_int (pd_draw c hr (by decide) rfl (pda_dk1 0 pd_int) (by decide) (by decide)) fun d1 d2 e1 ⟨r, hr, e⟩ => ⟨2, r, e1, e, r, hr, congrArg PyData.int (by omega)⟩
  · rintro d l ⟨r, h, e⟩ el
    cases el
    exact ⟨r, h, by rw [e]⟩
  · rintro l ⟨r, h, e⟩
    rw [e]
    exact ⟨by exact Nat.le_of_ble_eq_true rfl, grow_of (n := 2 + r) (ts := []) (by omega) (by omega) (fun _ h => nomatch h) (Nat.zero_le _) (s_nil _)⟩
  have one : ∀ (n : Nat) (t : Tie), 2 ≤ n → n ≤ 7 → TieOk n k t → growP k (webD (n, [t])) := fun n t a b T => grow_of a b (fun u hu => by rw [List.mem_singleton.mp hu]; exact T) (by exact Nat.le_of_ble_eq_true rfl) (s_one n t)
  refine bd_ifRet (pdt_eqI (pd_var 3) pd_int) (fun _ => bd_ret (pd_if (T := fun _ => True) (pdt_eqP (P1 := lessD 2) (P2 := Is (.int 0)) (pd_draw c hr (by decide) rfl (pda_dk1 0 pd_int) (by decide) (by decide)) pd_int fun d1 d2 ⟨r, _, e⟩ e2 => ⟨_, _, e, e2⟩) (fun _ => ?_) (fun _ => ?_))) (fun _ => ?_)
  · refine pd_imp (P := Is (webD (2, [(0, 1, r1)]))) (pd_tup (pdl_cons pd_int (pdl_cons (pd_tup (pdl_cons (pd_tup (pdl_cons pd_int (pdl_cons pd_int (pdl_cons (pd_var 4) pdl_nil)))) pdl_nil)) pdl_nil))) fun d e => ?_
    rw [show d = _ from e]
    exact one 2 _ (by decide) (by decide) (tk (by decide) (by decide) (by decide) h1)
  · refine pd_imp (P := Is (webD (2, [(1, 0, r1)]))) (pd_tup (pdl_cons pd_int (pdl_cons (pd_tup (pdl_cons (pd_tup (pdl_cons pd_int (pdl_cons pd_int (pdl_cons (pd_var 4) pdl_nil)))) pdl_nil)) pdl_nil))) fun d e => ?_
    rw [show d = _ from e]
    exact one 2 _ (by decide) (by decide) (tk (by decide) (by decide) (by decide) h1)
  have ok2 : ∀ t ∈ ([(0, 1, r1), (0, 1, r2)] : List Tie), TieOk 2 k t := fun t ht => by
    simp only [List.mem_cons, List.not_mem_nil, or_false] at ht
    rcases ht with rfl | rfl
    · exact tk (by decide) (by decide) (by decide) h1
    · exact tk (by decide) (by decide) (by decide) h2
  refine bd_ifRet (pdt_eqI (pd_var 3) pd_int) (fun _ => bd_retP (P := Is (webD (2, srtT [(0, 1, r1), (0, 1, r2)]))) (fun d e => ?_) (pd_tup (pdl_cons pd_int (pdl_cons (pd_sortT (n := 2) (k := k) (ts := [(0, 1, r1), (0, 1, r2)]) k3 (by decide) (by decide) ok2 (by exact Nat.le_of_ble_eq_true rfl) rfl G.sorted rfl G.tuple (pd_lst (pdl_cons (pd_tup (pdl_cons pd_int (pdl_cons pd_int (pdl_cons (pd_var 4) pdl_nil)))) (pdl_cons (pd_tup (pdl_cons pd_int (pdl_cons pd_int (pdl_cons (pd_var 5) pdl_nil)))) pdl_nil)))) pdl_nil)))) (fun _ => ?_)
  · rw [show d = _ from e]
    exact grow_srt (by decide) (by decide) ok2 (by exact Nat.le_of_ble_eq_true rfl)
  have ok3 : ∀ t ∈ ([(0, 2, r1), (2, 1, r2)] : List Tie), TieOk 3 k t := fun t ht => by
    simp only [List.mem_cons, List.not_mem_nil, or_false] at ht
    rcases ht with rfl | rfl
    · exact tk (by decide) (by decide) (by decide) h1
    · exact tk (by decide) (by decide) (by decide) h2
  have ok3' : ∀ t ∈ ([(1, 2, r1), (2, 0, r2)] : List Tie), TieOk 3 k t := fun t ht => by
    simp only [List.mem_cons, List.not_mem_nil, or_false] at ht
    rcases ht with rfl | rfl
    · exact tk (by decide) (by decide) (by decide) h1
    · exact tk (by decide) (by decide) (by decide) h2
  refine bd_ifRet (pdt_eqI (pd_var 3) pd_int) (fun _ => bd_ret (pd_if (T := fun _ => True) (pdt_eqP (P1 := lessD 2) (P2 := Is (.int 0)) (pd_draw c hr (by decide) rfl (pda_dk1 0 pd_int) (by decide) (by decide)) pd_int fun d1 d2 ⟨r, _, e⟩ e2 => ⟨_, _, e, e2⟩) (fun _ => ?_) (fun _ => ?_))) (fun _ => ?_)
  · refine pd_imp (P := Is (webD (3, srtT [(0, 2, r1), (2, 1, r2)]))) (pd_tup (pdl_cons pd_int (pdl_cons (pd_sortT (n := 3) (k := k) (ts := [(0, 2, r1), (2, 1, r2)]) k3 (by decide) (by decide) ok3 (by exact Nat.le_of_ble_eq_true rfl) rfl G.sorted rfl G.tuple (pd_lst (pdl_cons (pd_tup (pdl_cons pd_int (pdl_cons pd_int (pdl_cons (pd_var 4) pdl_nil)))) (pdl_cons (pd_tup (pdl_cons pd_int (pdl_cons pd_int (pdl_cons (pd_var 5) pdl_nil)))) pdl_nil)))) pdl_nil))) fun d e => ?_
    rw [show d = _ from e]
    exact grow_srt (by decide) (by decide) ok3 (by exact Nat.le_of_ble_eq_true rfl)
  · refine pd_imp (P := Is (webD (3, [(1, 2, r1), (2, 0, r2)]))) (pd_tup (pdl_cons pd_int (pdl_cons (pd_tup (pdl_cons (pd_tup (pdl_cons pd_int (pdl_cons pd_int (pdl_cons (pd_var 4) pdl_nil)))) (pdl_cons (pd_tup (pdl_cons pd_int (pdl_cons pd_int (pdl_cons (pd_var 5) pdl_nil)))) pdl_nil))) pdl_nil))) fun d e => ?_
    rw [show d = _ from e]
    exact grow_of (by decide) (by decide) ok3' (by exact Nat.le_of_ble_eq_true rfl) (s_two (by show 1 < 2; decide) ⟨by show 2 < 16; decide, by show r1 < 16; omega⟩ ⟨by show 0 < 16; decide, by show r2 < 16; omega⟩)
  have ok4 : ∀ t ∈ ([(0, 2, r1), (3, 1, r1), (2, 1, r2), (0, 3, r2)] : List Tie), TieOk 4 k t := fun t ht => by
    simp only [List.mem_cons, List.not_mem_nil, or_false] at ht
    rcases ht with rfl | rfl | rfl | rfl
    · exact tk (by decide) (by decide) (by decide) h1
    · exact tk (by decide) (by decide) (by decide) h1
    · exact tk (by decide) (by decide) (by decide) h2
    · exact tk (by decide) (by decide) (by decide) h2
  refine bd_ifRet (pdt_eqI (pd_var 3) pd_int) (fun _ => bd_retP (P := Is (webD (4, srtT [(0, 2, r1), (3, 1, r1), (2, 1, r2), (0, 3, r2)]))) (fun d e => ?_) (pd_tup (pdl_cons pd_int (pdl_cons (pd_sortT (n := 4) (k := k) (ts := [(0, 2, r1), (3, 1, r1), (2, 1, r2), (0, 3, r2)]) k3 (by decide) (by decide) ok4 (by exact Nat.le_of_ble_eq_true rfl) rfl G.sorted rfl G.tuple (pd_lst (pdl_cons (pd_tup (pdl_cons pd_int (pdl_cons pd_int (pdl_cons (pd_var 4) pdl_nil)))) (pdl_cons (pd_tup (pdl_cons pd_int (pdl_cons pd_int (pdl_cons (pd_var 4) pdl_nil)))) (pdl_cons (pd_tup (pdl_cons pd_int (pdl_cons pd_int (pdl_cons (pd_var 5) pdl_nil)))) (pdl_cons (pd_tup (pdl_cons pd_int (pdl_cons pd_int (pdl_cons (pd_var 5) pdl_nil)))) pdl_nil)))))) pdl_nil)))) (fun _ => ?_)
  · rw [show d = _ from e]
    exact grow_srt (by decide) (by decide) ok4 (by exact Nat.le_of_ble_eq_true rfl)
  refine bd_ifRet (T := fun _ => True) (pdt_imp (pdt_w (pdw_andV (pdt_val (pd_var 2)) fun _ => pdw_and1 (pdt_lt (pd_var 3) pd_int))) fun _ _ => trivial) (fun _ => bd_ret (pd_callM (L := fun l => l = [.dk, .dat (iD 6), .dat (iD k), .dat (iD 9)]) cw hr (by decide) rfl (pda_dkX 0 (pda_dat pd_int (pda_dat (pd_var 1) (pda_dat pd_int pda_nil)))) fun l e => ⟨_, ⟨6, k, 9, by decide, by decide, k1, k3, by decide, e, rfl⟩, fun d ⟨v, W, S, en, e⟩ => ⟨v, W, S, by omega, e⟩⟩)) (fun _ => ?_)
  refine bd_ret (pd_callM (L := fun l => ∃ n m : Nat, 2 ≤ n ∧ n ≤ 5 ∧ m ≤ 5 ∧ l = [.dk, .dat (iD n), .dat (iD k), .dat (iD m)]) cw hr (by decide) rfl (pda_dkP 0 (L := fun l => ∃ n m : Nat, 2 ≤ n ∧ n ≤ 5 ∧ m ≤ 5 ∧ l = [.dat (iD n), .dat (iD k), .dat (iD m)]) (pda_datP (P := fun d => ∃ n : Nat, 2 ≤ n ∧ n ≤ 5 ∧ d = iD n) (L := fun l => ∃ m : Nat, m ≤ 5 ∧ l = [.dat (iD k), .dat (iD m)]) ?_ (pda_datP (P := Is (iD k)) (L := fun l => ∃ m : Nat, m ≤ 5 ∧ l = [.dat (iD m)]) (pd_var 1) (pda_datP (P := lessD 6) (L := fun l => l = []) ?_ pda_nil ?_) ?_) ?_) ?_) ?_)
  · exact pd_addP (P1 := Is (.int 2)) (P2 := lessD 4) pd_int (pd_draw c hr (by decide) rfl (pda_dk1 0 pd_int) (by decide) (by decide)) fun d1 d2 e1 ⟨r, hr, e⟩ => ⟨2, r, e1, e, 2 + r, by omega, by omega, congrArg PyData.int (by omega)⟩
  · exact pd_draw c hr (by decide) rfl (pda_dk1 0 pd_int) (by decide) (by decide)
  · rintro d l ⟨r, h, e⟩ el
    exact ⟨r, by omega, by rw [e, el]⟩
  · rintro d l e ⟨m, hm, el⟩
    exact ⟨m, hm, by rw [show d = _ from e, el]⟩
  · rintro d l ⟨n, h, h', e⟩ ⟨m, hm, el⟩
    exact ⟨n, m, h, h', hm, by rw [e, el]⟩
  · rintro l ⟨n, m, h, h', hm, el⟩
    exact ⟨n, m, h, h', hm, by rw [el]⟩
  · rintro l ⟨n, m, h, h', hm, el⟩
    exact ⟨_, ⟨n, k, m, by omega, by omega, k1, k3, by omega, el, rfl⟩, fun d ⟨v, W, S, en, e⟩ => ⟨v, W, S, by omega, e⟩⟩
end
end TX
end

section
set_option Elab.async false
set_option linter.all false
set_option maxRecDepth 100000
set_option maxHeartbeats 4000000
namespace TX
open PySem PySem.Spec PyProof.Rows L2 DL MA
theorem sd_asgD {𝓜 : Md → Prop} {X : Cx} {ε : List Ent} {e tg : Expr} {pos : Pos} {rest : List Stmt} {N N1 : List Ent → Prop} {R P : PP} {t : Tg} (he : PD 𝓜 X ε e P) (hg : TD X tg t) (ht : ∀ d, P d → ∃ ε', asg t d ε = some ε' ∧ N1 ε') (h2 : ∀ ε', N1 ε' → BD 𝓜 X ε' rest N R) (hs : swapsWithSole [tg] e pos.line X.env = pure false := by rfl) (hw : swappedStores [tg] e X.env = pure none := by rfl)
    (h1 : (assignEach [tg] X.env).map (·.2) = [assign tg X.env] := by rfl) : BD 𝓜 X ε (.Assign [tg] e pos :: rest) N R := bd_cons (sd_asgP he hg ht hs hw h1) h2
section
variable {P : Program} {w : World} {K : PySem.W.Frag} {mg : Str → Option Value} {base : Heap} {f : Addr} {fd : FuncData}
abbrev l_book : Stmt := top 42
abbrev N_lb : List Str := ["_law_deck_here", "_law_kinds", "_law_full", "_law_turn"]
theorem sc_lb : FnScope N_lb ["_law_deck_here"] (defScope l_book) := ⟨rfl, rfl, rfl, by decide +kernel, rfl, by decide +kernel, by decide +kernel⟩
def bookP : PP := fun d => ∃ b : List Web, BookOk b ∧ d = .tuple (b.map webD)
def preLb (es : List Ent) (R : PP) : Prop := es = [.dk] ∧ R = bookP
theorem ok_lb (G : Glo mg) (c : CalD P w K mg base 1 "_law_draw" preDraw) (cp : CalD P w K mg base 2 "_law_pick" prePick) (cg : CalD P w K mg base 4 "_law_growth" preGro) (F : FnP K "_law_book" l_book f fd) : FnOk P w K mg base CX0 5 f fd ["_law_deck_here"] (spK deckM K preLb) := by
  refine fn_data F sc_lb (fun es R ⟨e, _⟩ => by rw [e]; rfl) fun cdv A outer s0 H E es R hr ⟨e, eR⟩ => ?_
  subst e eR
  have hN : N_lb.Nodup := by decide +kernel
  refine sd_asgD (t := .tp [.nm 1, .nm 2]) (N1 := fun ε => ∃ (k : Nat) (b : Bool), 1 ≤ k ∧ k ≤ 3 ∧ ε = [.dk, .dat (iD k), .dat (.bool b), .no]) (P := fun d => ∃ (k : Nat) (b : Bool), 1 ≤ k ∧ k ≤ 3 ∧ d = .tuple [iD k, .bool b]) (pd_tupP (L := fun l => ∃ (k : Nat) (b : Bool), 1 ≤ k ∧ k ≤ 3 ∧ l = [iD k, .bool b]) (pdl_consP (P := fun d => ∃ k : Nat, 1 ≤ k ∧ k ≤ 3 ∧ d = iD k) (L := fun l => ∃ b : Bool, l = [.bool b]) ?_ (pdl_consP (P := fun d => ∃ b, d = .bool b) (L := IsL []) ?_ pdl_nil ?_) ?_) ?_) (td_tup rfl (tds_cons (td_name 1 hN) (tds_cons (td_name 2 hN) tds_nil))) ?_ ?_
  · refine pd_callM (L := fun l => l = [.dk, .dat (.list [.int 1, .int 2, .int 2, .int 3])]) cp hr (by decide) rfl (pda_dkX 0 (pda_dat (pd_lst (pdl_cons pd_int (pdl_cons pd_int (pdl_cons pd_int (pdl_cons pd_int pdl_nil))))) pda_nil)) fun l e => ⟨_, ⟨_, by decide, by decide, e, rfl⟩, fun d hd => ?_⟩
    simp only [List.mem_cons, List.not_mem_nil, or_false] at hd
    rcases hd with e | e | e | e
    · exact ⟨1, by decide, by decide, e⟩
    · exact ⟨2, by decide, by decide, e⟩
    · exact ⟨2, by decide, by decide, e⟩
    · exact ⟨3, by decide, by decide, e⟩
  · exact pd_eqP (P1 := lessD 8) (P2 := Is (.int 0)) (pd_draw c hr (by decide) rfl (pda_dk1 0 pd_int) (by decide) (by decide)) pd_int fun d1 d2 ⟨r, _, e⟩ e2 => ⟨_, _, e, e2⟩
  · rintro d l ⟨b, e⟩ el
    cases el
    exact ⟨b, by rw [e]⟩
  · rintro d l ⟨k, h1, h2, e⟩ ⟨b, el⟩
    exact ⟨k, b, h1, h2, by rw [e, el]⟩
  · rintro l ⟨k, b, h1, h2, e⟩
    rw [e]
    exact ⟨by exact Nat.le_of_ble_eq_true rfl, k, b, h1, h2, rfl⟩
  · rintro d ⟨k, b, h1, h2, e⟩
    subst e
    exact ⟨_, rfl, k, b, h1, h2, rfl⟩
  · rintro ε' ⟨k, b, h1, h2, rfl⟩
    refine bd_ret (pd_tupleP rfl G.tuple (pd_imp (ld_pd (ld_lc (own := [("_law_turn", 3)]) rfl hN (LcD.mk1 (t := .nm 3) (xs := rng 0 k) (Pe := fun _ => growP k) (id_range1 (n := (k : Int)) rfl G.range (pd_var 1) (by omega)) rfl (fun _ _ _ _ _ => td_name 3 hN) (fun d hd => ⟨_, rfl, fun s H C cl fp => ?_⟩) (by decide) (by rw [rng_len]; omega)))) fun d ⟨ds, e, hsel⟩ => ?_))
    · exact pd_callM (L := fun l => l = [.dk, .dat (iD k), .dat (.bool b)]) cg hr (by decide) rfl (pda_dkX 0 (pda_dat (pd_var 1) (pda_dat (pd_var 2) pda_nil))) fun l e => ⟨growP k, ⟨k, b, h1, h2, e, rfl⟩, fun _ h => h⟩
    · have hsel' : Sel (fun _ => true) (fun _ d => ∃ v : Web, (WebOk k v ∧ WebS v ∧ 2 ≤ v.1) ∧ d = webD v) (rng 0 k) ds := by
        have key : ∀ {xs ys : List PyData}, Sel (fun _ => true) (fun _ => growP k) xs ys → Sel (fun _ => true) (fun _ d => ∃ v : Web, (WebOk k v ∧ WebS v ∧ 2 ≤ v.1) ∧ d = webD v) xs ys := fun h => by
          induction h with
          | nil => exact .nil
          | yes _ h2 h3 ih =>
            obtain ⟨v, a, b, c, e⟩ := h3
            exact .yes ih h2 ⟨v, ⟨a, b, c⟩, e⟩
          | no _ h2 ih => exact .no ih h2
        exact key hsel
      obtain ⟨ts, et, hok, hlen⟩ := sel_all hsel' fun _ => rfl
      rw [rng_len] at hlen
      refine ⟨ds, e, ts, ⟨by omega, by omega, fun v hv => ?_⟩, by rw [et]⟩
      obtain ⟨a1, a2, a3⟩ := hok v hv
      rw [hlen]
      exact ⟨a1, a3, a2⟩
abbrev l_start : Stmt := top 43
abbrev N_ls : List Str := ["_law_deck_here", "_law_kinds"]
theorem sc_ls : FnScope N_ls ["_law_deck_here", "_law_kinds"] (defScope l_start) := ⟨rfl, rfl, rfl, by decide +kernel, rfl, by decide +kernel, by decide +kernel⟩
def preLs (es : List Ent) (R : PP) : Prop := ∃ k : Nat, 1 ≤ k ∧ k ≤ 3 ∧ es = [.dk, .dat (iD k)] ∧ R = webP k
theorem ok_ls (c : CalD P w K mg base 1 "_law_draw" preDraw) (cw : CalD P w K mg base 3 "_law_web" preLw) (F : FnP K "_law_start" l_start f fd) : FnOk P w K mg base CX0 4 f fd ["_law_deck_here", "_law_kinds"] (spK deckM K preLs) := by
  refine fn_data F sc_ls (fun es R ⟨k, _, _, e, _⟩ => by rw [e]; rfl) fun cdv A outer s0 H E es R hr ⟨k, k1, k3, e, eR⟩ => ?_
  subst e eR
  refine bd_ifRet (T := fun _ => True) (pdt_eqP (P1 := lessD 8) (P2 := Is (.int 0)) (pd_draw c hr (by decide) rfl (pda_dk1 0 pd_int) (by decide) (by decide)) pd_int fun d1 d2 ⟨r, _, e⟩ e2 => ⟨_, _, e, e2⟩) (fun _ => bd_ret (pd_callM (L := fun l => l = [.dk, .dat (iD 7), .dat (iD k), .dat (iD 10)]) cw hr (by decide) rfl (pda_dkX 0 (pda_dat pd_int (pda_dat (pd_var 1) (pda_dat pd_int pda_nil)))) fun l e => ⟨_, ⟨7, k, 10, by decide, by decide, k1, k3, by decide, e, rfl⟩, fun d ⟨v, W, S, en, e⟩ => ⟨v, W, S, e⟩⟩)) (fun _ => ?_)
  refine bd_ret (pd_callM (L := fun l => ∃ n m : Nat, 1 ≤ n ∧ n ≤ 5 ∧ m ≤ 5 ∧ l = [.dk, .dat (iD n), .dat (iD k), .dat (iD m)]) cw hr (by decide) rfl (pda_dkP 0 (L := fun l => ∃ n m : Nat, 1 ≤ n ∧ n ≤ 5 ∧ m ≤ 5 ∧ l = [.dat (iD n), .dat (iD k), .dat (iD m)]) (pda_datP (P := fun d => ∃ n : Nat, 1 ≤ n ∧ n ≤ 5 ∧ d = iD n) (L := fun l => ∃ m : Nat, m ≤ 5 ∧ l = [.dat (iD k), .dat (iD m)]) ?_ (pda_datP (P := Is (iD k)) (L := fun l => ∃ m : Nat, m ≤ 5 ∧ l = [.dat (iD m)]) (pd_var 1) (pda_datP (P := lessD 5) (L := fun l => l = []) ?_ pda_nil ?_) ?_) ?_) ?_) ?_)
  · exact pd_addP (P1 := Is (.int 1)) (P2 := lessD 4) pd_int (pd_draw c hr (by decide) rfl (pda_dk1 0 pd_int) (by decide) (by decide)) fun d1 d2 e1 ⟨r, hr, e⟩ => ⟨1, r, e1, e, 1 + r, by omega, by omega, congrArg PyData.int (by omega)⟩
  · exact pd_draw c hr (by decide) rfl (pda_dk1 0 pd_int) (by decide) (by decide)
  · rintro d l ⟨r, h, e⟩ el
    exact ⟨r, by omega, by rw [e, el]⟩
  · rintro d l e ⟨m, hm, el⟩
    exact ⟨m, hm, by rw [show d = _ from e, el]⟩
  · rintro d l ⟨n, h, h', e⟩ ⟨m, hm, el⟩
    exact ⟨n, m, h, h', hm, by rw [e, el]⟩
  · rintro l ⟨n, m, h, h', hm, el⟩
    exact ⟨n, m, h, h', hm, by rw [el]⟩
  · rintro l ⟨n, m, h, h', hm, el⟩
    exact ⟨_, ⟨n, k, m, by omega, by omega, k1, k3, by omega, el, rfl⟩, fun d ⟨v, W, S, en, e⟩ => ⟨v, W, S, e⟩⟩
abbrev l_gar : Stmt := top 44
abbrev N_lgd : List Str := ["_law_deck_here", "_law_book_here"]
theorem sc_lgd : FnScope N_lgd ["_law_deck_here"] (defScope l_gar) := ⟨rfl, rfl, rfl, by decide +kernel, rfl, by decide +kernel, by decide +kernel⟩
def garP : PP := fun d => ∃ g : Gar, GOk g ∧ d = garD g
def preLgd (es : List Ent) (R : PP) : Prop := es = [.dk] ∧ R = garP
theorem ok_lgd (G : Glo mg) (cb : CalD P w K mg base 5 "_law_book" preLb) (cs : CalD P w K mg base 4 "_law_start" preLs) (F : FnP K "_law_garden" l_gar f fd) : FnOk P w K mg base CX0 6 f fd ["_law_deck_here"] (spK deckM K preLgd) := by
  refine fn_data F sc_lgd (fun es R ⟨e, _⟩ => by rw [e]; rfl) fun cdv A outer s0 H E es R hr ⟨e, eR⟩ => ?_
  subst e eR
  have hN : N_lgd.Nodup := by decide +kernel
  refine bd_setP 1 hN (P := bookP) (pd_callM (L := fun l => l = [.dk]) cb hr (by decide) rfl (pda_dkX 0 pda_nil) fun l e => ⟨_, ⟨e, rfl⟩, fun _ h => h⟩) fun d ⟨b, B, e⟩ => ?_
  subst e
  refine bd_ret (pd_tupP (L := fun l => ∃ v : Web, WebOk b.length v ∧ WebS v ∧ l = [webD v, .tuple (b.map webD)]) (pdl_consP (P := webP b.length) (L := IsL [.tuple (b.map webD)]) ?_ (pdl_cons (pd_var 1) pdl_nil) ?_) ?_)
  · exact pd_callM (L := fun l => l = [.dk, .dat (iD b.length)]) cs hr (by decide) rfl (pda_dkX 0 (pda_dat (pd_lenT rfl G.len (pd_var 1) (he := by rw [List.length_map] <;> rfl)) pda_nil)) fun l e => ⟨_, ⟨_, B.lo, B.hi, e, rfl⟩, fun _ h => h⟩
  · rintro d l ⟨v, W, S, e⟩ el
    exact ⟨v, W, S, by rw [e, show l = _ from el]⟩
  · rintro l ⟨v, W, S, e⟩
    rw [e]
    exact ⟨by exact Nat.le_of_ble_eq_true rfl, (v, b), ⟨⟨B.lo, B.hi, W, fun u hu => ⟨(B.all u hu).1, (B.all u hu).2.1⟩⟩, S, fun u hu => (B.all u hu).2.2⟩, rfl⟩
end
end TX
end

section
set_option Elab.async false
set_option linter.all false
set_option maxRecDepth 100000
set_option maxHeartbeats 4000000
namespace TX
open PySem PySem.Spec PyProof.Rows L2 DL MA
section
variable {𝓜 : Md → Prop} {X : Cx} {ε : List Ent} {a b : Expr} {pos p : Pos}
theorem pd_slLTo {dd : PyData} {p2 : Pos} {ds : List PyData} {i : Int} (ha : PD 𝓜 X ε a (Is (.list ds))) (hb : PD 𝓜 X ε b (Is (.int i))) (he : (PyData.list (cutD ds none (some i)) : PyData) = dd := by rfl) : PD 𝓜 X ε (.Subscript a (.Slice none (some b) none p2) pos) (Is dd) :=
  pd_to (pd_pe (P := Is (.list (cutD ds none (some i)))) (pe_slice sl_list ha po_none (po_some hb)) fun md Mo C M F H σ Q m o q => td_then md Mo C M F m o fun v H1 d p r o1 x1 => td_then md Mo C M F m o1 fun v2 H2 d2 p2 r2 o2 x2 => by
    cases p; cases p2
    refine ⟨i, dp_int x2, ?_⟩
    obtain ⟨t, xs, rfl, hq, ha⟩ := dp_lst (dp_same (o1.keep r2) x1)
    have z := dpa_cut ha none (some i)
    exact ⟨t, xs, rfl, hid_same.seq hq, fun n nn => q (.ref n) _ _ rfl ((r.trans r2).trans (new_same nn)) (md.stab _ _ o2.inv (same_new nn)) (new_lst nn o2.dom z)⟩) he
end
section
variable {P : Program} {w : World} {K : PySem.W.Frag} {mg : Str → Option Value} {base : Heap} {f : Addr} {fd : FuncData}
abbrev l_row : Stmt := top 45
abbrev N_lr : List Str := ["_law_deck_here", "_law_garden_here", "_law_most", "_law_ties", "_law_row_here", "_law_turn", "_law_t"]
theorem sc_lr : FnScope N_lr ["_law_deck_here", "_law_garden_here", "_law_most"] (defScope l_row) := ⟨rfl, rfl, rfl, by decide +kernel, rfl, by decide +kernel, by decide +kernel⟩
def preLr (es : List Ent) (R : PP) : Prop := ∃ (g : Gar) (n : Nat), GOk g ∧ n ≤ 60 ∧ es = [.dk, .dat (garD g), .dat (iD n)] ∧ R = fun d => ∃ r : MA.Row, Ro g r ∧ r.length ≤ n ∧ d = rowD r
theorem ties_shaped {k : Nat} {v : Web} (W : WebOk k v) (hk : k ≤ 3) : SeqAt.shaped (.tuple (v.2.map tieD)) = true := by
  have := shp_tup (n := 1) (L := 30) (l := v.2.map tieD) fun x hx => by
    obtain ⟨t, ht, rfl⟩ := List.mem_map.mp hx
    exact shp_tie (W.ties t ht) W.hi hk
  exact this.shaped (by decide)
theorem ok_lr (G : Glo mg) (c : CalD P w K mg base 1 "_law_draw" preDraw) (F : FnP K "_law_row" l_row f fd) : FnOk P w K mg base CX0 2 f fd ["_law_deck_here", "_law_garden_here", "_law_most"] (spK deckM K preLr) := by
  refine fn_data F sc_lr (fun es R ⟨g, n, _, _, e, _⟩ => by rw [e]; rfl) fun cdv A outer s0 H E es R hr ⟨g, n, B, n60, e, eR⟩ => ?_
  subst e eR
  have hN : N_lr.Nodup := by decide +kernel
  refine bd_par2 3 4 rfl hN (by decide) (pdl_cons (pd_ixT at1 (pd_ixT at0 (pd_var 1) pd_int) pd_int) (pdl_cons (pd_tup pdl_nil) pdl_nil)) fun l el => ⟨_, _, el, ?_⟩
  refine bd_cons (N1 := fun ε => ∃ r : MA.Row, Ro g r ∧ r.length ≤ n ∧ ε = [.dk, .dat (garD g), .dat (iD n), .dat (.tuple ((web g r).2.map tieD)), .dat (rowD r), .no, .no]) (sd_for (t := .nm 5) .never rfl (id_range1 (n := (n : Int)) rfl G.range (pd_var 2) (by omega)) (td_name 5 hN)
    (fun _ i ε => ∃ r : MA.Row, Ro g r ∧ r.length ≤ i ∧ ε = [.dk, .dat (garD g), .dat (iD n), .dat (.tuple ((web g r).2.map tieD)), .dat (rowD r), .no, .no]) ?_ ?_ ?_) ?_
  · intro xs _; exact ⟨[], trivial, Nat.zero_le _, rfl⟩
  · rintro xs i d ε1 ex hd ⟨r, hr1, hl, rfl⟩
    cases ex
    have hi := (rng_iD (lo := 0) hd).1
    have W := (web_ok B.ok hr1).1
    refine ⟨_, rfl, ?_⟩
    have few := W.few
    refine bd_one (sd_if (T := IsB (!(web g r).2.isEmpty)) (pdt_to (pdt_neD (d2 := .tuple []) hr.units (ties_shaped W B.ok.hi) (by decide +kernel) (pd_var 3) (pd_tup pdl_nil)) ?_) (fun h => ?_) (fun h => bd_nil ⟨_, le_wipe [5], r, hr1, by omega, rfl⟩))
    · cases (web g r).2 <;> rfl
    · have hne : 0 < (web g r).2.length := by
        rcases q : (web g r).2 with _ | ⟨a, l⟩
        · rw [q] at h; cases h
        · exact Nat.succ_pos _
      refine bd_setP 6 hN (P := lessD ((web g r).2.length : Int)) (pd_draw c hr (by decide) rfl (pda_dk1 0 (pd_lenT rfl G.len (pd_var 3) (he := by rw [List.length_map]))) (by omega) (by omega)) fun d ⟨t, ht, e⟩ => ?_
      subst e
      have ht : t < (web g r).2.length := by omega
      have hro : Ro g (r ++ [t]) := (ro_snoc g r t).mpr ⟨hr1, ht⟩
      have hk := (tie_ok B.ok hro).c
      refine bd_par2 4 3 rfl hN (by decide) (pdl_cons (pd_catT (pd_var 4) (pd_tup (pdl_cons (pd_var 6) pdl_nil)) (by rw [List.length_map]; show r.length + 1 ≤ _; omega)) (pdl_cons (pd_ixT at1 (pd_ixT (atN (gro_get hk)) (pd_ixT at1 (pd_var 1) pd_int) (pd_ixT at2 (pd_ixT (atN (tie_get ht)) (pd_var 3) (pd_var 6)) pd_int)) pd_int) pdl_nil)) fun l el => ⟨_, _, el, bd_nil ⟨_, le_wipe [5, 6], r ++ [t], hro, by rw [List.length_append]; show r.length + 1 ≤ _; omega, ?_⟩⟩
      have er : rowD (r ++ [t]) = .tuple (r.map iD ++ [iD t]) := by rw [rowD, List.map_append]; rfl
      rw [web_snoc, er]
      rfl
  · rintro xs ε1 ex ⟨r, h1, h2, h3⟩
    cases ex
    rw [rng_len] at h2
    exact ⟨r, h1, by omega, h3⟩
  · rintro ε' ⟨r, h1, h2, rfl⟩
    exact bd_retP (P := Is (rowD r)) (fun d e => ⟨r, h1, h2, e⟩) (pd_var 4)
abbrev l_deck : Stmt := top 36
abbrev N_ldk : List Str := ["_law_script", "_law_mixed", "_law_cell"]
theorem sc_ldk : FnScope N_ldk ["_law_script"] (defScope l_deck) := ⟨rfl, rfl, rfl, by decide +kernel, rfl, by decide +kernel, by decide +kernel⟩
/-- a new deck -/
def spDeck (K : PySem.W.Frag) : Sp := fun vs H Q _ => ∃ (M : Hd) (ns : List Int), ns.length ≤ 63 ∧ (∀ a, M a = true → H a ≠ none) ∧ Paired (EntV K pureMd (hid H M)) vs [.dat (.list (ns.map PyData.int))] ∧
  ∀ dA cA H' c m dr, Same H H' → H dA = none → H cA = none → deckI dA cA c m dr H' → Q (.ref dA) H'
theorem cut63 {ns : List Int} (h : ns.length ≤ 63) : cutD (ns.map PyData.int) none (some 63) = ns.map PyData.int := by
  have := cutD_to (ds := ns.map PyData.int) 63
  rw [show ((63 : Nat) : Int) = (63 : Int) from rfl] at this
  rw [this, List.take_of_length_le (by rw [List.length_map]; exact h)]
theorem ok_ldk (G : Glo mg) (F : FnP K "_law_deck" l_deck f fd) : FnOk P w K mg base CX0 1 f fd ["_law_script"] (spDeck K) := by
  have hN : N_ldk.Nodup := by decide +kernel
  refine F.ok sc_ldk (fun vs H Q E ⟨M, ns, _, _, z, _⟩ => by rw [entv_len z]; rfl) fun cdv A outer s0 H vs Q E hr ⟨M, ns, h63, dm, z, q⟩ => ?_
  let X : Cx := (cxOf CX0 P w K mg base N_ldk "_law_deck" (defScope l_deck) f cdv A outer s0 H E).nox
  have st1 : SD pureM X (envE N_ldk [.dat (.list (ns.map PyData.int))]) ((defBody l_deck).getD 0 (.Pass ⟨0, 0, 0, 0⟩)) (fun ε => ∃ m : Int, ε = [.dat (.list (ns.map PyData.int)), .dat (.int m), .no]) (fun _ => False) :=
    sd_imp (sd_setP (P := Is (.int 10894659)) 1 hN (.inl rfl) pd_int) fun ε ⟨d, e, e2⟩ => by
      cases e
      exact ⟨_, e2⟩
  have st2 : ∀ m : Int, SD pureM X [.dat (.list (ns.map PyData.int)), .dat (.int m), .no] ((defBody l_deck).getD 1 (.Pass ⟨0, 0, 0, 0⟩)) (fun ε => ∃ m : Int, ε = [.dat (.list (ns.map PyData.int)), .dat (.int m), .no]) (fun _ => False) := fun m =>
    sd_for (t := .nm 2) .never rfl (id_listX (pd_slLTo (pd_var 0) pd_int (congrArg PyData.list (cut63 h63)))) (td_name 2 hN) (fun _ _ ε => ∃ m : Int, ε = [.dat (.list (ns.map PyData.int)), .dat (.int m), .no]) (fun _ _ => ⟨m, rfl⟩)
      (fun xs i d ε1 ex hd ⟨m', e⟩ => by
        subst e
        cases ex
        obtain ⟨n, _, e⟩ := List.mem_map.mp (List.mem_of_getElem? hd)
        subst e
        exact ⟨_, rfl, bd_set 1 hN (pd_mod (by decide) (pd_intI rfl G.int (pd_add (pd_add (pd_mul (.inr ⟨by decide, by decide⟩) (pd_var 1) pd_int) (pd_mod (by decide) (pd_intI rfl G.int (pd_var 2)) pd_int)) pd_int)) pd_int) (bd_nil ⟨_, le_wipe [2], _, rfl⟩)⟩) fun xs ε1 _ h => h
  have st3 : ∀ m : Int, PSs X [(defBody l_deck).getD 2 (.Pass ⟨0, 0, 0, 0⟩)] (tRet (tDisp [(tC (.str "cells"), tRevL K (tD pureM K [.dat (.list (ns.map PyData.int)), .dat (.int m), .no] (Is (.list (ns.map PyData.int))))), (tC (.str "mixed"), tD pureM K [.dat (.list (ns.map PyData.int)), .dat (.int m), .no] (Is (.int m))), (tC (.str "draws"), tD pureM K [.dat (.list (ns.map PyData.int)), .dat (.int m), .no] (Is (.int 0)))])) := fun m =>
    pss_one (ps_ret (pe_disp (pps_cons pe_str (pe_revL (pd_listL rfl G.list (pd_slLTo (pd_var 0) pd_int (congrArg PyData.list (cut63 h63))))) (pps_cons pe_str (pd_var 1) (pps_cons pe_str pd_int pps_nil))) rfl rfl (by simp) (by decide)))
  have f2 : PS X ((defBody l_deck).getD 1 (.Pass ⟨0, 0, 0, 0⟩)) (fun D σ H => ∃ m : Int, tS pureM K [.dat (.list (ns.map PyData.int)), .dat (.int m), .no] (fun ε => ∃ m : Int, ε = [.dat (.list (ns.map PyData.int)), .dat (.int m), .no]) (fun _ => False) D σ H) := ⟨fun pins s σ H D I ⟨m, q⟩ => (st2 m).run pins s σ H D I q⟩
  refine ⟨_, PSs.nox (pss_cons st1 (pss_cons f2 (pss_fam st3))), ?_⟩
  refine ⟨pureMd, M, pureMd.m0, M, hid H pureMd.m0, rfl, ok_start (fun a h => nomatch h) dm trivial z, fun σ1 H1 C1 M1 ε1 ⟨m, e⟩ o1 => ?_, fun v H' d h => h.elim⟩
  subst e
  refine ⟨m, pureMd, M, C1, M1, hid H pureMd.m0, rfl, o1, fun σ2 H2 C2 M2 ε2 ⟨m2, e2⟩ o2 => ?_, fun v H' d h => h.elim⟩
  subst e2
  refine ⟨m2, fun p np => ?_⟩
  have s2 : Same H2 (upd H2 p (.dK [])) := same_new np
  refine ⟨pureMd, M, C2, M2, _, rfl, o2.rel (Rel.of s2) trivial, fun v3 H3 d3 p3 r3 i3 z3 => ?_⟩
  have p3 : d3 = .list (ns.map PyData.int) := p3
  subst p3
  obtain ⟨a, xs, rfl, hq, hx⟩ := dp_lst z3
  obtain rfl := dpa_ints hx
  refine ⟨a, _, rfl, hid_same.seq hq, fun c nc => ?_⟩
  have s3 : Same H2 H3 := s2.trans r3.pure
  have s4 : Same H3 (upd H3 c (.lst (ns.map V.int).reverse)) := same_new nc
  refine ⟨pureMd, M, C2, M2, _, rfl, o2.rel (Rel.of (s3.trans s4)) trivial, fun v5 H5 d5 p5 r5 i5 z5 => ?_⟩
  have p5 : d5 = .int m2 := p5
  subst p5
  rw [dp_int z5]
  refine ⟨pureMd, M, C2, M2, _, rfl, o2.rel (Rel.of ((s3.trans s4).trans r5.pure)) trivial, fun v6 H6 d6 p6 r6 i6 z6 => ?_⟩
  have p6 : d6 = .int 0 := p6
  subst p6
  rw [dp_int z6]
  have s36 : Same H3 H6 := (s4.trans r5.pure).trans r6.pure
  have h3p : H3 p = some (.dK []) := r3.pure _ _ upd_same
  have hcp : c ≠ p := fun z => by rw [z, h3p] at nc; cases nc
  have h6c : H6 c = some (.lst (ns.map V.int).reverse) := r6.pure _ _ (r5.pure _ _ upd_same)
  have sF : Same H H2 := fun b u h => o2.fix b u (by rw [hid_off (show pureMd.m0 b = false from rfl)]; exact h)
  refine ⟨s36 _ _ h3p, [(.inr "cells", .ref c), (.inr "mixed", .int m2), (.inr "draws", .int 0)], rfl, by show 3 ≤ 15; decide, ?_⟩
  refine q p c _ ns.reverse m2 0 (fun b u h => ?_) ?_ ?_ ⟨fun z => hcp z.symm, upd_same, ?_, by rw [List.length_reverse]; omega⟩
  · have hb := sF b u h
    have hne : b ≠ p := fun z => by rw [z, np] at hb; cases hb
    rw [upd_ne hne]
    exact s36 b u (s3 b u hb)
  · cases h : H p with
    | none => rfl
    | some u => rw [sF p u h] at np; cases np
  · cases h : H c with
    | none => rfl
    | some u => rw [s3 c u (sF c u h)] at nc; cases nc
  · rw [upd_ne hcp, h6c, List.map_reverse]
end
end TX
end

section
set_option Elab.async false
set_option linter.all false
set_option maxRecDepth 100000
set_option maxHeartbeats 4000000
namespace TX
open PySem PySem.Spec PyProof.Rows L2 DL MA
section
variable {P : Program} {w : World} {K : PySem.W.Frag} {mg : Str → Option Value} {base : Heap} {f : Addr} {fd : FuncData}
abbrev l_law : Stmt := top 55
abbrev N_l : List Str := ["_law_script", "_law_deck_here", "_law_garden_here", "_law_most", "_law_row_here", "_law_n", "_law_ends_here", "_law_side"]
theorem sc_l : FnScope N_l ["_law_script"] (defScope l_law) := ⟨rfl, rfl, rfl, by decide +kernel, rfl, by decide +kernel, by decide +kernel⟩
def spLaw (K : PySem.W.Frag) : Sp := fun vs H Q _ => ∃ (a : Addr) (ns : List Int), vs = [.ref a] ∧ ns.length ≤ 63 ∧ SqL K H a (ns.map V.int) ∧ ∀ H', Q (.bl true) H'
theorem ok_law (G : Glo mg) (cdk : CalP P w K mg base 1 "_law_deck" (spDeck K)) (cdr : CalD P w K mg base 1 "_law_draw" preDraw) (cga : CalD P w K mg base 6 "_law_garden" preLgd) (cro : CalD P w K mg base 2 "_law_row" preLr)
    (ci : CalP P w K mg base 9 "is_row" (spK pureM K (preRow fun _ _ => Is (.bool true)))) (ce : CalP P w K mg base 10 "row_ends" (spK pureM K (preRow fun g r => Is (endsD (ends g r))))) (ck : CalP P w K mg base 10 "row_kind" (spK pureM K (preRow fun g r => Is (iD (kind g r)))))
    (ca : CalP P w K mg base 9 "is_address" (spK pureM K preAd)) (cle : CalP P w K mg base 1 "_law_ends" (spK pureM K (preRow fun g r => Is (endsD (ends g r))))) (clk : CalP P w K mg base 1 "_law_row_kind" (spK pureM K (preRow fun g r => Is (iD (kind g r)))))
    (ct : CalG P w K mg base 11 "_law_ends_are_told" (spK pureM K preTold)) (cm : CalG P w K mg base 12 "_law_is_met" (spK pureM K preMet)) (F : FnP K "law" l_law f fd) : FnG P w K mg base 13 f fd ["_law_script"] (spLaw K) := by
  have hN : N_l.Nodup := by decide +kernel
  refine fnG_of F sc_l (fun vs H Q E ⟨a, ns, e, _⟩ => by rw [e]; rfl) fun cdv A outer s0 H vs Q E hr gd ⟨a, ns, ev, h63, hS, hQ⟩ => ?_
  subst ev
  let X : Cx := (cxOf CX0 P w K mg base N_l "law" (defScope l_law) f cdv A outer s0 H E).nox
  have main : BD deckM X [.no, .dk, .no, .no, .no, .no, .no, .no] ((defBody l_law).drop 1) (fun _ => False) (Is (.bool true)) := by
    refine bd_setP 2 hN (P := garP) (pd_callM (L := fun l => l = [.dk]) cga hr (by decide) rfl (pda_dkX 1 pda_nil) fun l e => ⟨_, ⟨e, rfl⟩, fun _ h => h⟩) fun d ⟨g, B, e⟩ => ?_
    subst e
    have K3 := B.ok.hi
    refine bd_cons (N1 := fun _ => True) (sd_for (t := .nm 3) .never rfl (id_tup (L := fun ds => ∃ x y : Nat, x ≤ 40 ∧ y ≤ 40 ∧ ds = [iD 60, iD x, iD y]) (pd_tupP (L := fun ds => ∃ x y : Nat, x ≤ 40 ∧ y ≤ 40 ∧ ds = [iD 60, iD x, iD y]) (pdl_consP (P := Is (iD 60)) (L := fun ds => ∃ x y : Nat, x ≤ 40 ∧ y ≤ 40 ∧ ds = [iD x, iD y]) pd_int (pdl_consP (P := fun d => ∃ x : Nat, x ≤ 40 ∧ d = iD x) (L := fun ds => ∃ x : Nat, x ≤ 40 ∧ ds = [iD x]) ?_ (pdl_consP (P := fun d => ∃ x : Nat, x ≤ 40 ∧ d = iD x) (L := IsL []) ?_ pdl_nil ?_) ?_) ?_) ?_)) (td_name 3 hN)
      (fun _ _ ε => ε = [.no, .dk, .dat (garD g), .no, .no, .no, .no, .no]) (fun xs _ => rfl) ?_ (fun _ _ _ _ => trivial)) (fun ε' _ => bd_ret pd_bl)
    · exact pd_addP (P1 := Is (.int 2)) (P2 := lessD 6) pd_int (pd_draw cdr hr (by decide) rfl (pda_dk1 1 pd_int) (by decide) (by decide)) fun d1 d2 e1 ⟨r, hr, e⟩ => ⟨2, r, e1, e, 2 + r, by omega, congrArg PyData.int (by omega)⟩
    · exact pd_addP (P1 := Is (.int 2)) (P2 := lessD 20) pd_int (pd_draw cdr hr (by decide) rfl (pda_dk1 1 pd_int) (by decide) (by decide)) fun d1 d2 e1 ⟨r, hr, e⟩ => ⟨2, r, e1, e, 2 + r, by omega, congrArg PyData.int (by omega)⟩
    · rintro d l ⟨x, hx, e⟩ el
      cases el
      exact ⟨x, hx, by rw [e]⟩
    · rintro d l ⟨x, hx, e⟩ ⟨y, hy, el⟩
      exact ⟨x, y, hx, hy, by rw [e, el]⟩
    · rintro d l e ⟨x, y, hx, hy, el⟩
      exact ⟨x, y, hx, hy, by rw [show d = _ from e, el]⟩
    · rintro l ⟨x, y, hx, hy, el⟩
      exact ⟨by rw [el]; exact Nat.le_of_ble_eq_true rfl, l, rfl, x, y, hx, hy, el⟩
    · rintro xs i d ε1 ⟨x, y, hx, hy, exs⟩ hd rfl
      have hm : ∃ most : Nat, most ≤ 60 ∧ d = iD most := by
        subst exs
        have := List.mem_of_getElem? hd
        simp only [List.mem_cons, List.not_mem_nil, or_false] at this
        rcases this with e | e | e
        · exact ⟨60, by decide, e⟩
        · exact ⟨x, by omega, e⟩
        · exact ⟨y, by omega, e⟩
      obtain ⟨most, hmost, rfl⟩ := hm
      refine ⟨_, rfl, ?_⟩
      refine bd_setP 4 hN (P := fun d => ∃ r : MA.Row, Ro g r ∧ r.length ≤ most ∧ d = rowD r) (pd_callM (L := fun l => l = [.dk, .dat (garD g), .dat (iD most)]) cro hr (by decide) rfl (pda_dkX 1 (pda_dat (pd_var 2) (pda_dat (pd_var 3) pda_nil))) fun l e => ⟨_, ⟨g, most, B, hmost, e, rfl⟩, fun _ h => h⟩) fun d ⟨r, ro, rl, e⟩ => ?_
      subst e
      have O : RowOk g r := ⟨ro, by omega⟩
      have nz : (!decide (r = [])) = true → r ≠ [] := fun h z => by subst z; simp at h
      refine bd_ifNo (pdt_to (pdt_w (pdw_andV (pdt_to (pdt_neD (d2 := .tuple []) hr.units (row_shaped B O) (by decide +kernel) (pd_var 4) (pd_tup pdl_nil)) (congrArg (fun b => !b) (eqv_row r []))) fun h => pdw_and1 (pdt_notB (k := true) (j := true) (pd_call ci hr (by decide) rfl (pdl_cons (pd_var 2) (pdl_cons (pd_var 4) pdl_nil)) ⟨g, r, B, O, nz h, rfl, rfl⟩) pd_bl))) ?_) ?_
      · simp
      refine bd_one (sd_if (pdt_gt (pd_lenT rfl G.len (pd_var 4)) pd_int) (fun h => ?_) (fun h => bd_nil ⟨_, le_wipe [3, 4], rfl⟩))
      rw [List.length_map] at h
      have h2 : 2 ≤ r.length := by have := of_decide_eq_true h.symm; omega
      have hne : r ≠ [] := fun z => by subst z; simp at h2
      obtain ⟨n, hn⟩ : ∃ n, r.length = n + 1 := ⟨r.length - 1, by omega⟩
      have n1 : 1 ≤ n := by omega
      have n60 : n ≤ 60 := by omega
      obtain ⟨en1, en2⟩ := en_ok B.ok ro hne
      have adr : ∀ s, s < 2 → AdR g (en g r s) := fun s hs => ⟨(en1 s hs).1, by have := (en1 s hs).2; omega⟩
      have O2 : RowOk g (r.take 2) := ⟨ro_take ro 2, by rw [List.length_take]; omega⟩
      have ht2 : PyData.tuple (cutD (r.map iD) none (some 2)) = rowD (r.take 2) := by
        rw [show (2 : Int) = ((2 : Nat) : Int) from rfl, cutD_to, ← List.map_take]; rfl
      refine bd_par2 5 6 rfl hN (by decide) (pdl_cons (d := iD n) (pd_sub (pd_lenT rfl G.len (pd_var 4)) pd_int (he := by rw [List.length_map]; exact congrArg PyData.int (by omega))) (pdl_cons (pd_call ce hr (by decide) rfl (pdl_cons (pd_var 2) (pdl_cons (pd_var 4) pdl_nil)) ⟨g, r, B, O, hne, rfl, rfl⟩) pdl_nil)) fun l el => ⟨_, _, el, ?_⟩
      refine bd_ifNo (pdt_to (pdt_w (pdw_orV (pdt_not (pdt_val (pd_callG ct gd hr (by decide) rfl (pdl_cons (pd_var 2) (pdl_cons (pd_var 4) pdl_nil)) ⟨g, r, B, O, h2, rfl, rfl⟩))) fun _ => pdw_orV (pdt_not (pdt_val (pd_callG ct gd hr (by decide) rfl (pdl_cons (pd_var 2) (pdl_cons (pd_slTo (pd_var 4) pd_int (he := ht2)) pdl_nil)) ⟨g, r.take 2, B, O2, by rw [List.length_take]; omega, rfl, rfl⟩))) fun _ =>
        pdw_or1 (pdt_eqD (d1 := adD (en g r 0)) (d2 := adD (en g r 1)) hr.units (ad_shaped B (adr 0 (by decide))) (ad_shaped B (adr 1 (by decide))) (pd_ixT at0 (pd_var 6) pd_int) (pd_ixT at1 (pd_var 6) pd_int)))) ?_) ?_
      · rw [eqv_ad, decide_eq_false en2]; rfl
      refine bd_cons (N1 := fun ε => ε = [.no, .dk, .dat (garD g), .dat (iD most), .dat (rowD r), .dat (iD n), .dat (endsD (ends g r)), .no]) (sd_for (t := .nm 7) .never rfl (id_tupX (pd_tup (pdl_cons pd_int (pdl_cons pd_int pdl_nil)))) (td_name 7 hN)
        (fun _ _ ε => ε = [.no, .dk, .dat (garD g), .dat (iD most), .dat (rowD r), .dat (iD n), .dat (endsD (ends g r)), .no]) (fun xs _ => rfl) ?_ (fun _ _ _ h => h)) ?_
      · rintro xs s d ε1 ex hd rfl
        cases ex
        obtain ⟨hs, rfl⟩ := pair_get hd
        have hl := (en1 s hs).2
        refine ⟨_, rfl, ?_⟩
        have esd : ∀ {𝓜 : Md → Prop} {X : Cx} {ε : List Ent} {a b : Expr} {pos : Pos}, PD 𝓜 X ε a (Is (endsD (ends g r))) → PD 𝓜 X ε b (Is (iD s)) → PlainIx b → PD 𝓜 X ε (.Subscript a b pos) (Is (adD (en g r s))) := fun ha hb hp => pd_ixT (two_at (f := fun s => adD (en g r s)) hs) ha hb hp
        refine bd_ifNo (pdt_to (pdt_w (pdw_orV (pdt_notB (k := true) (j := true) (pd_call ca hr (by decide) rfl (pdl_cons (pd_var 2) (pdl_cons (esd (pd_var 6) (pd_var 7) fun _ _ => rfl) pdl_nil)) ⟨g, en g r s, B, adr s hs, rfl, rfl⟩) pd_bl) fun _ => pdw_or1 (pdt_gt (pd_lenT rfl G.len (pd_ixT at0 (esd (pd_var 6) (pd_var 7) fun _ _ => rfl) pd_int)) (pd_var 5)))) ?_) ?_
        · rw [List.length_map, decide_eq_false (show ¬ ((n : Int) < ((en g r s).1.length : Int)) by omega)]; rfl
        exact bd_ifNo (pdt_not (pdt_val (pd_callG cm gd hr (by decide) rfl (pdl_cons (pd_var 2) (pdl_cons (esd (pd_var 6) (pd_var 7) fun _ _ => rfl) (pdl_cons (pd_var 5) (pdl_cons (pd_var 4) (pdl_cons (pd_var 7) pdl_nil))))) ⟨g, r, s, n, B, O, hn, n1, n60, hs, rfl, rfl⟩))) (bd_nil ⟨_, le_wipe [7], rfl⟩)
      · rintro ε' rfl
        have hk := ((web_ok B.ok ro).2 hne).1
        have sh := shp_ends B O hne (k := kind g r) (by omega)
        refine bd_ifNo (pdt_to (pdt_neS (s := (PyData.tuple [endsD (ends g r), iD (kind g r)]).shown) (t := (PyData.tuple [endsD (ends g r), iD (kind g r)]).shown)
          (pd_reprS sh (by decide) (by decide) gd (room70 hr) rfl G.repr rfl (pd_tup (pdl_cons (pd_var 6) (pdl_cons (pd_call ck hr (by decide) rfl (pdl_cons (pd_var 2) (pdl_cons (pd_var 4) pdl_nil)) ⟨g, r, B, O, hne, rfl, rfl⟩) pdl_nil))))
          (pd_reprS sh (by decide) (by decide) gd (room70 hr) rfl G.repr rfl (pd_tup (pdl_cons (pd_call cle hr (by decide) rfl (pdl_cons (pd_var 2) (pdl_cons (pd_var 4) pdl_nil)) ⟨g, r, B, O, hne, rfl, rfl⟩) (pdl_cons (pd_call clk hr (by decide) rfl (pdl_cons (pd_var 2) (pdl_cons (pd_var 4) pdl_nil)) ⟨g, r, B, O, hne, rfl, rfl⟩) pdl_nil))))) ?_) (bd_nil ⟨_, le_wipe [3, 4, 5, 6], rfl⟩)
        rw [decide_eq_true (rfl : (PyData.tuple [endsD (ends g r), iD (kind g r)]).shown = _)]; rfl
  obtain ⟨fD, fdD, psD, FD, gD, kD, bD⟩ := cdk
  have st1 : PS X ((defBody l_law).getD 0 (.Pass ⟨0, 0, 0, 0⟩)) _ := ps_set (i := 1) hN rfl (.inl rfl) (pe_call FD (hr.mono (by decide)) rfl gD kD bD .nil pass0 (pa_cons (pv 0) pa_nil))
  refine ⟨_, PSs.nox (pss_cons st1 main), ?_⟩
  refine ⟨.ref a, rfl, fun _ => false, ns, h63, (fun b h => nomatch h), .cons (.dat (.lst ?_ (dpa_of_ints ns))) .nil, fun dA cA H' c m dr same nd nc iv => ?_⟩
  · have e : hid H (fun _ => false) = H := funext fun b => hid_off rfl
    rw [e]
    exact hS
  · have key : ∀ (j : Nat) e, ([.no, .dk, .no, .no, .no, .no, .no, .no] : List Ent)[j]? = some e → e = .no ∨ (j = 1 ∧ e = .dk) := fun j e h => by
      match j, h with
      | 0, h => cases h; exact .inl rfl
      | 1, h => cases h; exact .inr ⟨rfl, rfl⟩
      | 2, h => cases h; exact .inl rfl
      | 3, h => cases h; exact .inl rfl
      | 4, h => cases h; exact .inl rfl
      | 5, h => cases h; exact .inl rfl
      | 6, h => cases h; exact .inl rfl
      | 7, h => cases h; exact .inl rfl
      | n + 8, h => cases h
    have ok : Ok K (deckMd dA cA) (twoM dA cA) (twoM dA cA) (twoM dA cA) (hid H' (twoM dA cA)) H' ((L2.start N_l [.ref a]).set 1 (some (.ref dA))) [.no, .dk, .no, .no, .no, .no, .no, .no] := {
      len := rfl
      m0C := fun _ h => h
      m0o := fun _ h => h
      oM := fun _ h => h
      CM := fun _ h => h
      MM := fun _ h => .inl h
      dom := fun b h => (deckMd dA cA).dom H' b ⟨c, m, dr, iv⟩ h
      inv := ⟨c, m, dr, iv⟩
      fix := hid_same
      CF := fun b h => by unfold hid; rw [if_pos h]
      out := fun b h h0 => by rw [show twoM dA cA b = false from h0] at h; cases h
      dat := fun j d h => by rcases key j _ h with e | ⟨_, e⟩ <;> cases e
      dk := fun j h => by
        rcases key j _ h with e | ⟨e, _⟩
        · cases e
        · subst e; rfl
      lm := fun j d h => by rcases key j _ h with e | ⟨_, e⟩ <;> cases e
      sep := fun i j d e p h => by rcases key i _ h with e | ⟨_, e⟩ <;> cases e
      tm := fun j a b h => by rcases key j _ h with e | ⟨_, e⟩ <;> cases e
      tsep := fun i j a b e h => by rcases key i _ h with e | ⟨_, e⟩ <;> cases e }
    refine ⟨deckMd dA cA, twoM dA cA, twoM dA cA, twoM dA cA, _, ⟨dA, cA, rfl⟩, ok, fun σ' H2 C' M' ε' n => n.elim, fun v H2 d p _ _ z => ?_⟩
    have p : d = .bool true := p
    subst p
    rw [dp_bool z]
    exact hQ H2
end
end TX
end

section
set_option Elab.async false
set_option linter.all false
set_option maxRecDepth 100000
set_option maxHeartbeats 4000000
namespace DL
open PySem PySem.Spec PyProof.Rows L2
theorem law_callG {P : Program} {w : World} {K : PySem.W.Frag} {mg mb : Str → Option Value} {k : Nat} {fa a : Addr} {fd : FuncData} {x : Str} {sp : Sp} {s₁ : Shared} {vs : List Value} {ns : List Int}
    (KX : K.In s₁.heap) (hns : s₁.heap.Ns mainGlobals mg) (hb : s₁.heap.Ns builtinsNs mb) (hbb : ∀ x : Str, x ≠ "__name__" → mb x = bootBuiltins x) (hlim : s₁.heap.NoLimit) (hg : s₁.gens = #[])
    (ha : s₁.heap.get? a = some { cls := .type "list", data := .seq vs.toArray }) (hi : IntsAre vs ns) (hl : ns.length ≤ sizeLine) (hr : Room k callerA)
    (F : ∀ base : Heap, K.In base → base.Ns mainGlobals mg → FnG P w K mg base k fa fd [x] sp) (hbind : ∀ (s : Shared) (u : Value), BindsTo s fd ⟨[u], []⟩ [(x, u)])
    (hsp : ∀ H : Hp, Only H → SqL K H a (ns.map V.int) → sp [.ref a] H (fun v _ => v = .bl true) fun _ _ _ => False)
    (hCX : ∀ H e s', CX0 [] H s₁ (fun _ _ _ => False) e s' → False) :
    codeAny (model P w) callerA (.call (.ref fa) ⟨[.ref a], []⟩) (fun r s' => r = .ok (.ret (.bool true)) ∧ OldK s₁.heap s'.heap ∧ s'.os = s₁.os ∧ AllBare s'.gens) s₁ := by
  have rv := vals_ints hi
  have lenV := hi.length
  -- from an abstract heap in which nothing but the script may be tracked
  have core : ∀ H : Hp, Only H → SqL K H a (ns.map V.int) → HOk P w H s₁.heap → (∀ b, H b ≠ none → b = a) → (H a ≠ none → K.lookup a = none) →
      codeAny (model P w) callerA (.call (.ref fa) ⟨[.ref a], []⟩) (fun r s' => r = .ok (.ret (.bool true)) ∧ OldK s₁.heap s'.heap ∧ s'.os = s₁.os ∧ AllBare s'.gens) s₁ := by
    intro H hO hS hok hA hK
    have base_of : ∀ {b : Addr} {o : Obj}, s₁.heap.get? b = some o → H b = none → (hidT s₁.heap H).get? b = some o := fun e n => hidT_get e n
    have noA : ∀ {b : Addr} {o : Obj} {es : Array DictEntry} {ep : Nat}, s₁.heap.get? b = some o → o.data = .dict es ep → H b = none := fun {b o es ep} e d => by
      cases q : H b with
      | none => rfl
      | some u =>
        have e' : b = a := hA b (by rw [q]; simp)
        subst e'
        rw [ha] at e; cases e
        have d' : Data.seq vs.toArray _ = Data.dict es ep := d
        cases d'
    have nsK : ∀ {b : Addr} {m : Str → Option Value}, s₁.heap.Ns b m → (hidT s₁.heap H).Ns b m := fun {b m} ⟨o, es, ep, e, d, r⟩ => ⟨o, es, ep, base_of e (noA e d), d, r⟩
    have hKb : K.In (hidT s₁.heap H) := fun b o e => base_of (KX b o e) (by
      cases q : H b with
      | none => rfl
      | some u =>
        have e' : b = a := hA b (by rw [q]; simp)
        subst e'
        rw [hK (by rw [q]; simp)] at e; cases e)
    have hM : Mod K mg (hidT s₁.heap H) := ⟨hKb, nsK hns, ⟨mb, nsK hb, hbb⟩, let ⟨mc, h1, h2⟩ := hlim; ⟨mc, nsK h1, h2⟩⟩
    have e0 : Env0 P w K mg (hidT s₁.heap H) callerA [] s₁ H := ⟨rfl, hM, fun b o e => of_hidT e, Nat.le_of_eq (hidT_size _ _), trivial, fun b hb => absurd (show b ∈ ([] : List Addr) from hb) (by simp), hok, .of_eq hg⟩
    refine codeAny_mono ((F _ hKb (nsK hns)).run callerA [] s₁ H ⟨[.ref a], []⟩ [.ref a] [.ref a] _ _ hr rfl e0 (hbind s₁ (.ref a)) (.cons rfl .nil) (hsp H hO hS)) fun r s' h => ?_
    cases r with
    | error e => exact (hCX H e s' h).elim
    | ok fl =>
      cases fl with
      | next => exact False.elim h
      | brk => exact False.elim h
      | cont => exact False.elim h
      | ret u =>
        obtain ⟨v, H', os, bare, un, hok', r', q⟩ := h
        have q' : v = .bl true := q
        subst q'
        obtain rfl : u = Value.bool true := r'
        refine ⟨rfl, OldK.of_keep fun b o e => ?_, os, bare⟩
        cases q : H b with
        | none => exact un.keep b o e q (by intro z; exact absurd (show b ∈ ([] : List Addr) from z) (by simp)) (by simp)
        | some u =>
          rcases hO b with z | ⟨ob, xs, z⟩
          · rw [q] at z; cases z
          · have z2 := un.frzs b ob _ z
            obtain ⟨e1, _⟩ := hok b _ z
            obtain ⟨e2, _⟩ := hok' b _ z2
            rw [e] at e1; cases e1
            exact e2
  cases hk : K.lookup a with
  | some o =>
    -- the script is one of the module's own objects
    have e := KX a o hk
    rw [ha] at e
    cases e
    refine core (fun _ => none) (fun _ => .inl rfl) (.inr ⟨_, vs.toArray, _, hk, rfl, rfl, rfl, by rw [List.size_toArray, lenV]; exact hl, by simpa using rv⟩) (fun b u z => by have z' : (none : Option HO) = some u := z; cases z') (fun b z => absurd rfl z) fun z => absurd rfl z
  | none =>
    refine core (fun b => if b = a then some (.frz { cls := .type "list", data := .seq vs.toArray } (.lst (ns.map V.int))) else none) (fun b => ?_) (.inl (.inr ⟨{ cls := .type "list", data := .seq vs.toArray }, if_pos rfl⟩)) (fun b u z => ?_) (fun b z => ?_) fun _ => hk
    · by_cases hb : b = a
      · exact .inr ⟨_, _, if_pos hb⟩
      · exact .inl (if_neg hb)
    · by_cases hb : b = a
      · have z' := (if_pos hb).symm.trans z
        cases z'
        subst hb
        exact ⟨ha, by rw [List.length_map]; exact hl, vs, _, rv, ha⟩
      · have z' := (if_neg hb).symm.trans z
        cases z'
    · by_cases hb : b = a
      · exact hb
      · exact absurd (if_neg hb) z

theorem walk_ofG {l : PySem.W.OpenLaw} {n k : Nat} {q : Program} {loose : List Str} {XP : (Str → Option Value) → Heap → Prop} {YP : World → Heap → Prop} {d : DefRec} {x : Str}
    (hn : l.most = some n) (hn2 : n ≤ sizeLine) (hdf : d.params.defaults = []) (hr : Room k callerA)
    (F : ∀ (w : World) (mg : Str → Option Value) (fa : Addr) (h : Heap), YP w h → h.Ns mainGlobals mg → mg d.name = some (.ref fa) →
      ∃ (K : PySem.W.Frag) (fd : FuncData) (sp : Sp), K.In h ∧ (∀ (s : Shared) (u : Value), BindsTo s fd ⟨[u], []⟩ [(x, u)]) ∧
        (∀ (H : Hp) (a : Addr) (ns : List Int), ns.length ≤ n → Only H → SqL K H a (ns.map V.int) → sp [.ref a] H (fun v _ => v = .bl true) fun _ _ _ => False) ∧
        ∀ base : Heap, K.In base → base.Ns mainGlobals mg → FnG l.prog w K mg base k fa fd [x] sp) :
    PySem.W.WalkO q loose XP YP l.row.toRowW d [] (fun f vs => PySem.call f vs) := by
  refine Att.attach_call hn hdf fun w s₀ s₁ mg mb fa o pm cd doc a vs ns G Y ho hd hcd hmg hobj hints hlen hg => ?_
  obtain ⟨K, fd, sp, KX, hb, hsp, hF⟩ := F w mg fa _ Y G.T.g hmg
  exact law_callG KX G.T.g G.T.b G.T.builtins G.T.nolimit hg hobj hints (Nat.le_trans hlen hn2) hr hF hb (fun H hO hS => hsp H a ns hlen hO hS) fun H e s' z => z
end DL
end

section
set_option Elab.async false
set_option linter.all false
set_option maxRecDepth 100000
set_option maxHeartbeats 0
namespace TX
open PySem PySem.Spec PyProof.Rows L2 DL MA
/-! ### the head: the defs, the names, the run -/
def d8 : He.DefD := ⟨("is_integer", none), "is_integer", "is_integer", defArgs (top 8), defBody (top 8), defScope (top 8), [], []⟩
def d9 : He.DefD := ⟨("is_between", none), "is_between", "is_between", defArgs (top 9), defBody (top 9), defScope (top 9), [], []⟩
def d10 : He.DefD := ⟨("is_tie", none), "is_tie", "is_tie", defArgs (top 10), defBody (top 10), defScope (top 10), [], []⟩
def d11 : He.DefD := ⟨("is_web_value", none), "is_web_value", "is_web_value", defArgs (top 11), defBody (top 11), defScope (top 11), [], []⟩
def d12 : He.DefD := ⟨("has_kinds_below", none), "has_kinds_below", "has_kinds_below", defArgs (top 12), defBody (top 12), defScope (top 12), [], []⟩
def d13 : He.DefD := ⟨("is_growth_value", none), "is_growth_value", "is_growth_value", defArgs (top 13), defBody (top 13), defScope (top 13), [], []⟩
def d14 : He.DefD := ⟨("is_book_value", none), "is_book_value", "is_book_value", defArgs (top 14), defBody (top 14), defScope (top 14), [], []⟩
def d15 : He.DefD := ⟨("is_garden_value", none), "is_garden_value", "is_garden_value", defArgs (top 15), defBody (top 15), defScope (top 15), [], []⟩
def d16 : He.DefD := ⟨("need_garden", none), "need_garden", "need_garden", defArgs (top 16), defBody (top 16), defScope (top 16), [], []⟩
def d18 : He.DefD := ⟨("kinds_along", none), "kinds_along", "kinds_along", defArgs (top 18), defBody (top 18), defScope (top 18), [], []⟩
def d19 : He.DefD := ⟨("is_row_value", none), "is_row_value", "is_row_value", defArgs (top 19), defBody (top 19), defScope (top 19), [], []⟩
def d20 : He.DefD := ⟨("kind_of", none), "kind_of", "kind_of", defArgs (top 20), defBody (top 20), defScope (top 20), [], []⟩
def d21 : He.DefD := ⟨("ends_of", none), "ends_of", "ends_of", defArgs (top 21), defBody (top 21), defScope (top 21), [], []⟩
def d22 : He.DefD := ⟨("is_address_value", none), "is_address_value", "is_address_value", defArgs (top 22), defBody (top 22), defScope (top 22), [], []⟩
def d23 : He.DefD := ⟨("web_around", none), "web_around", "web_around", defArgs (top 23), defBody (top 23), defScope (top 23), [], []⟩
def d24 : He.DefD := ⟨("need_row", none), "need_row", "need_row", defArgs (top 24), defBody (top 24), defScope (top 24), [], []⟩
def d25 : He.DefD := ⟨("is_row", none), "is_row", "is_row", defArgs (top 25), defBody (top 25), defScope (top 25), [], []⟩
def d26 : He.DefD := ⟨("row_kind", none), "row_kind", "row_kind", defArgs (top 26), defBody (top 26), defScope (top 26), [], []⟩
def d27 : He.DefD := ⟨("row_ends", none), "row_ends", "row_ends", defArgs (top 27), defBody (top 27), defScope (top 27), [], []⟩
def d28 : He.DefD := ⟨("is_address", none), "is_address", "is_address", defArgs (top 28), defBody (top 28), defScope (top 28), [], []⟩
def d29 : He.DefD := ⟨("need_born", none), "need_born", "need_born", defArgs (top 29), defBody (top 29), defScope (top 29), [], []⟩
def d30 : He.DefD := ⟨("ends_counted", none), "ends_counted", "ends_counted", defArgs (top 30), defBody (top 30), defScope (top 30), [], []⟩
def d31 : He.DefD := ⟨("degrees", none), "degrees", "degrees", defArgs (top 31), defBody (top 31), defScope (top 31), [], []⟩
def d32 : He.DefD := ⟨("sided_rows", none), "sided_rows", "sided_rows", defArgs (top 32), defBody (top 32), defScope (top 32), [], []⟩
def d33 : He.DefD := ⟨("raw_rows_at", none), "raw_rows_at", "raw_rows_at", defArgs (top 33), defBody (top 33), defScope (top 33), [], []⟩
def d34 : He.DefD := ⟨("rows_at", none), "rows_at", "rows_at", defArgs (top 34), defBody (top 34), defScope (top 34), [], []⟩
def d36 : He.DefD := ⟨("_law_deck", none), "_law_deck", "_law_deck", defArgs (top 36), defBody (top 36), defScope (top 36), [], []⟩
def d37 : He.DefD := ⟨("_law_draw", none), "_law_draw", "_law_draw", defArgs (top 37), defBody (top 37), defScope (top 37), [], []⟩
def d38 : He.DefD := ⟨("_law_pick", none), "_law_pick", "_law_pick", defArgs (top 38), defBody (top 38), defScope (top 38), [], []⟩
def d39 : He.DefD := ⟨("_law_tie", none), "_law_tie", "_law_tie", defArgs (top 39), defBody (top 39), defScope (top 39), [], []⟩
def d40 : He.DefD := ⟨("_law_web", none), "_law_web", "_law_web", defArgs (top 40), defBody (top 40), defScope (top 40), [], []⟩
def d41 : He.DefD := ⟨("_law_growth", none), "_law_growth", "_law_growth", defArgs (top 41), defBody (top 41), defScope (top 41), [], []⟩
def d42 : He.DefD := ⟨("_law_book", none), "_law_book", "_law_book", defArgs (top 42), defBody (top 42), defScope (top 42), [], []⟩
def d43 : He.DefD := ⟨("_law_start", none), "_law_start", "_law_start", defArgs (top 43), defBody (top 43), defScope (top 43), [], []⟩
def d44 : He.DefD := ⟨("_law_garden", none), "_law_garden", "_law_garden", defArgs (top 44), defBody (top 44), defScope (top 44), [], []⟩
def d45 : He.DefD := ⟨("_law_row", none), "_law_row", "_law_row", defArgs (top 45), defBody (top 45), defScope (top 45), [], []⟩
def d46 : He.DefD := ⟨("_law_row_kind", none), "_law_row_kind", "_law_row_kind", defArgs (top 46), defBody (top 46), defScope (top 46), [], []⟩
def d47 : He.DefD := ⟨("_law_ends", none), "_law_ends", "_law_ends", defArgs (top 47), defBody (top 47), defScope (top 47), [], []⟩
def d48 : He.DefD := ⟨("_law_at", none), "_law_at", "_law_at", defArgs (top 48), defBody (top 48), defScope (top 48), [], []⟩
def d49 : He.DefD := ⟨("_law_degrees", none), "_law_degrees", "_law_degrees", defArgs (top 49), defBody (top 49), defScope (top 49), [], []⟩
def d50 : He.DefD := ⟨("_law_few_rows", none), "_law_few_rows", "_law_few_rows", defArgs (top 50), defBody (top 50), defScope (top 50), [], []⟩
def d51 : He.DefD := ⟨("_law_follow", none), "_law_follow", "_law_follow", defArgs (top 51), defBody (top 51), defScope (top 51), [], []⟩
def d52 : He.DefD := ⟨("_law_ends_are_told", none), "_law_ends_are_told", "_law_ends_are_told", defArgs (top 52), defBody (top 52), defScope (top 52), [], []⟩
def d53 : He.DefD := ⟨("_law_next_degrees", none), "_law_next_degrees", "_law_next_degrees", defArgs (top 53), defBody (top 53), defScope (top 53), [], []⟩
def d54 : He.DefD := ⟨("_law_is_met", none), "_law_is_met", "_law_is_met", defArgs (top 54), defBody (top 54), defScope (top 54), [], []⟩
def d55 : He.DefD := ⟨("law", none), "law", "law", defArgs (top 55), defBody (top 55), defScope (top 55), [], []⟩
def hFn0 : List He.DefD := [d8, d9, d10, d11, d12, d13, d14, d15, d16, d18, d19, d20, d21, d22, d23, d24, d25, d26, d27, d28, d29, d30, d31, d32, d33, d34, d36, d37, d38, d39]
def hFn1 : List He.DefD := [d40, d41, d42, d43, d44, d45, d46, d47, d48, d49, d50, d51, d52, d53, d54, d55]
def hFn : List He.DefD := hFn0 ++ hFn1
def hFa0 : List He.Fa := [.glo "is_integer", .glo "is_between", .glo "is_tie", .glo "is_web_value", .glo "has_kinds_below", .glo "is_growth_value", .glo "is_book_value", .glo "is_garden_value", .glo "need_garden", .glo "kinds_along", .glo "is_row_value", .glo "kind_of", .glo "ends_of", .glo "is_address_value", .glo "web_around", .glo "need_row", .glo "is_row", .glo "row_kind", .glo "row_ends", .glo "is_address", .glo "need_born", .glo "ends_counted", .glo "degrees", .glo "sided_rows", .glo "raw_rows_at", .glo "rows_at", .glo "_law_deck", .glo "_law_draw", .glo "_law_pick", .glo "_law_tie"]
def hFa1 : List He.Fa := [.glo "_law_web", .glo "_law_growth", .glo "_law_book", .glo "_law_start", .glo "_law_garden", .glo "_law_row", .glo "_law_row_kind", .glo "_law_ends", .glo "_law_at", .glo "_law_degrees", .glo "_law_few_rows", .glo "_law_follow", .glo "_law_ends_are_told", .glo "_law_next_degrees", .glo "_law_is_met", .glo "law", .free "len", .free "tuple", .free "list", .free "sorted", .free "all", .free "isinstance", .free "int", .free "bool", .free "range", .free "enumerate", .free "zip", .free "sum", .free "repr", .free "set"]
def hFa2 : List He.Fa := [.free "max", .int "KINDS" 3]
def hFa : List He.Fa := hFa0 ++ hFa1 ++ hFa2
def hLoose0 : List Str := ["GardenError", "BadGarden", "BadNumber", "BadRow", "BadAddress", "KINDS", "is_integer", "is_between", "is_tie", "is_web_value", "has_kinds_below", "is_growth_value", "is_book_value", "is_garden_value", "need_garden", "kinds_along", "is_row_value", "kind_of", "ends_of", "is_address_value", "web_around", "need_row", "is_row", "row_kind", "row_ends", "is_address", "need_born", "ends_counted", "degrees", "sided_rows"]
def hLoose1 : List Str := ["raw_rows_at", "rows_at", "_law_deck", "_law_draw", "_law_pick", "_law_tie", "_law_web", "_law_growth", "_law_book", "_law_start", "_law_garden", "_law_row", "_law_row_kind", "_law_ends", "_law_at", "_law_degrees", "_law_few_rows", "_law_follow", "_law_ends_are_told", "_law_next_degrees", "_law_is_met"]
def hLoose : List Str := hLoose0 ++ hLoose1
abbrev hR : PySem.W.OpenRow := PySem.W.OpenLaw.row PySem.Challenge.rw_manydeep_k16_whole_far_rows_their_ends_a
abbrev hHk : PySem.W.Hook := He.hookD 4 hFa hFn
def hOb (s : PySem.W.SharedT) : He.AlD := He.obsDG 4 hFa hFn (HandSHeadRun.getT s)
theorem hOb_eq (s : PySem.W.SharedT) : hOb s = hHk.obs s.abs := He.obsDG_eq (HandSHeadRun.getT_eq s)
theorem hRun (w : World) : HandSHeadRun.RunEq hR (PySem.W.view hR.prog [55]) hHk hOb 6000 hLoose w := by
  intro os
  kernel_rfl
end TX
end

section
set_option Elab.async false
set_option linter.all false
set_option maxRecDepth 100000
set_option maxHeartbeats 4000000
namespace TX
open PySem PySem.Spec PyProof.Rows L2 DL MA
theorem calP_of {P : Program} {w : World} {K : PySem.W.Frag} {mg : Str → Option Value} {base : Heap} {k : Nat} {x : Str} {f : Addr} {fd : FuncData} {ps : List Str} {sp : Sp} (ok : FnOk P w K mg base CX0 k f fd ps sp) (g : mg x = some (.ref f)) (kp : PySem.W.keepIn K (.ref f) = true) (b : Binds K fd ps []) : CalP P w K mg base k x sp := ⟨f, fd, ps, ok, g, kp, b⟩
theorem calG_of {P : Program} {w : World} {K : PySem.W.Frag} {mg : Str → Option Value} {base : Heap} {k : Nat} {x : Str} {f : Addr} {fd : FuncData} {ps : List Str} {sp : Sp} (ok : FnG P w K mg base k f fd ps sp) (g : mg x = some (.ref f)) (kp : PySem.W.keepIn K (.ref f) = true) (b : Binds K fd ps []) : CalG P w K mg base k x sp := ⟨f, fd, ps, ok, g, kp, b⟩
theorem hFacts {P : Program} {w : World} {K : PySem.W.Frag} {h : Heap} {mg : Str → Option Value} {f : Addr} (X : K.In h) (GG : h.Ns mainGlobals mg) (hfa : mg ("law" : Str) = some (.ref f)) (c : He.SaysD hFa hFn K) :
    ∃ fd : FuncData, (∀ (s : Shared) (v : Value), BindsTo s fd ⟨[v], []⟩ [("_law_script", v)]) ∧ ∀ base : Heap, K.In base → base.Ns mainGlobals mg → FnG P w K mg base 13 f fd ["_law_script"] (spLaw K) := by
  have G : Glo mg := ⟨He.free_ok X GG (c.fact 46 (f := .free "len") rfl), He.free_ok X GG (c.fact 47 (f := .free "tuple") rfl), He.free_ok X GG (c.fact 48 (f := .free "list") rfl), He.free_ok X GG (c.fact 49 (f := .free "sorted") rfl), He.free_ok X GG (c.fact 50 (f := .free "all") rfl), He.free_ok X GG (c.fact 51 (f := .free "isinstance") rfl), He.free_ok X GG (c.fact 52 (f := .free "int") rfl), He.free_ok X GG (c.fact 53 (f := .free "bool") rfl), He.free_ok X GG (c.fact 54 (f := .free "range") rfl), He.free_ok X GG (c.fact 55 (f := .free "enumerate") rfl), He.free_ok X GG (c.fact 56 (f := .free "zip") rfl), He.free_ok X GG (c.fact 57 (f := .free "sum") rfl), He.free_ok X GG (c.fact 58 (f := .free "repr") rfl), He.free_ok X GG (c.fact 59 (f := .free "set") rfl), He.free_ok X GG (c.fact 60 (f := .free "max") rfl), He.int_ok X GG (c.fact 61 (f := .int "KINDS" 3) rfl)⟩
  obtain ⟨fd8, F8⟩ := c.def_ 0 (d := d8) rfl
  obtain ⟨fd9, F9⟩ := c.def_ 1 (d := d9) rfl
  obtain ⟨fd10, F10⟩ := c.def_ 2 (d := d10) rfl
  obtain ⟨fd11, F11⟩ := c.def_ 3 (d := d11) rfl
  obtain ⟨fd12, F12⟩ := c.def_ 4 (d := d12) rfl
  obtain ⟨fd13, F13⟩ := c.def_ 5 (d := d13) rfl
  obtain ⟨fd14, F14⟩ := c.def_ 6 (d := d14) rfl
  obtain ⟨fd15, F15⟩ := c.def_ 7 (d := d15) rfl
  obtain ⟨fd16, F16⟩ := c.def_ 8 (d := d16) rfl
  obtain ⟨fd18, F18⟩ := c.def_ 9 (d := d18) rfl
  obtain ⟨fd19, F19⟩ := c.def_ 10 (d := d19) rfl
  obtain ⟨fd20, F20⟩ := c.def_ 11 (d := d20) rfl
  obtain ⟨fd21, F21⟩ := c.def_ 12 (d := d21) rfl
  obtain ⟨fd22, F22⟩ := c.def_ 13 (d := d22) rfl
  obtain ⟨fd23, F23⟩ := c.def_ 14 (d := d23) rfl
  obtain ⟨fd24, F24⟩ := c.def_ 15 (d := d24) rfl
  obtain ⟨fd25, F25⟩ := c.def_ 16 (d := d25) rfl
  obtain ⟨fd26, F26⟩ := c.def_ 17 (d := d26) rfl
  obtain ⟨fd27, F27⟩ := c.def_ 18 (d := d27) rfl
  obtain ⟨fd28, F28⟩ := c.def_ 19 (d := d28) rfl
  obtain ⟨fd29, F29⟩ := c.def_ 20 (d := d29) rfl
  obtain ⟨fd30, F30⟩ := c.def_ 21 (d := d30) rfl
  obtain ⟨fd31, F31⟩ := c.def_ 22 (d := d31) rfl
  obtain ⟨fd32, F32⟩ := c.def_ 23 (d := d32) rfl
  obtain ⟨fd33, F33⟩ := c.def_ 24 (d := d33) rfl
  obtain ⟨fd34, F34⟩ := c.def_ 25 (d := d34) rfl
  obtain ⟨fd36, F36⟩ := c.def_ 26 (d := d36) rfl
  obtain ⟨fd37, F37⟩ := c.def_ 27 (d := d37) rfl
  obtain ⟨fd38, F38⟩ := c.def_ 28 (d := d38) rfl
  obtain ⟨fd39, F39⟩ := c.def_ 29 (d := d39) rfl
  obtain ⟨fd40, F40⟩ := c.def_ 30 (d := d40) rfl
  obtain ⟨fd41, F41⟩ := c.def_ 31 (d := d41) rfl
  obtain ⟨fd42, F42⟩ := c.def_ 32 (d := d42) rfl
  obtain ⟨fd43, F43⟩ := c.def_ 33 (d := d43) rfl
  obtain ⟨fd44, F44⟩ := c.def_ 34 (d := d44) rfl
  obtain ⟨fd45, F45⟩ := c.def_ 35 (d := d45) rfl
  obtain ⟨fd46, F46⟩ := c.def_ 36 (d := d46) rfl
  obtain ⟨fd47, F47⟩ := c.def_ 37 (d := d47) rfl
  obtain ⟨fd48, F48⟩ := c.def_ 38 (d := d48) rfl
  obtain ⟨fd49, F49⟩ := c.def_ 39 (d := d49) rfl
  obtain ⟨fd50, F50⟩ := c.def_ 40 (d := d50) rfl
  obtain ⟨fd51, F51⟩ := c.def_ 41 (d := d51) rfl
  obtain ⟨fd52, F52⟩ := c.def_ 42 (d := d52) rfl
  obtain ⟨fd53, F53⟩ := c.def_ 43 (d := d53) rfl
  obtain ⟨fd54, F54⟩ := c.def_ 44 (d := d54) rfl
  obtain ⟨fd55, F55⟩ := c.def_ 45 (d := d55) rfl
  have g8 := He.glo_ok X GG (c.fact 0 (f := .glo "is_integer") rfl)
  have g9 := He.glo_ok X GG (c.fact 1 (f := .glo "is_between") rfl)
  have g10 := He.glo_ok X GG (c.fact 2 (f := .glo "is_tie") rfl)
  have g11 := He.glo_ok X GG (c.fact 3 (f := .glo "is_web_value") rfl)
  have g12 := He.glo_ok X GG (c.fact 4 (f := .glo "has_kinds_below") rfl)
  have g13 := He.glo_ok X GG (c.fact 5 (f := .glo "is_growth_value") rfl)
  have g14 := He.glo_ok X GG (c.fact 6 (f := .glo "is_book_value") rfl)
  have g15 := He.glo_ok X GG (c.fact 7 (f := .glo "is_garden_value") rfl)
  have g16 := He.glo_ok X GG (c.fact 8 (f := .glo "need_garden") rfl)
  have g18 := He.glo_ok X GG (c.fact 9 (f := .glo "kinds_along") rfl)
  have g19 := He.glo_ok X GG (c.fact 10 (f := .glo "is_row_value") rfl)
  have g20 := He.glo_ok X GG (c.fact 11 (f := .glo "kind_of") rfl)
  have g21 := He.glo_ok X GG (c.fact 12 (f := .glo "ends_of") rfl)
  have g22 := He.glo_ok X GG (c.fact 13 (f := .glo "is_address_value") rfl)
  have g23 := He.glo_ok X GG (c.fact 14 (f := .glo "web_around") rfl)
  have g24 := He.glo_ok X GG (c.fact 15 (f := .glo "need_row") rfl)
  have g25 := He.glo_ok X GG (c.fact 16 (f := .glo "is_row") rfl)
  have g26 := He.glo_ok X GG (c.fact 17 (f := .glo "row_kind") rfl)
  have g27 := He.glo_ok X GG (c.fact 18 (f := .glo "row_ends") rfl)
  have g28 := He.glo_ok X GG (c.fact 19 (f := .glo "is_address") rfl)
  have g29 := He.glo_ok X GG (c.fact 20 (f := .glo "need_born") rfl)
  have g30 := He.glo_ok X GG (c.fact 21 (f := .glo "ends_counted") rfl)
  have g31 := He.glo_ok X GG (c.fact 22 (f := .glo "degrees") rfl)
  have g32 := He.glo_ok X GG (c.fact 23 (f := .glo "sided_rows") rfl)
  have g33 := He.glo_ok X GG (c.fact 24 (f := .glo "raw_rows_at") rfl)
  have g34 := He.glo_ok X GG (c.fact 25 (f := .glo "rows_at") rfl)
  have g36 := He.glo_ok X GG (c.fact 26 (f := .glo "_law_deck") rfl)
  have g37 := He.glo_ok X GG (c.fact 27 (f := .glo "_law_draw") rfl)
  have g38 := He.glo_ok X GG (c.fact 28 (f := .glo "_law_pick") rfl)
  have g39 := He.glo_ok X GG (c.fact 29 (f := .glo "_law_tie") rfl)
  have g40 := He.glo_ok X GG (c.fact 30 (f := .glo "_law_web") rfl)
  have g41 := He.glo_ok X GG (c.fact 31 (f := .glo "_law_growth") rfl)
  have g42 := He.glo_ok X GG (c.fact 32 (f := .glo "_law_book") rfl)
  have g43 := He.glo_ok X GG (c.fact 33 (f := .glo "_law_start") rfl)
  have g44 := He.glo_ok X GG (c.fact 34 (f := .glo "_law_garden") rfl)
  have g45 := He.glo_ok X GG (c.fact 35 (f := .glo "_law_row") rfl)
  have g46 := He.glo_ok X GG (c.fact 36 (f := .glo "_law_row_kind") rfl)
  have g47 := He.glo_ok X GG (c.fact 37 (f := .glo "_law_ends") rfl)
  have g48 := He.glo_ok X GG (c.fact 38 (f := .glo "_law_at") rfl)
  have g49 := He.glo_ok X GG (c.fact 39 (f := .glo "_law_degrees") rfl)
  have g50 := He.glo_ok X GG (c.fact 40 (f := .glo "_law_few_rows") rfl)
  have g51 := He.glo_ok X GG (c.fact 41 (f := .glo "_law_follow") rfl)
  have g52 := He.glo_ok X GG (c.fact 42 (f := .glo "_law_ends_are_told") rfl)
  have g53 := He.glo_ok X GG (c.fact 43 (f := .glo "_law_next_degrees") rfl)
  have g54 := He.glo_ok X GG (c.fact 44 (f := .glo "_law_is_met") rfl)
  have e := hfa.symm.trans (He.glo_ok X GG (c.fact 45 (f := .glo "law") rfl))
  cases e
  have b := FunD.bindsA (ps := ["_law_script"]) F55 fun _ _ _ _ _ _ us hl => match us, hl with | [_], _ => rfl
  refine ⟨fd55, fun s v => b s [v] rfl, fun base _ _ => ?_⟩
  have c8 := calP_of (P := P) (w := w) (mg := mg) (base := base) (x := "is_integer") (ok_is_integer G F8) g8 F8.kp (F8.bindsN fun _ _ _ _ _ _ us hl => match us, hl with | [_], _ => rfl)
  have c9 := calP_of (P := P) (w := w) (mg := mg) (base := base) (x := "is_between") (ok_is_between c8 F9) g9 F9.kp (F9.bindsN fun _ _ _ _ _ _ us hl => match us, hl with | [_, _, _], _ => rfl)
  have c10 := calP_of (P := P) (w := w) (mg := mg) (base := base) (x := "is_tie") (ok_is_tie G c9 F10) g10 F10.kp (F10.bindsN fun _ _ _ _ _ _ us hl => match us, hl with | [_, _], _ => rfl)
  have c11 := calP_of (P := P) (w := w) (mg := mg) (base := base) (x := "is_web_value") (ok_is_web_value G c8 c10 F11) g11 F11.kp (F11.bindsN fun _ _ _ _ _ _ us hl => match us, hl with | [_], _ => rfl)
  have c12 := calP_of (P := P) (w := w) (mg := mg) (base := base) (x := "has_kinds_below") (ok_has_kinds_below G F12) g12 F12.kp (F12.bindsN fun _ _ _ _ _ _ us hl => match us, hl with | [_, _], _ => rfl)
  have c13 := calP_of (P := P) (w := w) (mg := mg) (base := base) (x := "is_growth_value") (ok_is_growth_value c11 F13) g13 F13.kp (F13.bindsN fun _ _ _ _ _ _ us hl => match us, hl with | [_], _ => rfl)
  have c14 := calP_of (P := P) (w := w) (mg := mg) (base := base) (x := "is_book_value") (ok_is_book_value G c13 c12 F14) g14 F14.kp (F14.bindsN fun _ _ _ _ _ _ us hl => match us, hl with | [_], _ => rfl)
  have c15 := calP_of (P := P) (w := w) (mg := mg) (base := base) (x := "is_garden_value") (ok_is_garden_value G c11 c14 c12 F15) g15 F15.kp (F15.bindsN fun _ _ _ _ _ _ us hl => match us, hl with | [_], _ => rfl)
  have c16 := calP_of (P := P) (w := w) (mg := mg) (base := base) (x := "need_garden") (ok_need_garden c15 F16) g16 F16.kp (F16.bindsN fun _ _ _ _ _ _ us hl => match us, hl with | [_], _ => rfl)
  have c18 := calP_of (P := P) (w := w) (mg := mg) (base := base) (x := "kinds_along") (ok_kinds_along G c9 F18) g18 F18.kp (F18.bindsN fun _ _ _ _ _ _ us hl => match us, hl with | [_, _], _ => rfl)
  have c19 := calP_of (P := P) (w := w) (mg := mg) (base := base) (x := "is_row_value") (ok_is_row_value G c18 F19) g19 F19.kp (F19.bindsN fun _ _ _ _ _ _ us hl => match us, hl with | [_, _], _ => rfl)
  have c20 := calP_of (P := P) (w := w) (mg := mg) (base := base) (x := "kind_of") (ok_kind_of G c18 F20) g20 F20.kp (F20.bindsN fun _ _ _ _ _ _ us hl => match us, hl with | [_, _], _ => rfl)
  have c21 := calP_of (P := P) (w := w) (mg := mg) (base := base) (x := "ends_of") (ok_ends_of G F21) g21 F21.kp (F21.bindsN fun _ _ _ _ _ _ us hl => match us, hl with | [_, _], _ => rfl)
  have c22 := calP_of (P := P) (w := w) (mg := mg) (base := base) (x := "is_address_value") (ok_is_address_value G c9 c19 c20 F22) g22 F22.kp (F22.bindsN fun _ _ _ _ _ _ us hl => match us, hl with | [_, _], _ => rfl)
  have c23 := calP_of (P := P) (w := w) (mg := mg) (base := base) (x := "web_around") (ok_web_around G c20 F23) g23 F23.kp (F23.bindsN fun _ _ _ _ _ _ us hl => match us, hl with | [_, _], _ => rfl)
  have c24 := calP_of (P := P) (w := w) (mg := mg) (base := base) (x := "need_row") (ok_need_row c16 c19 F24) g24 F24.kp (F24.bindsN fun _ _ _ _ _ _ us hl => match us, hl with | [_, _], _ => rfl)
  have c25 := calP_of (P := P) (w := w) (mg := mg) (base := base) (x := "is_row") (ok_is_row c16 c19 F25) g25 F25.kp (F25.bindsN fun _ _ _ _ _ _ us hl => match us, hl with | [_, _], _ => rfl)
  have c26 := calP_of (P := P) (w := w) (mg := mg) (base := base) (x := "row_kind") (ok_row_kind c24 c20 F26) g26 F26.kp (F26.bindsN fun _ _ _ _ _ _ us hl => match us, hl with | [_, _], _ => rfl)
  have c27 := calP_of (P := P) (w := w) (mg := mg) (base := base) (x := "row_ends") (ok_row_ends c24 c21 F27) g27 F27.kp (F27.bindsN fun _ _ _ _ _ _ us hl => match us, hl with | [_, _], _ => rfl)
  have c28 := calP_of (P := P) (w := w) (mg := mg) (base := base) (x := "is_address") (ok_is_address c16 c22 F28) g28 F28.kp (F28.bindsN fun _ _ _ _ _ _ us hl => match us, hl with | [_, _], _ => rfl)
  have c29 := calP_of (P := P) (w := w) (mg := mg) (base := base) (x := "need_born") (ok_need_born G c16 c22 c8 F29) g29 F29.kp (F29.bindsN fun _ _ _ _ _ _ us hl => match us, hl with | [_, _, _], _ => rfl)
  have c30 := calP_of (P := P) (w := w) (mg := mg) (base := base) (x := "ends_counted") (ok_ends_counted F30) g30 F30.kp (F30.bindsN fun _ _ _ _ _ _ us hl => match us, hl with | [_, _, _], _ => rfl)
  have c31 := calP_of (P := P) (w := w) (mg := mg) (base := base) (x := "degrees") (ok_degrees G c29 c23 c30 F31) g31 F31.kp (F31.bindsN fun _ _ _ _ _ _ us hl => match us, hl with | [_, _, _], _ => rfl)
  have c32 := calP_of (P := P) (w := w) (mg := mg) (base := base) (x := "sided_rows") (ok_sided_rows G F32) g32 F32.kp (F32.bindsN fun _ _ _ _ _ _ us hl => match us, hl with | [_, _, _], _ => rfl)
  have c33 := calP_of (P := P) (w := w) (mg := mg) (base := base) (x := "raw_rows_at") (ok_raw_rows_at G c23 c32 F33) g33 F33.kp (F33.bindsN fun _ _ _ _ _ _ us hl => match us, hl with | [_, _, _], _ => rfl)
  have c34 := calP_of (P := P) (w := w) (mg := mg) (base := base) (x := "rows_at") (ok_rows_at G c29 c33 F34) g34 F34.kp (F34.bindsN fun _ _ _ _ _ _ us hl => match us, hl with | [_, _, _], _ => rfl)
  have c36 := calP_of (P := P) (w := w) (mg := mg) (base := base) (x := "_law_deck") (ok_ldk G F36) g36 F36.kp (F36.bindsN fun _ _ _ _ _ _ us hl => match us, hl with | [_], _ => rfl)
  have c37 := calP_of (P := P) (w := w) (mg := mg) (base := base) (x := "_law_draw") (ok_dr G F37) g37 F37.kp (F37.bindsN fun _ _ _ _ _ _ us hl => match us, hl with | [_, _], _ => rfl)
  have c38 := calP_of (P := P) (w := w) (mg := mg) (base := base) (x := "_law_pick") (ok_pk G c37 F38) g38 F38.kp (F38.bindsN fun _ _ _ _ _ _ us hl => match us, hl with | [_, _], _ => rfl)
  have c39 := calP_of (P := P) (w := w) (mg := mg) (base := base) (x := "_law_tie") (ok_ti c37 F39) g39 F39.kp (F39.bindsN fun _ _ _ _ _ _ us hl => match us, hl with | [_, _, _], _ => rfl)
  have c40 := calP_of (P := P) (w := w) (mg := mg) (base := base) (x := "_law_web") (ok_lw G c37 c39 F40) g40 F40.kp (F40.bindsN fun _ _ _ _ _ _ us hl => match us, hl with | [_, _, _, _], _ => rfl)
  have c41 := calP_of (P := P) (w := w) (mg := mg) (base := base) (x := "_law_growth") (ok_lg G c37 c40 F41) g41 F41.kp (F41.bindsN fun _ _ _ _ _ _ us hl => match us, hl with | [_, _, _], _ => rfl)
  have c42 := calP_of (P := P) (w := w) (mg := mg) (base := base) (x := "_law_book") (ok_lb G c37 c38 c41 F42) g42 F42.kp (F42.bindsN fun _ _ _ _ _ _ us hl => match us, hl with | [_], _ => rfl)
  have c43 := calP_of (P := P) (w := w) (mg := mg) (base := base) (x := "_law_start") (ok_ls c37 c40 F43) g43 F43.kp (F43.bindsN fun _ _ _ _ _ _ us hl => match us, hl with | [_, _], _ => rfl)
  have c44 := calP_of (P := P) (w := w) (mg := mg) (base := base) (x := "_law_garden") (ok_lgd G c42 c43 F44) g44 F44.kp (F44.bindsN fun _ _ _ _ _ _ us hl => match us, hl with | [_], _ => rfl)
  have c45 := calP_of (P := P) (w := w) (mg := mg) (base := base) (x := "_law_row") (ok_lr G c37 F45) g45 F45.kp (F45.bindsN fun _ _ _ _ _ _ us hl => match us, hl with | [_, _, _], _ => rfl)
  have c46 := calP_of (P := P) (w := w) (mg := mg) (base := base) (x := "_law_row_kind") (ok_lrk F46) g46 F46.kp (F46.bindsN fun _ _ _ _ _ _ us hl => match us, hl with | [_, _], _ => rfl)
  have c47 := calP_of (P := P) (w := w) (mg := mg) (base := base) (x := "_law_ends") (ok_le G F47) g47 F47.kp (F47.bindsN fun _ _ _ _ _ _ us hl => match us, hl with | [_, _], _ => rfl)
  have c48 := calP_of (P := P) (w := w) (mg := mg) (base := base) (x := "_law_at") (ok_la G F48) g48 F48.kp (F48.bindsN fun _ _ _ _ _ _ us hl => match us, hl with | [_, _, _, _], _ => rfl)
  have c49 := calP_of (P := P) (w := w) (mg := mg) (base := base) (x := "_law_degrees") (ok_ld G c46 c48 F49) g49 F49.kp (F49.bindsN fun _ _ _ _ _ _ us hl => match us, hl with | [_, _, _], _ => rfl)
  have c50 := calP_of (P := P) (w := w) (mg := mg) (base := base) (x := "_law_few_rows") (ok_lf G F50) g50 F50.kp (F50.bindsN fun _ _ _ _ _ _ us hl => match us, hl with | [_, _, _], _ => rfl)
  have c51 := calP_of (P := P) (w := w) (mg := mg) (base := base) (x := "_law_follow") (ok_lfo G c27 c26 F51) g51 F51.kp (F51.bindsN fun _ _ _ _ _ _ us hl => match us, hl with | [_, _, _], _ => rfl)
  have c52 := calG_of (P := P) (w := w) (mg := mg) (base := base) (x := "_law_ends_are_told") (ok_lt G c27 c26 c25 F52) g52 F52.kp (F52.bindsN fun _ _ _ _ _ _ us hl => match us, hl with | [_, _], _ => rfl)
  have c53 := calP_of (P := P) (w := w) (mg := mg) (base := base) (x := "_law_next_degrees") (ok_ln G c48 F53) g53 F53.kp (F53.bindsN fun _ _ _ _ _ _ us hl => match us, hl with | [_, _], _ => rfl)
  have c54 := calG_of (P := P) (w := w) (mg := mg) (base := base) (x := "_law_is_met") (ok_lm G c31 c49 c26 c53 c50 c34 c51 F54) g54 F54.kp (F54.bindsN fun _ _ _ _ _ _ us hl => match us, hl with | [_, _, _, _, _], _ => rfl)
  exact ok_law G c36 c37 c44 c45 c25 c27 c26 c28 c47 c46 c52 c54 F55
end TX
end

set_option Elab.async false
set_option linter.all false
set_option maxRecDepth 100000
set_option maxHeartbeats 4000000
open PySem PySem.W PySem.Calls PyProof.Rows
theorem PySem.Challenge.cw_manydeep_k16_whole_far_rows_their_ends_a_holds : PySem.Challenge.rw_manydeep_k16_whole_far_rows_their_ends_a.Holds := by
  w_on; o_law
  refine HandSHeadRun.head_any (r := OpenLaw.row PySem.Challenge.rw_manydeep_k16_whole_far_rows_their_ends_a) (q := view (OpenLaw.row PySem.Challenge.rw_manydeep_k16_whole_far_rows_their_ends_a).prog [55]) (H := TX.hHk) (ob := TX.hOb) (M := 6000) (loose := TX.hLoose) (d := HandSHeadRun.topDef (OpenLaw.row PySem.Challenge.rw_manydeep_k16_whole_far_rows_their_ends_a).prog 55) (kwd := []) TX.hOb_eq
    (by kernel_rfl) (fun s => by kernel_rfl) TX.hRun (by kernel_rfl) (by kernel_rfl) (by kernel_rfl) (by rfl) (by first | assumption | decide +kernel) (by decide +kernel) ⟨rfl, rfl, rfl, rfl, rfl, by decide +kernel⟩ ?hw ?hc
  case hw => w_witness2
  case hc =>
    refine DL.walk_ofG (l := PySem.Challenge.rw_manydeep_k16_whole_far_rows_their_ends_a) (n := 63) (k := 13) (x := "_law_script") rfl (by decide) (by kernel_rfl) ⟨rfl, by decide, by decide⟩ ?F
    intro w mg fa h Y G hmg0
    obtain ⟨K, KX, c⟩ := Y
    have hmg : mg ("law" : PySem.Str) = some (.ref fa) := by
      have e : (HandSHeadRun.topDef (OpenLaw.row PySem.Challenge.rw_manydeep_k16_whole_far_rows_their_ends_a).prog 55).name = ("law" : PySem.Str) := by kernel_rfl
      rw [← e]
      exact hmg0
    obtain ⟨fd, hb, hF⟩ := TX.hFacts (P := (PySem.Challenge.rw_manydeep_k16_whole_far_rows_their_ends_a).prog) (w := w) KX G hmg c
    exact ⟨K, fd, TX.spLaw K, KX, hb, fun H a ns hl _ hS => ⟨a, ns, rfl, hl, hS, fun _ => rfl⟩, hF⟩
