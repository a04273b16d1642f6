import PyProof.Rows.All
import HandS.ForExc
import HandS.ForMost
import HandS.Deep
import HandS.IsInst
import HandS.Flow
import HandS.TupAny
import HandS.CallSlots
import HandS.TupLe
import HandS.Zip
import HandS.StrMore
import HandS.Rev
import HandS.Conv
import HandS.Ends
import PySem.Challenge.RW_partnerlots_k69_tokens
set_option Elab.async false
set_option linter.all false
set_option maxRecDepth 100000
set_option maxHeartbeats 4000000
set_option autoImplicit false
namespace Ev
open PySem PySem.Spec PyProof.Rows L2

/-! ## values, states, results -/
/-- a value: plain data; an owned (unshared) list; a list lent out of its slot; the pot -/
inductive Va where
  | dat (d : PyData)
  | own (xs : List PyData)
  | bor (xs : List PyData)
  | pot
/-- an exception: its class by name, its fields -/
structure Exn where
  cls : Str
  fs : List (Str × PyData)
structure Stt where
  ρ : List (Option Va)
  S : List PyData
inductive Res (α : Type) where
  | ok (a : α) (s : Stt)
  | exc (x : Exn) (s : Stt)
  | bad
def Res.bind {α β : Type} : Res α → (α → Stt → Res β) → Res β
  | .ok a s, g => g a s
  | .exc x s, _ => .exc x s
  | .bad, _ => .bad
theorem Res.bind_ok {α β : Type} (a : α) (s : Stt) (g : α → Stt → Res β) : (Res.ok a s).bind g = g a s := rfl

/-! ## how data lie in the heap -/
/-- a text that lies: its signs are signs, its length is within the line -/
def okS (x : Str) : Bool := PyData.strOk x && decide (x.length ≤ 16777216)
mutual
inductive Rp (K : PySem.W.Frag) (F : Hp) : V → PyData → Prop
  | non : Rp K F .non .none
  | bl (b : Bool) : Rp K F (.bl b) (.bool b)
  | int (i : Int) : Rp K F (.int i) (.int i)
  | str {x : Str} : okS x = true → Rp K F (.str x) (.str x)
  | lst {a : Addr} {xs : List V} {ds : List PyData} : F a = some (.lst xs) → xs.length ≤ sizeLine → RpAll K F xs ds → Rp K F (.ref a) (.list ds)
  | tup {a : Addr} {xs : List V} {ds : List PyData} : SqT K F a xs → xs.length ≤ sizeLine → RpAll K F xs ds → Rp K F (.ref a) (.tuple ds)
inductive RpAll (K : PySem.W.Frag) (F : Hp) : List V → List PyData → Prop
  | nil : RpAll K F [] []
  | cons {v : V} {vs : List V} {d : PyData} {ds : List PyData} : Rp K F v d → RpAll K F vs ds → RpAll K F (v :: vs) (d :: ds)
end
theorem seqT {K : PySem.W.Frag} {H H' : Hp} {a : Addr} {xs : List V} (e : Same H H') (h : SqT K H a xs) : SqT K H' a xs := by
  rcases h with (h | ⟨o, h⟩) | h
  · exact .inl (.inl (e _ _ h))
  · exact .inl (.inr ⟨o, e _ _ h⟩)
  · exact .inr h
mutual
theorem Rp.mono {K : PySem.W.Frag} {F F' : Hp} (e : Same F F') : ∀ {d : PyData} {v : V}, Rp K F v d → Rp K F' v d
  | .none, _, h => by cases h; exact .non
  | .bool _, _, h => by cases h; exact .bl _
  | .int _, _, h => by cases h; exact .int _
  | .str _, _, h => by cases h with | str k => exact .str k
  | .list ds, _, h => by cases h with | lst a b c => exact .lst (e _ _ a) b (RpAll.mono e c)
  | .tuple ds, _, h => by cases h with | tup a b c => exact .tup (seqT e a) b (RpAll.mono e c)
  | .dict _, _, h => by cases h
theorem RpAll.mono {K : PySem.W.Frag} {F F' : Hp} (e : Same F F') : ∀ {ds : List PyData} {vs : List V}, RpAll K F vs ds → RpAll K F' vs ds
  | [], _, h => by cases h; exact .nil
  | _ :: _, _, h => by cases h with | cons a b => exact .cons (Rp.mono e a) (RpAll.mono e b)
end
mutual
theorem Rp.dp {K : PySem.W.Frag} {F : Hp} : ∀ {d : PyData} {v : V}, Rp K F v d → Dp K F v d ∧ d.canLay0 = true
  | .none, _, h => by cases h; exact ⟨.non, rfl⟩
  | .bool _, _, h => by cases h; exact ⟨.bl _, rfl⟩
  | .int _, _, h => by cases h; exact ⟨.int _, rfl⟩
  | .str _, _, h => by cases h with | str k => exact ⟨.str _, by simpa [PyData.canLay0] using (Bool.and_eq_true_iff.mp k).1⟩
  | .list ds, _, h => by cases h with | lst a b c => exact ⟨.lst (.inl (.inl a)) (RpAll.dp c).1, by simpa [PyData.canLay0] using (RpAll.dp c).2⟩
  | .tuple ds, _, h => by cases h with | tup a b c => exact ⟨.tup a (RpAll.dp c).1, by simpa [PyData.canLay0] using (RpAll.dp c).2⟩
  | .dict _, _, h => by cases h
theorem RpAll.dp {K : PySem.W.Frag} {F : Hp} : ∀ {ds : List PyData} {vs : List V}, RpAll K F vs ds → DpAll K F vs ds ∧ PyData.canLayAll0 ds = true
  | [], _, h => by cases h; exact ⟨.nil, rfl⟩
  | _ :: _, _, h => by cases h with | cons a b => exact ⟨.cons (Rp.dp a).1 (RpAll.dp b).1, by simp [PyData.canLayAll0, (Rp.dp a).2, (RpAll.dp b).2]⟩
end
theorem RpAll.length {K : PySem.W.Frag} {F : Hp} : ∀ {ds : List PyData} {vs : List V}, RpAll K F vs ds → vs.length = ds.length
  | [], _, h => by cases h; rfl
  | _ :: _, _, h => by cases h with | cons a b => simp [RpAll.length b]
theorem RpAll.get {K : PySem.W.Frag} {F : Hp} : ∀ {ds : List PyData} {vs : List V} {i : Nat} {d : PyData}, RpAll K F vs ds → ds[i]? = some d → ∃ v, vs[i]? = some v ∧ Rp K F v d
  | [], _, _, _, h, e => by simp at e
  | _ :: _, _, 0, _, h, e => by cases h with | cons a b => simp at e; subst e; exact ⟨_, rfl, a⟩
  | _ :: _, _, i + 1, _, h, e => by
    cases h with
    | cons a b =>
      obtain ⟨v, e1, r⟩ := RpAll.get (i := i) b (by simpa using e)
      exact ⟨v, by simpa using e1, r⟩
theorem RpAll.get' {K : PySem.W.Frag} {F : Hp} : ∀ {ds : List PyData} {vs : List V} {i : Nat} {v : V}, RpAll K F vs ds → vs[i]? = some v → ∃ d, ds[i]? = some d ∧ Rp K F v d
  | [], _, _, _, h, e => by cases h; simp at e
  | _ :: _, _, 0, _, h, e => by cases h with | cons a b => simp at e; subst e; exact ⟨_, rfl, a⟩
  | _ :: _, _, i + 1, _, h, e => by
    cases h with
    | cons a b =>
      obtain ⟨v, e1, r⟩ := RpAll.get' (i := i) b (by simpa using e)
      exact ⟨v, by simpa using e1, r⟩
theorem RpAll.append {K : PySem.W.Frag} {F : Hp} : ∀ {ds es : List PyData} {vs ws : List V}, RpAll K F vs ds → RpAll K F ws es → RpAll K F (vs ++ ws) (ds ++ es)
  | [], _, _, _, h, k => by cases h; exact k
  | _ :: _, _, _, _, h, k => by cases h with | cons a b => exact .cons a (RpAll.append b k)
theorem RpAll.set {K : PySem.W.Frag} {F : Hp} {d : PyData} {v : V} (r : Rp K F v d) : ∀ {ds : List PyData} {vs : List V} (i : Nat), RpAll K F vs ds → RpAll K F (vs.set i v) (ds.set i d)
  | [], _, _, h => by cases h; exact .nil
  | _ :: _, _, 0, h => by cases h with | cons a b => exact .cons r b
  | _ :: _, _, i + 1, h => by cases h with | cons a b => exact .cons a (RpAll.set r i b)
theorem RpAll.take {K : PySem.W.Frag} {F : Hp} : ∀ {ds : List PyData} {vs : List V} (n : Nat), RpAll K F vs ds → RpAll K F (vs.take n) (ds.take n)
  | _, _, 0, h => by simpa using .nil
  | [], _, n + 1, h => by cases h; simpa using .nil
  | _ :: _, _, n + 1, h => by cases h with | cons a b => exact .cons a (RpAll.take n b)
theorem RpAll.drop {K : PySem.W.Frag} {F : Hp} : ∀ {ds : List PyData} {vs : List V} (n : Nat), RpAll K F vs ds → RpAll K F (vs.drop n) (ds.drop n)
  | _, _, 0, h => h
  | [], _, n + 1, h => by cases h; exact .nil
  | _ :: _, _, n + 1, h => by cases h with | cons a b => exact RpAll.drop n b
theorem RpAll.erase {K : PySem.W.Frag} {F : Hp} : ∀ {ds : List PyData} {vs : List V} (i : Nat), RpAll K F vs ds → RpAll K F (vs.eraseIdx i) (ds.eraseIdx i)
  | [], _, _, h => by cases h; exact .nil
  | _ :: _, _, 0, h => by cases h with | cons a b => exact b
  | _ :: _, _, i + 1, h => by cases h with | cons a b => exact .cons a (RpAll.erase i b)
theorem RpAll.reverse {K : PySem.W.Frag} {F : Hp} : ∀ {ds : List PyData} {vs : List V}, RpAll K F vs ds → RpAll K F vs.reverse ds.reverse
  | [], _, h => by cases h; exact .nil
  | _ :: _, _, h => by
    cases h with
    | cons a b =>
      rw [List.reverse_cons, List.reverse_cons]
      exact RpAll.append (RpAll.reverse b) (.cons a .nil)

/-! ## the state's representation -/
/-- what fixes a representation: the written part, the pot's address, the heaps at the entry -/
structure Gh where
  K : PySem.W.Frag
  mg : Str → Option Value
  pa : Addr
  F0 : Hp
  H0 : Hp
/-- an owned list at a -/
structure OwnAt (g : Gh) (F H : Hp) (a : Addr) (xs : List PyData) : Prop where
  ne : a ≠ g.pa
  new : g.H0 a = none
  hid : F a = none
  at_ : ∃ vs, H a = some (.lst vs) ∧ vs.length ≤ sizeLine ∧ RpAll g.K F vs xs
def SlRep (g : Gh) (F H : Hp) (u : V) : Va → Prop
  | .dat d => Rp g.K F u d
  | .own xs => ∃ a, u = .ref a ∧ OwnAt g F H a xs
  | .bor _ => False
  | .pot => u = .ref g.pa
structure Wf (g : Gh) (s : Stt) (σ : L2.St) (F H : Hp) : Prop where
  len : s.ρ.length = σ.length
  sub : Same F H
  ff : Same g.F0 F
  new : ∀ a, g.H0 a ≠ none → F a = g.F0 a
  base : ∀ a o, a ≠ g.pa → g.H0 a = some o → H a = some o
  hpa : F g.pa = none
  pot : ∃ vs, H g.pa = some (.lst vs) ∧ vs.length ≤ sizeLine ∧ RpAll g.K F vs s.S
  slots : ∀ (i : Nat) (v : Va), s.ρ[i]? = some (some v) → ∃ u, σ[i]? = some (some u) ∧ SlRep g F H u v
  sep : ∀ (i j : Nat) (xs ys : List PyData) (a : Addr), s.ρ[i]? = some (some (.own xs)) → s.ρ[j]? = some (some (.own ys)) → σ[i]? = some (some (.ref a)) → σ[j]? = some (some (.ref a)) → i = j
/-- the owned slots do not hold a -/
def Apart (s : Stt) (σ : L2.St) (a : Addr) : Prop := ∀ (i : Nat) (xs : List PyData), s.ρ[i]? = some (some (.own xs)) → σ[i]? ≠ some (some (.ref a))
/-- the value of an expression -/
def VRep (g : Gh) (s : Stt) (σ : L2.St) (F H : Hp) (u : V) : Va → Prop
  | .dat d => Rp g.K F u d
  | .own xs => ∃ a, u = .ref a ∧ OwnAt g F H a xs ∧ Apart s σ a
  | .bor xs => ∃ a vs, u = .ref a ∧ H a = some (.lst vs) ∧ vs.length ≤ sizeLine ∧ RpAll g.K F vs xs
  | .pot => u = .ref g.pa

section
variable {g : Gh} {s : Stt} {σ : L2.St} {F H F' H' : Hp}
theorem same_upd {H : Hp} {p : Addr} {o : HO} (h : H p = none) : Same H (upd H p o) := fun b x e => by
  rw [upd_ne (ne_of_none e h)]; exact e
theorem same_upd2 {F H : Hp} {p : Addr} {o : HO} (h : Same F H) : Same (L2.upd F p o) (L2.upd H p o) := fun b x e => by
  by_cases hb : b = p
  · subst hb; rw [upd_same] at e ⊢; exact e
  · rw [upd_ne hb] at e ⊢; exact h _ _ e
theorem Wf.none_of (E : Wf g s σ F H) {p : Addr} (h : H p = none) : F p = none := E.sub.free h
theorem OwnAt.keep {a : Addr} {xs : List PyData} (o : OwnAt g F H a xs) (e : Same F F') (h : F' a = none) (k : H' a = H a) : OwnAt g F' H' a xs := by
  obtain ⟨vs, e1, z, r⟩ := o.at_
  exact ⟨o.ne, o.new, h, vs, k.trans e1, z, r.mono e⟩
/-- a new object of frozen data -/
theorem Wf.alloc (E : Wf g s σ F H) {p : Addr} (hp : H p = none) (o : HO) : Wf g s σ (upd F p o) (upd H p o) := by
  have hF : F p = none := E.none_of hp
  have sF : Same F (upd F p o) := same_upd hF
  have npa : g.pa ≠ p := by
    obtain ⟨vs, e, _⟩ := E.pot
    exact ne_of_none e hp
  refine ⟨E.len, same_upd2 E.sub, E.ff.trans sF, fun a h => ?_, fun a o' h1 h2 => ?_, by rw [upd_ne npa]; exact E.hpa, ?_, fun i v e => ?_, E.sep⟩
  · have hne : a ≠ p := by
      rintro rfl
      by_cases h1 : a = g.pa
      · exact npa h1.symm
      · cases q : g.H0 a with
        | none => exact h q
        | some o' => rw [E.base a o' h1 q] at hp; cases hp
    rw [upd_ne hne]; exact E.new a h
  · have := E.base a o' h1 h2
    rw [upd_ne (ne_of_none this hp)]; exact this
  · obtain ⟨vs, e, z, r⟩ := E.pot
    exact ⟨vs, by rw [upd_ne npa]; exact e, z, r.mono sF⟩
  · obtain ⟨u, e1, r⟩ := E.slots i v e
    refine ⟨u, e1, ?_⟩
    cases v with
    | dat d => exact Rp.mono sF r
    | pot => exact r
    | bor _ => exact r
    | own xs =>
      obtain ⟨a, e2, o2⟩ := r
      obtain ⟨vs, e3, _⟩ := o2.at_
      have hne : a ≠ p := ne_of_none e3 hp
      exact ⟨a, e2, o2.keep sF (by rw [upd_ne hne]; exact o2.hid) (by rw [upd_ne hne])⟩
/-- a new object that is hidden (an owned list) -/
theorem Wf.hide (E : Wf g s σ F H) {p : Addr} (hp : H p = none) (o : HO) : Wf g s σ F (upd H p o) := by
  have npa : g.pa ≠ p := by
    obtain ⟨vs, e, _⟩ := E.pot
    exact ne_of_none e hp
  refine ⟨E.len, E.sub.trans (same_upd hp), E.ff, E.new, fun a o' h1 h2 => ?_, E.hpa, ?_, fun i v e => ?_, E.sep⟩
  · have := E.base a o' h1 h2
    rw [upd_ne (ne_of_none this hp)]; exact this
  · obtain ⟨vs, e, z, r⟩ := E.pot
    exact ⟨vs, by rw [upd_ne npa]; exact e, z, r⟩
  · obtain ⟨u, e1, r⟩ := E.slots i v e
    refine ⟨u, e1, ?_⟩
    cases v with
    | dat d => exact r
    | pot => exact r
    | bor _ => exact r
    | own xs =>
      obtain ⟨a, e2, o2⟩ := r
      obtain ⟨vs, e3, _⟩ := o2.at_
      have hne : a ≠ p := ne_of_none e3 hp
      exact ⟨a, e2, o2.keep (Same.refl _) o2.hid (by rw [upd_ne hne])⟩
/-- a new list that is owned -/
theorem Wf.own_new (E : Wf g s σ F H) {p : Addr} (hp : H p = none) {vs : List V} {xs : List PyData} (z : vs.length ≤ sizeLine) (r : RpAll g.K F vs xs) :
    Wf g s σ F (upd H p (.lst vs)) ∧ VRep g s σ F (upd H p (.lst vs)) (.ref p) (.own xs) := by
  have npa : p ≠ g.pa := by
    obtain ⟨vs, e, _⟩ := E.pot
    exact (ne_of_none e hp).symm
  have n0 : g.H0 p = none := by
    cases q : g.H0 p with
    | none => rfl
    | some o => rw [E.base p o npa q] at hp; cases hp
  refine ⟨E.hide hp _, p, rfl, ⟨npa, n0, E.none_of hp, vs, upd_same, z, r⟩, fun i ys e1 e2 => ?_⟩
  obtain ⟨u, e3, a, e4, o⟩ := E.slots i _ e1
  rw [e2] at e3; cases e3; cases e4
  obtain ⟨vs', e5, _⟩ := o.at_
  rw [hp] at e5; cases e5
/-- an owned list is frozen -/
theorem Wf.freeze (E : Wf g s σ F H) {a : Addr} {xs : List PyData} (o : OwnAt g F H a xs) (ap : Apart s σ a) :
    ∃ F', Wf g s σ F' H ∧ Same F F' ∧ Rp g.K F' (.ref a) (.list xs) := by
  obtain ⟨vs, e, z, r⟩ := o.at_
  have sF : Same F (upd F a (.lst vs)) := same_upd o.hid
  refine ⟨upd F a (.lst vs), ⟨E.len, fun b x h => ?_, E.ff.trans sF, fun b h => ?_, E.base, by rw [upd_ne o.ne.symm]; exact E.hpa, ?_, fun i v e1 => ?_, E.sep⟩, sF, .lst upd_same z (r.mono sF)⟩
  · by_cases hb : b = a
    · subst hb; rw [upd_same] at h; cases h; exact e
    · rw [upd_ne hb] at h; exact E.sub _ _ h
  · have hb : b ≠ a := by rintro rfl; exact h o.new
    rw [upd_ne hb]; exact E.new b h
  · obtain ⟨vs', e', z', r'⟩ := E.pot
    exact ⟨vs', e', z', r'.mono sF⟩
  · obtain ⟨u, e2, r2⟩ := E.slots i v e1
    refine ⟨u, e2, ?_⟩
    cases v with
    | dat d => exact Rp.mono sF r2
    | pot => exact r2
    | bor _ => exact r2
    | own ys =>
      obtain ⟨b, e3, o2⟩ := r2
      have hb : b ≠ a := by
        rintro rfl
        exact ap i ys e1 (e2.trans (by rw [e3]))
      exact ⟨b, e3, o2.keep sF (by rw [upd_ne hb]; exact o2.hid) rfl⟩
/-- a slot is forgotten -/
theorem Wf.drop (E : Wf g s σ F H) (i : Nat) : Wf g ⟨s.ρ.set i none, s.S⟩ σ F H := by
  have key : ∀ (j : Nat) (v : Va), (s.ρ.set i none)[j]? = some (some v) → s.ρ[j]? = some (some v) ∧ j ≠ i := fun j v e => by
    by_cases hj : i = j
    · subst hj
      by_cases hl : i < s.ρ.length
      · rw [List.getElem?_set_self hl] at e; cases e
      · rw [List.getElem?_eq_none (by simpa using hl)] at e; cases e
    · rw [List.getElem?_set_ne hj] at e
      exact ⟨e, fun h => hj h.symm⟩
  exact ⟨by simpa using E.len, E.sub, E.ff, E.new, E.base, E.hpa, E.pot, fun j v e => E.slots j v (key j v e).1, fun i' j' xs ys a h1 h2 => E.sep i' j' xs ys a (key _ _ h1).1 (key _ _ h2).1⟩
/-- an owned list is taken out of its slot -/
theorem Wf.move (E : Wf g s σ F H) {i : Nat} {xs : List PyData} (e : s.ρ[i]? = some (some (.own xs))) :
    ∃ a, σ[i]? = some (some (.ref a)) ∧ Wf g ⟨s.ρ.set i none, s.S⟩ σ F H ∧ VRep g ⟨s.ρ.set i none, s.S⟩ σ F H (.ref a) (.own xs) := by
  obtain ⟨u, e1, a, e2, o⟩ := E.slots i _ e
  subst e2
  refine ⟨a, e1, E.drop i, a, rfl, o, fun j ys e3 e4 => ?_⟩
  have hj : j ≠ i := by
    rintro rfl
    by_cases hl : j < s.ρ.length
    · rw [List.getElem?_set_self hl] at e3; cases e3
    · rw [List.getElem?_eq_none (by simpa using hl)] at e3; cases e3
  rw [List.getElem?_set_ne (Ne.symm hj)] at e3
  exact hj (E.sep j i ys xs a e3 e e4 e1)
/-- a value goes into a slot -/
theorem Wf.store (E : Wf g s σ F H) {i : Nat} {u : V} {v : Va} (hi : i < σ.length) (r : VRep g s σ F H u v) (nb : ∀ xs, v ≠ .bor xs) : Wf g ⟨s.ρ.set i (some v), s.S⟩ (σ.set i (some u)) F H := by
  have hr : i < s.ρ.length := by rw [E.len]; exact hi
  refine ⟨by simpa using E.len, E.sub, E.ff, E.new, E.base, E.hpa, E.pot, fun j w e => ?_, fun j k xs ys a e1 e2 e3 e4 => ?_⟩
  · by_cases hj : i = j
    · subst hj
      rw [List.getElem?_set_self hr] at e
      cases e
      refine ⟨u, List.getElem?_set_self hi, ?_⟩
      cases v with
      | dat d => exact r
      | pot => exact r
      | bor xs => exact absurd rfl (nb xs)
      | own xs => obtain ⟨a, e, o, _⟩ := r; exact ⟨a, e, o⟩
    · rw [List.getElem?_set_ne hj] at e ⊢
      exact E.slots j w e
  · by_cases hj : i = j
    · by_cases hk : i = k
      · exact hj.symm.trans hk
      · subst hj
        rw [List.getElem?_set_self hr] at e1
        rw [List.getElem?_set_self hi] at e3
        rw [List.getElem?_set_ne hk] at e2 e4
        cases e1; cases e3
        obtain ⟨b, e5, o, ap⟩ := r
        cases e5
        exact absurd e4 (ap k ys e2)
    · rw [List.getElem?_set_ne hj] at e1 e3
      by_cases hk : i = k
      · subst hk
        rw [List.getElem?_set_self hr] at e2
        rw [List.getElem?_set_self hi] at e4
        cases e2; cases e4
        obtain ⟨b, e5, o, ap⟩ := r
        cases e5
        exact absurd e3 (ap j xs e1)
      · rw [List.getElem?_set_ne hk] at e2 e4
        exact E.sep j k xs ys a e1 e2 e3 e4
/-- the content of an owned slot changes -/
theorem Wf.write (E : Wf g s σ F H) {i : Nat} {xs ys : List PyData} {a : Addr} {vs : List V} (e : s.ρ[i]? = some (some (.own xs))) (ha : σ[i]? = some (some (.ref a))) (z : vs.length ≤ sizeLine) (r : RpAll g.K F vs ys) :
    Wf g ⟨s.ρ.set i (some (.own ys)), s.S⟩ σ F (upd H a (.lst vs)) := by
  obtain ⟨u, e1, b, e2, o⟩ := E.slots i _ e
  subst e2
  rw [ha] at e1
  cases e1
  have hr : i < s.ρ.length := (List.getElem?_eq_some_iff.mp e).1
  have sH : ∀ c, c ≠ a → (upd H a (.lst vs)) c = H c := fun c hc => upd_ne hc
  refine ⟨by simpa using E.len, fun c x h => ?_, E.ff, E.new, fun c x h1 h2 => ?_, E.hpa, ?_, fun j w e3 => ?_, fun j k xs' ys' c e1 e2 e3 e4 => ?_⟩
  · have hc : c ≠ a := by rintro rfl; rw [o.hid] at h; cases h
    rw [sH c hc]; exact E.sub _ _ h
  · have hc : c ≠ a := by rintro rfl; rw [o.new] at h2; cases h2
    rw [sH c hc]; exact E.base c x h1 h2
  · obtain ⟨vs', e', z', r'⟩ := E.pot
    exact ⟨vs', by rw [sH _ o.ne.symm]; exact e', z', r'⟩
  · by_cases hj : i = j
    · subst hj
      rw [List.getElem?_set_self hr] at e3
      cases e3
      exact ⟨.ref a, ha, a, rfl, ⟨o.ne, o.new, o.hid, vs, upd_same, z, r⟩⟩
    · rw [List.getElem?_set_ne hj] at e3
      obtain ⟨u, e4, r4⟩ := E.slots j w e3
      refine ⟨u, e4, ?_⟩
      cases w with
      | dat d => exact r4
      | pot => exact r4
      | bor _ => exact r4
      | own zs =>
        obtain ⟨b, e5, o2⟩ := r4
        subst e5
        have hb : b ≠ a := by
          rintro rfl
          exact hj (E.sep i j xs zs b e e3 ha e4)
        exact ⟨b, rfl, o2.keep (Same.refl _) o2.hid (sH b hb)⟩
  · have key : ∀ (j : Nat) (zs : List PyData), (s.ρ.set i (some (.own ys)))[j]? = some (some (.own zs)) → ∃ zs', s.ρ[j]? = some (some (.own zs')) := fun j zs h => by
      by_cases hj : i = j
      · subst hj; exact ⟨_, e⟩
      · rw [List.getElem?_set_ne hj] at h; exact ⟨_, h⟩
    obtain ⟨_, q1⟩ := key j _ e1
    obtain ⟨_, q2⟩ := key k _ e2
    exact E.sep j k _ _ c q1 q2 e3 e4
/-- the pot's content changes -/
theorem Wf.potW (E : Wf g s σ F H) {S' : List PyData} {vs : List V} (z : vs.length ≤ sizeLine) (r : RpAll g.K F vs S') : Wf g ⟨s.ρ, S'⟩ σ F (upd H g.pa (.lst vs)) := by
  refine ⟨E.len, fun c x h => ?_, E.ff, E.new, fun c x h1 h2 => ?_, E.hpa, ⟨vs, upd_same, z, r⟩, fun j w e3 => ?_, E.sep⟩
  · have hc : c ≠ g.pa := by rintro rfl; rw [E.hpa] at h; cases h
    rw [upd_ne hc]; exact E.sub _ _ h
  · rw [upd_ne h1]; exact E.base c x h1 h2
  · obtain ⟨u, e4, r4⟩ := E.slots j w e3
    refine ⟨u, e4, ?_⟩
    cases w with
    | dat d => exact r4
    | pot => exact r4
    | bor _ => exact r4
    | own zs =>
      obtain ⟨b, e5, o2⟩ := r4
      exact ⟨b, e5, o2.keep (Same.refl _) o2.hid (upd_ne o2.ne)⟩

/-! ### a nested entry: what is not owned stays -/
open Classical in
/-- the heap without what the owned slots hold -/
noncomputable def strip (s : Stt) (σ : L2.St) (H : Hp) : Hp := fun a => if (∃ (i : Nat) (xs : List PyData), s.ρ[i]? = some (some (.own xs)) ∧ σ[i]? = some (some (.ref a))) then none else H a
noncomputable def Gh.sub (g : Gh) (s : Stt) (σ : L2.St) (F H : Hp) : Gh := ⟨g.K, g.mg, g.pa, F, strip s σ H⟩
theorem Wf.strip (E : Wf g s σ F H) : Wf (g.sub s σ F H) s σ F H := by
  refine ⟨E.len, E.sub, Same.refl _, fun _ _ => rfl, fun a o h1 h2 => ?_, E.hpa, E.pot, fun i v e => ?_, E.sep⟩
  · have h2 : Ev.strip s σ H a = some o := h2
    unfold Ev.strip at h2
    split at h2
    · cases h2
    · exact h2
  · obtain ⟨u, e1, r⟩ := E.slots i v e
    refine ⟨u, e1, ?_⟩
    cases v with
    | dat d => exact r
    | pot => exact r
    | bor _ => exact r
    | own xs =>
      obtain ⟨a, e2, o⟩ := r
      subst e2
      refine ⟨a, rfl, o.ne, ?_, o.hid, o.at_⟩
      show Ev.strip s σ H a = none
      unfold Ev.strip
      rw [if_pos ⟨i, xs, e, e1⟩]
theorem strip_of (E : Wf g s σ F H) {a : Addr} {o : HO} (ha : a ≠ g.pa) (h : g.H0 a = some o) : Ev.strip s σ H a = some o := by
  unfold Ev.strip
  rw [if_neg, E.base a o ha h]
  rintro ⟨i, xs, e1, e2⟩
  obtain ⟨u, e3, b, e4, ow⟩ := E.slots i _ e1
  rw [e2] at e3; cases e3; cases e4
  have := ow.new
  rw [h] at this; cases this
theorem new_of (E : Wf g s σ F H) {a : Addr} (ha : a ≠ g.pa) (h : Ev.strip s σ H a = none) : g.H0 a = none := by
  cases q : g.H0 a with
  | none => rfl
  | some o => rw [strip_of E ha q] at h; cases h
theorem Wf.unstrip {s' : Stt} {σ' : L2.St} (E : Wf g s σ F H) (E' : Wf (g.sub s σ F H) s' σ' F' H') : Wf g s' σ' F' H' := by
  refine ⟨E'.len, E'.sub, E.ff.trans E'.ff, fun a h => ?_, fun a o h1 h2 => E'.base a o h1 (strip_of E h1 h2), E'.hpa, E'.pot, fun i v e => ?_, E'.sep⟩
  · by_cases ha : a = g.pa
    · subst ha
      have z : F' g.pa = none := E'.hpa
      rw [z]
      exact ((E.ff.free E.hpa)).symm
    · cases q : g.H0 a with
      | none => exact absurd q h
      | some o =>
        have : F' a = F a := E'.new a (by
          show Ev.strip s σ H a ≠ none
          rw [strip_of E ha q]; exact fun z => nomatch z)
        rw [this]
        exact E.new a h
  · obtain ⟨u, e1, r⟩ := E'.slots i v e
    refine ⟨u, e1, ?_⟩
    cases v with
    | dat d => exact r
    | pot => exact r
    | bor _ => exact r
    | own xs =>
      obtain ⟨a, e2, o⟩ := r
      exact ⟨a, e2, o.ne, new_of E o.ne o.new, o.hid, o.at_⟩
theorem VRep.unstrip {s' : Stt} {σ' : L2.St} {u : V} {v : Va} (E : Wf g s σ F H) (r : VRep (g.sub s σ F H) s' σ' F' H' u v) : VRep g s' σ' F' H' u v := by
  cases v with
  | dat d => exact r
  | pot => exact r
  | bor _ => exact r
  | own xs =>
    obtain ⟨a, e2, o, ap⟩ := r
    exact ⟨a, e2, ⟨o.ne, new_of E o.ne o.new, o.hid, o.at_⟩, ap⟩
/-- what stands and is not owned stays behind a nested entry -/
theorem Wf.stays {s' : Stt} {σ' : L2.St} (E : Wf g s σ F H) (E' : Wf (g.sub s σ F H) s' σ' F' H') {a : Addr} {o : HO} (ha : a ≠ g.pa) (h : H a = some o) (ap : Apart s σ a) : H' a = some o := by
  refine E'.base a o ha ?_
  show Ev.strip s σ H a = some o
  unfold Ev.strip
  rw [if_neg, h]
  rintro ⟨i, xs, e1, e2⟩
  exact ap i xs e1 e2
end
end Ev

namespace Ev
open PySem PySem.Spec PyProof.Rows L2

/-! ## denotations and what is wanted of them -/
abbrev De (α : Type) := Stt → Res α
/-- an exception as it lies -/
def XRep (g : Gh) (F : Hp) (x : Exn) (cls : Value) (d : Option Addr) : Prop :=
  ∃ C, g.mg x.cls = some (.ref C) ∧ cls = .ref C ∧ ((x.fs = [] ∧ d = none) ∨ ∃ dd vs, d = some dd ∧ F dd = some (.xd vs) ∧ vs.map (·.1) = x.fs.map (·.1) ∧ RpAll g.K F (vs.map (·.2)) (x.fs.map (·.2)))
def Post {α : Type} (g : Gh) (W : WX) (σ : L2.St) (F : Hp) (r : Res α) (k : α → Stt → Hp → Hp → Prop) : Prop :=
  match r with
  | .ok a s => ∀ F' H', Wf g s σ F' H' → Same F F' → k a s F' H'
  | .exc x s => ∀ F' H' cls d, Wf g s σ F' H' → Same F F' → XRep g F' x cls d → W cls d σ H'
  | .bad => False
section
variable {α β : Type} {g : Gh} {W : WX} {σ : L2.St} {F F' H : Hp}
theorem Post.mono {r : Res α} {k : α → Stt → Hp → Hp → Prop} (e : Same F F') (p : Post g W σ F r k) : Post g W σ F' r k := by
  cases r with
  | ok a s => exact fun F1 H1 w m => p F1 H1 w (e.trans m)
  | exc x s => exact fun F1 H1 cls d w m => p F1 H1 cls d w (e.trans m)
  | bad => exact p
theorem Post.imp {r : Res α} {k k' : α → Stt → Hp → Hp → Prop} (p : Post g W σ F r k) (h : ∀ a s F' H', Wf g s σ F' H' → Same F F' → k a s F' H' → k' a s F' H') : Post g W σ F r k' := by
  cases r with
  | ok a s => exact fun F1 H1 w m => h a s F1 H1 w m (p F1 H1 w m)
  | exc x s => exact p
  | bad => exact p
theorem Post.bind {r : Res α} {h : α → Stt → Res β} {k : β → Stt → Hp → Hp → Prop} (p : Post g W σ F (r.bind h) k) : Post g W σ F r fun a s F' _ => Post g W σ F' (h a s) k := by
  cases r with
  | ok a s => exact fun F1 H1 w m => Post.mono m p
  | exc x s => exact p
  | bad => exact p
end

def tE (K : PySem.W.Frag) (mg : Str → Option Value) (W : WX) (f : De Va) : TE := fun σ H Q =>
  ∃ g s F, g.K = K ∧ g.mg = mg ∧ Wf g s σ F H ∧ Post g W σ F (f s) fun v s' F' H' => ∀ u, VRep g s' σ F' H' u v → Q u H'
def tT (K : PySem.W.Frag) (mg : Str → Option Value) (W : WX) (f : De Bool) : TT := fun σ H Q =>
  ∃ g s F, g.K = K ∧ g.mg = mg ∧ Wf g s σ F H ∧ Post g W σ F (f s) fun b _ _ H' => Q b H'
/-- an argument: data, or the pot -/
def ARep (g : Gh) (F : Hp) (u : V) : Va → Prop
  | .dat d => Rp g.K F u d
  | .pot => u = .ref g.pa
  | _ => False
def AReps (g : Gh) (F : Hp) : List V → List Va → Prop
  | [], [] => True
  | u :: us, v :: vs => ARep g F u v ∧ AReps g F us vs
  | _, _ => False
def tA (K : PySem.W.Frag) (mg : Str → Option Value) (W : WX) (f : De (List Va)) : TA := fun σ H Q =>
  ∃ g s F, g.K = K ∧ g.mg = mg ∧ Wf g s σ F H ∧ Post g W σ F (f s) fun vs _ F' H' => ∀ us, AReps g F' us vs → Q us H'
theorem ARep.mono {g : Gh} {F F' : Hp} {u : V} {v : Va} (e : Same F F') (r : ARep g F u v) : ARep g F' u v := by
  cases v with
  | dat d => exact Rp.mono e r
  | pot => exact r
  | own _ => exact r
  | bor _ => exact r
theorem AReps.mono {g : Gh} {F F' : Hp} (e : Same F F') : ∀ {us : List V} {vs : List Va}, AReps g F us vs → AReps g F' us vs
  | [], [], _ => trivial
  | _ :: _, _ :: _, ⟨a, b⟩ => ⟨a.mono e, AReps.mono e b⟩
  | [], _ :: _, h => h
  | _ :: _, [], h => h

theorem PE.by {X : Cx} {e : Expr} {t : TE} (h : ∀ pins s σ H Q, Inv X pins σ H s → t σ H Q → ∃ t', PE X e t' ∧ t' σ H Q) : PE X e t :=
  ⟨fun pins s σ H Q I q => by obtain ⟨t', p, q'⟩ := h pins s σ H Q I q; exact p.run pins s σ H Q I q'⟩
theorem PT.by {X : Cx} {e : Expr} {t : TT} (h : ∀ pins s σ H Q, Inv X pins σ H s → t σ H Q → ∃ t', PT X e t' ∧ t' σ H Q) : PT X e t :=
  ⟨fun pins s σ H Q I q => by obtain ⟨t', p, q'⟩ := h pins s σ H Q I q; exact p.run pins s σ H Q I q'⟩
theorem PW.by {X : Cx} {e : Expr} {t : TT} (h : ∀ pins s σ H Q, Inv X pins σ H s → t σ H Q → ∃ t', PW X e t' ∧ t' σ H Q) : PW X e t :=
  ⟨fun whole pins s σ H Q I q => by obtain ⟨t', p, q'⟩ := h pins s σ H Q I q; exact p.run whole pins s σ H Q I q'⟩
theorem PA.by {X : Cx} {es : List Expr} {t : TA} (h : ∀ pins s σ H Q, Inv X pins σ H s → t σ H Q → ∃ t', PA X es t' ∧ t' σ H Q) : PA X es t :=
  ⟨fun pos pins s σ H Q I q => by obtain ⟨t', p, q'⟩ := h pins s σ H Q I q; exact p.run pos pins s σ H Q I q'⟩
theorem PS.by {X : Cx} {st : Stmt} {t : TS} (h : ∀ pins s σ H D, Inv X pins σ H s → t D σ H → ∃ t', PS X st t' ∧ t' D σ H) : PS X st t :=
  ⟨fun pins s σ H D I q => by obtain ⟨t', p, q'⟩ := h pins s σ H D I q; exact p.run pins s σ H D I q'⟩
theorem PSs.by {X : Cx} {st : List Stmt} {t : TS} (h : ∀ pins s σ H D, Inv X pins σ H s → t D σ H → ∃ t', PSs X st t' ∧ t' D σ H) : PSs X st t :=
  ⟨fun pins s σ H D I q => by obtain ⟨t', p, q'⟩ := h pins s σ H D I q; exact p.run pins s σ H D I q'⟩

/-! ## freezing -/
def frz : Va → De PyData := fun v s => match v with
  | .dat d => .ok d s
  | .own xs => .ok (.list xs) s
  | _ => .bad
/-- an expression as data -/
def dFrz (f : De Va) : De PyData := fun s => (f s).bind frz
section
variable {K : PySem.W.Frag} {mg : Str → Option Value} {W : WX} {σ : L2.St} {F H : Hp} {g : Gh} {s : Stt} {β : Type}
/-- an expression runs, its value is frozen -/
theorem tE_frz {f : De Va} {h : PyData → De β} {k : β → Stt → Hp → Hp → Prop} {R : VK} (hK : g.K = K) (hm : g.mg = mg) (w : Wf g s σ F H) (p : Post g W σ F ((dFrz f s).bind h) k)
    (c : ∀ d s1 F1 H1 u, Wf g s1 σ F1 H1 → Same F F1 → Rp g.K F1 u d → Post g W σ F1 (h d s1) k → R u H1) : tE K mg W f σ H R := by
  refine ⟨g, s, F, hK, hm, w, ?_⟩
  unfold dFrz at p
  have p1 := p.bind
  have p2 : Post g W σ F (f s) fun a s F' _ => Post g W σ F' (frz a s) fun d s F'' _ => Post g W σ F'' (h d s) k := p1.bind
  refine p2.imp fun v s1 F1 H1 w1 m1 q u r => ?_
  cases v with
  | dat d => exact c d s1 F1 H1 u w1 m1 r (q F1 H1 w1 (Same.refl _))
  | own xs =>
    obtain ⟨a, rfl, o, ap⟩ := r
    obtain ⟨F2, w2, m2, r2⟩ := w1.freeze o ap
    exact c _ s1 F2 H1 _ w2 (m1.trans m2) r2 (q F2 H1 w2 m2)
  | bor _ => exact q.elim
  | pot => exact q.elim
/-- an expression runs -/
theorem tE_run {f : De Va} {h : Va → De β} {k : β → Stt → Hp → Hp → Prop} {R : VK} (hK : g.K = K) (hm : g.mg = mg) (w : Wf g s σ F H) (p : Post g W σ F ((f s).bind h) k)
    (c : ∀ v s1 F1 H1 u, Wf g s1 σ F1 H1 → Same F F1 → VRep g s1 σ F1 H1 u v → Post g W σ F1 (h v s1) k → R u H1) : tE K mg W f σ H R := by
  refine ⟨g, s, F, hK, hm, w, ?_⟩
  exact p.bind.imp fun v s1 F1 H1 w1 m1 q u r => c v s1 F1 H1 u w1 m1 r q
theorem tT_run {f : De Bool} {h : Bool → De β} {k : β → Stt → Hp → Hp → Prop} {R : Bool → Hp → Prop} (hK : g.K = K) (hm : g.mg = mg) (w : Wf g s σ F H) (p : Post g W σ F ((f s).bind h) k)
    (c : ∀ b s1 F1 H1, Wf g s1 σ F1 H1 → Same F F1 → Post g W σ F1 (h b s1) k → R b H1) : tT K mg W f σ H R := by
  refine ⟨g, s, F, hK, hm, w, ?_⟩
  exact p.bind.imp fun v s1 F1 H1 w1 m1 q => c v s1 F1 H1 w1 m1 q
theorem tA_run {f : De (List Va)} {h : List Va → De β} {k : β → Stt → Hp → Hp → Prop} {R : List V → Hp → Prop} (hK : g.K = K) (hm : g.mg = mg) (w : Wf g s σ F H) (p : Post g W σ F ((f s).bind h) k)
    (c : ∀ vs s1 F1 H1 us, Wf g s1 σ F1 H1 → Same F F1 → AReps g F1 us vs → Post g W σ F1 (h vs s1) k → R us H1) : tA K mg W f σ H R := by
  refine ⟨g, s, F, hK, hm, w, ?_⟩
  exact p.bind.imp fun v s1 F1 H1 w1 m1 q u r => c v s1 F1 H1 u w1 m1 r q
end

/-! ## names and constants -/
def dVar (i : Nat) : De Va := fun s => match s.ρ[i]? with
  | some (some (.dat d)) => .ok (.dat d) s
  | some (some (.own xs)) => .ok (.dat (.list xs)) ⟨s.ρ.set i (some (.dat (.list xs))), s.S⟩
  | some (some .pot) => .ok .pot s
  | _ => .bad
def dPeek (i : Nat) : De Va := fun s => match s.ρ[i]? with
  | some (some (.dat d)) => .ok (.dat d) s
  | some (some (.own xs)) => .ok (.bor xs) s
  | some (some .pot) => .ok .pot s
  | _ => .bad
def dMv (i : Nat) : De Va := fun s => match s.ρ[i]? with
  | some (some (.dat d)) => .ok (.dat d) s
  | some (some (.own xs)) => .ok (.own xs) ⟨s.ρ.set i none, s.S⟩
  | some (some .pot) => .ok .pot s
  | _ => .bad
theorem set_self {l : List (Option V)} {i : Nat} {u : V} (h : l[i]? = some (some u)) : l.set i (some u) = l := by
  obtain ⟨hi, e⟩ := List.getElem?_eq_some_iff.mp h
  exact List.ext_getElem? fun j => by
    by_cases hj : i = j
    · subst hj; rw [List.getElem?_set_self hi, h]
    · rw [List.getElem?_set_ne hj]
section
variable {X : Cx} {mg : Str → Option Value} {W : WX} {i : Nat} {x : Str} {pos : Pos}
theorem pe_dVar (hN : X.N[i]? = some x) (hv : Vis X.env.scope x) (hd : (x == ("__debug__" : Str)) = false) (hcd : (x == ("__classdict__" : Str)) = false) : PE X (.Name x pos) (tE X.K mg W (dVar i)) := by
  refine PE.by fun pins s₀ σ H Q I q => ⟨_, pe_var hN hv hd hcd, ?_⟩
  obtain ⟨g, s, F, hK, hm, w, p⟩ := q
  unfold dVar at p
  split at p
  · rename_i d e
    obtain ⟨u, e1, r⟩ := w.slots i _ e
    exact ⟨u, e1, p F H w (Same.refl _) u r⟩
  · rename_i xs e
    obtain ⟨a, e1, w1, a', e2, o, ap⟩ := w.move e
    cases e2
    obtain ⟨F2, w2, m2, r2⟩ := w1.freeze o ap
    have hi : i < σ.length := (List.getElem?_eq_some_iff.mp e1).1
    have w3 := w2.store (i := i) (v := .dat (.list xs)) hi r2 (fun _ z => nomatch z)
    have e3 : (s.ρ.set i none).set i (some (Va.dat (.list xs))) = s.ρ.set i (some (Va.dat (.list xs))) := by rw [List.set_set]
    rw [set_self e1] at w3
    simp only [e3] at w3
    exact ⟨_, e1, p F2 H w3 m2 _ r2⟩
  · rename_i e
    obtain ⟨u, e1, r⟩ := w.slots i _ e
    exact ⟨u, e1, p F H w (Same.refl _) u r⟩
  · exact p.elim
theorem pe_dPeek (hN : X.N[i]? = some x) (hv : Vis X.env.scope x) (hd : (x == ("__debug__" : Str)) = false) (hcd : (x == ("__classdict__" : Str)) = false) : PE X (.Name x pos) (tE X.K mg W (dPeek i)) := by
  refine PE.by fun pins s₀ σ H Q I q => ⟨_, pe_var hN hv hd hcd, ?_⟩
  obtain ⟨g, s, F, hK, hm, w, p⟩ := q
  unfold dPeek at p
  split at p
  · rename_i d e
    obtain ⟨u, e1, r⟩ := w.slots i _ e
    exact ⟨u, e1, p F H w (Same.refl _) u r⟩
  · rename_i xs e
    obtain ⟨u, e1, a, e2, o⟩ := w.slots i _ e
    obtain ⟨vs, e3, z, r⟩ := o.at_
    exact ⟨u, e1, p F H w (Same.refl _) u ⟨a, vs, e2, e3, z, r⟩⟩
  · rename_i e
    obtain ⟨u, e1, r⟩ := w.slots i _ e
    exact ⟨u, e1, p F H w (Same.refl _) u r⟩
  · exact p.elim
theorem pe_dMv (hN : X.N[i]? = some x) (hv : Vis X.env.scope x) (hd : (x == ("__debug__" : Str)) = false) (hcd : (x == ("__classdict__" : Str)) = false) : PE X (.Name x pos) (tE X.K mg W (dMv i)) := by
  refine PE.by fun pins s₀ σ H Q I q => ⟨_, pe_var hN hv hd hcd, ?_⟩
  obtain ⟨g, s, F, hK, hm, w, p⟩ := q
  unfold dMv at p
  split at p
  · rename_i d e
    obtain ⟨u, e1, r⟩ := w.slots i _ e
    exact ⟨u, e1, p F H w (Same.refl _) u r⟩
  · rename_i xs e
    obtain ⟨a, e1, w1, r⟩ := w.move e
    exact ⟨_, e1, p F H w1 (Same.refl _) _ r⟩
  · rename_i e
    obtain ⟨u, e1, r⟩ := w.slots i _ e
    exact ⟨u, e1, p F H w (Same.refl _) u r⟩
  · exact p.elim
end
def dC (d : PyData) : De Va := fun s => .ok (.dat d) s
section
variable {X : Cx} {mg : Str → Option Value} {W : WX} {pos : Pos} {j : Nat}
theorem pe_dC {e : Expr} {v : V} {d : PyData} (h : PE X e (tC v)) (r : ∀ F, Rp X.K F v d) : PE X e (tE X.K mg W (dC d)) := by
  refine PE.by fun pins s₀ σ H Q I q => ⟨_, h, ?_⟩
  obtain ⟨g, s, F, hK, hm, w, p⟩ := q
  exact p F H w (Same.refl _) v (by show Rp g.K F v d; rw [hK]; exact r F)
theorem pe_dInt {i : Int} : PE X (.Constant (.int i) j pos) (tE X.K mg W (dC (.int i))) := pe_dC pe_int fun _ => .int _
theorem pe_dBl {b : Bool} : PE X (.Constant (.bool b) j pos) (tE X.K mg W (dC (.bool b))) := pe_dC pe_bl fun _ => .bl _
theorem pe_dNon : PE X (.Constant .none j pos) (tE X.K mg W (dC .none)) := pe_dC pe_non fun _ => .non
theorem pe_dStr {x : Str} (h : okS x = true) : PE X (.Constant (.str x) j pos) (tE X.K mg W (dC (.str x))) := pe_dC pe_str fun _ => .str h
end
end Ev

namespace Ev
open PySem PySem.Spec PyProof.Rows L2

/-! ## values as data for a look -/
def valD : Va → Option PyData
  | .dat d => some d
  | .own xs => some (.list xs)
  | .bor xs => some (.list xs)
  | .pot => none
section
variable {g : Gh} {s : Stt} {σ : L2.St} {F H : Hp} {u : V}
theorem VRep.look {v : Va} {d : PyData} (w : Wf g s σ F H) (r : VRep g s σ F H u v) (e : valD v = some d) : ∀ K' : PySem.W.Frag, K' = g.K → Rp K' H u d := by
  have key : ∀ (a : Addr) (vs : List V) (xs : List PyData), H a = some (.lst vs) → vs.length ≤ sizeLine → RpAll g.K F vs xs → Rp g.K H (.ref a) (.list xs) := fun a vs xs h z r => .lst h z (r.mono w.sub)
  intro K' hK
  subst hK
  cases v with
  | dat d' =>
    cases (show some d' = some d from e)
    exact Rp.mono w.sub r
  | own xs =>
    cases e
    obtain ⟨a, rfl, o, ap⟩ := r
    obtain ⟨vs, e1, z, r1⟩ := o.at_
    exact key a vs xs e1 z r1
  | bor xs =>
    cases e
    obtain ⟨a, vs, rfl, e1, z, r1⟩ := r
    exact key a vs xs e1 z r1
  | pot => cases e
end

/-! ## two-place operations -/
def bopI (o : Operator) (i j : Int) : Option Int :=
  match o with
  | .Add => some (i + j)
  | .Sub => some (i - j)
  | .Mult => if (-(2 ^ 64) < i ∧ i < 2 ^ 64) ∨ (-(2 ^ 64) < j ∧ j < 2 ^ 64) then some (i * j) else none
  | .FloorDiv => if 0 < j ∧ j < 1073741824 then some (i / j) else none
  | .Mod => if 0 < j then some (i % j) else none
  | .Pow => if 0 ≤ j ∧ j ≤ 1000000 ∧ i.natAbs < 2 ^ 64 then some (i ^ j.toNat) else none
  | .LShift => if 0 ≤ j ∧ j ≤ 1000000 ∧ i.natAbs < 2 ^ 64 then some (i * 2 ^ j.toNat) else none
  | .RShift => if 0 ≤ j then some (i / 2 ^ j.toNat) else none
  | .BitAnd => some (Builtin.bitAnd i j)
  | .BitOr => some (Builtin.bitOr i j)
  | .BitXor => some (Builtin.bitXor i j)
  | _ => none
def bopD (o : Operator) : PyData → PyData → Option Va
  | .int i, .int j => (bopI o i j).map fun k => .dat (.int k)
  | .str x, .str y => match o with
    | .Add => if x.length + y.length ≤ 16777216 then some (.dat (.str (x ++ y))) else none
    | _ => none
  | .tuple xs, .tuple ys => match o with
    | .Add => if xs.length + ys.length ≤ 16777216 then some (.dat (.tuple (xs ++ ys))) else none
    | _ => none
  | .list xs, .list ys => match o with
    | .Add => if xs.length + ys.length ≤ 16777216 then some (.own (xs ++ ys)) else none
    | _ => none
  | .list xs, .int k => match o with
    | .Mult => if -(2 ^ 63) ≤ k ∧ k < 2 ^ 63 ∧ xs.length * k.toNat ≤ 16777216 then some (.own (List.replicate k.toNat xs).flatten) else none
    | _ => none
  | _, _ => none
theorem okS_append {x y : Str} (hx : okS x = true) (hy : okS y = true) (z : x.length + y.length ≤ 16777216) : okS (x ++ y) = true := by
  unfold okS at *
  simp only [Bool.and_eq_true, decide_eq_true_eq] at *
  refine ⟨?_, ?_⟩
  · have a := hx.1
    have b := hy.1
    unfold PyData.strOk at *
    show (x.cps ++ y.cps).all _ = true
    rw [Array.all_append, a, b]; rfl
  · show (x.cps ++ y.cps).size ≤ _
    rw [Array.size_append]; exact z
theorem okS_len {x : Str} (h : okS x = true) : x.length ≤ sizeLine := by
  rw [sizeLine_eq]; exact of_decide_eq_true (Bool.and_eq_true_iff.mp h).2
section
variable {X : Cx}
/-- an int's operation -/
theorem bopI_ok {o : Operator} {i j k : Int} (h : bopI o i j = some k) : ∃ r : R2, OpR X (binaryOp o) r ∧ ∀ (H : Hp) (Q : VK), Q (.int k) H → r (.int i) (.int j) H Q := by
  cases o with
  | Add => cases h; exact ⟨_, op_add, fun H Q q => ⟨_, _, rfl, rfl, q⟩⟩
  | Sub => cases h; exact ⟨_, op_sub, fun H Q q => ⟨_, _, rfl, rfl, q⟩⟩
  | Mult =>
    unfold bopI at h; dsimp only at h
    split at h
    · rename_i c; cases h; exact ⟨_, op_mul, fun H Q q => ⟨_, _, rfl, rfl, c, q⟩⟩
    · cases h
  | FloorDiv =>
    unfold bopI at h; dsimp only at h
    split at h
    · rename_i c; cases h; exact ⟨_, op_fdiv, fun H Q q => ⟨_, _, rfl, rfl, c, q⟩⟩
    · cases h
  | Mod =>
    unfold bopI at h; dsimp only at h
    split at h
    · rename_i c; cases h; exact ⟨_, op_mod, fun H Q q => ⟨_, _, rfl, rfl, c, q⟩⟩
    · cases h
  | Pow =>
    unfold bopI at h; dsimp only at h
    split at h
    · rename_i c; cases h; exact ⟨_, op_pow, fun H Q q => ⟨_, _, rfl, rfl, c, q⟩⟩
    · cases h
  | LShift =>
    unfold bopI at h; dsimp only at h
    split at h
    · rename_i c; cases h; exact ⟨_, op_shl, fun H Q q => ⟨_, _, rfl, rfl, c, q⟩⟩
    · cases h
  | RShift =>
    unfold bopI at h; dsimp only at h
    split at h
    · rename_i c; cases h; exact ⟨_, op_shr, fun H Q q => ⟨_, _, rfl, rfl, c, q⟩⟩
    · cases h
  | BitAnd => cases h; exact ⟨_, op_and, fun H Q q => ⟨_, _, rfl, rfl, q⟩⟩
  | BitOr => cases h; exact ⟨_, op_or, fun H Q q => ⟨_, _, rfl, rfl, q⟩⟩
  | BitXor => cases h; exact ⟨_, op_xor, fun H Q q => ⟨_, _, rfl, rfl, q⟩⟩
  | _ => cases h
theorem RpAll.rep {K : PySem.W.Frag} {F : Hp} {ds : List PyData} {vs : List V} (r : RpAll K F vs ds) : ∀ k : Nat, RpAll K F (List.replicate k vs).flatten (List.replicate k ds).flatten
  | 0 => .nil
  | k + 1 => by
    rw [List.replicate_succ, List.replicate_succ, List.flatten_cons, List.flatten_cons]
    exact RpAll.append r (RpAll.rep r k)
theorem len_rep {α : Type} (xs : List α) : ∀ k : Nat, (List.replicate k xs).flatten.length = xs.length * k
  | 0 => by simp
  | k + 1 => by rw [List.replicate_succ, List.flatten_cons, List.length_append, len_rep xs k, Nat.mul_succ, Nat.add_comm]
theorem bopD_ok {o : Operator} {a b : PyData} {v : Va} (h : bopD o a b = some v) : ∃ r : R2, OpR X (binaryOp o) r ∧ ∀ (g : Gh) (s : Stt) (σ : L2.St) (F H : Hp) (x y : V) (Q : VK), g.K = X.K → Wf g s σ F H → Rp g.K F x a → Rp g.K F y b →
    (∀ F' H' u, Wf g s σ F' H' → Same F F' → VRep g s σ F' H' u v → Q u H') → r x y H Q := by
  unfold bopD at h
  split at h
  · rename_i i j
    obtain ⟨k, e, rfl⟩ := Option.map_eq_some_iff.mp h
    obtain ⟨r, ho, hr⟩ := bopI_ok (X := X) e
    refine ⟨r, ho, fun g s σ F H x y Q hK w rx ry q => ?_⟩
    cases rx; cases ry
    exact hr H Q (q F H _ w (Same.refl _) (.int k))
  · rename_i x y
    split at h
    · split at h
      · rename_i z
        cases h
        refine ⟨_, op_add_str, fun g s σ F H u1 u2 Q hK w rx ry q => ?_⟩
        cases rx with
        | str kx =>
          cases ry with
          | str ky =>
            exact ⟨x, y, rfl, rfl, by rw [sizeLine_eq]; exact z, q F H _ w (Same.refl _) (.str (okS_append kx ky z))⟩
      · cases h
    · cases h
  · rename_i xs ys
    split at h
    · split at h
      · rename_i z
        cases h
        refine ⟨_, op_catA, fun g s σ F H u1 u2 Q hK w rx ry q => ?_⟩
        cases rx with
        | tup ha za ra =>
          cases ry with
          | tup hb zb rb =>
            rename_i a vs b ws
            have hs : vs.length + ws.length ≤ sizeLine := by rw [ra.length, rb.length, sizeLine_eq]; exact z
            rw [← hK]
            refine ⟨a, b, vs, ws, rfl, rfl, seqT w.sub ha, seqT w.sub hb, hs, fun e => ?_, fun e e2 => ?_, fun e e2 p hp => ?_⟩
            · subst e; cases ra
              exact q F H _ w (Same.refl _) (.tup hb zb rb)
            · subst e2; cases rb
              rw [List.append_nil] at q
              exact q F H _ w (Same.refl _) (.tup ha za ra)
            · have hF := w.none_of hp
              refine q _ _ _ (w.alloc hp (.tup (vs ++ ws))) (same_upd hF) (.tup (SqT.of upd_same) (by rw [List.length_append]; exact hs) ((RpAll.append ra rb).mono (same_upd hF)))
      · cases h
    · cases h
  · rename_i xs ys
    split at h
    · split at h
      · rename_i z
        cases h
        refine ⟨_, op_cat, fun g s σ F H u1 u2 Q hK w rx ry q => ?_⟩
        cases rx with
        | lst ha za ra =>
          cases ry with
          | lst hb zb rb =>
            rename_i a vs b ws
            have hs : vs.length + ws.length ≤ sizeLine := by rw [ra.length, rb.length, sizeLine_eq]; exact z
            refine ⟨a, b, vs, ws, rfl, rfl, w.sub _ _ ha, w.sub _ _ hb, hs, fun p hp => ?_⟩
            obtain ⟨w2, r2⟩ := w.own_new hp (vs := vs ++ ws) (by rw [List.length_append]; exact hs) (RpAll.append ra rb)
            exact q F _ _ w2 (Same.refl _) r2
      · cases h
    · cases h
  · rename_i xs k
    split at h
    · split at h
      · rename_i z
        cases h
        refine ⟨_, op_rep, fun g s σ F H u1 u2 Q hK w rx ry q => ?_⟩
        cases rx with
        | lst ha za ra =>
          cases ry
          rename_i a vs
          refine ⟨a, k, vs, rfl, rfl, w.sub _ _ ha, z.1, z.2.1, by rw [ra.length, sizeLine_eq]; exact z.2.2, fun p hp => ?_⟩
          have e1 : (List.replicate k.toNat vs).flatten.length ≤ sizeLine := by rw [len_rep, ra.length, sizeLine_eq]; exact z.2.2
          obtain ⟨w2, r2⟩ := w.own_new hp e1 (RpAll.rep ra k.toNat)
          exact q F _ _ w2 (Same.refl _) r2
      · cases h
    · cases h
  · cases h
end
def ofOpt {α : Type} (o : Option α) (s : Stt) : Res α := match o with
  | some a => .ok a s
  | none => .bad
def dBin (o : Operator) (f h : De Va) : De Va := fun s => (dFrz f s).bind fun a s => (dFrz h s).bind fun b s => ofOpt (bopD o a b) s
/-- the strongest reading of an operation -/
def rMax2 (X : Cx) (f : Value → Value → Sem Value) : R2 := fun x y H Q => ∃ r : R2, OpR X f r ∧ r x y H Q
theorem rMax2_ok {X : Cx} {f : Value → Value → Sem Value} : OpR X f (rMax2 X f) := fun pins s σ H x y v u Q I rx ry ⟨r, ho, q⟩ => ho pins s σ H x y v u Q I rx ry q
theorem ofOpt_post {α : Type} {g : Gh} {W : WX} {σ : L2.St} {F : Hp} {o : Option α} {s : Stt} {k : α → Stt → Hp → Hp → Prop} (p : Post g W σ F (ofOpt o s) k) : ∃ a, o = some a ∧ ∀ F' H', Wf g s σ F' H' → Same F F' → k a s F' H' := by
  cases o with
  | none => exact p.elim
  | some a => exact ⟨a, rfl, p⟩
theorem pe_dBin {X : Cx} {mg : Str → Option Value} {W : WX} {o : Operator} {a b : Expr} {f h : De Va} {pos : Pos} (ha : PE X a (tE X.K mg W f)) (hb : PE X b (tE X.K mg W h)) : PE X (.BinOp a o b pos) (tE X.K mg W (dBin o f h)) := by
  refine PE.by fun pins s₀ σ H Q I q => ⟨_, pe_op rMax2_ok ha hb, ?_⟩
  obtain ⟨g, s, F, hK, hm, w, p⟩ := q
  refine tE_frz hK hm w p fun d s1 F1 H1 u w1 m1 r1 p1 => ?_
  refine tE_frz hK hm w1 p1 fun d2 s2 F2 H2 u2 w2 m2 r2 p2 => ?_
  obtain ⟨v, e, q⟩ := ofOpt_post p2
  obtain ⟨r, ho, hr⟩ := bopD_ok (X := X) e
  exact ⟨r, ho, hr g s2 σ F2 H2 u u2 Q hK w2 (r1.mono m2) r2 fun F' H' u' w' m' r' => q F' H' w' m' u' r'⟩
/-- -a -/
def dNeg (f : De Va) : De Va := fun s => (dFrz f s).bind fun a s => match a with
  | .int i => .ok (.dat (.int (-i))) s
  | _ => .bad
theorem pe_dNeg {X : Cx} {mg : Str → Option Value} {W : WX} {a : Expr} {f : De Va} {pos : Pos} (ha : PE X a (tE X.K mg W f)) : PE X (.UnaryOp .USub a pos) (tE X.K mg W (dNeg f)) := by
  refine PE.by fun pins s₀ σ H Q I q => ⟨_, pe_un un_neg ha, ?_⟩
  obtain ⟨g, s, F, hK, hm, w, p⟩ := q
  refine tE_frz hK hm w p fun d s1 F1 H1 u w1 m1 r1 p1 => ?_
  cases d with
  | int i =>
    cases r1
    exact ⟨i, rfl, p1 F1 H1 w1 (Same.refl _) _ (.int _)⟩
  | _ => exact p1.elim

/-! ## comparisons -/
def strLt (x y : Str) : Bool := decide (x.cps.toList < y.cps.toList)
def strIn (x y : Str) : Bool := if x.cps.size = 1 then decide (x.cps.getD 0 0 ∈ y.cps.toList) else !(Builtin.Str.occurrences y x 0 y.length 1).isEmpty
def inD (a : PyData) : PyData → Option Bool
  | .list xs => if min (PyData.depthAll xs) a.depth ≤ 64 then some (xs.any fun z => PyData.eqv z a) else none
  | .tuple xs => if min (PyData.depthAll xs) a.depth ≤ 64 then some (xs.any fun z => PyData.eqv z a) else none
  | .str y => match a with
    | .str x => some (strIn x y)
    | _ => none
  | _ => none
def cmpD (o : CmpOp) (a b : PyData) : Option Bool :=
  match o with
  | .Eq => if min a.depth b.depth ≤ 64 then some (PyData.eqv a b) else none
  | .NotEq => if min a.depth b.depth ≤ 64 then some (!PyData.eqv a b) else none
  | .In => inD a b
  | .NotIn => (inD a b).map (!·)
  | .Is => match b with
    | .none => some (match a with | .none => true | _ => false)
    | .bool y => match a with
      | .bool x => some (decide (x = y))
      | _ => none
    | _ => none
  | .IsNot => match b with
    | .none => some (match a with | .none => false | _ => true)
    | .bool y => match a with
      | .bool x => some (!decide (x = y))
      | _ => none
    | _ => none
  | .Lt => match a, b with
    | .int i, .int j => some (decide (i < j))
    | .str x, .str y => some (strLt x y)
    | _, _ => none
  | .LtE => match a, b with
    | .int i, .int j => some (decide (i ≤ j))
    | .str x, .str y => some (!strLt y x)
    | _, _ => none
  | .Gt => match a, b with
    | .int i, .int j => some (decide (j < i))
    | .str x, .str y => some (strLt y x)
    | _, _ => none
  | .GtE => match a, b with
    | .int i, .int j => some (decide (j ≤ i))
    | .str x, .str y => some (!strLt x y)
    | _, _ => none
section
variable {X : Cx}
def rDD (K : PySem.W.Frag) (P : PyData → PyData → Prop) (f : PyData → PyData → Bool) : R2 := fun x y H Q => ∃ d e, Dp K H x d ∧ Dp K H y e ∧ d.canLay0 = true ∧ e.canLay0 = true ∧ P d e ∧ Q (.bl (f d e)) H
theorem op_eqE (hu : X.A.units + 65 < cLine) : OpR X (compareOp .Eq) (rDD X.K (fun d e => min d.depth e.depth ≤ 64) PyData.eqv) := by
  intro pins s σ H x y v u Q I rx ry h
  obtain ⟨d, e, hd, he, sd, se, hm, q⟩ := h
  obtain ⟨as, r1⟩ := Dp.reads I d x v hd rx
  obtain ⟨bs, r2⟩ := Dp.reads I e y u he ry
  exact SeqAt.compareEq_reads r1 r2 sd se (by omega) ⟨.bl _, H, I, rfl, q⟩
theorem op_neE (hu : X.A.units + 65 < cLine) : OpR X (compareOp .NotEq) (rDD X.K (fun d e => min d.depth e.depth ≤ 64) fun a b => !PyData.eqv a b) := by
  intro pins s σ H x y v u Q I rx ry h
  obtain ⟨d, e, hd, he, sd, se, hm, q⟩ := h
  obtain ⟨as, r1⟩ := Dp.reads I d x v hd rx
  obtain ⟨bs, r2⟩ := Dp.reads I e y u he ry
  exact SeqAt.compareNe_reads r1 r2 sd se (by omega) ⟨.bl _, H, I, rfl, q⟩
theorem lay_list {xs : List PyData} (h : (PyData.list xs).canLay0 = true) : PyData.canLayAll0 xs = true := by simpa [PyData.canLay0] using h
theorem lay_tup {xs : List PyData} (h : (PyData.tuple xs).canLay0 = true) : PyData.canLayAll0 xs = true := by simpa [PyData.canLay0] using h
theorem op_inL (hu : X.A.units + 66 < cLine) {xs : List PyData} : OpR X (compareOp .In) (fun x y H Q => ∃ d, Dp X.K H x d ∧ Dp X.K H y (.list xs) ∧ d.canLay0 = true ∧ (PyData.list xs).canLay0 = true ∧ min (PyData.depthAll xs) d.depth ≤ 64 ∧ Q (.bl (xs.any fun z => PyData.eqv z d)) H) := by
  intro pins s σ H x y v u Q I rx ry h
  obtain ⟨d, hd, he, sd, se, hm, q⟩ := h
  obtain ⟨as, r1⟩ := Dp.reads I d x v hd rx
  obtain ⟨bs, r2⟩ := Dp.reads I _ y u he ry
  exact SeqAt.in_list_reads r2 r1 (lay_list se) sd (by omega) ⟨.bl _, H, I, rfl, q⟩
theorem op_notInL (hu : X.A.units + 66 < cLine) {xs : List PyData} : OpR X (compareOp .NotIn) (fun x y H Q => ∃ d, Dp X.K H x d ∧ Dp X.K H y (.list xs) ∧ d.canLay0 = true ∧ (PyData.list xs).canLay0 = true ∧ min (PyData.depthAll xs) d.depth ≤ 64 ∧ Q (.bl (!xs.any fun z => PyData.eqv z d)) H) := by
  intro pins s σ H x y v u Q I rx ry h
  obtain ⟨d, hd, he, sd, se, hm, q⟩ := h
  obtain ⟨as, r1⟩ := Dp.reads I d x v hd rx
  obtain ⟨bs, r2⟩ := Dp.reads I _ y u he ry
  exact SeqAt.notIn_list_reads r2 r1 (lay_list se) sd (by omega) ⟨.bl _, H, I, rfl, q⟩
theorem op_inT (hu : X.A.units + 66 < cLine) {xs : List PyData} : OpR X (compareOp .In) (fun x y H Q => ∃ d, Dp X.K H x d ∧ Dp X.K H y (.tuple xs) ∧ d.canLay0 = true ∧ (PyData.tuple xs).canLay0 = true ∧ min (PyData.depthAll xs) d.depth ≤ 64 ∧ Q (.bl (xs.any fun z => PyData.eqv z d)) H) := by
  intro pins s σ H x y v u Q I rx ry h
  obtain ⟨d, hd, he, sd, se, hm, q⟩ := h
  obtain ⟨as, r1⟩ := Dp.reads I d x v hd rx
  obtain ⟨bs, r2⟩ := Dp.reads I _ y u he ry
  exact SeqAt.in_tuple_reads r2 r1 (lay_tup se) sd (by omega) ⟨.bl _, H, I, rfl, q⟩
theorem op_notInT (hu : X.A.units + 66 < cLine) {xs : List PyData} : OpR X (compareOp .NotIn) (fun x y H Q => ∃ d, Dp X.K H x d ∧ Dp X.K H y (.tuple xs) ∧ d.canLay0 = true ∧ (PyData.tuple xs).canLay0 = true ∧ min (PyData.depthAll xs) d.depth ≤ 64 ∧ Q (.bl (!xs.any fun z => PyData.eqv z d)) H) := by
  intro pins s σ H x y v u Q I rx ry h
  obtain ⟨d, hd, he, sd, se, hm, q⟩ := h
  obtain ⟨as, r1⟩ := Dp.reads I d x v hd rx
  obtain ⟨bs, r2⟩ := Dp.reads I _ y u he ry
  exact SeqAt.notIn_tuple_reads r2 r1 (lay_tup se) sd (by omega) ⟨.bl _, H, I, rfl, q⟩
theorem str_one {x : Str} (h : x.cps.size = 1) : x = ⟨#[x.cps.getD 0 0]⟩ := by
  obtain ⟨⟨l⟩⟩ := x
  match l, h with
  | [c], _ => rfl
theorem cmpD_ok (hu : X.A.units + 66 < cLine) {o : CmpOp} {a b : PyData} {k : Bool} (h : cmpD o a b = some k) (x y : V) (H : Hp) (Q : VK) (ha : Dp X.K H x a) (hb : Dp X.K H y b) (la : a.canLay0 = true) (lb : b.canLay0 = true) (q : Q (.bl k) H) :
    rMax2 X (compareOp o) x y H Q := by
  cases o with
  | Eq =>
    unfold cmpD at h; dsimp only at h
    split at h
    · cases h; exact ⟨_, op_eqE (by omega), a, b, ha, hb, la, lb, by assumption, q⟩
    · cases h
  | NotEq =>
    unfold cmpD at h; dsimp only at h
    split at h
    · cases h; exact ⟨_, op_neE (by omega), a, b, ha, hb, la, lb, by assumption, q⟩
    · cases h
  | In =>
    have h : inD a b = some k := h
    unfold inD at h
    split at h
    · split at h
      · cases h; exact ⟨_, op_inL hu, a, ha, hb, la, lb, by assumption, q⟩
      · cases h
    · split at h
      · cases h; exact ⟨_, op_inT hu, a, ha, hb, la, lb, by assumption, q⟩
      · cases h
    · split at h
      · rename_i z w
        cases h
        cases ha; cases hb
        unfold strIn at q
        split at q
        · rename_i z1
          exact ⟨_, op_in_sign, _, _, by rw [← str_one z1], rfl, q⟩
        · exact ⟨_, op_in_str, _, _, rfl, rfl, q⟩
      · cases h
    · cases h
  | NotIn =>
    obtain ⟨k', h2, rfl⟩ := Option.map_eq_some_iff.mp (show (inD a b).map (!·) = some k from h)
    unfold inD at h2
    split at h2
    · split at h2
      · cases h2; exact ⟨_, op_notInL hu, a, ha, hb, la, lb, by assumption, q⟩
      · cases h2
    · split at h2
      · cases h2; exact ⟨_, op_notInT hu, a, ha, hb, la, lb, by assumption, q⟩
      · cases h2
    · split at h2
      · rename_i z w
        cases h2
        cases ha; cases hb
        unfold strIn at q
        split at q
        · rename_i z1
          exact ⟨_, op_notIn_sign, _, _, by rw [← str_one z1], rfl, q⟩
        · exact ⟨_, op_notin_str, _, _, rfl, rfl, q⟩
      · cases h2
    · cases h2
  | Is =>
    unfold cmpD at h; dsimp only at h
    split at h
    · cases h
      cases hb
      refine ⟨_, op_isN, rfl, ?_⟩
      cases ha <;> exact q
    · split at h
      · cases h
        cases ha; cases hb
        exact ⟨_, op_is_bl, _, _, rfl, rfl, q⟩
      · cases h
    · cases h
  | IsNot =>
    unfold cmpD at h; dsimp only at h
    split at h
    · cases h
      cases hb
      refine ⟨_, op_notN, rfl, ?_⟩
      cases ha <;> exact q
    · split at h
      · cases h
        cases ha; cases hb
        exact ⟨_, op_isnot_bl, _, _, rfl, rfl, q⟩
      · cases h
    · cases h
  | Lt =>
    unfold cmpD at h; dsimp only at h
    split at h
    · cases h; cases ha; cases hb; exact ⟨_, op_lt, _, _, rfl, rfl, q⟩
    · cases h; cases ha; cases hb; exact ⟨_, op_lt_str, _, _, rfl, rfl, q⟩
    · cases h
  | LtE =>
    unfold cmpD at h; dsimp only at h
    split at h
    · cases h; cases ha; cases hb; exact ⟨_, op_le, _, _, rfl, rfl, q⟩
    · cases h; cases ha; cases hb; exact ⟨_, op_le_str, _, _, rfl, rfl, q⟩
    · cases h
  | Gt =>
    unfold cmpD at h; dsimp only at h
    split at h
    · cases h; cases ha; cases hb; exact ⟨_, op_gt, _, _, rfl, rfl, q⟩
    · cases h; cases ha; cases hb; exact ⟨_, op_gt_str, _, _, rfl, rfl, q⟩
    · cases h
  | GtE =>
    unfold cmpD at h; dsimp only at h
    split at h
    · cases h; cases ha; cases hb; exact ⟨_, op_ge, _, _, rfl, rfl, q⟩
    · cases h; cases ha; cases hb; exact ⟨_, op_ge_str, _, _, rfl, rfl, q⟩
    · cases h
end
/-- a comparison's answer -/
def dCmpB (o : CmpOp) (f h : De Va) : De Bool := fun s => (dFrz f s).bind fun a s => (h s).bind fun b s => ofOpt ((valD b).bind (cmpD o a)) s
def toV (f : De Bool) : De Va := fun s => (f s).bind fun b s => .ok (.dat (.bool b)) s
def dChainB (o o' : CmpOp) (f h j : De Va) : De Bool := fun s => (dFrz f s).bind fun a s => (dFrz h s).bind fun b s => (ofOpt (cmpD o a b) s).bind fun k s =>
  if k = true then (j s).bind fun c s => ofOpt ((valD c).bind (cmpD o' b)) s else .ok false s
section
variable {X : Cx} {mg : Str → Option Value} {W : WX} {o o' : CmpOp} {a b c : Expr} {f h j : De Va} {pos : Pos}
theorem cmp_core (hu : X.A.units + 66 < cLine) {g : Gh} {s : Stt} {σ : L2.St} {F H : Hp} {k : Bool → Stt → Hp → Hp → Prop} {Q : VK} (hK : g.K = X.K) (hm : g.mg = mg) (w : Wf g s σ F H) (p : Post g W σ F (dCmpB o f h s) k)
    (c : ∀ b s1 F1 H1, Wf g s1 σ F1 H1 → Same F F1 → k b s1 F1 H1 → Q (.bl b) H1) : tOp (rMax2 X (compareOp o)) (tE X.K mg W f) (tE X.K mg W h) σ H Q := by
  refine tE_frz hK hm w p fun d s1 F1 H1 u w1 m1 r1 p1 => ?_
  refine tE_run hK hm w1 p1 fun v s2 F2 H2 u2 w2 m2 r2 p2 => ?_
  obtain ⟨bo, e, q⟩ := ofOpt_post p2
  obtain ⟨d2, e2, e3⟩ := Option.bind_eq_some_iff.mp e
  have h2 := r2.look w2 e2 X.K hK.symm
  have h1 : Rp g.K H2 u d := (r1.mono m2).mono w2.sub
  rw [hK] at h1
  exact cmpD_ok hu e3 u u2 H2 Q h1.dp.1 h2.dp.1 h1.dp.2 h2.dp.2 (c bo s2 F2 H2 w2 (m1.trans m2) (q F2 H2 w2 (Same.refl _)))
theorem pe_dCmp (hu : X.A.units + 66 < cLine) (ha : PE X a (tE X.K mg W f)) (hb : PE X b (tE X.K mg W h)) (hm : behindInMarks o b = false) : PE X (.Compare a [o] [b] pos) (tE X.K mg W (toV (dCmpB o f h))) := by
  refine PE.by fun pins s₀ σ H Q I q => ⟨_, pe_cmpR rMax2_ok ha hb hm, ?_⟩
  obtain ⟨g, s, F, hK, hmg, w, p⟩ := q
  refine cmp_core hu hK hmg w p.bind fun b s1 F1 H1 w1 m1 p1 => p1 F1 H1 w1 (Same.refl _) _ (.bl b)
theorem pt_dCmp (hu : X.A.units + 66 < cLine) (ha : PE X a (tE X.K mg W f)) (hb : PE X b (tE X.K mg W h)) (hm : behindInMarks o b = false) : PT X (.Compare a [o] [b] pos) (tT X.K mg W (dCmpB o f h)) := by
  refine PT.by fun pins s₀ σ H Q I q => ⟨_, pt_cmpR rMax2_ok ha hb hm, ?_⟩
  obtain ⟨g, s, F, hK, hmg, w, p⟩ := q
  exact cmp_core hu hK hmg w p fun b s1 F1 H1 w1 m1 p1 => ⟨b, rfl, p1⟩
theorem chain_core (hu : X.A.units + 66 < cLine) {g : Gh} {s : Stt} {σ : L2.St} {F H : Hp} {k : Bool → Stt → Hp → Hp → Prop} {Q : VK} (hK : g.K = X.K) (hm : g.mg = mg) (w : Wf g s σ F H) (p : Post g W σ F (dChainB o o' f h j s) k)
    (c : ∀ b s1 F1 H1, Wf g s1 σ F1 H1 → Same F F1 → k b s1 F1 H1 → Q (.bl b) H1) : tChain (rMax2 X (compareOp o)) (rMax2 X (compareOp o')) (tE X.K mg W f) (tE X.K mg W h) (tE X.K mg W j) σ H Q := by
  refine tE_frz hK hm w p fun d s1 F1 H1 u w1 m1 r1 p1 => ?_
  refine tE_frz hK hm w1 p1 fun d2 s2 F2 H2 u2 w2 m2 r2 p2 => ?_
  obtain ⟨b1, e, q⟩ := ofOpt_post p2.bind
  have h1 : Rp g.K H2 u d := (r1.mono m2).mono w2.sub
  have h2 : Rp g.K H2 u2 d2 := r2.mono w2.sub
  rw [hK] at h1 h2
  refine cmpD_ok hu e u u2 H2 _ h1.dp.1 h2.dp.1 h1.dp.2 h2.dp.2 ⟨b1, rfl, ?_⟩
  have q1 := q F2 H2 w2 (Same.refl _)
  cases b1 with
  | false => exact c false s2 F2 H2 w2 (m1.trans m2) (q1 F2 H2 w2 (Same.refl _))
  | true =>
    refine tE_run hK hm w2 (h := fun c s => ofOpt ((valD c).bind (cmpD o' d2)) s) q1 fun v s3 F3 H3 u3 w3 m3 r3 p3 => ?_
    obtain ⟨bo, e', q'⟩ := ofOpt_post p3
    obtain ⟨d3, e2, e3⟩ := Option.bind_eq_some_iff.mp e'
    have h3 := r3.look w3 e2 X.K hK.symm
    have h2' : Rp g.K H3 u2 d2 := (r2.mono m3).mono w3.sub
    rw [hK] at h2'
    exact cmpD_ok hu e3 u2 u3 H3 Q h2'.dp.1 h3.dp.1 h2'.dp.2 h3.dp.2 (c bo s3 F3 H3 w3 ((m1.trans m2).trans m3) (q' F3 H3 w3 (Same.refl _)))
theorem pe_dChain (hu : X.A.units + 66 < cLine) (ha : PE X a (tE X.K mg W f)) (hb : PE X b (tE X.K mg W h)) (hc : PE X c (tE X.K mg W j)) (hm : lastMarks [o, o'] [b, c] = false) : PE X (.Compare a [o, o'] [b, c] pos) (tE X.K mg W (toV (dChainB o o' f h j))) := by
  refine PE.by fun pins s₀ σ H Q I q => ⟨_, pe_chain rMax2_ok rMax2_ok ha hb hc hm, ?_⟩
  obtain ⟨g, s, F, hK, hmg, w, p⟩ := q
  refine chain_core hu hK hmg w p.bind fun b s1 F1 H1 w1 m1 p1 => p1 F1 H1 w1 (Same.refl _) _ (.bl b)
theorem pt_dChain (hu : X.A.units + 66 < cLine) (ha : PE X a (tE X.K mg W f)) (hb : PE X b (tE X.K mg W h)) (hc : PE X c (tE X.K mg W j)) (hm : lastMarks [o, o'] [b, c] = false) : PT X (.Compare a [o, o'] [b, c] pos) (tT X.K mg W (dChainB o o' f h j)) := by
  refine PT.by fun pins s₀ σ H Q I q => ⟨_, pt_chain rMax2_ok rMax2_ok ha hb hc hm, ?_⟩
  obtain ⟨g, s, F, hK, hmg, w, p⟩ := q
  exact chain_core hu hK hmg w p fun b s1 F1 H1 w1 m1 p1 => ⟨b, rfl, p1⟩
end
end Ev

namespace Ev
open PySem PySem.Spec PyProof.Rows L2

/-! ## truth -/
def truD : PyData → Option Bool
  | .none => some false
  | .bool b => some b
  | .int i => some (i != 0)
  | .str x => some ((x.length : Int) != 0)
  | .list xs => some (!xs.isEmpty)
  | .tuple xs => some (!xs.isEmpty)
  | .dict _ => none
theorem RpAll.isEmpty {K : PySem.W.Frag} {F : Hp} {ds : List PyData} {vs : List V} (r : RpAll K F vs ds) : vs.isEmpty = ds.isEmpty := by
  cases r <;> rfl
theorem truD_ok {K : PySem.W.Frag} {H : Hp} {u : V} {d : PyData} {k : Bool} (r : Rp K H u d) (e : truD d = some k) : TruV K u H k := by
  cases r with
  | non => cases e; rfl
  | bl b => cases e; rfl
  | int i => cases e; rfl
  | str h => cases e; exact ⟨okS_len h, rfl⟩
  | lst h z a => cases e; exact .inl ⟨_, .inl (.inl h), by rw [a.isEmpty]⟩
  | tup h z a => cases e; exact .inr (.inl ⟨_, h, by rw [a.isEmpty]⟩)
def dTru (f : De Va) : De Bool := fun s => (f s).bind fun v s => ofOpt ((valD v).bind truD) s
def dAndB (f h : De Bool) : De Bool := fun s => (f s).bind fun b s => if b = true then h s else .ok false s
def dOrB (f h : De Bool) : De Bool := fun s => (f s).bind fun b s => if b = true then .ok true s else h s
def dNotB (f : De Bool) : De Bool := fun s => (f s).bind fun b s => .ok (!b) s
def dAnd (f h : De Va) : De Va := fun s => (f s).bind fun v s => (ofOpt ((valD v).bind truD) s).bind fun b s => if b = true then h s else .ok v s
def dOr (f h : De Va) : De Va := fun s => (f s).bind fun v s => (ofOpt ((valD v).bind truD) s).bind fun b s => if b = true then .ok v s else h s
def dNot (f : De Va) : De Va := toV (dNotB (dTru f))
def dIte (c : De Bool) (f h : De Va) : De Va := fun s => (c s).bind fun b s => if b = true then f s else h s
section
variable {X : Cx} {mg : Str → Option Value} {W : WX} {a b c : Expr} {f h : De Va} {fb hb : De Bool} {pos : Pos} {rest : List Expr}
theorem pt_dTru (ha : PE X a (tE X.K mg W f)) (he : ∀ whole, isTrue a X.env whole = (do let v ← whole; standAt a.pos; holding [v] (truthy v))) : PT X a (tT X.K mg W (dTru f)) := by
  refine PT.by fun pins s₀ σ H Q I q => ⟨_, pt_truth ha he, ?_⟩
  obtain ⟨g, s, F, hK, hm, w, p⟩ := q
  refine tE_run hK hm w p fun v s1 F1 H1 u w1 m1 r1 p1 => ?_
  obtain ⟨k, e, q⟩ := ofOpt_post p1
  obtain ⟨d, e1, e2⟩ := Option.bind_eq_some_iff.mp e
  exact ⟨k, truD_ok (r1.look w1 e1 X.K hK.symm) e2, q F1 H1 w1 (Same.refl _)⟩
theorem pw_dAnd1 (ha : PT X a (tT X.K mg W fb)) : PW X (.BoolOp .And [a] pos) (tT X.K mg W fb) := pw_and1 ha
theorem pw_dOr1 (ha : PT X a (tT X.K mg W fb)) : PW X (.BoolOp .Or [a] pos) (tT X.K mg W fb) := pw_or1 ha
theorem pw_dAnd (ha : PT X a (tT X.K mg W fb)) (hr : PW X (.BoolOp .And (b :: rest) pos) (tT X.K mg W hb)) : PW X (.BoolOp .And (a :: b :: rest) pos) (tT X.K mg W (dAndB fb hb)) := by
  refine PW.by fun pins s₀ σ H Q I q => ⟨_, pw_and ha hr, ?_⟩
  obtain ⟨g, s, F, hK, hm, w, p⟩ := q
  refine tT_run hK hm w p fun k s1 F1 H1 w1 m1 p1 => ?_
  cases k with
  | false => exact p1 F1 H1 w1 (Same.refl _)
  | true => exact ⟨g, s1, F1, hK, hm, w1, p1⟩
theorem pw_dOr (ha : PT X a (tT X.K mg W fb)) (hr : PW X (.BoolOp .Or (b :: rest) pos) (tT X.K mg W hb)) : PW X (.BoolOp .Or (a :: b :: rest) pos) (tT X.K mg W (dOrB fb hb)) := by
  refine PW.by fun pins s₀ σ H Q I q => ⟨_, pw_or ha hr, ?_⟩
  obtain ⟨g, s, F, hK, hm, w, p⟩ := q
  refine tT_run hK hm w p fun k s1 F1 H1 w1 m1 p1 => ?_
  cases k with
  | true => exact p1 F1 H1 w1 (Same.refl _)
  | false => exact ⟨g, s1, F1, hK, hm, w1, p1⟩
theorem pt_dNot (ha : PT X a (tT X.K mg W fb)) : PT X (.UnaryOp .Not a pos) (tT X.K mg W (dNotB fb)) := by
  refine PT.by fun pins s₀ σ H Q I q => ⟨_, pt_not ha, ?_⟩
  obtain ⟨g, s, F, hK, hm, w, p⟩ := q
  exact tT_run hK hm w p fun k s1 F1 H1 w1 m1 p1 => p1 F1 H1 w1 (Same.refl _)
theorem pe_dNot (ha : PE X a (tE X.K mg W f)) : PE X (.UnaryOp .Not a pos) (tE X.K mg W (dNot f)) := by
  refine PE.by fun pins s₀ σ H Q I q => ⟨_, pe_notT ha, ?_⟩
  obtain ⟨g, s, F, hK, hm, w, p⟩ := q
  have p2 : Post g W σ F (((f s).bind fun v s => ofOpt ((valD v).bind truD) s).bind fun b s => (Res.ok (!b) s).bind fun b s => .ok (Va.dat (.bool b)) s) fun v s' F' H' => ∀ u, VRep g s' σ F' H' u v → Q u H' := by
    unfold dNot toV dNotB dTru at p
    cases e : (f s).bind fun v s => ofOpt ((valD v).bind truD) s with
    | ok a s => rw [e] at p; exact p
    | exc x s => rw [e] at p; exact p
    | bad => rw [e] at p; exact p
  have p3 : Post g W σ F ((f s).bind fun v s => (ofOpt ((valD v).bind truD) s).bind fun b s => .ok (Va.dat (.bool (!b))) s) fun v s' F' H' => ∀ u, VRep g s' σ F' H' u v → Q u H' := by
    cases e : f s with
    | ok a s => rw [e] at p2; exact p2
    | exc x s => rw [e] at p2; exact p2
    | bad => rw [e] at p2; exact p2
  refine tE_run hK hm w p3 fun v s1 F1 H1 u w1 m1 r1 p1 => ?_
  obtain ⟨k, e, q⟩ := ofOpt_post p1.bind
  obtain ⟨d, e1, e2⟩ := Option.bind_eq_some_iff.mp e
  exact ⟨k, truD_ok (r1.look w1 e1 X.K hK.symm) e2, q F1 H1 w1 (Same.refl _) F1 H1 w1 (Same.refl _) _ (.bl _)⟩
theorem pe_dOne {op : BoolOp} (ha : PE X a (tE X.K mg W f)) : PE X (.BoolOp op [a] pos) (tE X.K mg W f) := pe_one ha
theorem pe_dAnd (ha : PE X a (tE X.K mg W f)) (hr : PE X (.BoolOp .And (b :: rest) pos) (tE X.K mg W h)) : PE X (.BoolOp .And (a :: b :: rest) pos) (tE X.K mg W (dAnd f h)) := by
  refine PE.by fun pins s₀ σ H Q I q => ⟨_, pe_andT ha hr, ?_⟩
  obtain ⟨g, s, F, hK, hm, w, p⟩ := q
  refine tE_run hK hm w p fun v s1 F1 H1 u w1 m1 r1 p1 => ?_
  obtain ⟨k, e, q⟩ := ofOpt_post p1.bind
  obtain ⟨d, e1, e2⟩ := Option.bind_eq_some_iff.mp e
  have q1 := q F1 H1 w1 (Same.refl _)
  refine ⟨k, truD_ok (r1.look w1 e1 X.K hK.symm) e2, ?_⟩
  cases k with
  | true => exact ⟨g, s1, F1, hK, hm, w1, q1⟩
  | false => exact q1 F1 H1 w1 (Same.refl _) u r1
theorem pe_dOr (ha : PE X a (tE X.K mg W f)) (hr : PE X (.BoolOp .Or (b :: rest) pos) (tE X.K mg W h)) : PE X (.BoolOp .Or (a :: b :: rest) pos) (tE X.K mg W (dOr f h)) := by
  refine PE.by fun pins s₀ σ H Q I q => ⟨_, pe_orT ha hr, ?_⟩
  obtain ⟨g, s, F, hK, hm, w, p⟩ := q
  refine tE_run hK hm w p fun v s1 F1 H1 u w1 m1 r1 p1 => ?_
  obtain ⟨k, e, q⟩ := ofOpt_post p1.bind
  obtain ⟨d, e1, e2⟩ := Option.bind_eq_some_iff.mp e
  have q1 := q F1 H1 w1 (Same.refl _)
  refine ⟨k, truD_ok (r1.look w1 e1 X.K hK.symm) e2, ?_⟩
  cases k with
  | false => exact ⟨g, s1, F1, hK, hm, w1, q1⟩
  | true => exact q1 F1 H1 w1 (Same.refl _) u r1
theorem pe_dIte (hc : PT X c (tT X.K mg W fb)) (ha : PE X a (tE X.K mg W f)) (hb : PE X b (tE X.K mg W h)) : PE X (.IfExp c a b pos) (tE X.K mg W (dIte fb f h)) := by
  refine PE.by fun pins s₀ σ H Q I q => ⟨_, pe_ifExp hc ha hb, ?_⟩
  obtain ⟨g, s, F, hK, hm, w, p⟩ := q
  refine tT_run hK hm w p fun k s1 F1 H1 w1 m1 p1 => ?_
  cases k with
  | true => exact ⟨g, s1, F1, hK, hm, w1, p1⟩
  | false => exact ⟨g, s1, F1, hK, hm, w1, p1⟩
end

/-! ## argument lists, displays -/
def toArg : Va → De Va := fun v s => match v with
  | .dat d => .ok (.dat d) s
  | .own xs => .ok (.dat (.list xs)) s
  | .pot => .ok .pot s
  | .bor _ => .bad
def dNil : De (List Va) := fun s => .ok [] s
def dCons (f : De Va) (fs : De (List Va)) : De (List Va) := fun s => ((f s).bind toArg).bind fun v s => (fs s).bind fun vs s => .ok (v :: vs) s
def datOf : Va → Option PyData
  | .dat d => some d
  | _ => none
def datsOf : List Va → Option (List PyData)
  | [] => some []
  | .dat d :: r => (datsOf r).map (d :: ·)
  | _ :: _ => none
theorem AReps.dats {g : Gh} {F : Hp} : ∀ {us : List V} {vs : List Va} {ds : List PyData}, AReps g F us vs → datsOf vs = some ds → RpAll g.K F us ds
  | [], [], ds, _, e => by cases e; exact .nil
  | u :: us, .dat d :: vs, ds, ⟨a, b⟩, e => by
    obtain ⟨r, e1, rfl⟩ := Option.map_eq_some_iff.mp (show (datsOf vs).map (d :: ·) = some ds from e)
    exact .cons a (AReps.dats b e1)
  | u :: us, .pot :: vs, ds, _, e => nomatch (show none = some ds from e)
  | u :: us, .own _ :: vs, ds, _, e => nomatch (show none = some ds from e)
  | u :: us, .bor _ :: vs, ds, _, e => nomatch (show none = some ds from e)
  | [], _ :: _, _, h, _ => h.elim
  | _ :: _, [], _, h, _ => h.elim
theorem AReps.length {g : Gh} {F : Hp} : ∀ {us : List V} {vs : List Va}, AReps g F us vs → us.length = vs.length
  | [], [], _ => rfl
  | _ :: _, _ :: _, ⟨_, b⟩ => by simp [AReps.length b]
  | [], _ :: _, h => h.elim
  | _ :: _, [], h => h.elim
def dTup (fs : De (List Va)) : De Va := fun s => (fs s).bind fun vs s => ofOpt ((datsOf vs).bind fun ds => if ds.length ≤ 16777216 then some (.dat (.tuple ds)) else none) s
def dLst (fs : De (List Va)) : De Va := fun s => (fs s).bind fun vs s => ofOpt ((datsOf vs).bind fun ds => if ds.length ≤ 16777216 then some (.own ds) else none) s
section
variable {X : Cx} {mg : Str → Option Value} {W : WX} {e : Expr} {es : List Expr} {f : De Va} {fs : De (List Va)} {pos : Pos}
/-- an expression runs, its value is an argument -/
theorem tE_arg {g : Gh} {s : Stt} {σ : L2.St} {F H : Hp} {β : Type} {h : Va → De β} {k : β → Stt → Hp → Hp → Prop} {R : VK} (hK : g.K = X.K) (hm : g.mg = mg) (w : Wf g s σ F H) (p : Post g W σ F (((f s).bind toArg).bind h) k)
    (c : ∀ v s1 F1 H1 u, Wf g s1 σ F1 H1 → Same F F1 → ARep g F1 u v → Post g W σ F1 (h v s1) k → R u H1) : tE X.K mg W f σ H R := by
  refine ⟨g, s, F, hK, hm, w, ?_⟩
  refine p.bind.bind.imp fun v s1 F1 H1 w1 m1 q u r => ?_
  cases v with
  | dat d => exact c (.dat d) s1 F1 H1 u w1 m1 r (q F1 H1 w1 (Same.refl _))
  | own xs =>
    obtain ⟨a, rfl, o, ap⟩ := r
    obtain ⟨F2, w2, m2, r2⟩ := w1.freeze o ap
    exact c (.dat (.list xs)) s1 F2 H1 _ w2 (m1.trans m2) r2 (q F2 H1 w2 m2)
  | bor _ => exact q.elim
  | pot => exact c .pot s1 F1 H1 u w1 m1 r (q F1 H1 w1 (Same.refl _))
theorem pa_dNil : PA X [] (tA X.K mg W dNil) := by
  refine PA.by fun pins s₀ σ H Q I q => ⟨_, pa_nil, ?_⟩
  obtain ⟨g, s, F, hK, hm, w, p⟩ := q
  exact p F H w (Same.refl _) [] trivial
theorem pa_dCons (he : PE X e (tE X.K mg W f)) (hr : PA X es (tA X.K mg W fs)) (hs : starEach (e :: es) X.env = (false, eval e X.env) :: starEach es X.env) : PA X (e :: es) (tA X.K mg W (dCons f fs)) := by
  refine PA.by fun pins s₀ σ H Q I q => ⟨_, pa_cons he hr hs, ?_⟩
  obtain ⟨g, s, F, hK, hm, w, p⟩ := q
  refine tE_arg hK hm w p fun v s1 F1 H1 u w1 m1 r1 p1 => ?_
  refine tA_run hK hm w1 p1 fun vs s2 F2 H2 us w2 m2 r2 p2 => ?_
  exact p2 F2 H2 w2 (Same.refl _) (u :: us) ⟨r1.mono m2, r2⟩
theorem pe_dTup {k : Nat} (h : PA X es (tA X.K mg W fs)) : PE X (.Tuple es k pos) (tE X.K mg W (dTup fs)) := by
  refine PE.by fun pins s₀ σ H Q I q => ⟨_, pe_tup h, ?_⟩
  obtain ⟨g, s, F, hK, hm, w, p⟩ := q
  refine tA_run hK hm w p fun vs s1 F1 H1 us w1 m1 r1 p1 => ?_
  obtain ⟨v, e, q⟩ := ofOpt_post p1
  obtain ⟨ds, e1, e2⟩ := Option.bind_eq_some_iff.mp e
  split at e2
  · rename_i z
    cases e2
    have r2 := r1.dats e1
    have z' : us.length ≤ sizeLine := by rw [r2.length, sizeLine_eq]; exact z
    refine ⟨z', fun p hp => ?_⟩
    have hF := w1.none_of hp
    exact q _ _ (w1.alloc hp _) (same_upd hF) _ (.tup (SqT.of upd_same) z' (r2.mono (same_upd hF)))
  · cases e2
theorem pe_dLst (h : PA X es (tA X.K mg W fs)) : PE X (.List es pos) (tE X.K mg W (dLst fs)) := by
  refine PE.by fun pins s₀ σ H Q I q => ⟨_, pe_lst h, ?_⟩
  obtain ⟨g, s, F, hK, hm, w, p⟩ := q
  refine tA_run hK hm w p fun vs s1 F1 H1 us w1 m1 r1 p1 => ?_
  obtain ⟨v, e, q⟩ := ofOpt_post p1
  obtain ⟨ds, e1, e2⟩ := Option.bind_eq_some_iff.mp e
  split at e2
  · rename_i z
    cases e2
    have r2 := r1.dats e1
    have z' : us.length ≤ sizeLine := by rw [r2.length, sizeLine_eq]; exact z
    refine ⟨z', fun p hp => ?_⟩
    obtain ⟨w2, r3⟩ := w1.own_new hp z' r2
    exact q _ _ w2 (Same.refl _) _ r3
  · cases e2
end

/-! ## subscripts -/
/-- a thing that is read: its items are frozen -/
def CRp (K : PySem.W.Frag) (F H : Hp) (u : V) : PyData → Prop
  | .list xs => ∃ p vs, u = .ref p ∧ H p = some (.lst vs) ∧ vs.length ≤ sizeLine ∧ RpAll K F vs xs
  | .tuple xs => ∃ p vs, u = .ref p ∧ SqT K F p vs ∧ vs.length ≤ sizeLine ∧ RpAll K F vs xs
  | d => Rp K F u d
theorem CRp.of {K : PySem.W.Frag} {F H : Hp} {u : V} {d : PyData} (m : Same F H) (r : Rp K F u d) : CRp K F H u d := by
  cases r with
  | lst h z a => exact ⟨_, _, rfl, m _ _ h, z, a⟩
  | tup h z a => exact ⟨_, _, rfl, h, z, a⟩
  | non => exact .non
  | bl b => exact .bl b
  | int i => exact .int i
  | str h => exact .str h
theorem CRp.rp {K : PySem.W.Frag} {F H : Hp} {u : V} {d : PyData} (m : Same F H) (r : CRp K F H u d) : Rp K H u d := by
  cases d with
  | list xs => obtain ⟨p, vs, rfl, h, z, a⟩ := r; exact .lst h z (a.mono m)
  | tuple xs => obtain ⟨p, vs, rfl, h, z, a⟩ := r; exact .tup (seqT m h) z (a.mono m)
  | none => exact Rp.mono m r
  | bool _ => exact Rp.mono m r
  | int _ => exact Rp.mono m r
  | str _ => exact Rp.mono m r
  | dict _ => exact Rp.mono m r
theorem VRep.con {g : Gh} {s : Stt} {σ : L2.St} {F H : Hp} {u : V} {v : Va} {d : PyData} (w : Wf g s σ F H) (r : VRep g s σ F H u v) (e : valD v = some d) : CRp g.K F H u d := by
  cases v with
  | dat d' => cases (show some d' = some d from e); exact CRp.of w.sub r
  | own xs =>
    cases e
    obtain ⟨a, rfl, o, ap⟩ := r
    obtain ⟨vs, e1, z, r1⟩ := o.at_
    exact ⟨a, vs, rfl, e1, z, r1⟩
  | bor xs =>
    cases e
    obtain ⟨a, vs, rfl, e1, z, r1⟩ := r
    exact ⟨a, vs, rfl, e1, z, r1⟩
  | pot => cases e
/-- what a slot holds, as data -/
def slotD (s : Stt) (i : Nat) : Option PyData := match s.ρ[i]? with
  | some (some (.dat d)) => some d
  | some (some (.own xs)) => some (.list xs)
  | some (some .pot) => some (.list s.S)
  | _ => none
theorem slotD_rp {g : Gh} {s : Stt} {σ : L2.St} {F H : Hp} {i : Nat} {d : PyData} (w : Wf g s σ F H) (e : slotD s i = some d) : ∃ u, σ[i]? = some (some u) ∧ CRp g.K F H u d := by
  unfold slotD at e
  split at e
  · rename_i d' h
    cases e
    obtain ⟨u, e1, r⟩ := w.slots i _ h
    exact ⟨u, e1, CRp.of w.sub r⟩
  · rename_i xs h
    cases e
    obtain ⟨u, e1, a, rfl, o⟩ := w.slots i _ h
    obtain ⟨vs, e2, z, r⟩ := o.at_
    exact ⟨_, e1, a, vs, rfl, e2, z, r⟩
  · rename_i h
    cases e
    obtain ⟨u, e1, r⟩ := w.slots i _ h
    cases (show u = .ref g.pa from r)
    obtain ⟨vs, e2, z, r2⟩ := w.pot
    exact ⟨_, e1, _, vs, rfl, e2, z, r2⟩
  · cases e
def idxD : PyData → PyData → Option PyData
  | .list xs, .int i => atI xs i
  | .tuple xs, .int i => atI xs i
  | .str x, .int i => (atI x.cps.toList i).map fun c => .str ⟨#[c]⟩
  | _, _ => none
theorem atI_of {α β : Type} {xs : List α} {ys : List β} {i : Int} {d : β} (hl : xs.length = ys.length) (h : atI ys i = some d) : ∃ j : Nat, ys[j]? = some d ∧ ∀ v, xs[j]? = some v → atI xs i = some v := by
  unfold atI at h
  obtain ⟨j, e1, e2⟩ := Option.bind_eq_some_iff.mp h
  refine ⟨j, e2, fun v hv => ?_⟩
  unfold atI
  rw [hl, e1]
  exact hv
theorem okS_sign {x : Str} (h : okS x = true) {i : Int} {c : Nat} (e : atI x.cps.toList i = some c) : okS ⟨#[c]⟩ = true := by
  unfold atI at e
  obtain ⟨j, e1, e2⟩ := Option.bind_eq_some_iff.mp e
  have hm : c ∈ x.cps := by
    have := List.mem_of_getElem? e2
    exact Array.mem_toList_iff.mp this
  unfold okS at *
  simp only [Bool.and_eq_true, decide_eq_true_eq] at *
  have h1 := h.1
  unfold PyData.strOk at *
  have h2 := (Array.all_eq_true_iff_forall_mem.mp h1) c hm
  refine ⟨?_, ?_⟩
  · simp at h2 ⊢
    exact h2
  · show (1 : Nat) ≤ _
    omega
def rMaxIx (X : Cx) : R2 := fun x y H Q => ∃ r : R2, IxR X r ∧ r x y H Q
theorem rMaxIx_ok {X : Cx} : IxR X (rMaxIx X) := fun value slice pins s σ H x y v u Q I rx ry ⟨r, ho, q⟩ hs => ho value slice pins s σ H x y v u Q I rx ry q hs
theorem idxD_ok {X : Cx} {K : PySem.W.Frag} {F H : Hp} {x y : V} {a b d : PyData} {Q : VK} (hK : K = X.K) (m : Same F H) (rx : CRp K F H x a) (ry : Rp K F y b) (e : idxD a b = some d) (q : ∀ u, Rp K F u d → Q u H) : rMaxIx X x y H Q := by
  unfold idxD at e
  split at e
  · cases ry
    obtain ⟨p, vs, rfl, h, z, ra⟩ := rx
    obtain ⟨j, e1, e2⟩ := atI_of ra.length e
    obtain ⟨v, e3, r⟩ := ra.get e1
    exact ⟨_, ix_list, _, _, _, v, rfl, rfl, .inl (.inl h), e2 v e3, q v r⟩
  · cases ry
    obtain ⟨p, vs, rfl, h, z, ra⟩ := rx
    obtain ⟨j, e1, e2⟩ := atI_of ra.length e
    obtain ⟨v, e3, r⟩ := ra.get e1
    have h := seqT m h
    rw [hK] at h
    exact ⟨_, ix_tup, _, _, _, v, rfl, rfl, h, e2 v e3, q v r⟩
  · rename_i z i
    cases ry
    have rx : Rp K F x (.str z) := rx
    cases rx with
    | str h =>
      obtain ⟨c, e1, rfl⟩ := Option.map_eq_some_iff.mp e
      exact ⟨_, ix_str, z, i, c, rfl, rfl, okS_len h, e1, q _ (.str (okS_sign h e1))⟩
  · cases e
def dIdx (f h : De Va) : De Va := fun s => (dFrz f s).bind fun a s => (dFrz h s).bind fun b s => ofOpt ((idxD a b).map Va.dat) s
/-- the subscript of a name: what it holds behind the index -/
def dIdxV (i : Nat) (h : De Va) : De Va := fun s => match s.ρ[i]? with
  | some (some _) => (dFrz h s).bind fun b s => ofOpt ((slotD s i).bind fun a => (idxD a b).map Va.dat) s
  | _ => .bad
/-! slices -/
abbrev dO := De (Option Int)
def tOp2 (K : PySem.W.Frag) (mg : Str → Option Value) (W : WX) (f : dO) : TO := fun σ H Q =>
  ∃ g s F, g.K = K ∧ g.mg = mg ∧ Wf g s σ F H ∧ Post g W σ F (f s) fun o _ _ H' => Q o H'
def dNo : dO := fun s => .ok none s
def dSome (f : De Va) : dO := fun s => (dFrz f s).bind fun a s => match a with
  | .int i => .ok (some i) s
  | _ => .bad
def cutL {α : Type} (xs : List α) (lo hi : Option Int) : List α := (xs.drop (HT.sIx xs.length 0 lo)).take (HT.sIx xs.length xs.length hi - HT.sIx xs.length 0 lo)
def cutD : PyData → Option Int → Option Int → Option Va
  | .list xs, lo, hi => some (.own (cutL xs lo hi))
  | .tuple xs, lo, hi => some (.dat (.tuple (cutL xs lo hi)))
  | .str x, lo, hi => some (.dat (.str (cutS x lo hi)))
  | _, _, _ => none
def dCut (f : De Va) (l h : dO) : De Va := fun s => (dFrz f s).bind fun a s => (l s).bind fun lo s => (h s).bind fun hi s => ofOpt (cutD a lo hi) s
def dCutV (i : Nat) (l h : dO) : De Va := fun s => match s.ρ[i]? with
  | some (some _) => (l s).bind fun lo s => (h s).bind fun hi s => ofOpt ((slotD s i).bind fun a => cutD a lo hi) s
  | _ => .bad
theorem okS_cut {x : Str} (h : okS x = true) (lo hi : Option Int) : okS (cutS x lo hi) = true := by
  have hl := cutS_length x lo hi
  unfold okS at *
  simp only [Bool.and_eq_true, decide_eq_true_eq] at *
  refine ⟨?_, by omega⟩
  have h1 := h.1
  unfold PyData.strOk at *
  rw [Array.all_eq_true_iff_forall_mem] at *
  intro c hc
  refine h1 c ?_
  have hc' : c ∈ (cutS x lo hi).cps.toList := Array.mem_toList_iff.mpr hc
  have : c ∈ x.cps.toList := List.mem_of_mem_drop (List.mem_of_mem_take hc')
  exact Array.mem_toList_iff.mp this
theorem RpAll.cut {K : PySem.W.Frag} {F : Hp} {ds : List PyData} {vs : List V} (r : RpAll K F vs ds) (lo hi : Option Int) : RpAll K F (cutV vs lo hi) (cutL ds lo hi) := by
  unfold cutV cutL
  rw [r.length]
  exact (r.drop _).take _
theorem cutL_whole {α : Type} {xs : List α} {lo hi : Option Int} (h : HT.sIx xs.length 0 lo = 0 ∧ HT.sIx xs.length xs.length hi = xs.length) : cutL xs lo hi = xs := by
  unfold cutL
  rw [h.1, h.2, List.drop_zero, Nat.sub_zero, List.take_length]
def rMaxSl (X : Cx) : V → Option Int → Option Int → Hp → VK → Prop := fun x lo hi H Q => ∃ r, SlR X r ∧ r x lo hi H Q
theorem rMaxSl_ok {X : Cx} : SlR X (rMaxSl X) := by
  intro pins s σ H x v vl vu lo hi sl Q I rx hs pl pu ⟨r, ho, q⟩
  exact ho pins s σ H x v vl vu lo hi sl Q I rx hs pl pu q
theorem cutD_ok {X : Cx} {g : Gh} {s : Stt} {σ : L2.St} {F H : Hp} {x : V} {a : PyData} {v : Va} {lo hi : Option Int} {Q : VK} (hK : g.K = X.K) (w : Wf g s σ F H) (rx : CRp g.K F H x a) (e : cutD a lo hi = some v)
    (q : ∀ u F' H', Wf g s σ F' H' → Same F F' → VRep g s σ F' H' u v → Q u H') : rMaxSl X x lo hi H Q := by
  unfold cutD at e
  split at e
  · cases e
    obtain ⟨p, vs, rfl, h, z, ra⟩ := rx
    refine ⟨_, sl_list, p, vs, rfl, .inl (.inl h), fun l hl => ?_⟩
    obtain ⟨w2, r2⟩ := w.own_new hl (Nat.le_trans (cutV_length vs lo hi) z) (ra.cut lo hi)
    exact q _ F _ w2 (Same.refl _) r2
  · cases e
    obtain ⟨p, vs, rfl, h, z, ra⟩ := rx
    have hF := seqT w.sub h
    rw [hK] at hF
    refine ⟨_, sl_tupA, p, vs, rfl, hF, fun hw => ?_, fun _ l hl => ?_⟩
    · rw [ra.length] at hw
      refine q _ F H w (Same.refl _) ?_
      show Rp g.K F (.ref p) (.tuple (cutL _ lo hi))
      rw [cutL_whole hw]
      exact .tup h z ra
    · have hF := w.none_of hl
      exact q _ _ _ (w.alloc hl _) (same_upd hF) (.tup (SqT.of upd_same) (Nat.le_trans (cutV_length vs lo hi) z) ((ra.cut lo hi).mono (same_upd hF)))
  · cases e
    rename_i z
    have rx : Rp g.K F x (.str z) := rx
    cases rx with
    | str h => exact ⟨_, sl_str, z, rfl, okS_len h, q _ F H w (Same.refl _) (.str (okS_cut h lo hi))⟩
  · cases e
section
variable {X : Cx} {mg : Str → Option Value} {W : WX} {i : Nat} {x : Str} {a b : Expr} {f h : De Va} {l u : dO} {pos p2 pos' : Pos} {lo hi : Option Expr}
theorem pe_dIdx (ha : PE X a (tE X.K mg W f)) (hb : PE X b (tE X.K mg W h)) (hs : PlainIx b) : PE X (.Subscript a b pos) (tE X.K mg W (dIdx f h)) := by
  refine PE.by fun pins s₀ σ H Q I q => ⟨_, pe_ix rMaxIx_ok ha hb hs, ?_⟩
  obtain ⟨g, s, F, hK, hm, w, p⟩ := q
  refine tE_frz hK hm w p fun d s1 F1 H1 u w1 m1 r1 p1 => ?_
  refine tE_frz hK hm w1 p1 fun d2 s2 F2 H2 u2 w2 m2 r2 p2 => ?_
  obtain ⟨v, e, q⟩ := ofOpt_post p2
  obtain ⟨d3, e3, rfl⟩ := Option.map_eq_some_iff.mp e
  exact idxD_ok hK w2.sub (CRp.of w2.sub (r1.mono m2)) r2 e3 fun u' r' => q F2 H2 w2 (Same.refl _) u' r'
theorem pe_dIdxV (hN : X.N[i]? = some x) (hv : Vis X.env.scope x) (hd : (x == ("__debug__" : Str)) = false) (hcd : (x == ("__classdict__" : Str)) = false) (hb : PE X b (tE X.K mg W h)) (hs : PlainIx b) : PE X (.Subscript (.Name x pos) b pos') (tE X.K mg W (dIdxV i h)) := by
  refine PE.by fun pins s₀ σ H Q I q => ⟨_, pe_ix rMaxIx_ok (pe_var hN hv hd hcd) hb hs, ?_⟩
  obtain ⟨g, s, F, hK, hm, w, p⟩ := q
  unfold dIdxV at p
  split at p
  · rename_i va e0
    obtain ⟨u0, e1, _⟩ := w.slots i _ e0
    refine ⟨u0, e1, ?_⟩
    refine tE_frz hK hm w p fun d2 s2 F2 H2 u2 w2 m2 r2 p2 => ?_
    obtain ⟨v, e, q⟩ := ofOpt_post p2
    obtain ⟨d1, e2, e3⟩ := Option.bind_eq_some_iff.mp e
    obtain ⟨d3, e5, rfl⟩ := Option.map_eq_some_iff.mp e3
    obtain ⟨u1, e4, r1⟩ := slotD_rp w2 e2
    rw [e1] at e4; cases e4
    exact idxD_ok hK w2.sub r1 r2 e5 fun u' r' => q F2 H2 w2 (Same.refl _) u' r'
  · exact p.elim
theorem po_dNo : PO X none (tOp2 X.K mg W dNo) := by
  refine ⟨fun pins s₀ σ H Q I q => po_none.run pins s₀ σ H Q I ?_⟩
  obtain ⟨g, s, F, hK, hm, w, p⟩ := q
  exact p F H w (Same.refl _)
theorem po_dSome (ha : PE X a (tE X.K mg W f)) : PO X (some a) (tOp2 X.K mg W (dSome f)) := by
  refine ⟨fun pins s₀ σ H Q I q => (po_some ha).run pins s₀ σ H Q I ?_⟩
  obtain ⟨g, s, F, hK, hm, w, p⟩ := q
  refine tE_frz hK hm w p fun d s1 F1 H1 u w1 m1 r1 p1 => ?_
  cases d with
  | int i =>
    cases r1
    exact ⟨i, rfl, p1 F1 H1 w1 (Same.refl _)⟩
  | _ => exact p1.elim
theorem tO_run {K : PySem.W.Frag} {g : Gh} {s : Stt} {σ : L2.St} {F H : Hp} {β : Type} {f : dO} {h : Option Int → De β} {k : β → Stt → Hp → Hp → Prop} {R : Option Int → Hp → Prop} (hK : g.K = K) (hm : g.mg = mg) (w : Wf g s σ F H) (p : Post g W σ F ((f s).bind h) k)
    (c : ∀ b s1 F1 H1, Wf g s1 σ F1 H1 → Same F F1 → Post g W σ F1 (h b s1) k → R b H1) : tOp2 K mg W f σ H R := by
  refine ⟨g, s, F, hK, hm, w, ?_⟩
  exact p.bind.imp fun v s1 F1 H1 w1 m1 q => c v s1 F1 H1 w1 m1 q
theorem pe_dCut (ha : PE X a (tE X.K mg W f)) (hl : PO X lo (tOp2 X.K mg W l)) (hu : PO X hi (tOp2 X.K mg W u)) : PE X (.Subscript a (.Slice lo hi none p2) pos) (tE X.K mg W (dCut f l u)) := by
  refine PE.by fun pins s₀ σ H Q I q => ⟨_, pe_slice rMaxSl_ok ha hl hu, ?_⟩
  obtain ⟨g, s, F, hK, hm, w, p⟩ := q
  refine tE_frz hK hm w p fun d s1 F1 H1 u w1 m1 r1 p1 => ?_
  refine tO_run hK hm w1 p1 fun lo s2 F2 H2 w2 m2 p2 => ?_
  refine tO_run hK hm w2 p2 fun hi s3 F3 H3 w3 m3 p3 => ?_
  obtain ⟨v, e, q⟩ := ofOpt_post p3
  exact cutD_ok hK w3 (CRp.of w3.sub ((r1.mono m2).mono m3)) e fun u' F' H' w' m' r' => q F' H' w' m' u' r'
theorem pe_dCutV (hN : X.N[i]? = some x) (hv : Vis X.env.scope x) (hd : (x == ("__debug__" : Str)) = false) (hcd : (x == ("__classdict__" : Str)) = false) (hl : PO X lo (tOp2 X.K mg W l)) (hu : PO X hi (tOp2 X.K mg W u)) : PE X (.Subscript (.Name x pos') (.Slice lo hi none p2) pos) (tE X.K mg W (dCutV i l u)) := by
  refine PE.by fun pins s₀ σ H Q I q => ⟨_, pe_slice rMaxSl_ok (pe_var hN hv hd hcd) hl hu, ?_⟩
  obtain ⟨g, s, F, hK, hm, w, p⟩ := q
  unfold dCutV at p
  split at p
  · rename_i va e0
    obtain ⟨u0, e1, _⟩ := w.slots i _ e0
    refine ⟨u0, e1, ?_⟩
    refine tO_run hK hm w p fun lo s2 F2 H2 w2 m2 p2 => ?_
    refine tO_run hK hm w2 p2 fun hi s3 F3 H3 w3 m3 p3 => ?_
    obtain ⟨v, e, q⟩ := ofOpt_post p3
    obtain ⟨d1, e2, e3⟩ := Option.bind_eq_some_iff.mp e
    obtain ⟨u1, e4, r1⟩ := slotD_rp w3 e2
    rw [e1] at e4; cases e4
    exact cutD_ok hK w3 r1 e3 fun u' F' H' w' m' r' => q F' H' w' m' u' r'
  · exact p.elim
end
end Ev

namespace Ev
open PySem PySem.Spec PyProof.Rows L2

/-! ## statements -/
inductive SR where
  | nx (s : Stt)
  | rt (v : Va) (s : Stt)
  | bk (s : Stt)
  | ct (s : Stt)
  | exc (x : Exn) (s : Stt)
  | bad
abbrev Ds := Stt → SR
def SR.seq : SR → Ds → SR
  | .nx s, h => h s
  | r, _ => r
def Res.toS {α : Type} : Res α → (α → Stt → SR) → SR
  | .ok a s, h => h a s
  | .exc x s, _ => .exc x s
  | .bad, _ => .bad
def PostS (g : Gh) (W : WX) (F : Hp) (r : SR) (D : Ends) : Prop :=
  match r with
  | .nx s => ∀ σ' F' H', Wf g s σ' F' H' → Same F F' → D.nx σ' H'
  | .rt v s => ∀ σ' F' H' u, Wf g s σ' F' H' → Same F F' → VRep g s σ' F' H' u v → D.rt u H'
  | .bk s => ∀ σ' F' H', Wf g s σ' F' H' → Same F F' → D.bk σ' H'
  | .ct s => ∀ σ' F' H', Wf g s σ' F' H' → Same F F' → D.ct σ' H'
  | .exc x s => ∀ σ' F' H' cls d, Wf g s σ' F' H' → Same F F' → XRep g F' x cls d → W cls d σ' H'
  | .bad => False
def tS (K : PySem.W.Frag) (mg : Str → Option Value) (W : WX) (f : Ds) : TS := fun D σ H => ∃ g s F, g.K = K ∧ g.mg = mg ∧ Wf g s σ F H ∧ PostS g W F (f s) D
section
variable {g : Gh} {W : WX} {F F' : Hp} {r : SR} {D D' : Ends}
theorem PostS.mono (e : Same F F') (p : PostS g W F r D) : PostS g W F' r D := by
  cases r with
  | nx s => exact fun σ' F1 H1 w m => p σ' F1 H1 w (e.trans m)
  | rt v s => exact fun σ' F1 H1 u w m => p σ' F1 H1 u w (e.trans m)
  | bk s => exact fun σ' F1 H1 w m => p σ' F1 H1 w (e.trans m)
  | ct s => exact fun σ' F1 H1 w m => p σ' F1 H1 w (e.trans m)
  | exc x s => exact fun σ' F1 H1 cls d w m => p σ' F1 H1 cls d w (e.trans m)
  | bad => exact p
/-- an expression at the head of a statement -/
theorem Post.toS {α : Type} {x : Res α} {h : α → Stt → SR} {σ : L2.St} (p : PostS g W F (x.toS h) D) : Post g W σ F x fun a s F' _ => PostS g W F' (h a s) D := by
  cases x with
  | ok a s => exact fun F1 H1 w m => PostS.mono m p
  | exc x s => exact fun F1 H1 cls d w m => p σ F1 H1 cls d w m
  | bad => exact p
theorem PostS.seq {h : Ds} (p : PostS g W F (r.seq h) D) (k : ∀ s σ' F' H', r = .nx s → Wf g s σ' F' H' → Same F F' → PostS g W F' (h s) D → D'.nx σ' H') (e1 : D'.rt = D.rt) (e2 : D'.bk = D.bk) (e3 : D'.ct = D.ct) : PostS g W F r D' := by
  cases r with
  | nx s => exact fun σ' F1 H1 w m => k s σ' F1 H1 rfl w m (PostS.mono m p)
  | rt v s => exact fun σ' F1 H1 u w m r => by rw [e1]; exact p σ' F1 H1 u w m r
  | bk s => exact fun σ' F1 H1 w m => by rw [e2]; exact p σ' F1 H1 w m
  | ct s => exact fun σ' F1 H1 w m => by rw [e3]; exact p σ' F1 H1 w m
  | exc x s => exact p
  | bad => exact p
end
def dSkip : Ds := fun s => .nx s
def dSeq (f h : Ds) : Ds := fun s => (f s).seq h
section
variable {X : Cx} {mg : Str → Option Value} {W : WX} {st : Stmt} {rest : List Stmt} {f h : Ds} {e : Expr} {fe : De Va} {pos : Pos}
theorem pss_dNil : PSs X [] (tS X.K mg W dSkip) := by
  refine PSs.by fun pins s₀ σ H D I q => ⟨_, pss_nil, ?_⟩
  obtain ⟨g, s, F, hK, hm, w, p⟩ := q
  exact p σ F H w (Same.refl _)
theorem pss_dCons (h1 : PS X st (tS X.K mg W f)) (h2 : PSs X rest (tS X.K mg W h)) : PSs X (st :: rest) (tS X.K mg W (dSeq f h)) := by
  refine PSs.by fun pins s₀ σ H D I q => ⟨_, pss_cons h1 h2, ?_⟩
  obtain ⟨g, s, F, hK, hm, w, p⟩ := q
  exact ⟨g, s, F, hK, hm, w, PostS.seq p (fun s σ' F' H' _ w' m' p' => ⟨g, s, F', hK, hm, w', p'⟩) rfl rfl rfl⟩
theorem ps_dPass : PS X (.Pass pos) (tS X.K mg W dSkip) := by
  refine PS.by fun pins s₀ σ H D I q => ⟨_, ps_pass, ?_⟩
  obtain ⟨g, s, F, hK, hm, w, p⟩ := q
  exact p σ F H w (Same.refl _)
def dBrk : Ds := fun s => .bk s
def dCont : Ds := fun s => .ct s
theorem ps_dBrk : PS X (.Break pos) (tS X.K mg W dBrk) := by
  refine PS.by fun pins s₀ σ H D I q => ⟨_, ps_break, ?_⟩
  obtain ⟨g, s, F, hK, hm, w, p⟩ := q
  exact p σ F H w (Same.refl _)
theorem ps_dCont : PS X (.Continue pos) (tS X.K mg W dCont) := by
  refine PS.by fun pins s₀ σ H D I q => ⟨_, ps_continue, ?_⟩
  obtain ⟨g, s, F, hK, hm, w, p⟩ := q
  exact p σ F H w (Same.refl _)
def dRet (f : De Va) : Ds := fun s => (f s).toS fun v s => .rt v s
theorem ps_dRet (he : PE X e (tE X.K mg W fe)) : PS X (.Return (some e) pos) (tS X.K mg W (dRet fe)) := by
  refine PS.by fun pins s₀ σ H D I q => ⟨_, ps_ret he, ?_⟩
  obtain ⟨g, s, F, hK, hm, w, p⟩ := q
  refine ⟨g, s, F, hK, hm, w, ?_⟩
  exact (Post.toS p).imp fun v s1 F1 H1 w1 m1 q u r => q σ F1 H1 u w1 (Same.refl _) r
def dRetN : Ds := fun s => .rt (.dat .none) s
theorem ps_dRetN : PS X (.Return none pos) (tS X.K mg W dRetN) := by
  refine PS.by fun pins s₀ σ H D I q => ⟨_, ps_retN, ?_⟩
  obtain ⟨g, s, F, hK, hm, w, p⟩ := q
  exact p σ F H .non w (Same.refl _) .non
/-- a value is dropped -/
def dDrop (f : De Va) : Ds := fun s => (f s).toS fun _ s => .nx s
theorem ps_dDrop (he : PE X e (tE X.K mg W fe)) (hs : swapsWith e none pos.line X.env = pure false) : PS X (.Expr e pos) (tS X.K mg W (dDrop fe)) := by
  refine PS.by fun pins s₀ σ H D I q => ⟨_, ps_expr he hs, ?_⟩
  obtain ⟨g, s, F, hK, hm, w, p⟩ := q
  refine ⟨g, s, F, hK, hm, w, ?_⟩
  exact (Post.toS p).imp fun v s1 F1 H1 w1 m1 q u r => q σ F1 H1 w1 (Same.refl _)
/-- name = value -/
def putV (i : Nat) : Va → Ds := fun v s => match v with
  | .bor _ => .bad
  | v => .nx ⟨s.ρ.set i (some v), s.S⟩
def dSet (i : Nat) (f : De Va) : Ds := fun s => (f s).toS (putV i)
theorem putV_nx {i : Nat} {v : Va} {s : Stt} {g : Gh} {F : Hp} {D : Ends} (p : PostS g W F (putV i v s) D) : (∀ xs, v ≠ .bor xs) ∧ PostS g W F (.nx ⟨s.ρ.set i (some v), s.S⟩) D := by
  cases v with
  | dat d => exact ⟨(fun _ z => nomatch z), p⟩
  | own d => exact ⟨(fun _ z => nomatch z), p⟩
  | pot => exact ⟨(fun _ z => nomatch z), p⟩
  | bor xs => exact p.elim
theorem ps_dSet {i : Nat} {x : Str} {pos' : Pos} (hN : X.N.Nodup) (hi : X.N[i]? = some x) (hx : Loc X.env.scope x) (he : PE X e (tE X.K mg W fe)) (hs : swapsWith e (some (.Name x pos')) pos.line X.env = pure false) (hf : X.fn x = true ∨ X.env.scope.names.lookup x = some .local) :
    PS X (.Assign [.Name x pos'] e pos) (tS X.K mg W (dSet i fe)) := by
  refine PS.by fun pins s₀ σ H D I q => ⟨_, ps_set hN hi hx he hs hf, ?_⟩
  obtain ⟨g, s, F, hK, hm, w, p⟩ := q
  refine ⟨g, s, F, hK, hm, w, ?_⟩
  refine (Post.toS p).imp fun v s1 F1 H1 w1 m1 q u r => ?_
  obtain ⟨nb, q⟩ := putV_nx q
  have hl : i < σ.length := by rw [I.len]; exact (List.getElem?_eq_some_iff.mp hi).1
  exact q _ F1 H1 (w1.store hl r nb) (Same.refl _)
/-- if -/
def dIf (c : De Bool) (f h : Ds) : Ds := fun s => (c s).toS fun b s => if b = true then f s else h s
theorem ps_dIf {c : Expr} {a b : List Stmt} {fc : De Bool} (hc : PT X c (tT X.K mg W fc)) (ha : PSs X a (tS X.K mg W f)) (hb : PSs X b (tS X.K mg W h)) : PS X (.If c a b pos) (tS X.K mg W (dIf fc f h)) := by
  refine PS.by fun pins s₀ σ H D I q => ⟨_, ps_if hc ha hb, ?_⟩
  obtain ⟨g, s, F, hK, hm, w, p⟩ := q
  refine ⟨g, s, F, hK, hm, w, ?_⟩
  refine (Post.toS p).imp fun k s1 F1 H1 w1 m1 q => ?_
  cases k with
  | true => exact ⟨g, s1, F1, hK, hm, w1, q⟩
  | false => exact ⟨g, s1, F1, hK, hm, w1, q⟩
end

/-! ## while -/
def whileD (c : De Bool) (body : Ds) : Nat → Ds
  | 0, _ => .bad
  | n + 1, s => (c s).toS fun b s => if b = true then
      (match body s with
        | .nx s => whileD c body n s
        | .ct s => whileD c body n s
        | .bk s => .nx s
        | r => r)
    else .nx s
section
variable {X : Cx} {mg : Str → Option Value} {W : WX} {pos : Pos}
theorem ps_dWhile {c : Expr} {body : List Stmt} {fc : De Bool} {fb : Ds} {n : Nat} (hp : PassesOwn (model X.prog X.w) X.A X.env X.xe) (hc : PT X c (tT X.K mg W fc)) (hb : PSs X body (tS X.K mg W fb)) : PS X (.While c body [] pos) (tS X.K mg W (whileD fc fb n)) := by
  refine PS.by fun pins s₀ σ H D I q => ⟨_, ps_while hp hc hb, ?_⟩
  obtain ⟨g, s, F, hK, hm, w, p⟩ := q
  refine ⟨fun m σ H => ∃ s F1, Wf g s σ F1 H ∧ Same F F1 ∧ PostS g W F1 (whileD fc fb m s) D, ⟨n, s, F, w, Same.refl _, p⟩, ?_⟩
  rintro m σ H ⟨s, F1, w1, m1, p1⟩
  cases m with
  | zero => exact p1.elim
  | succ m =>
    refine ⟨g, s, F1, hK, hm, w1, ?_⟩
    unfold whileD at p1
    refine (Post.toS p1).imp fun k s2 F2 H2 w2 m2 q => ?_
    cases k with
    | false => exact q σ F2 H2 w2 (Same.refl _)
    | true =>
      refine ⟨fun σ' H' => ∃ s F1, Wf g s σ' F1 H' ∧ Same F F1 ∧ PostS g W F1 (whileD fc fb m s) D, fun σ' H' z => ⟨m, Nat.lt_succ_self m, z⟩, g, s2, F2, hK, hm, w2, ?_⟩
      have q : PostS g W F2 (match fb s2 with
        | .nx s => whileD fc fb m s
        | .ct s => whileD fc fb m s
        | .bk s => .nx s
        | r => r) D := q
      cases e : fb s2 with
      | nx s3 => rw [e] at q; exact fun σ' F' H' w' m' => ⟨s3, F', w', (m1.trans m2).trans m', PostS.mono m' q⟩
      | ct s3 => rw [e] at q; exact fun σ' F' H' w' m' => ⟨s3, F', w', (m1.trans m2).trans m', PostS.mono m' q⟩
      | bk s3 => rw [e] at q; exact q
      | rt v s3 => rw [e] at q; exact q
      | exc x s3 => rw [e] at q; exact q
      | bad => rw [e] at q; exact q.elim
end

/-! ## targets -/
/-- but at the places is, as it was -/
def Off (is : List Nat) (σ σ' : L2.St) : Prop := σ'.length = σ.length ∧ ∀ j, j ∉ is → σ'[j]? = σ[j]?
def tG (K : PySem.W.Frag) (mg : Str → Option Value) (is : List Nat) (h : PyData → Stt → Option Stt) : TG := fun v σ H Q =>
  ∃ g s F d s', g.K = K ∧ g.mg = mg ∧ Wf g s σ F H ∧ Rp g.K F v d ∧ h d s = some s' ∧ ∀ σ', Wf g s' σ' F H → Off is σ σ' → Q σ' H
def tGs (K : PySem.W.Frag) (mg : Str → Option Value) (is : List Nat) (h : List PyData → Stt → Option Stt) : TGs := fun vs σ H Q =>
  ∃ g s F ds s', g.K = K ∧ g.mg = mg ∧ Wf g s σ F H ∧ RpAll g.K F vs ds ∧ h ds s = some s' ∧ ∀ σ', Wf g s' σ' F H → Off is σ σ' → Q σ' H
theorem Off.refl (is : List Nat) (σ : L2.St) : Off is σ σ := ⟨rfl, fun _ _ => rfl⟩
theorem Off.trans {is js : List Nat} {σ σ1 σ2 : L2.St} (a : Off is σ σ1) (b : Off js σ1 σ2) : Off (is ++ js) σ σ2 :=
  ⟨b.1.trans a.1, fun j h => (b.2 j fun z => h (List.mem_append_right _ z)).trans (a.2 j fun z => h (List.mem_append_left _ z))⟩
theorem PG.by {X : Cx} {e : Expr} {t : TG} (h : ∀ pins s v σ H Q, Inv X pins σ H s → t v σ H Q → ∃ t', PG X e t' ∧ t' v σ H Q) : PG X e t :=
  ⟨fun pins s σ H v u Q I r q => by obtain ⟨t', p, q'⟩ := h pins s v σ H Q I q; exact p.run pins s σ H v u Q I r q'⟩
theorem PGs.by {X : Cx} {e : List Expr} {t : TGs} (h : ∀ pins s v σ H Q, Inv X pins σ H s → t v σ H Q → ∃ t', PGs X e t' ∧ t' v σ H Q) : PGs X e t :=
  ⟨fun pins s σ H v u Q I r q => by obtain ⟨t', p, q'⟩ := h pins s v σ H Q I q; exact p.run pins s σ H v u Q I r q'⟩
def gPut (i : Nat) : PyData → Stt → Option Stt := fun d s => some ⟨s.ρ.set i (some (.dat d)), s.S⟩
def gNo : List PyData → Stt → Option Stt := fun ds s => match ds with
  | [] => some s
  | _ => none
def gCo (h : PyData → Stt → Option Stt) (k : List PyData → Stt → Option Stt) : List PyData → Stt → Option Stt := fun ds s => match ds with
  | d :: r => (h d s).bind (k r)
  | [] => none
/-- a tuple (or a list) of n things is unpacked -/
def gUn (n : Nat) (k : List PyData → Stt → Option Stt) : PyData → Stt → Option Stt := fun d s => match d with
  | .tuple ds => if ds.length = n then k ds s else none
  | .list ds => if ds.length = n then k ds s else none
  | _ => none
section
variable {X : Cx} {mg : Str → Option Value} {pos : Pos}
theorem pg_dPut {i : Nat} {x : Str} (hN : X.N.Nodup) (hi : X.N[i]? = some x) (hx : Loc X.env.scope x) (hf : X.fn x = true ∨ X.env.scope.names.lookup x = some .local) : PG X (.Name x pos) (tG X.K mg [i] (gPut i)) := by
  refine PG.by fun pins s₀ v σ H Q I q => ⟨_, pg_name hN hi hx hf, ?_⟩
  obtain ⟨g, s, F, d, s', hK, hm, w, r, e, q⟩ := q
  cases e
  have hl : i < σ.length := by rw [I.len]; exact (List.getElem?_eq_some_iff.mp hi).1
  exact q _ (w.store (v := .dat d) hl r fun _ z => nomatch z) ⟨List.length_set, fun j h => List.getElem?_set_ne (fun z => h (by rw [z]; exact List.mem_singleton.mpr rfl))⟩
theorem pgs_dNo : PGs X [] (tGs X.K mg [] gNo) := by
  refine PGs.by fun pins s₀ v σ H Q I q => ⟨_, pgs_nil, ?_⟩
  obtain ⟨g, s, F, ds, s', hK, hm, w, r, e, q⟩ := q
  cases ds with
  | nil => cases e; cases r; exact ⟨rfl, q σ w (Off.refl _ _)⟩
  | cons _ _ => cases e
theorem pgs_dCo {e : Expr} {es : List Expr} {h : PyData → Stt → Option Stt} {k : List PyData → Stt → Option Stt} {is js : List Nat} (h1 : PG X e (tG X.K mg is h)) (h2 : PGs X es (tGs X.K mg js k))
    (hs : (assignEach (e :: es) X.env).map (·.2) = assign e X.env :: (assignEach es X.env).map (·.2)) : PGs X (e :: es) (tGs X.K mg (is ++ js) (gCo h k)) := by
  refine PGs.by fun pins s₀ v σ H Q I q => ⟨_, pgs_cons h1 h2 hs, ?_⟩
  obtain ⟨g, s, F, ds, s', hK, hm, w, r, e, q⟩ := q
  cases ds with
  | nil => cases e
  | cons d ds =>
    cases r with
    | cons r1 r2 =>
      obtain ⟨s1, e1, e2⟩ := Option.bind_eq_some_iff.mp (show (h d s).bind (k ds) = some s' from e)
      exact ⟨_, _, rfl, g, s, F, d, s1, hK, hm, w, r1, e1, fun σ' w' o' => ⟨g, s1, F, ds, s', hK, hm, w', r2, e2, fun σ2 w2 o2 => q σ2 w2 (o'.trans o2)⟩⟩
theorem pg_dUnT {es : List Expr} {k n : Nat} {h : List PyData → Stt → Option Stt} {is : List Nat} (hc : X.calm = true) (hh : PGs X es (tGs X.K mg is h)) (hn : (assignEach es X.env).length = n) (hst : (assignEach es X.env).findIdx? (·.1) = none) :
    PG X (.Tuple es k pos) (tG X.K mg is (gUn n h)) := by
  refine PG.by fun pins s₀ v σ H Q I q => ?_
  obtain ⟨g, s, F, d, s', hK, hm, w, r, e, q⟩ := q
  cases d with
  | tuple ds =>
    refine ⟨_, pg_tup hc hh hn hst, ?_⟩
    cases r with
    | tup ht z ra =>
      have e : (if ds.length = n then h ds s else none) = some s' := e
      split at e
      · rename_i hl
        exact ⟨_, _, rfl, by rw [← hK]; exact seqT w.sub ht, by rw [ra.length]; exact hl, g, s, F, ds, s', hK, hm, w, ra, e, q⟩
      · cases e
  | list ds =>
    refine ⟨_, pg_lst hc hh hn hst, ?_⟩
    cases r with
    | lst ht z ra =>
      have e : (if ds.length = n then h ds s else none) = some s' := e
      split at e
      · rename_i hl
        exact ⟨_, _, rfl, .inl (.inl (w.sub _ _ ht)), by rw [ra.length]; exact hl, g, s, F, ds, s', hK, hm, w, ra, e, q⟩
      · cases e
  | _ => cases e
end
/-- target = value, the target of any form -/
def dAsg (h : PyData → Stt → Option Stt) (f : De Va) : Ds := fun s => (dFrz f s).toS fun d s => match h d s with
  | some s => .nx s
  | none => .bad
theorem ps_dAsg {X : Cx} {mg : Str → Option Value} {W : WX} {tg e : Expr} {fe : De Va} {h : PyData → Stt → Option Stt} {is : List Nat} {pos : Pos} (he : PE X e (tE X.K mg W fe)) (hg : PG X tg (tG X.K mg is h)) (hs : swapsWithSole [tg] e pos.line X.env = pure false) (hw : swappedStores [tg] e X.env = pure none)
    (h1 : (assignEach [tg] X.env).map (·.2) = [assign tg X.env]) : PS X (.Assign [tg] e pos) (tS X.K mg W (dAsg h fe)) := by
  refine PS.by fun pins s₀ σ H D I q => ⟨_, ps_asg he hg hs hw h1, ?_⟩
  obtain ⟨g, s, F, hK, hm, w, p⟩ := q
  have p' : Post g W σ F (dFrz fe s) _ := Post.toS p
  unfold dFrz at p'
  refine ⟨g, s, F, hK, hm, w, ?_⟩
  refine p'.bind.imp fun v s1 F1 H1 w1 m1 q u r => ?_
  have fin : ∀ (d : PyData) F2, Wf g s1 σ F2 H1 → Rp g.K F2 u d → PostS g W F2 (match h d s1 with | some s => .nx s | none => .bad) D → tG X.K mg is h u σ H1 D.nx := fun d F2 w2 r2 q2 => by
    cases e : h d s1 with
    | none => rw [e] at q2; exact q2.elim
    | some s2 => rw [e] at q2; exact ⟨g, s1, F2, d, s2, hK, hm, w2, r2, e, fun σ' w' _ => q2 σ' F2 H1 w' (Same.refl _)⟩
  cases v with
  | dat d => exact fin d F1 w1 r (q F1 H1 w1 (Same.refl _))
  | own xs =>
    obtain ⟨a, rfl, o, ap⟩ := r
    obtain ⟨F2, w2, m2, r2⟩ := w1.freeze o ap
    exact fin _ F2 w2 r2 (q F2 H1 w2 m2)
  | bor _ => exact q.elim
  | pot => exact q.elim

/-! ## what a for walks -/
/-- J gives the things ds, whatever is laid meanwhile -/
def Gives (K : PySem.W.Frag) (F : Hp) (J : It) (ds : List PyData) : Prop := ∀ (g : Gh) (s : Stt) (σ : L2.St) (F1 H1 : Hp) (i : Nat), g.K = K → Wf g s σ F1 H1 → Same F F1 →
  (i < ds.length → J.go i H1) ∧ (ds.length ≤ i → J.stop i H1) ∧ ∀ x H2 d, ds[i]? = some d → J.yld i H1 x H2 → ∃ F2, Wf g s σ F2 H2 ∧ Same F1 F2 ∧ Rp g.K F2 x d ∧ Same H1 H2 ∧ ∀ a, H1 a ≠ none → F2 a = F1 a
def tI (K : PySem.W.Frag) (mg : Str → Option Value) (W : WX) (f : De (List PyData)) : TI := fun σ H R =>
  ∃ g s F, g.K = K ∧ g.mg = mg ∧ Wf g s σ F H ∧ Post g W σ F (f s) fun ds _ F' H' => ∀ J, Gives K F' J ds → R J H'
theorem PI.by {X : Cx} {tg e : Expr} {t : TI} (h : ∀ pins s σ H R, Inv X pins σ H s → t σ H R → ∃ t', PI X tg e t' ∧ t' σ H R) : PI X tg e t :=
  ⟨fun pins s σ H R I q => by obtain ⟨t', p, q'⟩ := h pins s σ H R I q; exact p.run pins s σ H R I q'⟩
/-- the things of a list, a tuple, a text -/
def itemsD : PyData → Option (List PyData)
  | .list xs => some xs
  | .tuple xs => some xs
  | .str x => some (x.cps.toList.map fun c => .str ⟨#[c]⟩)
  | _ => none
def dItems (f : De Va) : De (List PyData) := fun s => (dFrz f s).bind fun d s => ofOpt (itemsD d) s
theorem okS_of_mem {x : Str} (h : okS x = true) {c : Nat} (hm : c ∈ x.cps) : okS ⟨#[c]⟩ = true := by
  unfold okS at *
  simp only [Bool.and_eq_true, decide_eq_true_eq] at *
  have h1 := h.1
  unfold PyData.strOk at *
  have h2 := (Array.all_eq_true_iff_forall_mem.mp h1) c hm
  refine ⟨?_, ?_⟩
  · simp at h2 ⊢
    exact h2
  · show (1 : Nat) ≤ _
    omega
section
variable {X : Cx} {mg : Str → Option Value} {W : WX} {pos : Pos} {tg e : Expr} {fe : De Va}
theorem pi_dItems (he : PE X e (tE X.K mg W fe)) : PI X tg e (tI X.K mg W (dItems fe)) := by
  refine PI.by fun pins s₀ σ H R I q => ?_
  obtain ⟨g, s, F, hK, hm, w, p⟩ := q
  -- which of the three is known before the run
  have run : ∀ {R' : VK}, (∀ d s1 F1 H1 u, Wf g s1 σ F1 H1 → Same F F1 → Rp g.K F1 u d → Post g W σ F1 (ofOpt (itemsD d) s1) (fun ds _ F' H' => ∀ J, Gives X.K F' J ds → R J H') → R' u H1) → tE X.K mg W fe σ H R' := fun h => tE_frz hK hm w p h
  have key : (∃ xs s1, dFrz fe s = .ok (.list xs) s1) ∨ (∃ xs s1, dFrz fe s = .ok (.tuple xs) s1) ∨ (∃ x s1, dFrz fe s = .ok (.str x) s1) ∨ ∃ x s1, dFrz fe s = .exc x s1 := by
    unfold dItems at p
    cases e : dFrz fe s with
    | ok d s1 =>
      rw [e] at p
      obtain ⟨ds, e2, _⟩ := ofOpt_post (show Post g W σ F (ofOpt (itemsD d) s1) _ from p)
      cases d with
      | list xs => exact .inl ⟨xs, s1, rfl⟩
      | tuple xs => exact .inr (.inl ⟨xs, s1, rfl⟩)
      | str x => exact .inr (.inr (.inl ⟨x, s1, rfl⟩))
      | _ => cases e2
    | exc x s1 => exact .inr (.inr (.inr ⟨x, s1, rfl⟩))
    | bad => rw [e] at p; exact p.elim
  -- the value with its shape
  have runS : ∀ (d : PyData) (s1 : Stt) {R' : VK}, dFrz fe s = .ok d s1 → (∀ F1 H1 u, Wf g s1 σ F1 H1 → Same F F1 → Rp g.K F1 u d → Post g W σ F1 (ofOpt (itemsD d) s1) (fun ds _ F' H' => ∀ J, Gives X.K F' J ds → R J H') → R' u H1) → tE X.K mg W fe σ H R' := fun d s1 R' e1 h => by
    refine ⟨g, s, F, hK, hm, w, ?_⟩
    unfold dItems at p
    rw [e1] at p
    have p : Post g W σ F (ofOpt (itemsD d) s1) (fun ds _ F' H' => ∀ J, Gives X.K F' J ds → R J H') := p
    unfold dFrz at e1
    cases e2 : fe s with
    | ok v s2 =>
      rw [e2] at e1
      have e1 : frz v s2 = .ok d s1 := e1
      show ∀ F' H', Wf g s2 σ F' H' → Same F F' → ∀ u, VRep g s2 σ F' H' u v → R' u H'
      intro F' H' w' m' u r
      cases v with
      | dat d' => cases e1; exact h F' H' u w' m' r (p.mono m')
      | own xs =>
        cases e1
        obtain ⟨a, rfl, o, ap⟩ := r
        obtain ⟨F2, w2, m2, r2⟩ := w'.freeze o ap
        exact h F2 H' _ w2 (m'.trans m2) r2 (p.mono (m'.trans m2))
      | bor _ => cases e1
      | pot => cases e1
    | exc x s2 => rw [e2] at e1; cases e1
    | bad => rw [e2] at e1; cases e1
  rcases key with ⟨xs, s1, e1⟩ | ⟨xs, s1, e1⟩ | ⟨x, s1, e1⟩ | ⟨x, s1, e1⟩
  · refine ⟨_, pi_list he, runS _ s1 e1 fun F1 H1 u w1 m1 r1 p1 => ?_⟩
    cases r1 with
    | lst ha z ra =>
      rename_i a vs
      refine ⟨a, rfl, ⟨vs, .inl (.inl (w1.sub _ _ ha))⟩, p1 F1 H1 w1 (Same.refl _) _ fun g2 s σ F2 H2 i hK2 w2 m2 => ?_⟩
      have hq : SqL X.K H2 a vs := .inl (.inl (w2.sub _ _ (m2 _ _ ha)))
      refine ⟨fun hi => ?_, fun hi => ⟨vs, hq, by rw [ra.length]; exact hi⟩, fun x H3 d hd y => ?_⟩
      · obtain ⟨v, e, _⟩ := ra.get (List.getElem?_eq_getElem hi)
        exact ⟨vs, v, hq, e⟩
      · obtain ⟨rfl, y⟩ := y
        obtain ⟨v, e, r⟩ := ra.get hd
        have := y vs hq
        rw [e] at this; cases this
        exact ⟨F2, w2, Same.refl _, (by rw [hK2, ← hK]; exact r.mono m2), Same.refl _, fun _ _ => rfl⟩
  · refine ⟨_, pi_tup he, runS _ s1 e1 fun F1 H1 u w1 m1 r1 p1 => ?_⟩
    cases r1 with
    | tup ha z ra =>
      rename_i a vs
      rw [hK] at ha
      refine ⟨a, rfl, ⟨vs, seqT w1.sub ha⟩, p1 F1 H1 w1 (Same.refl _) _ fun g2 s σ F2 H2 i hK2 w2 m2 => ?_⟩
      have hq : SqT X.K H2 a vs := seqT w2.sub (seqT m2 ha)
      refine ⟨fun hi => ?_, fun hi => ⟨vs, hq, by rw [ra.length]; exact hi⟩, fun x H3 d hd y => ?_⟩
      · obtain ⟨v, e, _⟩ := ra.get (List.getElem?_eq_getElem hi)
        exact ⟨vs, v, hq, e⟩
      · obtain ⟨rfl, y⟩ := y
        obtain ⟨v, e, r⟩ := ra.get hd
        have := y vs hq
        rw [e] at this; cases this
        exact ⟨F2, w2, Same.refl _, (by rw [hK2, ← hK]; exact r.mono m2), Same.refl _, fun _ _ => rfl⟩
  · refine ⟨_, pi_str he, runS _ s1 e1 fun F1 H1 u w1 m1 r1 p1 => ?_⟩
    cases r1 with
    | str hx =>
      refine ⟨x, rfl, p1 F1 H1 w1 (Same.refl _) _ fun g2 s σ F2 H2 i hK2 w2 m2 => ?_⟩
      refine ⟨fun hi => (by show i < x.cps.size; simpa using hi), fun hi => (by show x.cps.size ≤ i; simpa using hi), fun y H3 d hd z => ?_⟩
      obtain ⟨rfl, c, e, rfl⟩ := z
      rw [List.getElem?_map, Array.getElem?_toList, e] at hd
      cases hd
      exact ⟨F2, w2, Same.refl _, .str (okS_of_mem hx (Array.mem_of_getElem? e)), Same.refl _, fun _ _ => rfl⟩
  · refine ⟨_, pi_list he, g, s, F, hK, hm, w, ?_⟩
    unfold dItems at p
    rw [e1] at p
    unfold dFrz at e1
    cases e2 : fe s with
    | ok v s2 =>
      rw [e2] at e1
      have e1 : frz v s2 = .exc x s1 := e1
      cases v <;> cases e1
    | exc x s2 => rw [e2] at e1; cases e1; exact p
    | bad => rw [e2] at e1; cases e1
end

/-! ## for -/
def forD (h : PyData → Stt → Option Stt) (body : Ds) : List PyData → Ds
  | [], s => .nx s
  | d :: r, s => match h d s with
    | none => .bad
    | some s => match body s with
      | .nx s => forD h body r s
      | .ct s => forD h body r s
      | .bk s => .nx s
      | x => x
def dFor (f : De (List PyData)) (h : PyData → Stt → Option Stt) (body : Ds) : Ds := fun s => (f s).toS fun ds s => forD h body ds s
theorem ps_dFor {X : Cx} {mg : Str → Option Value} {W : WX} {tg iter : Expr} {body : List Stmt} {fi : De (List PyData)} {h : PyData → Stt → Option Stt} {is : List Nat} {fb : Ds} {pos : Pos} (hp : PassesOwn (model X.prog X.w) X.A X.env X.xe) (hc : X.calm = true)
    (hi : PI X tg iter (tI X.K mg W fi)) (hg : PG X tg (tG X.K mg is h)) (hb : PSs X body (tS X.K mg W fb)) (hs : ∀ x, foldedSetIterable iter X.env x = pure x) : PS X (.For tg iter body [] pos) (tS X.K mg W (dFor fi h fb)) := by
  refine PS.by fun pins s₀ σ H D I q => ⟨_, ps_for hp hc hi hg hb hs, ?_⟩
  obtain ⟨g, s, F, hK, hm, w, p⟩ := q
  refine ⟨g, s, F, hK, hm, w, ?_⟩
  refine (Post.toS p).imp fun ds s1 F1 H1 w1 m1 p1 J gv => ?_
  refine ⟨fun i m σ H => m = ds.length - i ∧ i ≤ ds.length ∧ ∃ s F2, Wf g s σ F2 H ∧ Same F1 F2 ∧ PostS g W F2 (forD h fb (ds.drop i) s) D, ⟨ds.length, rfl, Nat.zero_le _, s1, F1, w1, Same.refl _, by rw [List.drop_zero]; exact p1⟩, ?_⟩
  rintro i m σ H ⟨rfl, hi, s2, F2, w2, m2, p2⟩
  obtain ⟨g1, g2, g3⟩ := gv g s2 σ F2 H i hK w2 m2
  by_cases hlt : i < ds.length
  · refine .inr ⟨g1 hlt, fun σ' H' => ∃ s F3, Wf g s σ' F3 H' ∧ Same F1 F3 ∧ PostS g W F3 (forD h fb (ds.drop (i + 1)) s) D, fun σ' H' z => ⟨ds.length - (i + 1), by omega, rfl, hlt, z⟩, fun x H3 y => ?_⟩
    obtain ⟨F3, w3, m3, r3, _⟩ := g3 x H3 ds[i] (List.getElem?_eq_getElem hlt) y
    rw [List.drop_eq_getElem_cons hlt] at p2
    unfold forD at p2
    cases e : h ds[i] s2 with
    | none => rw [e] at p2; exact p2.elim
    | some s3 =>
      rw [e] at p2
      refine ⟨g, s2, F3, ds[i], s3, hK, hm, w3, r3, e, fun σ' w' _ => ⟨g, s3, F3, hK, hm, w', ?_⟩⟩
      have p2 : PostS g W F2 (match fb s3 with
        | .nx s => forD h fb (ds.drop (i + 1)) s
        | .ct s => forD h fb (ds.drop (i + 1)) s
        | .bk s => .nx s
        | x => x) D := p2
      have p2 := p2.mono m3
      cases e2 : fb s3 with
      | nx s4 => rw [e2] at p2; exact fun σ' F' H' w' m' => ⟨s4, F', w', (m2.trans m3).trans m', PostS.mono m' p2⟩
      | ct s4 => rw [e2] at p2; exact fun σ' F' H' w' m' => ⟨s4, F', w', (m2.trans m3).trans m', PostS.mono m' p2⟩
      | bk s4 => rw [e2] at p2; exact p2
      | rt v s4 => rw [e2] at p2; exact p2
      | exc x s4 => rw [e2] at p2; exact p2
      | bad => rw [e2] at p2; exact p2.elim
  · have e : i = ds.length := by omega
    subst e
    rw [List.drop_length] at p2
    exact .inl ⟨g2 (Nat.le_refl _), p2 σ F2 H w2 (Same.refl _)⟩
end Ev

namespace Ev
open PySem PySem.Spec PyProof.Rows L2

/-! ## a nested entry, once more: what is wanted of results -/
section
variable {g : Gh} {s s' : Stt} {σ σ' : L2.St} {F H F' H' : Hp} {W : WX}
theorem Post.sub {α : Type} {r : Res α} {k : α → Stt → Hp → Hp → Prop} (w : Wf g s σ F H) (p : Post g W σ' F r k) : Post (g.sub s σ F H) W σ' F r fun a s1 F1 H1 => Wf (g.sub s σ F H) s1 σ' F1 H1 ∧ k a s1 F1 H1 := by
  cases r with
  | ok a s1 => exact fun F1 H1 w1 m1 => ⟨w1, p F1 H1 (w.unstrip w1) m1⟩
  | exc x s1 => exact fun F1 H1 cls d w1 m1 x => p F1 H1 cls d (w.unstrip w1) m1 x
  | bad => exact p
/-- an owned list outside the slots stays -/
theorem VRep.stays {D : Addr} {acc : List PyData} (w : Wf g s σ F H) (r : VRep g s σ F H (.ref D) (.own acc)) (w' : Wf (g.sub s σ F H) s' σ' F' H') : VRep g s' σ' F' H' (.ref D) (.own acc) := by
  obtain ⟨a, e, o, ap⟩ := r
  cases e
  obtain ⟨vs, e1, z, ra⟩ := o.at_
  have h1 : (g.sub s σ F H).H0 D = some (.lst vs) := by
    show Ev.strip s σ H D = _
    unfold Ev.strip
    rw [if_neg, e1]
    rintro ⟨i, xs, e2, e3⟩
    exact ap i xs e2 e3
  refine ⟨D, rfl, ⟨o.ne, o.new, ?_, vs, w'.base D _ o.ne h1, z, ra.mono w'.ff⟩, fun i xs e2 e3 => ?_⟩
  · rw [w'.new D (by rw [h1]; exact fun z => nomatch z)]
    exact o.hid
  · obtain ⟨u, e4, r4⟩ := w'.slots i _ e2
    rw [e3] at e4; cases e4
    obtain ⟨b, e5, o5⟩ := r4
    cases e5
    have := o5.new
    rw [h1] at this; cases this
/-- the owned list outside the slots is written -/
theorem Wf.poke {D : Addr} {acc acc' : List PyData} {vs : List V} (w : Wf g s σ F H) (r : VRep g s σ F H (.ref D) (.own acc)) (z : vs.length ≤ sizeLine) (ra : RpAll g.K F vs acc') :
    Wf g s σ F (upd H D (.lst vs)) ∧ VRep g s σ F (upd H D (.lst vs)) (.ref D) (.own acc') := by
  obtain ⟨a, e, o, ap⟩ := r
  cases e
  refine ⟨⟨w.len, fun b x h => ?_, w.ff, w.new, fun b x h1 h2 => ?_, w.hpa, ?_, fun i v e1 => ?_, w.sep⟩, D, rfl, ⟨o.ne, o.new, o.hid, vs, upd_same, z, ra⟩, ap⟩
  · have hb : b ≠ D := by rintro rfl; rw [o.hid] at h; cases h
    rw [upd_ne hb]; exact w.sub _ _ h
  · have hb : b ≠ D := by rintro rfl; rw [o.new] at h2; cases h2
    rw [upd_ne hb]; exact w.base b x h1 h2
  · obtain ⟨vs', e', z', r'⟩ := w.pot
    exact ⟨vs', by rw [upd_ne o.ne.symm]; exact e', z', r'⟩
  · obtain ⟨u, e2, r2⟩ := w.slots i v e1
    refine ⟨u, e2, ?_⟩
    cases v with
    | dat d => exact r2
    | pot => exact r2
    | bor _ => exact r2
    | own ys =>
      obtain ⟨b, e3, o2⟩ := r2
      have hb : b ≠ D := by
        rintro rfl
        exact ap i ys e1 (e2.trans (by rw [e3]))
      exact ⟨b, e3, o2.keep (Same.refl _) o2.hid (upd_ne hb)⟩
/-- other slots' values, where the state knows nothing -/
theorem Wf.reslot (w : Wf g s σ F H) (hl : σ'.length = σ.length) (h : ∀ (i : Nat) v, s.ρ[i]? = some (some v) → σ'[i]? = σ[i]?) : Wf g s σ' F H := by
  refine ⟨w.len.trans hl.symm, w.sub, w.ff, w.new, w.base, w.hpa, w.pot, fun i v e => ?_, fun i j xs ys a e1 e2 e3 e4 => ?_⟩
  · obtain ⟨u, e1, r⟩ := w.slots i v e
    exact ⟨u, (h i v e).trans e1, r⟩
  · exact w.sep i j xs ys a e1 e2 ((h i _ e1).symm.trans e3) ((h j _ e2).symm.trans e4)
theorem VRep.reslot {u : V} {v : Va} (r : VRep g s σ F H u v) (h : ∀ (i : Nat) v, s.ρ[i]? = some (some v) → σ'[i]? = σ[i]?) : VRep g s σ' F H u v := by
  cases v with
  | dat d => exact r
  | pot => exact r
  | bor _ => exact r
  | own xs =>
    obtain ⟨a, e, o, ap⟩ := r
    exact ⟨a, e, o, fun i ys e1 e2 => ap i ys e1 ((h i _ e1).symm.trans e2)⟩
end

/-! ## list comprehensions -/
def wipeR (ρ : List (Option Va)) : List Nat → List (Option Va)
  | [] => ρ
  | v :: vs => (wipeR ρ vs).set v none
def wipeS (s : Stt) (vs : List Nat) : Stt := ⟨wipeR s.ρ vs, s.S⟩
theorem wipeR_length (ρ : List (Option Va)) : ∀ vs : List Nat, (wipeR ρ vs).length = ρ.length
  | [] => rfl
  | v :: vs => by unfold wipeR; rw [List.length_set, wipeR_length ρ vs]
theorem wipeR_some {ρ : List (Option Va)} {i : Nat} {x : Va} : ∀ {vs : List Nat}, (wipeR ρ vs)[i]? = some (some x) → ρ[i]? = some (some x) ∧ i ∉ vs
  | [], h => ⟨h, by simp⟩
  | v :: vs, h => by
    unfold wipeR at h
    by_cases hi : v = i
    · subst hi
      by_cases hv : v < (wipeR ρ vs).length
      · rw [List.getElem?_set_self hv] at h; cases h
      · rw [List.getElem?_eq_none (by simpa using hv)] at h; cases h
    · rw [List.getElem?_set_ne hi] at h
      obtain ⟨h1, h2⟩ := wipeR_some h
      exact ⟨h1, by simp only [List.mem_cons, not_or]; exact ⟨fun e => hi e.symm, h2⟩⟩
theorem wipeR_out {ρ : List (Option Va)} {i : Nat} : ∀ {vs : List Nat}, i ∉ vs → (wipeR ρ vs)[i]? = ρ[i]?
  | [], _ => rfl
  | v :: vs, h => by
    have h1 : v ≠ i := fun e => h (by rw [e]; exact List.mem_cons_self)
    have h2 : i ∉ vs := fun m => h (List.mem_cons_of_mem _ m)
    unfold wipeR
    rw [List.getElem?_set_ne h1]
    exact wipeR_out h2
theorem wipe_at {σ : L2.St} {i : Nat} : ∀ {vs : List Nat}, i ∈ vs → i < σ.length → (wipe σ vs)[i]? = some none
  | v :: vs, h, hl => by
    unfold wipe
    by_cases hv : v = i
    · subst hv; rw [List.getElem?_set_self (by rw [wipe_length]; exact hl)]
    · rw [List.getElem?_set_ne hv]
      exact wipe_at ((List.mem_cons.mp h).resolve_left fun e => hv e.symm) hl
theorem wipe_off {σ σ' : L2.St} {is vs : List Nat} (o : Off is (wipe σ vs) σ') (h : ∀ i ∈ is, i ∈ vs) : wipe σ' vs = wipe σ vs := by
  have hl : σ'.length = σ.length := o.1.trans (wipe_length σ vs)
  refine List.ext_getElem? fun j => ?_
  by_cases hj : j ∈ vs
  · by_cases hlt : j < σ.length
    · rw [wipe_at hj (by rw [hl]; exact hlt), wipe_at hj hlt]
    · rw [List.getElem?_eq_none (by rw [wipe_length, hl]; omega), List.getElem?_eq_none (by rw [wipe_length]; omega)]
  · rw [wipe_out hj, o.2 j fun z => hj (h j z)]
section
variable {g : Gh} {s : Stt} {σ σ2 : L2.St} {F H : Hp} {vs : List Nat}
theorem Wf.wipes (w : Wf g s σ F H) (vs : List Nat) : Wf g (wipeS s vs) (wipe σ vs) F H := by
  have w1 : Wf g (wipeS s vs) σ F H := by
    refine ⟨(wipeR_length s.ρ vs).trans w.len, w.sub, w.ff, w.new, w.base, w.hpa, w.pot, fun j v e => w.slots j v (wipeR_some e).1, fun i' j' xs ys a h1 h2 => w.sep i' j' xs ys a (wipeR_some h1).1 (wipeR_some h2).1⟩
  exact w1.reslot (wipe_length σ vs) fun i v e => wipe_out (wipeR_some (vs := vs) e).2
theorem VRep.wipes {D : Addr} {acc : List PyData} (r : VRep g s σ F H (.ref D) (.own acc)) (vs : List Nat) : VRep g (wipeS s vs) (wipe σ vs) F H (.ref D) (.own acc) := by
  obtain ⟨a, e, o, ap⟩ := r
  exact ⟨a, e, o, fun i xs e1 e2 => by
    obtain ⟨e3, e4⟩ := wipeR_some (vs := vs) e1
    rw [wipe_out e4] at e2
    exact ap i xs e3 e2⟩
end
/-- no exception leaves it -/
def noX {α : Type} : Res α → Res α
  | .exc _ _ => .bad
  | r => r
abbrev WF : WX := fun _ _ _ _ => False
theorem Post.noX {α : Type} {g : Gh} {W : WX} {σ : L2.St} {F : Hp} {r : Res α} {k : α → Stt → Hp → Hp → Prop} (p : Post g W σ F (noX r) k) (W' : WX) : Post g W' σ F r k := by
  cases r with
  | ok a s => exact p
  | exc x s => exact p.elim
  | bad => exact p
abbrev Acc := List PyData → De (List PyData)
def accE (f : De Va) : Acc := fun acc s => (noX (dFrz f s)).bind fun y s => if acc.length < 16777216 then .ok (acc ++ [y]) s else .bad
def lcLoop (h : PyData → Stt → Option Stt) (ft : De Bool) (vs : List Nat) (inner : Acc) : List PyData → Acc
  | [], acc, s => .ok acc s
  | d :: r, acc, s => match h d (wipeS s vs) with
    | none => .bad
    | some s => (noX (ft s)).bind fun b s => if b = true then (inner acc s).bind fun acc s => lcLoop h ft vs inner r acc s else lcLoop h ft vs inner r acc s
/-- a further clause -/
def accL (fi : De (List PyData)) (h : PyData → Stt → Option Stt) (ft : De Bool) (vs : List Nat) (inner : Acc) : Acc := fun acc s => (noX (fi s)).bind fun ds s => (lcLoop h ft vs inner ds acc s).bind fun acc s => .ok acc (wipeS s vs)
/-- the slots of the block's own names as they were ahead of it; none of them owned -/
def plainAt (ρ : List (Option Va)) (v : Nat) : Bool := match ρ[v]? with
  | some (some (.own _)) => false
  | some (some (.bor _)) => false
  | _ => true
def back (ρ0 ρ : List (Option Va)) : List Nat → List (Option Va)
  | [] => ρ
  | v :: vs => (back ρ0 ρ vs).set v ((ρ0[v]?).join)
def dLc (fi : De (List PyData)) (h : PyData → Stt → Option Stt) (ft : De Bool) (vs : List Nat) (inner : Acc) : De Va := fun s => (fi s).bind fun ds s0 =>
  if vs.all (plainAt s0.ρ) = true then (noX (lcLoop h ft vs inner ds [] s0)).bind fun acc s => .ok (.own acc) ⟨back s0.ρ s.ρ vs, s.S⟩ else .bad
theorem back_length (ρ0 ρ : List (Option Va)) : ∀ vs : List Nat, (back ρ0 ρ vs).length = ρ.length
  | [] => rfl
  | v :: vs => by unfold back; rw [List.length_set, back_length ρ0 ρ vs]
theorem back_some {ρ0 ρ : List (Option Va)} {i : Nat} {x : Va} : ∀ {vs : List Nat}, (back ρ0 ρ vs)[i]? = some (some x) → (i ∈ vs ∧ ρ0[i]? = some (some x)) ∨ (i ∉ vs ∧ ρ[i]? = some (some x))
  | [], h => .inr ⟨by simp, h⟩
  | v :: vs, h => by
    unfold back at h
    by_cases hi : v = i
    · subst hi
      by_cases hv : v < (back ρ0 ρ vs).length
      · rw [List.getElem?_set_self hv] at h
        have h := Option.some.inj h
        cases e : ρ0[v]? with
        | none => rw [e] at h; cases h
        | some o => rw [e] at h; exact .inl ⟨List.mem_cons_self, congrArg some h⟩
      · rw [List.getElem?_eq_none (by simpa using hv)] at h; cases h
    · rw [List.getElem?_set_ne hi] at h
      rcases back_some h with ⟨h1, h2⟩ | ⟨h1, h2⟩
      · exact .inl ⟨List.mem_cons_of_mem _ h1, h2⟩
      · exact .inr ⟨by simp only [List.mem_cons, not_or]; exact ⟨fun e => hi e.symm, h1⟩, h2⟩
/-- one clause's reading, over the next one's -/
def LoopR (J : It) (gt : TG) (tt : TT) (body : L2.St → Hp → (Hp → Prop) → Prop) (σ : L2.St) (vs : List Nat) (H0 : Hp) (Q : Hp → Prop) : Prop :=
  ∃ W : Nat → Nat → Hp → Prop, (∃ m, W 0 m H0) ∧ ∀ i m H, W i m H → (J.stop i H ∧ Q H) ∨ (J.go i H ∧ ∃ Nx : Hp → Prop, (∀ H', Nx H' → ∃ m', m' < m ∧ W (i + 1) m' H') ∧
    ∀ x H', J.yld i H x H' → gt x (wipe σ vs) H' fun σ2 H2 => wipe σ2 vs = wipe σ vs ∧ tt σ2 H2 fun b H3 => if b = true then body σ2 H3 Nx else Nx H3)
/-- what a clause's inner part is worth: from an owned list at D it goes on to the next turn -/
def InnerOk (K : PySem.W.Frag) (mg : Str → Option Value) (D : Addr) (inner : Acc) (body : L2.St → Hp → (Hp → Prop) → Prop) : Prop :=
  ∀ (g : Gh) (s : Stt) (σ : L2.St) (F H : Hp) (acc acc' : List PyData) (s' : Stt) (Nx : Hp → Prop), g.K = K → g.mg = mg → Wf g s σ F H → VRep g s σ F H (.ref D) (.own acc) → inner acc s = .ok acc' s' →
    (∀ F' H', Wf g s' σ F' H' → Same F F' → VRep g s' σ F' H' (.ref D) (.own acc') → Nx H') → body σ H Nx
theorem noX_ok {α : Type} {r : Res α} {a : α} {s : Stt} (h : noX r = .ok a s) : r = .ok a s := by
  cases r with
  | ok b t => exact h
  | exc x t => cases h
  | bad => cases h
theorem bind_ok {α β : Type} {r : Res α} {f : α → De β} {b : β} {s : Stt} (h : r.bind f = .ok b s) : ∃ a t, r = .ok a t ∧ f a t = .ok b s := by
  cases r with
  | ok a t => exact ⟨a, t, rfl, h⟩
  | exc x t => cases h
  | bad => cases h
section
variable {K : PySem.W.Frag} {mg : Str → Option Value} {D : Addr} {W : WX} {g : Gh} {s s1 : Stt} {σ : L2.St} {F H : Hp}
theorem tE_ok {f : De Va} {v : Va} {R : VK} (hK : g.K = K) (hm : g.mg = mg) (w : Wf g s σ F H) (e : f s = .ok v s1) (c : ∀ F1 H1 u, Wf g s1 σ F1 H1 → Same F F1 → VRep g s1 σ F1 H1 u v → R u H1) : tE K mg W f σ H R := by
  refine ⟨g, s, F, hK, hm, w, ?_⟩
  rw [e]
  exact fun F1 H1 w1 m1 u r => c F1 H1 u w1 m1 r
theorem tE_okF {f : De Va} {d : PyData} {R : VK} (hK : g.K = K) (hm : g.mg = mg) (w : Wf g s σ F H) (e : dFrz f s = .ok d s1) (c : ∀ F1 H1 u, Wf g s1 σ F1 H1 → Same F F1 → Rp g.K F1 u d → R u H1) : tE K mg W f σ H R := by
  obtain ⟨v, t, e1, e2⟩ := bind_ok e
  refine tE_ok hK hm w e1 fun F1 H1 u w1 m1 r => ?_
  cases v with
  | dat d => cases e2; exact c F1 H1 u w1 m1 r
  | own xs =>
    cases e2
    obtain ⟨a, rfl, o, ap⟩ := r
    obtain ⟨F2, w2, m2, r2⟩ := w1.freeze o ap
    exact c F2 H1 _ w2 (m1.trans m2) r2
  | bor _ => cases e2
  | pot => cases e2
theorem tT_ok {f : De Bool} {b : Bool} {R : Bool → Hp → Prop} (hK : g.K = K) (hm : g.mg = mg) (w : Wf g s σ F H) (e : f s = .ok b s1) (c : ∀ F1 H1, Wf g s1 σ F1 H1 → Same F F1 → R b H1) : tT K mg W f σ H R := by
  refine ⟨g, s, F, hK, hm, w, ?_⟩
  rw [e]
  exact fun F1 H1 w1 m1 => c F1 H1 w1 m1
theorem tI_ok {f : De (List PyData)} {ds : List PyData} {R : It → Hp → Prop} (hK : g.K = K) (hm : g.mg = mg) (w : Wf g s σ F H) (e : f s = .ok ds s1) (c : ∀ F1 H1 J, Wf g s1 σ F1 H1 → Same F F1 → Gives K F1 J ds → R J H1) : tI K mg W f σ H R := by
  refine ⟨g, s, F, hK, hm, w, ?_⟩
  rw [e]
  exact fun F1 H1 w1 m1 J gv => c F1 H1 J w1 m1 gv
theorem inner_elt {f : De Va} : InnerOk K mg D (accE f) fun σ H Nx => tE K mg WF f σ H fun y H4 => ∃ acc, H4 D = some (.lst acc) ∧ acc.length < sizeLine ∧ Nx (upd H4 D (.lst (acc ++ [y]))) := by
  intro g s σ F H acc acc' s' Nx hK hm w rD e next
  obtain ⟨d, t, e1, e2⟩ := bind_ok e
  split at e2
  · rename_i hz
    cases e2
    refine tE_okF (g := g.sub s σ F H) hK hm w.strip (noX_ok e1) fun F2 H1 u w2 m2 r2 => ?_
    have rD2 := VRep.stays w rD w2
    have w3 := w.unstrip w2
    obtain ⟨a, e, o, ap⟩ := id rD2
    cases e
    obtain ⟨vs, e1, z, ra⟩ := o.at_
    have hz' : vs.length < sizeLine := by rw [ra.length, sizeLine_eq]; exact hz
    refine ⟨vs, e1, hz', ?_⟩
    obtain ⟨w4, rD4⟩ := w3.poke rD2 (vs := vs ++ [u]) (acc' := acc ++ [d]) (by rw [List.length_append]; exact hz') (ra.append (.cons r2 .nil))
    exact next F2 _ w4 m2 rD4
  · cases e2
theorem loop_ok {h : PyData → Stt → Option Stt} {ft : De Bool} {vs is : List Nat} {inner : Acc} {body : L2.St → Hp → (Hp → Prop) → Prop} (his : ∀ i ∈ is, i ∈ vs) (hin : InnerOk K mg D inner body) {acc acc' : List PyData} {s' : Stt} {ds : List PyData} {Q : Hp → Prop} {J : It}
    (hK : g.K = K) (hm : g.mg = mg) (gv : Gives K F J ds) (w : Wf g s σ F H) (rD : VRep g s σ F H (.ref D) (.own acc)) (e : lcLoop h ft vs inner ds acc s = .ok acc' s')
    (fin : ∀ F' H', Wf g (wipeS s' vs) (wipe σ vs) F' H' → Same F F' → VRep g (wipeS s' vs) (wipe σ vs) F' H' (.ref D) (.own acc') → Q H') :
    LoopR J (tG K mg is h) (tT K mg WF ft) body σ vs H Q := by
  -- the state between two turns: the items left, what is made, what follows
  refine ⟨fun i m H => m = ds.length - i ∧ i ≤ ds.length ∧ ∃ s2 F2 acc2, Wf g (wipeS s2 vs) (wipe σ vs) F2 H ∧ Same F F2 ∧ VRep g (wipeS s2 vs) (wipe σ vs) F2 H (.ref D) (.own acc2) ∧ lcLoop h ft vs inner (ds.drop i) acc2 s2 = .ok acc' s', ⟨ds.length, rfl, Nat.zero_le _, s, F, acc, w.wipes vs, Same.refl _, rD.wipes vs, by rw [List.drop_zero]; exact e⟩, ?_⟩
  rintro i m H ⟨rfl, hi, s2, F2, acc2, w2, m2, rD2, e2⟩
  obtain ⟨g1, g2, g3⟩ := gv g _ _ F2 H i hK w2 m2
  by_cases hlt : i < ds.length
  · refine .inr ⟨g1 hlt, fun H' => ∃ s3 F3 acc3, Wf g (wipeS s3 vs) (wipe σ vs) F3 H' ∧ Same F F3 ∧ VRep g (wipeS s3 vs) (wipe σ vs) F3 H' (.ref D) (.own acc3) ∧ lcLoop h ft vs inner (ds.drop (i + 1)) acc3 s3 = .ok acc' s', fun H' z => ⟨ds.length - (i + 1), by omega, rfl, hlt, z⟩, fun x H3 y => ?_⟩
    rw [List.drop_eq_getElem_cons hlt] at e2
    unfold lcLoop at e2
    cases e3 : h ds[i] (wipeS s2 vs) with
    | none => rw [e3] at e2; cases e2
    | some s3 =>
      rw [e3] at e2
      obtain ⟨b, s4, e4, e5⟩ := bind_ok e2
      obtain ⟨F3, w3, m3, r3, mH, mF⟩ := g3 x H3 ds[i] (List.getElem?_eq_getElem hlt) y
      -- the list is still there behind the item
      have rD3 : VRep g (wipeS s2 vs) (wipe σ vs) F3 H3 (.ref D) (.own acc2) := by
        obtain ⟨a, ea, o, ap⟩ := rD2
        cases ea
        obtain ⟨vl, e1, z, ra⟩ := o.at_
        exact ⟨D, rfl, ⟨o.ne, o.new, (mF D (by rw [e1]; exact fun z => nomatch z)).trans o.hid, vl, mH _ _ e1, z, ra.mono m3⟩, ap⟩
      refine ⟨g.sub (wipeS s2 vs) (wipe σ vs) F3 H3, wipeS s2 vs, F3, ds[i], s3, hK, hm, w3.strip, r3, e3, fun σ2 w4 off => ?_⟩
      have hw := wipe_off off his
      refine ⟨hw, ?_⟩
      have rD4 := VRep.stays w3 rD3 w4
      have w5 := w3.unstrip w4
      have nextW : ∀ {s5 : Stt} {F5 H5 : Hp} {acc5 : List PyData}, Wf g s5 σ2 F5 H5 → Same F3 F5 → VRep g s5 σ2 F5 H5 (.ref D) (.own acc5) → lcLoop h ft vs inner (ds.drop (i + 1)) acc5 s5 = .ok acc' s' → ∃ s3 F3 acc3, Wf g (wipeS s3 vs) (wipe σ vs) F3 H5 ∧ Same F F3 ∧ VRep g (wipeS s3 vs) (wipe σ vs) F3 H5 (.ref D) (.own acc3) ∧ lcLoop h ft vs inner (ds.drop (i + 1)) acc3 s3 = .ok acc' s' := fun {s5 F5 H5 acc5} w6 m6 r6 e6 => by
        have a1 := w6.wipes vs
        have a2 := r6.wipes vs
        rw [hw] at a1 a2
        exact ⟨s5, F5, acc5, a1, (m2.trans m3).trans m6, a2, e6⟩
      refine tT_ok (g := g.sub s3 σ2 F3 H3) hK hm w5.strip (noX_ok e4) fun F5 H5 w6 m6 => ?_
      have rD6 := VRep.stays w5 rD4 w6
      have w7 := w5.unstrip w6
      cases b with
      | false => exact nextW w7 m6 rD6 e5
      | true =>
        obtain ⟨acc7, s7, e7, e8⟩ := bind_ok e5
        exact hin g s4 σ2 F5 H5 acc2 acc7 s7 _ hK hm w7 rD6 e7 fun F8 H8 w8 m8 r8 => nextW w8 (m6.trans m8) r8 e8
  · have e : i = ds.length := by omega
    subst e
    rw [List.drop_length] at e2
    cases e2
    exact .inl ⟨g2 (Nat.le_refl _), fin F2 H w2 m2 rD2⟩
theorem inner_loop {fi : De (List PyData)} {h : PyData → Stt → Option Stt} {ft : De Bool} {vs is : List Nat} {inner : Acc} {body : L2.St → Hp → (Hp → Prop) → Prop} (his : ∀ i ∈ is, i ∈ vs) (hin : InnerOk K mg D inner body) :
    InnerOk K mg D (accL fi h ft vs inner) fun σ H Nx => tI K mg WF fi σ H fun J H1 => LoopR J (tG K mg is h) (tT K mg WF ft) body σ vs H1 Nx := by
  intro g s σ F H acc acc' s' Nx hK hm w rD e next
  obtain ⟨ds, s1, e1, e2⟩ := bind_ok e
  obtain ⟨acc2, s2, e3, e4⟩ := bind_ok e2
  cases e4
  refine tI_ok (g := g.sub s σ F H) hK hm w.strip (noX_ok e1) fun F1 H1 J w1 m1 gv => ?_
  have rD1 := VRep.stays w rD w1
  have w1' := w.unstrip w1
  have hsl : ∀ (i : Nat) v, (wipeS s2 vs).ρ[i]? = some (some v) → σ[i]? = (wipe σ vs)[i]? := fun i v e => (wipe_out (wipeR_some (vs := vs) e).2).symm
  refine loop_ok his hin hK hm gv w1' rD1 e3 fun F2 H2 w2 m2 rD2 => ?_
  exact next F2 H2 (w2.reslot (wipe_length σ vs).symm hsl) (m1.trans m2) (rD2.reslot hsl)
/-- a comprehension's value -/
theorem dLc_core {fi : De (List PyData)} {h : PyData → Stt → Option Stt} {ft : De Bool} {vs is : List Nat} {inner : Acc} {body : Addr → L2.St → Hp → (Hp → Prop) → Prop} {Q : VK} (his : ∀ i ∈ is, i ∈ vs) (hin : ∀ D, InnerOk K mg D inner (body D)) (p : tE K mg W (dLc fi h ft vs inner) σ H Q) :
    tI K mg W fi σ H fun J H1 => ∀ D, H1 D = none → LoopR J (tG K mg is h) (tT K mg WF ft) (body D) σ vs (upd H1 D (.lst [])) fun H' => Q (.ref D) H' := by
  obtain ⟨g, s, F, hK, hm, w, p⟩ := p
  refine ⟨g, s, F, hK, hm, w, ?_⟩
  unfold dLc at p
  refine p.bind.imp fun ds s0 F1 H1 w1 m1 q J gv D hD => ?_
  split at q
  · rename_i hp
    cases e : lcLoop h ft vs inner ds [] s0 with
    | exc x s => rw [e] at q; exact q.elim
    | bad => rw [e] at q; exact q.elim
    | ok acc s1 =>
      rw [e] at q
      obtain ⟨w2, r2⟩ := w1.own_new hD (vs := []) (xs := []) (Nat.zero_le _) .nil
      refine loop_ok his (hin D) hK hm gv w2 r2 e fun F3 H3 w3 m3 r3 => ?_
      -- back in the def's own slots
      have hsl : ∀ (i : Nat) v, (wipeS s1 vs).ρ[i]? = some (some v) → σ[i]? = (wipe σ vs)[i]? := fun i v e => (wipe_out (wipeR_some (vs := vs) e).2).symm
      have w4 : Wf g (wipeS s1 vs) σ F3 H3 := w3.reslot (wipe_length σ vs).symm hsl
      have r4 : VRep g (wipeS s1 vs) σ F3 H3 (.ref D) (.own acc) := r3.reslot hsl
      have key : ∀ (i : Nat) (v : Va), (back s0.ρ s1.ρ vs)[i]? = some (some v) → ((∃ d, v = .dat d ∨ v = .pot) ∧ s0.ρ[i]? = some (some v)) ∨ (wipeS s1 vs).ρ[i]? = some (some v) := fun i v e => by
        rcases back_some e with ⟨h1, h2⟩ | ⟨h1, h2⟩
        · have := List.all_eq_true.mp hp i h1
          unfold plainAt at this
          rw [h2] at this
          cases v with
          | dat d => exact .inl ⟨⟨d, .inl rfl⟩, h2⟩
          | pot => exact .inl ⟨⟨.none, .inr rfl⟩, h2⟩
          | own xs => cases this
          | bor xs => cases this
        · exact .inr (by show (wipeR s1.ρ vs)[i]? = _; rw [wipeR_out h1]; exact h2)
      have w5 : Wf g ⟨back s0.ρ s1.ρ vs, s1.S⟩ σ F3 H3 := by
        refine ⟨(back_length s0.ρ s1.ρ vs).trans ((wipeR_length s1.ρ vs).symm.trans w4.len), w4.sub, w4.ff, w4.new, w4.base, w4.hpa, w4.pot, fun i v e => ?_, fun i j xs ys a e1 e2 e3 e4 => ?_⟩
        · rcases key i v e with ⟨⟨d, hd⟩, e'⟩ | e'
          · obtain ⟨u, e5, r5⟩ := w1.slots i v e'
            refine ⟨u, e5, ?_⟩
            rcases hd with rfl | rfl
            · exact Rp.mono m3 r5
            · exact r5
          · exact w4.slots i v e'
        · have f : ∀ (i : Nat) (xs : List PyData), (back s0.ρ s1.ρ vs)[i]? = some (some (.own xs)) → (wipeS s1 vs).ρ[i]? = some (some (.own xs)) := fun i xs e => by
            rcases key i _ e with ⟨⟨d, hd⟩, e'⟩ | e'
            · rcases hd with hd | hd <;> cases hd
            · exact e'
          exact w4.sep i j xs ys a (f i xs e1) (f j ys e2) e3 e4
      refine q F3 H3 w5 m3 _ ?_
      obtain ⟨a, ea, o, ap⟩ := r4
      refine ⟨a, ea, o, fun i xs e1 e2 => ?_⟩
      rcases key i _ e1 with ⟨⟨d, hd⟩, e'⟩ | e'
      · rcases hd with hd | hd <;> cases hd
      · exact ap i xs e' e2
  · exact q.elim
end

/-! ### the rules -/
def PTsOk (X : Cx) (mg : Str → Option Value) (W : WX) (ifs : List Expr) (ft : De Bool) : Prop := PTs X ifs (tT X.K mg W ft)
def dYes : De Bool := fun s => .ok true s
theorem pts_dNil {X : Cx} {mg : Str → Option Value} {W : WX} : PTs X [] (tT X.K mg W dYes) := ⟨fun pins s₀ σ H Q I q => pts_nil.run pins s₀ σ H Q I (by
  obtain ⟨g, s, F, hK, hm, w, p⟩ := q
  exact p F H w (Same.refl _))⟩
theorem PTs.by {X : Cx} {e : List Expr} {t : TT} (h : ∀ pins s σ H Q, Inv X pins σ H s → t σ H Q → ∃ t', PTs X e t' ∧ t' σ H Q) : PTs X e t :=
  ⟨fun pins s σ H Q I q => by obtain ⟨t', p, q'⟩ := h pins s σ H Q I q; exact p.run pins s σ H Q I q'⟩
theorem pts_dOne {X : Cx} {mg : Str → Option Value} {W : WX} {c : Expr} {ft : De Bool} (h : PT X c (tT X.K mg W ft)) : PTs X [c] (tT X.K mg W ft) := pts_one h
/-- a thing holds in every block of a comprehension -/
abbrev InBlk (X : Cx) (scope : Scope) (P : Cx → Prop) : Prop := ∀ (s : Shared) (H : Hp) (C : Addr) (cl : List (Str × Addr)) (fp : List Addr), P (X.blk s H scope (compEnvC scope cl C X.env) fp)
section
variable {X : Cx} {mg : Str → Option Value} {W : WX} {elt tg iter tg1 iter1 : Expr} {ifs ifs1 : List Expr} {scope : Scope} {own : List (Str × Nat)} {pos spos py : Pos} {fi fi1 : De (List PyData)} {h h1 : PyData → Stt → Option Stt} {ft ft1 : De Bool} {fe : De Va} {is js vs1 : List Nat} {y : Str} {i : Nat}
theorem pe_dLc1 (hc : X.calm = true) (hN : X.N.Nodup) (hi : PI X tg iter (tI X.K mg W fi)) (ok : BlkOk X.N X.env.scope scope own) (his : ∀ i ∈ is, i ∈ own.map (·.2)) (hg : InBlk X scope fun Y => PG Y tg (tG X.K mg is h)) (ht : InBlk X scope fun Y => PTs Y ifs (tT X.K mg WF ft))
    (he : InBlk X scope fun Y => PE Y elt (tE X.K mg WF fe)) (hs : ∀ x, foldedSetIterable iter X.env x = pure x) : PE X (.ListComp elt [⟨tg, iter, ifs, 0⟩] scope pos) (tE X.K mg W (dLc fi h ft (own.map (·.2)) (accE fe))) :=
  PE.by fun pins s₀ σ H Q I q => ⟨_, pe_lc hc hN hi ok hg ht he hs, dLc_core his (fun D => inner_elt) q⟩
theorem ps_dLc1 (hc : X.calm = true) (hN : X.N.Nodup) (hy : X.N[i]? = some y) (hyl : X.env.scope.names.lookup y = some .local) (hsw : swapsWith (.ListComp elt [⟨tg, iter, ifs, 0⟩] scope pos) (some (.Name y py)) spos.line X.env = pure true)
    (hi : PI X tg iter (tI X.K mg W fi)) (ok : BlkOk X.N X.env.scope scope own) (his : ∀ i ∈ is, i ∈ own.map (·.2)) (hg : InBlk X scope fun Y => PG Y tg (tG X.K mg is h)) (ht : InBlk X scope fun Y => PTs Y ifs (tT X.K mg WF ft))
    (he : InBlk X scope fun Y => PE Y elt (tE X.K mg WF fe)) (hs : ∀ x, foldedSetIterable iter X.env x = pure x) : PS X (.Assign [.Name y py] (.ListComp elt [⟨tg, iter, ifs, 0⟩] scope pos) spos) (tS X.K mg W (dSet i (dLc fi h ft (own.map (·.2)) (accE fe)))) := by
  refine PS.by fun pins s₀ σ H D I q => ⟨_, ps_setLc hc hN hy hyl hsw hi ok hg ht he hs, ?_⟩
  obtain ⟨g, s, F, hK, hm, w, p⟩ := q
  refine dLc_core (Q := fun x H1 => gName i x σ H1 D.nx) his (fun D => inner_elt) ⟨g, s, F, hK, hm, w, ?_⟩
  refine (Post.toS p).imp fun v s1 F1 H1 w1 m1 q u r => ?_
  obtain ⟨nb, q⟩ := putV_nx q
  have hl : i < σ.length := by rw [I.len]; exact (List.getElem?_eq_some_iff.mp hy).1
  exact q _ F1 H1 (w1.store hl r nb) (Same.refl _)
theorem pe_dLc2 (hc : X.calm = true) (hN : X.N.Nodup) (hi : PI X tg iter (tI X.K mg W fi)) (ok : BlkOk X.N X.env.scope scope own) (his : ∀ i ∈ is, i ∈ own.map (·.2)) (hjs : ∀ i ∈ js, i ∈ vs1) (hv : ∀ i ∈ vs1, i ∈ own.map (·.2)) (hg : InBlk X scope fun Y => PG Y tg (tG X.K mg is h)) (ht : InBlk X scope fun Y => PTs Y ifs (tT X.K mg WF ft))
    (hi1 : InBlk X scope fun Y => PI Y tg1 iter1 (tI X.K mg WF fi1)) (hg1 : InBlk X scope fun Y => PG Y tg1 (tG X.K mg js h1)) (ht1 : InBlk X scope fun Y => PTs Y ifs1 (tT X.K mg WF ft1))
    (he : InBlk X scope fun Y => PE Y elt (tE X.K mg WF fe)) (hs : ∀ x, foldedSetIterable iter X.env x = pure x) (hs1 : ∀ env x, foldedSetIterable iter1 env x = pure x) :
    PE X (.ListComp elt [⟨tg, iter, ifs, 0⟩, ⟨tg1, iter1, ifs1, 0⟩] scope pos) (tE X.K mg W (dLc fi h ft (own.map (·.2)) (accL fi1 h1 ft1 vs1 (accE fe)))) :=
  PE.by fun pins s₀ σ H Q I q => ⟨_, pe_lc2 hc hN hi ok hv hg ht hi1 hg1 ht1 he hs hs1, dLc_core his (fun D => inner_loop hjs inner_elt) q⟩
theorem ps_dLc2 (hc : X.calm = true) (hN : X.N.Nodup) (hy : X.N[i]? = some y) (hyl : X.env.scope.names.lookup y = some .local) (hsw : swapsWith (.ListComp elt [⟨tg, iter, ifs, 0⟩, ⟨tg1, iter1, ifs1, 0⟩] scope pos) (some (.Name y py)) spos.line X.env = pure true)
    (hi : PI X tg iter (tI X.K mg W fi)) (ok : BlkOk X.N X.env.scope scope own) (his : ∀ i ∈ is, i ∈ own.map (·.2)) (hjs : ∀ i ∈ js, i ∈ vs1) (hv : ∀ i ∈ vs1, i ∈ own.map (·.2)) (hg : InBlk X scope fun Y => PG Y tg (tG X.K mg is h)) (ht : InBlk X scope fun Y => PTs Y ifs (tT X.K mg WF ft))
    (hi1 : InBlk X scope fun Y => PI Y tg1 iter1 (tI X.K mg WF fi1)) (hg1 : InBlk X scope fun Y => PG Y tg1 (tG X.K mg js h1)) (ht1 : InBlk X scope fun Y => PTs Y ifs1 (tT X.K mg WF ft1))
    (he : InBlk X scope fun Y => PE Y elt (tE X.K mg WF fe)) (hs : ∀ x, foldedSetIterable iter X.env x = pure x) (hs1 : ∀ env x, foldedSetIterable iter1 env x = pure x) :
    PS X (.Assign [.Name y py] (.ListComp elt [⟨tg, iter, ifs, 0⟩, ⟨tg1, iter1, ifs1, 0⟩] scope pos) spos) (tS X.K mg W (dSet i (dLc fi h ft (own.map (·.2)) (accL fi1 h1 ft1 vs1 (accE fe))))) := by
  refine PS.by fun pins s₀ σ H D I q => ⟨_, ps_setLc2 hc hN hy hyl hsw hi ok hv hg ht hi1 hg1 ht1 he hs hs1, ?_⟩
  obtain ⟨g, s, F, hK, hm, w, p⟩ := q
  refine dLc_core (Q := fun x H1 => gName i x σ H1 D.nx) his (fun D => inner_loop hjs inner_elt) ⟨g, s, F, hK, hm, w, ?_⟩
  refine (Post.toS p).imp fun v s1 F1 H1 w1 m1 q u r => ?_
  obtain ⟨nb, q⟩ := putV_nx q
  have hl : i < σ.length := by rw [I.len]; exact (List.getElem?_eq_some_iff.mp hy).1
  exact q _ F1 H1 (w1.store hl r nb) (Same.refl _)
end
end Ev

namespace Ev
open PySem PySem.Spec PyProof.Rows L2

/-! ## calls of defs -/
inductive FR where
  | ok (v : Va) (S : List PyData)
  | exc (x : Exn) (S : List PyData)
  | bad
/-- what a def does: of arguments and the pot's content -/
abbrev Fn := List Va → List PyData → FR
/-- from the heaps F, H (the pot at pa) to F', H' -/
structure Step (pa : Addr) (F H F' H' : Hp) : Prop where
  ff : Same F F'
  sub : Same F' H'
  new : ∀ a, H a ≠ none → F' a = F a
  base : ∀ a o, a ≠ pa → H a = some o → H' a = some o
  hpa : F' pa = none
def PotAt (K : PySem.W.Frag) (pa : Addr) (F H : Hp) (S : List PyData) : Prop := ∃ vs, H pa = some (.lst vs) ∧ vs.length ≤ sizeLine ∧ RpAll K F vs S
/-- a def's value: H the heap ahead of the call -/
def RRep (K : PySem.W.Frag) (pa : Addr) (H F' H' : Hp) (u : V) : Va → Prop
  | .dat d => Rp K F' u d
  | .pot => u = .ref pa
  | .own xs => ∃ a vs, u = .ref a ∧ a ≠ pa ∧ H a = none ∧ F' a = none ∧ H' a = some (.lst vs) ∧ vs.length ≤ sizeLine ∧ RpAll K F' vs xs
  | .bor _ => False
def spFn (K : PySem.W.Frag) (mg : Str → Option Value) (np : Nat) (φ : Fn) : Sp := fun vs H Q E => vs.length = np ∧
  ∃ (pa : Addr) (F : Hp) (args : List Va) (S : List PyData), Same F H ∧ F pa = none ∧ PotAt K pa F H S ∧ AReps ⟨K, mg, pa, F, H⟩ F vs args ∧
    match φ args S with
    | .ok v S' => ∀ u F' H', Step pa F H F' H' → PotAt K pa F' H' S' → RRep K pa H F' H' u v → Q u H'
    | .exc x S' => ∀ cls d F' H', Step pa F H F' H' → PotAt K pa F' H' S' → XRep ⟨K, mg, pa, F, H⟩ F' x cls d → E cls d H'
    | .bad => False
section
variable {g : Gh} {s : Stt} {σ : L2.St} {F H F' H' : Hp}
theorem Wf.step (w : Wf g s σ F H) (t : Step g.pa F H F' H') {S' : List PyData} (p : PotAt g.K g.pa F' H' S') : Wf g ⟨s.ρ, S'⟩ σ F' H' := by
  refine ⟨w.len, t.sub, w.ff.trans t.ff, fun a h => ?_, fun a o h1 h2 => t.base a o h1 (w.base a o h1 h2), t.hpa, p, fun i v e => ?_, w.sep⟩
  · by_cases ha : a = g.pa
    · subst ha
      rw [t.hpa]
      exact (w.ff.free w.hpa).symm
    · cases q : g.H0 a with
      | none => exact absurd q h
      | some o => rw [t.new a (by rw [w.base a o ha q]; exact fun z => nomatch z)]; exact w.new a h
  · obtain ⟨u, e1, r⟩ := w.slots i v e
    refine ⟨u, e1, ?_⟩
    cases v with
    | dat d => exact Rp.mono t.ff r
    | pot => exact r
    | bor _ => exact r
    | own xs =>
      obtain ⟨a, e2, o⟩ := r
      obtain ⟨vs, e3, _⟩ := o.at_
      exact ⟨a, e2, o.keep t.ff ((t.new a (by rw [e3]; exact fun z => nomatch z)).trans o.hid) ((t.base a _ o.ne e3).trans e3.symm)⟩
theorem Wf.steps (w : Wf g s σ F H) : Step g.pa g.F0 g.H0 F H := ⟨w.ff, w.sub, w.new, w.base, w.hpa⟩
theorem RRep.v {u : V} {v : Va} (w : Wf g s σ F H) (S' : List PyData) (r : RRep g.K g.pa H F' H' u v) : VRep g ⟨s.ρ, S'⟩ σ F' H' u v := by
  cases v with
  | dat d => exact r
  | pot => exact r
  | bor _ => exact r.elim
  | own xs =>
    obtain ⟨a, vs, rfl, hne, hn, hF, hH, z, ra⟩ := r
    refine ⟨a, rfl, ⟨hne, ?_, hF, vs, hH, z, ra⟩, fun i ys e1 e2 => ?_⟩
    · cases q : g.H0 a with
      | none => rfl
      | some o => rw [w.base a o hne q] at hn; cases hn
    · obtain ⟨u, e3, b, e4, o⟩ := w.slots i _ e1
      rw [e2] at e3; cases e3; cases e4
      obtain ⟨vs', e5, _⟩ := o.at_
      rw [hn] at e5; cases e5
theorem VRep.r {u : V} {v : Va} {s' : Stt} {σ' : L2.St} (r : VRep g s' σ' F' H' u v) (nb : ∀ xs, v ≠ .bor xs) : RRep g.K g.pa g.H0 F' H' u v := by
  cases v with
  | dat d => exact r
  | pot => exact r
  | bor xs => exact absurd rfl (nb xs)
  | own xs =>
    obtain ⟨a, e, o, _⟩ := r
    obtain ⟨vs, e1, z, ra⟩ := o.at_
    exact ⟨a, vs, e, o.ne, o.new, o.hid, e1, z, ra⟩
end
/-- a def by its body -/
def fnOf (np nl : Nat) (body : Ds) : Fn := fun args S => if args.length = np then
    match body ⟨args.map some ++ List.replicate (nl - np) none, S⟩ with
    | .rt (.bor _) _ => .bad
    | .rt v s => .ok v s.S
    | .nx s => .ok (.dat .none) s.S
    | .exc x s => .exc x s.S
    | _ => .bad
  else .bad
/-- the wish of a def's body for exceptions -/
abbrev wOut (E : XK) : WX := fun cls d _ H => E cls d H
section
variable {P : Program} {w : World} {K : PySem.W.Frag} {mg : Str → Option Value} {base : Heap}
theorem slots_args {g : Gh} {F H : Hp} : ∀ {us : List V} {vs : List Va} {i : Nat} {v : Va}, AReps g F us vs → vs[i]? = some v → ∃ u, us[i]? = some u ∧ SlRep g F H u v
  | u :: us, v :: vs, 0, _, ⟨a, b⟩, e => by
    cases e
    refine ⟨u, rfl, ?_⟩
    cases v with
    | dat d => exact a
    | pot => exact a
    | own _ => exact a.elim
    | bor _ => exact a.elim
  | u :: us, v :: vs, i + 1, _, ⟨a, b⟩, e => by
    obtain ⟨u', e1, r⟩ := slots_args (i := i) b (by simpa using e)
    exact ⟨u', by simpa using e1, r⟩
  | [], [], _, _, _, e => by simp at e
  | [], _ :: _, _, _, h, _ => h.elim
  | _ :: _, [], _, _, h, _ => h.elim
theorem wf_start {pa : Addr} {F H : Hp} {vs : List V} {args : List Va} {S : List PyData} {N : List Str} (m : Same F H) (hpa : F pa = none) (p : PotAt K pa F H S) (r : AReps ⟨K, mg, pa, F, H⟩ F vs args) (hl : vs.length ≤ N.length) :
    Wf ⟨K, mg, pa, F, H⟩ ⟨args.map some ++ List.replicate (N.length - vs.length) none, S⟩ (L2.start N vs) F H := by
  have hlen := r.length
  refine ⟨?_, m, Same.refl _, fun _ _ => rfl, fun _ _ _ h => h, hpa, p, fun i v e => ?_, fun i j xs ys a e1 e2 _ _ => ?_⟩
  · show (args.map some ++ List.replicate (N.length - vs.length) none).length = (L2.start N vs).length
    unfold L2.start
    simp [hlen]
  · have e : (args.map some ++ List.replicate (N.length - vs.length) (none : Option Va))[i]? = some (some v) := e
    by_cases hi : i < args.length
    · rw [List.getElem?_append_left (by simpa using hi), List.getElem?_map] at e
      cases q : args[i]? with
      | none => rw [q] at e; cases e
      | some a =>
        rw [q] at e; cases e
        obtain ⟨u, e1, r1⟩ := slots_args (H := H) r q
        refine ⟨u, ?_, r1⟩
        unfold L2.start
        rw [List.getElem?_append_left (by simpa [hlen] using hi), List.getElem?_map, e1]
        rfl
    · rw [List.getElem?_append_right (by simpa using hi), List.getElem?_replicate] at e
      split at e <;> cases e
  · have e1 : (args.map some ++ List.replicate (N.length - vs.length) (none : Option Va))[i]? = some (some (.own xs)) := e1
    by_cases hi : i < args.length
    · rw [List.getElem?_append_left (by simpa using hi), List.getElem?_map] at e1
      cases q : args[i]? with
      | none => rw [q] at e1; cases e1
      | some a =>
        rw [q] at e1; cases e1
        obtain ⟨u, _, r1⟩ := slots_args (H := H) r q
        have : ∀ {us : List V} {vs : List Va} {i : Nat}, AReps ⟨K, mg, pa, F, H⟩ F us vs → vs[i]? = some (.own xs) → False := fun {us vs i} => by
          induction vs generalizing us i with
          | nil => intro _ e; simp at e
          | cons v vs ih =>
            intro h e
            cases us with
            | nil => exact h.elim
            | cons u us =>
              cases i with
              | zero => simp at e; subst e; exact h.1.elim
              | succ i => exact ih h.2 (by simpa using e)
        exact (this r q).elim
    · rw [List.getElem?_append_right (by simpa using hi), List.getElem?_replicate] at e1
      split at e1 <;> cases e1
/-- THE RULE: a def keeps its promise by its body's denotation -/
theorem fn_den {x qual : Str} {st : Stmt} {f : Addr} {fd : FuncData} {N ps : List Str} {k : Nat} {body : Ds} (Fu : Fun K x qual st f fd) (Sc : FnScope N ps (defScope st))
    (hbody : ∀ (cdv : Value) (A : Around) (outer : List PySem.Env) (s : Shared) (H : Hp) (E : XK), Room k (A.deeper (envOfC qual (defScope st) s.heap.objs.size f cdv)) →
      PSs (cxOf (L2.CX P w) P w K mg base N qual (defScope st) f cdv A outer s H E) (defBody st) (tS K mg (wOut E) body)) : FnOk P w K mg base (L2.CX P w) (k + 1) f fd ps (spFn K mg ps.length (fnOf ps.length N.length body)) := by
  refine Fu.okX Sc (fun vs H Q E h => h.1) fun cdv A outer s H vs Q E hr h => ?_
  refine ⟨_, hbody cdv A outer s H E hr, ?_⟩
  obtain ⟨hl, pa, F, args, S, m, hpa, p, r, q⟩ := h
  have hpl : ps.length ≤ N.length := by have := congrArg List.length Sc.pre; rw [List.length_take] at this; omega
  have w0 := wf_start (N := N) m hpa p r (by omega)
  rw [hl] at w0
  have hal : args.length = ps.length := r.length.symm.trans hl
  unfold fnOf at q
  rw [if_pos hal] at q
  refine ⟨_, _, F, rfl, rfl, w0, ?_⟩
  cases e : body ⟨args.map some ++ List.replicate (N.length - ps.length) none, S⟩ with
  | nx s' =>
    rw [e] at q
    exact fun σ' F' H' w' m' => q .non F' H' w'.steps w'.pot .non
  | rt v s' =>
    rw [e] at q
    intro σ' F' H' u w' m' r'
    cases v with
    | dat d => exact q u F' H' w'.steps w'.pot (r'.r fun _ z => nomatch z)
    | own d => exact q u F' H' w'.steps w'.pot (r'.r fun _ z => nomatch z)
    | pot => exact q u F' H' w'.steps w'.pot (r'.r fun _ z => nomatch z)
    | bor d => exact q.elim
  | bk s' => rw [e] at q; exact q.elim
  | ct s' => rw [e] at q; exact q.elim
  | exc x s' =>
    rw [e] at q
    exact fun σ' F' H' cls d w' m' x' => q cls d F' H' w'.steps w'.pot x'
  | bad => rw [e] at q; exact q.elim
end
def dCall (φ : Fn) (fs : De (List Va)) : De Va := fun s => (fs s).bind fun vs s => match φ vs s.S with
  | .ok v S => .ok v ⟨s.ρ, S⟩
  | .exc x S => .exc x ⟨s.ρ, S⟩
  | .bad => .bad
section
variable {X : Cx} {mg : Str → Option Value} {W : WX} {k np : Nat} {f : Addr} {fd : FuncData} {ps : List Str} {x : Str} {p pos : Pos} {e : Expr} {es : List Expr} {fs : De (List Va)} {φ : Fn}
/-- behind the arguments -/
theorem call_core {g : Gh} {s : Stt} {σ : L2.St} {F H : Hp} {Q : VK} {vs : List Va} {us : List V} (hK : g.K = X.K) (hm : g.mg = X.mg) (w : Wf g s σ F H) (r : AReps g F us vs) (hnp : vs.length = np)
    (p : Post g W σ F (match φ vs s.S with
      | .ok v S => Res.ok v ⟨s.ρ, S⟩
      | .exc x S => .exc x ⟨s.ρ, S⟩
      | .bad => .bad) fun v s' F' H' => ∀ u, VRep g s' σ F' H' u v → Q u H') : spFn X.K X.mg np φ us H Q (L2.WE W σ) := by
  have key : ∀ {u : V} {v : Va}, ARep g F u v → ARep ⟨X.K, X.mg, g.pa, F, H⟩ F u v := fun {u v} a => by
    cases v with
    | dat d => exact (show Rp X.K F u d by rw [← hK]; exact a)
    | pot => exact a
    | own _ => exact a
    | bor _ => exact a
  have keys : ∀ {us : List V} {vs : List Va}, AReps g F us vs → AReps ⟨X.K, X.mg, g.pa, F, H⟩ F us vs := fun {us vs} => by
    induction us generalizing vs with
    | nil => intro h; cases vs with
      | nil => trivial
      | cons _ _ => exact h.elim
    | cons u us ih => intro h; cases vs with
      | nil => exact h.elim
      | cons v vs => exact ⟨key h.1, ih h.2⟩
  have hp : PotAt X.K g.pa F H s.S := by rw [← hK]; exact w.pot
  refine ⟨r.length.trans hnp, g.pa, F, vs, s.S, w.sub, w.hpa, hp, keys r, ?_⟩
  cases e : φ vs s.S with
  | ok v S' =>
    rw [e] at p
    intro u F' H' t pt rr
    rw [← hK] at pt rr
    exact p F' H' (w.step t pt) t.ff u (rr.v w S')
  | exc x S' =>
    rw [e] at p
    intro cls d F' H' t pt xr
    rw [← hK] at pt
    refine p F' H' cls d (w.step t pt) t.ff ?_
    obtain ⟨C, h1, h2, h3⟩ := xr
    refine ⟨C, by rw [hm]; exact h1, h2, ?_⟩
    rw [hK]
    exact h3
  | bad => rw [e] at p; exact p.elim
theorem pe_dCall (F : FnOk X.prog X.w X.K X.mg X.base (L2.CX X.prog X.w) k f fd ps (spFn X.K X.mg np φ)) (hr : Room k X.A) (hg : Gl X x) (hmx : X.mg x = some (.ref f)) (hk : PySem.W.keepIn X.K (.ref f) = true) (hb : Binds X.K fd ps []) (tk : Takes X W)
    (ha : PA X (e :: es) (tA X.K X.mg W fs)) (hφ : ∀ vs S, vs.length ≠ np → φ vs S = .bad) (hdb : (x == ("__debug__" : Str)) = false) (he : starEach (e :: es) X.env = (false, eval e X.env) :: starEach es X.env) (hpl : (backTo pos (starEach es X.env)).any (·.1) = false) :
    PE X (.Call (.Name x p) (e :: es) [] pos) (tE X.K X.mg W (dCall φ fs)) := by
  refine PE.by fun pins s₀ σ H Q I q => ⟨_, pe_callS F hr hg hmx hk hb (fun σ => passAt tk σ) ha hdb he hpl, ?_⟩
  obtain ⟨g, s, F, hK, hm, w, p⟩ := q
  refine ⟨g, s, F, hK, hm, w, ?_⟩
  unfold dCall at p
  cases e1 : fs s with
  | ok vs s1 =>
    rw [e1] at p
    refine fun F1 H1 w1 m1 us r1 => ?_
    by_cases hn : vs.length = np
    · exact call_core hK hm w1 r1 hn (p.mono m1)
    · have p := p
      show spFn X.K X.mg np φ us H1 Q (L2.WE W σ)
      have p : Post g W σ F (match φ vs s1.S with
        | .ok v S => Res.ok v ⟨s1.ρ, S⟩
        | .exc x S => .exc x ⟨s1.ρ, S⟩
        | .bad => .bad) _ := p
      rw [hφ vs s1.S hn] at p
      exact p.elim
  | exc x s1 => rw [e1] at p; exact p
  | bad => rw [e1] at p; exact p.elim
/-- a call without arguments -/
theorem pe_dCall0 (F : FnOk X.prog X.w X.K X.mg X.base (L2.CX X.prog X.w) k f fd ps (spFn X.K X.mg 0 φ)) (hr : Room k X.A) (hg : Gl X x) (hmx : X.mg x = some (.ref f)) (hk : PySem.W.keepIn X.K (.ref f) = true) (hb : Binds X.K fd ps []) (tk : Takes X W)
    (hdb : (x == ("__debug__" : Str)) = false) : PE X (.Call (.Name x p) [] [] pos) (tE X.K X.mg W (dCall φ dNil)) := by
  refine ⟨fun pins s₀ σ H Q I q => ?_⟩
  obtain ⟨g, s, F', hK, hm, w, p⟩ := q
  refine wpAny_Call_Name_kw (ld_glob I hg hmx ?_ hdb)
  exact PySem.W.callWith_K0 I.kIn hk (run_fnS (us := []) (vs := []) F hr hb (passAt tk σ) I .nil (call_core (vs := []) hK hm w trivial rfl p))
end
end Ev

namespace Ev
open PySem PySem.Spec PyProof.Rows L2

/-! ## built-in functions and classes, by values -/
def rMaxC (X : Cx) (f : Value) : List V → Hp → VK → Prop := fun xs H Q => ∃ r, CallR X f r ∧ r xs H Q
theorem rMaxC_ok {X : Cx} {f : Value} : CallR X f (rMaxC X f) := fun pins s σ H xs us Q I rs ⟨r, ho, q⟩ => ho pins s σ H xs us Q I rs q
def intsOf : List PyData → Option (List Int)
  | [] => some []
  | .int i :: r => (intsOf r).map (i :: ·)
  | _ :: _ => none
theorem intsOf_ok {K : PySem.W.Frag} {F : Hp} : ∀ {ds : List PyData} {vs : List V} {ns : List Int}, RpAll K F vs ds → intsOf ds = some ns → vs = ns.map V.int ∧ ds = ns.map PyData.int
  | [], _, _, h, e => by cases e; cases h; exact ⟨rfl, rfl⟩
  | .int i :: r, _, ns, h, e => by
    obtain ⟨ns', e1, rfl⟩ := Option.map_eq_some_iff.mp (show (intsOf r).map (i :: ·) = some ns from e)
    cases h with
    | cons a b =>
      cases a
      obtain ⟨h1, h2⟩ := intsOf_ok b e1
      exact ⟨by rw [h1]; rfl, by rw [h2]; rfl⟩
  | .none :: r, _, _, _, e => nomatch (show none = some _ from e)
  | .bool _ :: r, _, _, _, e => nomatch (show none = some _ from e)
  | .str _ :: r, _, _, _, e => nomatch (show none = some _ from e)
  | .list _ :: r, _, _, _, e => nomatch (show none = some _ from e)
  | .tuple _ :: r, _, _, _, e => nomatch (show none = some _ from e)
  | .dict _ :: r, _, _, _, e => nomatch (show none = some _ from e)
def maxL : List Int → Int
  | [] => 0
  | [x] => x
  | x :: y :: r => max x (maxL (y :: r))
def minL : List Int → Int
  | [] => 0
  | [x] => x
  | x :: y :: r => min x (minL (y :: r))
theorem maxL_mem : ∀ {l : List Int}, l ≠ [] → maxL l ∈ l
  | [x], _ => by simp [maxL]
  | x :: y :: r, _ => by
    have := maxL_mem (l := y :: r) (by simp)
    simp only [maxL]
    rcases Int.le_total x (maxL (y :: r)) with h | h
    · rw [Int.max_eq_right h]; exact List.mem_cons_of_mem _ this
    · rw [Int.max_eq_left h]; exact List.mem_cons_self
theorem le_maxL : ∀ {l : List Int} {y : Int}, y ∈ l → y ≤ maxL l
  | [x], y, h => by simp at h; subst h; simp [maxL]
  | x :: z :: r, y, h => by
    simp only [maxL]
    rcases List.mem_cons.mp h with h | h
    · subst h; exact Int.le_max_left _ _
    · exact Int.le_trans (le_maxL h) (Int.le_max_right _ _)
theorem minL_mem : ∀ {l : List Int}, l ≠ [] → minL l ∈ l
  | [x], _ => by simp [minL]
  | x :: y :: r, _ => by
    have := minL_mem (l := y :: r) (by simp)
    simp only [minL]
    rcases Int.le_total x (minL (y :: r)) with h | h
    · rw [Int.min_eq_left h]; exact List.mem_cons_self
    · rw [Int.min_eq_right h]; exact List.mem_cons_of_mem _ this
theorem minL_le : ∀ {l : List Int} {y : Int}, y ∈ l → minL l ≤ y
  | [x], y, h => by simp at h; subst h; simp [minL]
  | x :: z :: r, y, h => by
    simp only [minL]
    rcases List.mem_cons.mp h with h | h
    · subst h; exact Int.min_le_left _ _
    · exact Int.le_trans (Int.min_le_right _ _) (minL_le h)
inductive B1 where
  | len | abs | sum | max | min | int | bool | str | tuple | list
  deriving DecidableEq
def B1.name : B1 → Str
  | .len => "len" | .abs => "abs" | .sum => "sum" | .max => "max" | .min => "min" | .int => "int" | .bool => "bool" | .str => "str" | .tuple => "tuple" | .list => "list"
def B1.val : B1 → Value
  | .len => .builtin "len" | .abs => .builtin "abs" | .sum => .builtin "sum" | .max => .builtin "max" | .min => .builtin "min"
  | .int => .type "int" | .bool => .type "bool" | .str => .type "str" | .tuple => .type "tuple" | .list => .type "list"
def b1D (b : B1) (d : PyData) : Option Va :=
  match b with
  | .len => match d with
    | .str x => some (.dat (.int x.length))
    | .list xs => some (.dat (.int xs.length))
    | .tuple xs => some (.dat (.int xs.length))
    | _ => none
  | .abs => match d with
    | .int i => some (.dat (.int (if i < 0 then -i else i)))
    | _ => none
  | .sum => match d with
    | .list xs => (intsOf xs).map fun ns => .dat (.int ns.sum)
    | _ => none
  | .max => match d with
    | .list xs => (intsOf xs).bind fun ns => if ns.isEmpty then none else some (.dat (.int (maxL ns)))
    | _ => none
  | .min => match d with
    | .list xs => (intsOf xs).bind fun ns => if ns.isEmpty then none else some (.dat (.int (minL ns)))
    | _ => none
  | .int => match d with
    | .int i => some (.dat (.int i))
    | .bool k => some (.dat (.int (if k then 1 else 0)))
    | _ => none
  | .bool => match d with
    | .int i => some (.dat (.bool (i != 0)))
    | .bool k => some (.dat (.bool k))
    | _ => none
  | .str => match d with
    | .int i => if i.natAbs.log2 < 1920 ∧ okS (toString i) = true then some (.dat (.str (toString i))) else none
    | _ => none
  | .tuple => match d with
    | .list xs => some (.dat (.tuple xs))
    | .tuple xs => some (.dat (.tuple xs))
    | _ => none
  | .list => match d with
    | .list xs => some (.own xs)
    | .tuple xs => some (.own xs)
    | .str x => some (.own (x.cps.toList.map fun c => .str ⟨#[c]⟩))
    | _ => none
/-- the signs of a text -/
theorem call_listT {X : Cx} (hc : X.calm = true) : CallR X (.type "list") (fun xs H Q => ∃ z, xs = [.str z] ∧ z.length ≤ sizeLine ∧ ∀ l, H l = none → Q (.ref l) (upd H l (.lst (z.cps.toList.map fun c => V.str ⟨#[c]⟩)))) := by
  intro pins s σ H xs us Q I r h
  obtain ⟨z, rfl, hz, q⟩ := h
  obtain ⟨u, rfl, t, rfl⟩ := vals1 r
  refine call_list_str (I.ok.hd hc) z t (hn := hz) fun h' tk acc' c' hkeep hS hacc => ?_
  refine ⟨.ref s.heap.objs.size, upd H s.heap.objs.size (.lst (z.cps.toList.map fun c => V.str ⟨#[c]⟩)), I.laid hkeep (Nat.le_refl _) (show ObjOk X.prog X.w _ _ _ (.lst (z.cps.toList.map fun c => V.str ⟨#[c]⟩)) from ⟨?_, acc'.toList, c', ?_, ?_⟩), rfl, q _ (I.hok.fresh (Nat.le_refl _))⟩
  · rw [List.length_map, Array.length_toList]; exact hz
  · refine vals_of_at (by rw [List.length_map, Array.length_toList, Array.length_toList, hacc.1]) fun j x w h1 h2 => ?_
    obtain ⟨c, u, e1, e2⟩ := hacc.2 j w (by rw [← Array.getElem?_toList]; exact h2)
    rw [List.getElem?_map, Array.getElem?_toList, e1] at h1
    cases h1
    exact ⟨u, e2⟩
  · rw [Array.toArray_toList]; exact hS
theorem signs_rp {K : PySem.W.Frag} {F : Hp} {x : Str} (h : okS x = true) : RpAll K F (x.cps.toList.map fun c => V.str ⟨#[c]⟩) (x.cps.toList.map fun c => PyData.str ⟨#[c]⟩) := by
  have key : ∀ cs : List Nat, (∀ c ∈ cs, okS ⟨#[c]⟩ = true) → RpAll K F (cs.map fun c => V.str ⟨#[c]⟩) (cs.map fun c => PyData.str ⟨#[c]⟩) := fun cs => by
    induction cs with
    | nil => intro _; exact .nil
    | cons c cs ih => intro hc; exact .cons (.str (hc c (List.mem_cons_self ..))) (ih fun d hd => hc d (List.mem_cons_of_mem _ hd))
  refine key _ fun c hc => ?_
  obtain ⟨i, hi, e⟩ := List.mem_iff_getElem.mp hc
  refine okS_sign h (i := (i : Int)) (c := c) ?_
  exact atI_nat (by rw [List.getElem?_eq_getElem hi, e])
theorem b1D_ok {X : Cx} (hc : X.calm = true) {b : B1} {d : PyData} {v : Va} {g : Gh} {s : Stt} {σ : L2.St} {F H : Hp} {x : V} {Q : VK} (hK : g.K = X.K) (w : Wf g s σ F H) (r : CRp g.K F H x d) (e : b1D b d = some v)
    (q : ∀ u F' H', Wf g s σ F' H' → Same F F' → VRep g s σ F' H' u v → Q u H') : rMaxC X b.val [x] H Q := by
  have q0 : ∀ u, VRep g s σ F H u v → Q u H := fun u r => q u F H w (Same.refl _) r
  cases b with
  | len =>
    unfold b1D at e; dsimp only at e
    split at e
    · cases e
      rename_i z
      have r : Rp g.K F x (.str z) := r
      cases r with
      | str h => exact ⟨_, call_len, _, z.length, rfl, ⟨okS_len h, rfl⟩, q0 _ (.int _)⟩
    · cases e
      obtain ⟨p, vs, rfl, h, z, a⟩ := r
      exact ⟨_, call_len, _, vs.length, rfl, .inl ⟨vs, .inl (.inl h), rfl⟩, q0 _ (by rw [a.length]; exact .int _)⟩
    · cases e
      obtain ⟨p, vs, rfl, h, z, a⟩ := r
      exact ⟨_, call_len, _, vs.length, rfl, .inr ⟨vs, by rw [← hK]; exact seqT w.sub h, rfl⟩, q0 _ (by rw [a.length]; exact .int _)⟩
    · cases e
  | abs =>
    unfold b1D at e; dsimp only at e
    split at e
    · cases e
      rename_i i
      have r : Rp g.K F x (.int i) := r
      cases r
      exact ⟨_, call_abs, i, rfl, q0 _ (.int _)⟩
    · cases e
  | sum =>
    unfold b1D at e; dsimp only at e
    split at e
    · obtain ⟨ns, e1, rfl⟩ := Option.map_eq_some_iff.mp e
      obtain ⟨p, vs, rfl, h, z, a⟩ := r
      obtain ⟨rfl, rfl⟩ := intsOf_ok a e1
      exact ⟨_, cr_sum hc, p, ns, rfl, .inl (.inl h), q0 _ (.int _)⟩
    · cases e
  | max =>
    unfold b1D at e; dsimp only at e
    split at e
    · obtain ⟨ns, e1, e2⟩ := Option.bind_eq_some_iff.mp e
      split at e2
      · cases e2
      · rename_i hne
        cases e2
        obtain ⟨p, vs, rfl, h, z, a⟩ := r
        obtain ⟨rfl, rfl⟩ := intsOf_ok a e1
        have hne' : ns ≠ [] := fun z => hne (by rw [z]; rfl)
        refine ⟨_, cr_max hc, p, ns, rfl, .inl (.inl h), List.length_pos_iff.mpr hne', fun m h1 h2 => ?_⟩
        have : m = maxL ns := Int.le_antisymm (le_maxL h1) (h2 _ (maxL_mem hne'))
        rw [this]
        exact q0 _ (.int _)
    · cases e
  | min =>
    unfold b1D at e; dsimp only at e
    split at e
    · obtain ⟨ns, e1, e2⟩ := Option.bind_eq_some_iff.mp e
      split at e2
      · cases e2
      · rename_i hne
        cases e2
        obtain ⟨p, vs, rfl, h, z, a⟩ := r
        obtain ⟨rfl, rfl⟩ := intsOf_ok a e1
        have hne' : ns ≠ [] := fun z => hne (by rw [z]; rfl)
        refine ⟨_, cr_min hc, p, ns, rfl, .inl (.inl h), List.length_pos_iff.mpr hne', fun m h1 h2 => ?_⟩
        have : m = minL ns := Int.le_antisymm (h2 _ (minL_mem hne')) (minL_le h1)
        rw [this]
        exact q0 _ (.int _)
    · cases e
  | int =>
    unfold b1D at e; dsimp only at e
    split at e
    · cases e
      rename_i i
      have r : Rp g.K F x (.int i) := r
      cases r
      exact ⟨_, call_int1, .inl ⟨i, rfl, q0 _ (.int _)⟩⟩
    · cases e
      rename_i k
      have r : Rp g.K F x (.bool k) := r
      cases r
      exact ⟨_, call_int1, .inr ⟨k, rfl, q0 _ (.int _)⟩⟩
    · cases e
  | bool =>
    unfold b1D at e; dsimp only at e
    split at e
    · cases e
      rename_i i
      have r : Rp g.K F x (.int i) := r
      cases r
      exact ⟨_, call_bool1, .inl ⟨i, rfl, q0 _ (.bl _)⟩⟩
    · cases e
      rename_i k
      have r : Rp g.K F x (.bool k) := r
      cases r
      exact ⟨_, call_bool1, .inr ⟨k, rfl, q0 _ (.bl _)⟩⟩
    · cases e
  | str =>
    unfold b1D at e; dsimp only at e
    split at e
    · split at e
      · rename_i i hb
        cases e
        have r : Rp g.K F x (.int i) := r
        cases r
        exact ⟨_, call_str_int, i, rfl, hb.1, q0 _ (.str hb.2)⟩
      · cases e
    · cases e
  | tuple =>
    unfold b1D at e; dsimp only at e
    split at e
    · cases e
      obtain ⟨p, vs, rfl, h, z, a⟩ := r
      refine ⟨_, call_tuple_of, p, vs, rfl, .inl ⟨.inl (.inl h), fun l hl => ?_⟩⟩
      have hF := w.none_of hl
      exact q _ _ _ (w.alloc hl _) (same_upd hF) (.tup (SqT.of upd_same) z (a.mono (same_upd hF)))
    · cases e
      obtain ⟨p, vs, rfl, h, z, a⟩ := r
      exact ⟨_, call_tuple_of, p, vs, rfl, .inr ⟨by rw [← hK]; exact seqT w.sub h, q0 _ (.tup h z a)⟩⟩
    · cases e
  | list =>
    unfold b1D at e; dsimp only at e
    split at e
    · cases e
      obtain ⟨p, vs, rfl, h, z, a⟩ := r
      refine ⟨_, call_list_of, p, vs, rfl, .inl (.inl (.inl h)), fun l hl => ?_⟩
      obtain ⟨w2, r2⟩ := w.own_new hl z a
      exact q _ F _ w2 (Same.refl _) r2
    · cases e
      obtain ⟨p, vs, rfl, h, z, a⟩ := r
      refine ⟨_, call_list_of, p, vs, rfl, .inr (by rw [← hK]; exact seqT w.sub h), fun l hl => ?_⟩
      obtain ⟨w2, r2⟩ := w.own_new hl z a
      exact q _ F _ w2 (Same.refl _) r2
    · cases e
      rename_i z
      have r : Rp g.K F x (.str z) := r
      cases r with
      | str h =>
        refine ⟨_, call_listT hc, z, rfl, okS_len h, fun l hl => ?_⟩
        obtain ⟨w2, r2⟩ := w.own_new hl (vs := z.cps.toList.map fun c => V.str ⟨#[c]⟩) (by rw [List.length_map, Array.length_toList]; exact okS_len h) (signs_rp h)
        exact q _ F _ w2 (Same.refl _) r2
    · cases e
def dB1 (b : B1) (f : De Va) : De Va := fun s => (f s).bind fun v s => ofOpt ((valD v).bind (b1D b)) s
theorem boot_B1 (b : B1) : bootBuiltins b.name = some b.val ∧ b.name ≠ "__name__" ∧ (b.name == ("__debug__" : Str)) = false := by
  cases b <;> decide +kernel
theorem pe_dB1 {X : Cx} {mg : Str → Option Value} {W : WX} {b : B1} {x : Str} {p pos : Pos} {e : Expr} {f : De Va} (hc : X.calm = true) (hx : x = b.name) (hg : Gl X x) (hm : X.mg x = none) (he : PE X e (tE X.K mg W f)) (hs : starEach [e] X.env = (false, eval e X.env) :: starEach [] X.env) :
    PE X (.Call (.Name x p) [e] [] pos) (tE X.K mg W (dB1 b f)) := by
  subst hx
  obtain ⟨b1, b2, b3⟩ := boot_B1 b
  have core : ∀ {σ H Q}, tE X.K mg W (dB1 b f) σ H Q → tCB (rMaxC X b.val) (tCons (tE X.K mg W f) tNil) σ H Q := fun {σ H Q} ⟨g, s, F, hK, hmg, w, p⟩ => by
    refine tE_run hK hmg w p fun v s1 F1 H1 u w1 m1 r1 p1 => ?_
    obtain ⟨va, e1, q⟩ := ofOpt_post p1
    obtain ⟨d, e2, e3⟩ := Option.bind_eq_some_iff.mp e1
    exact b1D_ok hc hK w1 (r1.con w1 e2) e3 fun u' F' H' w' m' r' => q F' H' w' m' u' r'
  have ha := pa_cons he pa_nil hs
  cases b with
  | len => exact PE.by fun _ _ σ H Q _ q => ⟨_, pe_callB (rMaxC_ok (f := .builtin "len")) hg hm b1 ha b2 b3 hs rfl, core q⟩
  | abs => exact PE.by fun _ _ σ H Q _ q => ⟨_, pe_callB (rMaxC_ok (f := .builtin "abs")) hg hm b1 ha b2 b3 hs rfl, core q⟩
  | sum => exact PE.by fun _ _ σ H Q _ q => ⟨_, pe_callB (rMaxC_ok (f := .builtin "sum")) hg hm b1 ha b2 b3 hs rfl, core q⟩
  | max => exact PE.by fun _ _ σ H Q _ q => ⟨_, pe_callB (rMaxC_ok (f := .builtin "max")) hg hm b1 ha b2 b3 hs rfl, core q⟩
  | min => exact PE.by fun _ _ σ H Q _ q => ⟨_, pe_callB (rMaxC_ok (f := .builtin "min")) hg hm b1 ha b2 b3 hs rfl, core q⟩
  | int => exact PE.by fun _ _ σ H Q _ q => ⟨_, pe_callTy (rMaxC_ok (f := .type "int")) hg hm b1 ha b2 b3 hs rfl, core q⟩
  | bool => exact PE.by fun _ _ σ H Q _ q => ⟨_, pe_callTy (rMaxC_ok (f := .type "bool")) hg hm b1 ha b2 b3 hs rfl, core q⟩
  | str => exact PE.by fun _ _ σ H Q _ q => ⟨_, pe_callTy (rMaxC_ok (f := .type "str")) hg hm b1 ha b2 b3 hs rfl, core q⟩
  | tuple => exact PE.by fun _ _ σ H Q _ q => ⟨_, pe_callTy (rMaxC_ok (f := .type "tuple")) hg hm b1 ha b2 b3 hs rfl, core q⟩
  | list => exact PE.by fun _ _ σ H Q _ q => ⟨_, pe_callTy (rMaxC_ok (f := .type "list")) hg hm b1 ha b2 b3 hs rfl, core q⟩
/-! max, min of two -/
inductive B2 where
  | max | min
  deriving DecidableEq
def B2.name : B2 → Str
  | .max => "max" | .min => "min"
def b2D (b : B2) (d e : PyData) : Option PyData := match d, e with
  | .int i, .int j => some (match b with
    | .max => .int (if j > i then j else i)
    | .min => .int (if j < i then j else i))
  | _, _ => none
def dB2 (b : B2) (f h : De Va) : De Va := fun s => (dFrz f s).bind fun d s => (dFrz h s).bind fun e s => ofOpt ((b2D b d e).map Va.dat) s
theorem pe_dB2 {X : Cx} {mg : Str → Option Value} {W : WX} {b : B2} {x : Str} {p pos : Pos} {e1 e2 : Expr} {f h : De Va} (hc : X.calm = true) (hx : x = b.name) (hg : Gl X x) (hm : X.mg x = none) (h1 : PE X e1 (tE X.K mg W f)) (h2 : PE X e2 (tE X.K mg W h))
    (hs : starEach [e1, e2] X.env = (false, eval e1 X.env) :: starEach [e2] X.env) (hs2 : starEach [e2] X.env = (false, eval e2 X.env) :: starEach [] X.env) : PE X (.Call (.Name x p) [e1, e2] [] pos) (tE X.K mg W (dB2 b f h)) := by
  subst hx
  have hpl : (backTo pos (starEach [e2] X.env)).any (·.1) = false := by rw [hs2]; rfl
  have ha := pa_cons h1 (pa_cons h2 pa_nil hs2) hs
  have core : ∀ {r : List V → Hp → VK → Prop}, (∀ i j H Q, Q (match b with
    | .max => V.int (if j > i then j else i)
    | .min => V.int (if j < i then j else i)) H → r [.int i, .int j] H Q) → ∀ {σ H Q}, tE X.K mg W (dB2 b f h) σ H Q → tCB r (tCons (tE X.K mg W f) (tCons (tE X.K mg W h) tNil)) σ H Q := fun {r} hr {σ H Q} ⟨g, s, F, hK, hmg, w, p⟩ => by
    refine tE_frz hK hmg w p fun d s1 F1 H1 u w1 m1 r1 p1 => ?_
    refine tE_frz hK hmg w1 p1 fun d2 s2 F2 H2 u2 w2 m2 r2 p2 => ?_
    obtain ⟨va, e3, q⟩ := ofOpt_post p2
    obtain ⟨d3, e4, rfl⟩ := Option.map_eq_some_iff.mp e3
    unfold b2D at e4
    split at e4
    · cases e4
      cases r1; cases r2
      refine hr _ _ H2 Q ?_
      cases b with
      | max => exact q F2 H2 w2 (Same.refl _) _ (.int _)
      | min => exact q F2 H2 w2 (Same.refl _) _ (.int _)
    · cases e4
  cases b with
  | max => exact PE.by fun _ _ σ H Q _ q => ⟨_, pe_callB (call_max2 hc) hg hm (by decide +kernel) ha (by decide +kernel) (by decide +kernel) hs hpl, core (fun i j H Q q => ⟨i, j, rfl, q⟩) q⟩
  | min => exact PE.by fun _ _ σ H Q _ q => ⟨_, pe_callB (call_min2 hc) hg hm (by decide +kernel) ha (by decide +kernel) (by decide +kernel) hs hpl, core (fun i j H Q q => ⟨i, j, rfl, q⟩) q⟩

/-! ## isinstance -/
inductive Ty where
  | int | bool | str | tuple | list | dict
  deriving DecidableEq
def Ty.n : Ty → String
  | .int => "int" | .bool => "bool" | .str => "str" | .tuple => "tuple" | .list => "list" | .dict => "dict"
def Ty.name : Ty → Str
  | .int => "int" | .bool => "bool" | .str => "str" | .tuple => "tuple" | .list => "list" | .dict => "dict"
inductive Kd where
  | none | bool | int | str | list | tuple | dict
def kd : PyData → Kd
  | .none => .none | .bool _ => .bool | .int _ => .int | .str _ => .str | .list _ => .list | .tuple _ => .tuple | .dict _ => .dict
def Kd.n : Kd → String
  | .none => "NoneType" | .bool => "bool" | .int => "int" | .str => "str" | .list => "list" | .tuple => "tuple" | .dict => "dict"
def Kd.isi : Kd → Ty → Bool
  | .bool, .bool => true
  | .bool, .int => true
  | .int, .int => true
  | .str, .str => true
  | .list, .list => true
  | .tuple, .tuple => true
  | .dict, .dict => true
  | _, _ => false
def tyN (d : PyData) : String := (kd d).n
def isiD (d : PyData) (t : Ty) : Bool := (kd d).isi t
def Kd.mro : Kd → List Value
  | .none => [.type "NoneType", .type "object"] | .bool => [.type "bool", .type "int", .type "object"] | .int => [.type "int", .type "object"] | .str => [.type "str", .type "object"]
  | .list => [.type "list", .type "object"] | .tuple => [.type "tuple", .type "object"] | .dict => [.type "dict", .type "object"]
theorem mro_ok (k : Kd) : PySem.fastBuiltinMro k.n = some k.mro := by
  cases k <;> decide +kernel
theorem isiK_ok (k : Kd) (t : Ty) : kitB k.n t.n = some (k.isi t) := by
  unfold kitB
  have h : PySem.W.kitMeta t.n = true := by cases t <;> decide +kernel
  rw [mro_ok k, h]
  cases k <;> cases t <;> decide +kernel
theorem isiD_ok (d : PyData) (t : Ty) : kitB (tyN d) t.n = some (isiD d t) := isiK_ok (kd d) t
theorem tyX_of {K : PySem.W.Frag} {F H : Hp} {x : V} {d : PyData} (m : Same F H) (r : CRp K F H x d) : TyX K H x (.type (tyN d)) := by
  cases d with
  | none => have r : Rp K F x .none := r; cases r; exact .base .non
  | bool b => have r : Rp K F x (.bool b) := r; cases r; exact .base (.bl b)
  | int i => have r : Rp K F x (.int i) := r; cases r; exact .base (.int i)
  | str z => have r : Rp K F x (.str z) := r; cases r; exact .base (.str z)
  | list xs => obtain ⟨p, vs, rfl, h, _⟩ := r; exact .base (.lst h)
  | tuple xs =>
    obtain ⟨p, vs, rfl, h, _⟩ := r
    rcases seqT m h with (h | ⟨o, h⟩) | ⟨o, its, n, h, hc, _⟩
    · exact .base (.tup h)
    · exact .fTuple h
    · exact .kTuple h hc
  | dict _ => have r : Rp K F x (.dict _) := r; cases r
def dIsi (f : De Va) (t : Ty) : De Va := fun s => (f s).bind fun v s => ofOpt ((valD v).map fun d => .dat (.bool (isiD d t))) s
theorem boot_Ty (t : Ty) : bootBuiltins t.name = some (.type t.n) ∧ t.name ≠ "__name__" ∧ (t.name == ("__debug__" : Str)) = false := by
  cases t <;> decide +kernel
section
variable {X : Cx} {mg : Str → Option Value} {W : WX} {p p2 pos : Pos} {e : Expr} {f : De Va} {t : Ty} {x y : Str}
theorem pe_ty (hy : y = t.name) (hg2 : Gl X y) (hm2 : X.mg y = none) : PE X (.Name y p2) (tC (.ty t.n)) := by
  subst hy
  obtain ⟨b1, b2, b3⟩ := boot_Ty t
  exact pe_bltn hg2 hm2 b1 rfl b2 b3
theorem pe_dIsi (hx : x = "isinstance") (hy : y = t.name) (hg : Gl X x) (hm : X.mg x = none) (hg2 : Gl X y) (hm2 : X.mg y = none) (he : PE X e (tE X.K mg W f)) (hs : starEach [e, .Name y p2] X.env = (false, eval e X.env) :: starEach [.Name y p2] X.env) :
    PE X (.Call (.Name x p) [e, .Name y p2] [] pos) (tE X.K mg W (dIsi f t)) := by
  subst hx
  refine PE.by fun pins s₀ σ H Q I q => ⟨_, pe_callB call_isi hg hm (by decide +kernel) (pa_cons he (pa_cons (pe_ty hy hg2 hm2) pa_nil rfl) hs) (by decide +kernel) (by decide +kernel) hs rfl, ?_⟩
  obtain ⟨g, s, F, hK, hmg, w, p⟩ := q
  refine tE_run hK hmg w p fun v s1 F1 H1 u w1 m1 r1 p1 => ?_
  obtain ⟨va, e1, q⟩ := ofOpt_post p1
  obtain ⟨d, e2, rfl⟩ := Option.map_eq_some_iff.mp e1
  refine ⟨u, .ty t.n, _, _, isiD d t, rfl, .ty _, ?_, kit_ty (isiD_ok d t), q F1 H1 w1 (Same.refl _) _ (.bl _)⟩
  rw [← hK]
  exact tyX_of w1.sub (r1.con w1 e2)
end

/-! ## range and zip, walked -/
def rangeL (lo : Int) (n : Nat) : List PyData := (List.range n).map fun (k : Nat) => .int (lo + k)
def inR (i : Int) : Bool := decide (-(2 ^ 62) ≤ i ∧ i < 2 ^ 62)
def dRange1 (f : De Va) : De (List PyData) := fun s => (dFrz f s).bind fun d s => match d with
  | .int j => if inR j = true then .ok (rangeL 0 j.toNat) s else .bad
  | _ => .bad
def dRange2 (f h : De Va) : De (List PyData) := fun s => (dFrz f s).bind fun d s => (dFrz h s).bind fun e s => match d, e with
  | .int i, .int j => if (inR i && inR j) = true then .ok (rangeL i (j - i).toNat) s else .bad
  | _, _ => .bad
theorem gives_range {K : PySem.W.Frag} {F : Hp} (lo : Int) (n : Nat) : Gives K F (Itr lo n) (rangeL lo n) := by
  intro g s σ F1 H1 i hK w m
  have hl : (rangeL lo n).length = n := by simp [rangeL]
  rw [hl]
  refine ⟨fun h => h, fun h => h, fun x H2 d hd y => ?_⟩
  obtain ⟨rfl, rfl⟩ := y
  unfold rangeL at hd
  rw [List.getElem?_map] at hd
  by_cases hi : i < n
  · rw [List.getElem?_range hi] at hd
    cases hd
    exact ⟨F1, w, Same.refl _, .int _, Same.refl _, fun _ _ => rfl⟩
  · rw [List.getElem?_eq_none (by simpa using hi)] at hd; cases hd
section
variable {X : Cx} {mg : Str → Option Value} {W : WX} {p pos : Pos} {tg a b : Expr} {f h : De Va} {x : Str}
theorem pi_dRange1 (hx : x = "range") (hg : Gl X x) (hm : X.mg x = none) (ha : PE X a (tE X.K mg W f)) (hs : starEach [a] X.env = [(false, eval a X.env)]) : PI X tg (.Call (.Name x p) [a] [] pos) (tI X.K mg W (dRange1 f)) := by
  subst hx
  refine PI.by fun pins s₀ σ H R I q => ⟨_, pi_range1 hg hm (pa_cons ha pa_nil hs) hs, ?_⟩
  obtain ⟨g, s, F, hK, hmg, w, p⟩ := q
  refine tE_frz hK hmg w p fun d s1 F1 H1 u w1 m1 r1 p1 => ?_
  cases d with
  | int j =>
    cases r1
    have p1 : Post g W σ F1 (if inR j = true then .ok (rangeL 0 j.toNat) s1 else .bad) _ := p1
    split at p1
    · rename_i hj
      have hj := of_decide_eq_true hj
      exact ⟨j, rfl, hj.1, hj.2, p1 F1 H1 w1 (Same.refl _) _ (gives_range 0 _)⟩
    · exact p1.elim
  | _ => exact p1.elim
theorem pi_dRange2 (hx : x = "range") (hg : Gl X x) (hm : X.mg x = none) (ha : PE X a (tE X.K mg W f)) (hb : PE X b (tE X.K mg W h)) (hs : starEach [a, b] X.env = [(false, eval a X.env), (false, eval b X.env)]) (hs2 : starEach [b] X.env = [(false, eval b X.env)]) :
    PI X tg (.Call (.Name x p) [a, b] [] pos) (tI X.K mg W (dRange2 f h)) := by
  subst hx
  refine PI.by fun pins s₀ σ H R I q => ⟨_, pi_range2 hg hm (pa_cons ha (pa_cons hb pa_nil hs2) (by rw [hs, hs2])) hs hs2, ?_⟩
  obtain ⟨g, s, F, hK, hmg, w, p⟩ := q
  refine tE_frz hK hmg w p fun d s1 F1 H1 u w1 m1 r1 p1 => ?_
  refine tE_frz hK hmg w1 p1 fun e s2 F2 H2 u2 w2 m2 r2 p2 => ?_
  cases d with
  | int i =>
    cases e with
    | int j =>
      cases r1; cases r2
      have p2 : Post g W σ F2 (if (inR i && inR j) = true then .ok (rangeL i (j - i).toNat) s2 else .bad) _ := p2
      split at p2
      · rename_i hj
        obtain ⟨h1, h2⟩ := Bool.and_eq_true_iff.mp hj
        have h1 := of_decide_eq_true h1
        have h2 := of_decide_eq_true h2
        exact ⟨i, j, rfl, ⟨h1.1, h1.2, h2.1, h2.2⟩, p2 F2 H2 w2 (Same.refl _) _ (gives_range i _)⟩
      · exact p2.elim
    | _ => exact p2.elim
  | _ => exact p2.elim
end
end Ev

namespace Ev
open PySem PySem.Spec PyProof.Rows L2

/-! ## owned lists changed in place -/
def ownAt (s : Stt) (i : Nat) : Option (List PyData) := match s.ρ[i]? with
  | some (some (.own xs)) => some xs
  | _ => none
theorem ownAt_eq {s : Stt} {i : Nat} {xs : List PyData} (h : ownAt s i = some xs) : s.ρ[i]? = some (some (.own xs)) := by
  unfold ownAt at h
  split at h
  · cases h; assumption
  · cases h
def setOwn (s : Stt) (i : Nat) (xs : List PyData) : Stt := ⟨s.ρ.set i (some (.own xs)), s.S⟩
theorem own_get {g : Gh} {s : Stt} {σ : L2.St} {F H : Hp} {i : Nat} {xs : List PyData} (w : Wf g s σ F H) (h : ownAt s i = some xs) : ∃ a vs, σ[i]? = some (some (.ref a)) ∧ H a = some (.lst vs) ∧ vs.length ≤ sizeLine ∧ RpAll g.K F vs xs := by
  obtain ⟨u, e1, a, rfl, o⟩ := w.slots i _ (ownAt_eq h)
  obtain ⟨vs, e2, z, r⟩ := o.at_
  exact ⟨a, vs, e1, e2, z, r⟩
/-- x.append(e) -/
def dApp (i : Nat) (f : De Va) : De Va := fun s => match ownAt s i with
  | none => .bad
  | some _ => (dFrz f s).bind fun d s => match ownAt s i with
    | none => .bad
    | some xs => if xs.length < 16777216 then .ok (.dat .none) (setOwn s i (xs ++ [d])) else .bad
/-- x.extend(e), e a list -/
def dExt (i : Nat) (f : De Va) : De Va := fun s => match ownAt s i with
  | none => .bad
  | some _ => (dFrz f s).bind fun d s => match ownAt s i, d with
    | some xs, .list ys => if xs.length + ys.length ≤ 16777216 then .ok (.dat .none) (setOwn s i (xs ++ ys)) else .bad
    | _, _ => .bad
/-- x.pop() -/
def dPop (i : Nat) : De Va := fun s => match ownAt s i with
  | none => .bad
  | some xs => match xs[xs.length - 1]? with
    | some d => .ok (.dat d) (setOwn s i xs.dropLast)
    | none => .bad
/-- x.pop(e) -/
def dPopAt (i : Nat) (f : De Va) : De Va := fun s => match ownAt s i with
  | none => .bad
  | some _ => (dFrz f s).bind fun d s => match ownAt s i, d with
    | some xs, .int k => if -(2 ^ 63) ≤ k ∧ k < 2 ^ 63 then (match seqIndex? k xs.length with
      | some j => (match xs[j]? with
        | some d => .ok (.dat d) (setOwn s i (xs.eraseIdx j))
        | none => .bad)
      | none => .bad) else .bad
    | _, _ => .bad
theorem few_one {X : Cx} {e : Expr} {cpos : Pos} (hs : starEach [e] X.env = (false, eval e X.env) :: starEach [] X.env) : ((backTo cpos (starEach [e] X.env)).all (fun x => !x.1) && (backToKw cpos (keywordEach [] X.env)).all (fun x => x.1.isSome)
      && decide ([e].length + ([] : List Keyword).length + (if ([] : List Keyword).isEmpty then 0 else 1) < 30)) = true := by
  rw [hs]; rfl
section
variable {X : Cx} {mg : Str → Option Value} {W : WX} {apos cpos p : Pos} {e : Expr} {f : De Va} {i : Nat} {x : Str}
theorem pe_dApp (hN : X.N[i]? = some x) (hv : Vis X.env.scope x) (hd : (x == ("__debug__" : Str)) = false) (hcd : (x == ("__classdict__" : Str)) = false) (he : PE X e (tE X.K mg W f)) (hs : starEach [e] X.env = (false, eval e X.env) :: starEach [] X.env) (hl : (apos.endLine == cpos.line) = true) :
    PE X (.Call (.Attribute (.Name x p) "append" apos) [e] [] cpos) (tE X.K mg W (dApp i f)) := by
  refine PE.by fun pins s₀ σ H Q I q => ⟨_, pe_bm PySem.F.plainAttrs_list PySem.F.slot_list_append PySem.F.type_list_append mt_append (pe_var hN hv hd hcd) (pa_cons he pa_nil hs) rfl (few_one hs) hl hs rfl, ?_⟩
  obtain ⟨g, s, F, hK, hm, w, p⟩ := q
  unfold dApp at p
  split at p
  · exact p.elim
  · rename_i xs0 e0
    obtain ⟨a, vs0, e1, e2, _⟩ := own_get w e0
    refine ⟨.ref a, e1, .inl ⟨rfl, vs0, .inl (.inl e2)⟩, ?_⟩
    refine tE_frz hK hm w p fun d s1 F1 H1 u w1 m1 r1 p1 => ?_
    split at p1
    · exact p1.elim
    · rename_i xs e3
      split at p1
      · rename_i z
        obtain ⟨a', vs, e4, e5, z5, r5⟩ := own_get w1 e3
        rw [e1] at e4; cases e4
        have z' : vs.length < sizeLine := by rw [r5.length, sizeLine_eq]; exact z
        refine ⟨a, vs, u, rfl, rfl, e5, z', ?_⟩
        have w2 := w1.write (ownAt_eq e3) e1 (vs := vs ++ [u]) (ys := xs ++ [d]) (by rw [List.length_append]; exact z') (r5.append (.cons r1 .nil))
        exact p1 F1 _ w2 (Same.refl _) _ .non
      · exact p1.elim
theorem pe_dExt (hN : X.N[i]? = some x) (hv : Vis X.env.scope x) (hd : (x == ("__debug__" : Str)) = false) (hcd : (x == ("__classdict__" : Str)) = false) (he : PE X e (tE X.K mg W f)) (hs : starEach [e] X.env = (false, eval e X.env) :: starEach [] X.env) (hl : (apos.endLine == cpos.line) = true) :
    PE X (.Call (.Attribute (.Name x p) "extend" apos) [e] [] cpos) (tE X.K mg W (dExt i f)) := by
  refine PE.by fun pins s₀ σ H Q I q => ⟨_, pe_bm PySem.F.plainAttrs_list PySem.F.slot_list_extend PySem.F.type_list_extend mt_extend (pe_var hN hv hd hcd) (pa_cons he pa_nil hs) rfl (few_one hs) hl hs rfl, ?_⟩
  obtain ⟨g, s, F, hK, hm, w, p⟩ := q
  unfold dExt at p
  split at p
  · exact p.elim
  · rename_i xs0 e0
    obtain ⟨a, vs0, e1, e2, _⟩ := own_get w e0
    refine ⟨.ref a, e1, .inl ⟨rfl, vs0, .inl (.inl e2)⟩, ?_⟩
    refine tE_frz hK hm w p fun d s1 F1 H1 u w1 m1 r1 p1 => ?_
    split at p1
    · rename_i xs ys e3
      split at p1
      · rename_i z
        obtain ⟨a', vs, e4, e5, z5, r5⟩ := own_get w1 e3
        rw [e1] at e4; cases e4
        cases r1 with
        | lst hb zb rb =>
          rename_i b ws
          have z' : vs.length + ws.length ≤ sizeLine := by rw [r5.length, rb.length, sizeLine_eq]; exact z
          refine ⟨a, b, vs, ws, rfl, rfl, e5, w1.sub _ _ hb, z', ?_⟩
          have w2 := w1.write (ownAt_eq e3) e1 (vs := vs ++ ws) (ys := xs ++ ys) (by rw [List.length_append]; exact z') (r5.append rb)
          exact p1 F1 _ w2 (Same.refl _) _ .non
      · exact p1.elim
    · exact p1.elim
theorem pe_dPop (hN : X.N[i]? = some x) (hv : Vis X.env.scope x) (hd : (x == ("__debug__" : Str)) = false) (hcd : (x == ("__classdict__" : Str)) = false) (hl : (apos.endLine == cpos.line) = true) :
    PE X (.Call (.Attribute (.Name x p) "pop" apos) [] [] cpos) (tE X.K mg W (dPop i)) := by
  refine PE.by fun pins s₀ σ H Q I q => ⟨_, pe_bm0 PySem.F.plainAttrs_list PySem.F.slot_list_pop PySem.F.type_list_pop mt_pop (pe_var hN hv hd hcd) rfl hl, ?_⟩
  obtain ⟨g, s, F, hK, hm, w, p⟩ := q
  unfold dPop at p
  split at p
  · exact p.elim
  · rename_i xs e0
    split at p
    · rename_i d ed
      obtain ⟨a, vs, e1, e2, z, r⟩ := own_get w e0
      refine ⟨.ref a, e1, .inl ⟨rfl, vs, .inl (.inl e2)⟩, ?_⟩
      obtain ⟨v, ev, rv⟩ := r.get ed
      refine ⟨a, vs, v, rfl, rfl, e2, by rw [r.length]; exact ev, ?_⟩
      have w2 := w.write (ownAt_eq e0) e1 (vs := vs.dropLast) (ys := xs.dropLast) (by rw [List.length_dropLast]; omega) (by rw [List.dropLast_eq_take, List.dropLast_eq_take, r.length]; exact r.take _)
      exact p F _ w2 (Same.refl _) _ rv
    · exact p.elim
theorem pe_dPopAt (hN : X.N[i]? = some x) (hv : Vis X.env.scope x) (hd : (x == ("__debug__" : Str)) = false) (hcd : (x == ("__classdict__" : Str)) = false) (he : PE X e (tE X.K mg W f)) (hs : starEach [e] X.env = (false, eval e X.env) :: starEach [] X.env) (hl : (apos.endLine == cpos.line) = true) :
    PE X (.Call (.Attribute (.Name x p) "pop" apos) [e] [] cpos) (tE X.K mg W (dPopAt i f)) := by
  refine PE.by fun pins s₀ σ H Q I q => ⟨_, pe_bm PySem.F.plainAttrs_list PySem.F.slot_list_pop PySem.F.type_list_pop mt_popAt (pe_var hN hv hd hcd) (pa_cons he pa_nil hs) rfl (few_one hs) hl hs rfl, ?_⟩
  obtain ⟨g, s, F, hK, hm, w, p⟩ := q
  unfold dPopAt at p
  split at p
  · exact p.elim
  · rename_i xs0 e0
    obtain ⟨a, vs0, e1, e2, _⟩ := own_get w e0
    refine ⟨.ref a, e1, .inl ⟨rfl, vs0, .inl (.inl e2)⟩, ?_⟩
    refine tE_frz hK hm w p fun d s1 F1 H1 u w1 m1 r1 p1 => ?_
    split at p1
    · rename_i xs k e3
      split at p1
      · rename_i hk
        split at p1
        · rename_i j ej
          split at p1
          · rename_i d ed
            obtain ⟨a', vs, e4, e5, z5, r5⟩ := own_get w1 e3
            rw [e1] at e4; cases e4
            cases r1
            obtain ⟨v, ev, rv⟩ := r5.get ed
            refine ⟨a, vs, k, j, v, rfl, rfl, e5, hk.1, hk.2, by rw [r5.length]; exact ej, ev, ?_⟩
            have w2 := w1.write (ownAt_eq e3) e1 (vs := vs.eraseIdx j) (ys := xs.eraseIdx j) (Nat.le_trans (len_erase vs j) z5) (r5.erase j)
            exact p1 F1 _ w2 (Same.refl _) _ rv
          · exact p1.elim
        · exact p1.elim
      · exact p1.elim
    · exact p1.elim
end

/-! ## x[e] = v: an owned list, the pot -/
def dSto (i : Nat) (fi f : De Va) : Ds := fun s => match s.ρ[i]? with
  | some (some _) => (dFrz f s).toS fun d s => (dFrz fi s).toS fun k s => match s.ρ[i]?, k with
    | some (some (.own xs)), .int k => (match ixN xs.length k with
      | some j => .nx (setOwn s i (xs.set j d))
      | none => .bad)
    | some (some .pot), .int k => (match ixN s.S.length k with
      | some j => .nx ⟨s.ρ, s.S.set j d⟩
      | none => .bad)
    | _, _ => .bad
  | _ => .bad
theorem toS_frz {g : Gh} {W : WX} {F H : Hp} {σ : L2.St} {s : Stt} {f : De Va} {h : PyData → Ds} {D : Ends} {K : PySem.W.Frag} {mg : Str → Option Value} {R : VK} (hK : g.K = K) (hm : g.mg = mg) (w : Wf g s σ F H) (p : PostS g W F ((dFrz f s).toS h) D)
    (c : ∀ d s1 F1 H1 u, Wf g s1 σ F1 H1 → Same F F1 → Rp g.K F1 u d → PostS g W F1 (h d s1) D → R u H1) : tE K mg W f σ H R := by
  refine ⟨g, s, F, hK, hm, w, ?_⟩
  have p1 : Post g W σ F (dFrz f s) fun a s F' _ => PostS g W F' (h a s) D := Post.toS p
  unfold dFrz at p1
  refine p1.bind.imp fun v s1 F1 H1 w1 m1 q u r => ?_
  cases v with
  | dat d => exact c d s1 F1 H1 u w1 m1 r (q F1 H1 w1 (Same.refl _))
  | own xs =>
    obtain ⟨a, rfl, o, ap⟩ := r
    obtain ⟨F2, w2, m2, r2⟩ := w1.freeze o ap
    exact c _ s1 F2 H1 _ w2 (m1.trans m2) r2 (q F2 H1 w2 m2)
  | bor _ => exact q.elim
  | pot => exact q.elim
section
variable {X : Cx} {mg : Str → Option Value} {W : WX} {pos tpos p : Pos} {e ei : Expr} {f fi : De Va} {i : Nat} {x : Str}
theorem ps_dSto (hN : X.N[i]? = some x) (hv : Vis X.env.scope x) (hd : (x == ("__debug__" : Str)) = false) (hcd : (x == ("__classdict__" : Str)) = false) (hi : PE X ei (tE X.K mg W fi)) (he : PE X e (tE X.K mg W f))
    (ha : ∀ v, assign (.Subscript (.Name x p) ei tpos) X.env v = (do
      let ov ← holding [v] (eval (.Name x p) X.env)
      let iv ← holding [v, ov] (eval ei X.env)
      standAt tpos
      holding [v, ov, iv] (setItem ov iv v)
      release [v, ov, iv] []))
    (hs : swapsWithSole [.Subscript (.Name x p) ei tpos] e pos.line X.env = pure false) (hw : swappedStores [.Subscript (.Name x p) ei tpos] e X.env = pure none) : PS X (.Assign [.Subscript (.Name x p) ei tpos] e pos) (tS X.K mg W (dSto i fi f)) := by
  refine PS.by fun pins s₀ σ H D I q => ⟨_, ps_asg he (pg_sub (pe_var hN hv hd hcd) hi set_list ha) hs hw rfl, ?_⟩
  obtain ⟨g, s, F, hK, hm, w, p⟩ := q
  unfold dSto at p
  split at p
  · rename_i va e0
    obtain ⟨u0, e1, _⟩ := w.slots i _ e0
    refine toS_frz hK hm w p fun d s1 F1 H1 u w1 m1 r1 p1 => ?_
    refine ⟨u0, e1, ?_⟩
    refine toS_frz hK hm w1 p1 fun k s2 F2 H2 u2 w2 m2 r2 p2 => ?_
    split at p2
    · rename_i xs k e3
      split at p2
      · rename_i j ej
        have e3' : ownAt s2 i = some xs := by unfold ownAt; rw [e3]
        obtain ⟨a, vs, e4, e5, z5, r5⟩ := own_get w2 e3'
        rw [e1] at e4; cases e4
        cases r2
        refine ⟨a, vs, k, j, rfl, rfl, e5, by rw [r5.length]; exact ej, ?_⟩
        have w3 := w2.write e3 e1 (vs := vs.set j u) (ys := xs.set j d) (by rw [List.length_set]; exact z5) (r5.set (r1.mono m2) j)
        exact p2 _ F2 _ w3 (Same.refl _)
      · exact p2.elim
    · rename_i k e3
      split at p2
      · rename_i j ej
        obtain ⟨u4, e4, r4⟩ := w2.slots i _ e3
        rw [e1] at e4; cases e4
        cases (show u0 = .ref g.pa from r4)
        obtain ⟨vs, e5, z5, r5⟩ := w2.pot
        cases r2
        refine ⟨g.pa, vs, k, j, rfl, rfl, e5, by rw [r5.length]; exact ej, ?_⟩
        have w3 := w2.potW (vs := vs.set j u) (S' := s2.S.set j d) (by rw [List.length_set]; exact z5) (r5.set (r1.mono m2) j)
        exact p2 _ F2 _ w3 (Same.refl _)
      · exact p2.elim
    · exact p2.elim
  · exact p.elim
/-! name op= e -/
def augI (o : Operator) (i j : Int) : Option Int := match o with
  | .Add => some (i + j)
  | .Sub => some (i - j)
  | _ => none
def dAug (i : Nat) (o : Operator) (f : De Va) : Ds := fun s => match s.ρ[i]? with
  | some (some (.dat (.int k))) => (dFrz f s).toS fun d s => match d with
    | .int j => (match augI o k j with
      | some r => .nx ⟨s.ρ.set i (some (.dat (.int r))), s.S⟩
      | none => .bad)
    | _ => .bad
  | _ => .bad
theorem ps_dAug {o : Operator} (hN : X.N.Nodup) (hi : X.N[i]? = some x) (hx : Loc X.env.scope x) (hf : X.fn x = true ∨ X.env.scope.names.lookup x = some .local) (he : PE X e (tE X.K mg W f)) : PS X (.AugAssign (.Name x p) o e pos) (tS X.K mg W (dAug i o f)) := by
  have core : ∀ {ti : TIp}, (∀ k j r H Q, augI o k j = some r → Q (.int r) H → ti (.int k) (.int j) H Q) → ∀ {D σ H pins s₀}, L2.Inv X pins σ H s₀ → tS X.K mg W (dAug i o f) D σ H → tAug i (tE X.K mg W f) ti D σ H := fun {ti} ht {D σ H pins s₀} I ⟨g, s, F, hK, hm, w, p⟩ => by
    unfold dAug at p
    split at p
    · rename_i k e0
      obtain ⟨u0, e1, r0⟩ := w.slots i _ e0
      have r0 : Rp g.K F u0 (.int k) := r0
      cases r0
      refine ⟨.int k, e1, ?_⟩
      refine toS_frz hK hm w p fun d s1 F1 H1 u w1 m1 r1 p1 => ?_
      split at p1
      · rename_i j
        split at p1
        · rename_i r er
          cases r1
          refine ht k j r H1 _ er ?_
          have hl : i < σ.length := (List.getElem?_eq_some_iff.mp e1).1
          exact p1 _ F1 H1 (w1.store (v := .dat (.int r)) hl (.int r) fun _ z => nomatch z) (Same.refl _)
        · exact p1.elim
      · exact p1.elim
    · exact p.elim
  cases o with
  | Add => exact PS.by fun _ _ σ H D I q => ⟨_, ps_aug hN hi hx he ip_add hf, core (fun k j r H Q e q => ⟨k, j, rfl, rfl, by cases e; exact q⟩) I q⟩
  | Sub => exact PS.by fun _ _ σ H D I q => ⟨_, ps_aug hN hi hx he ip_sub hf, core (fun k j r H Q e q => ⟨k, j, rfl, rfl, by cases e; exact q⟩) I q⟩
  | _ =>
    refine PS.by fun pins s₀ σ H D I q => ?_
    obtain ⟨g, s, F, hK, hm, w, p⟩ := q
    refine ⟨_, ps_aug (ti := fun _ _ _ _ => False) hN hi hx he (fun _ _ _ _ _ _ _ _ _ _ _ _ z => z.elim) hf, core (fun k j r H Q e q => by cases e) I ⟨g, s, F, hK, hm, w, p⟩⟩
end
/-! ## text.startswith(text, place) of a name -/
def dSw (i : Nat) (f h : De Va) : De Va := fun s => match s.ρ[i]? with
  | some (some (.dat (.str x))) => (dFrz f s).bind fun d s => (dFrz h s).bind fun e s => match d, e with
    | .str y, .int k => .ok (.dat (.bool (PySem.Txt.startswith3 x y k))) s
    | _, _ => .bad
  | _ => .bad
theorem pe_dSw {X : Cx} {mg : Str → Option Value} {W : WX} {apos cpos p : Pos} {e1 e2 : Expr} {f h : De Va} {i : Nat} {x : Str} (hN : X.N[i]? = some x) (hv : Vis X.env.scope x) (hd : (x == ("__debug__" : Str)) = false) (hcd : (x == ("__classdict__" : Str)) = false)
    (h1 : PE X e1 (tE X.K mg W f)) (h2 : PE X e2 (tE X.K mg W h)) (hs : starEach [e1, e2] X.env = (false, eval e1 X.env) :: starEach [e2] X.env) (hs2 : starEach [e2] X.env = (false, eval e2 X.env) :: starEach [] X.env) (hl : (apos.endLine == cpos.line) = true) :
    PE X (.Call (.Attribute (.Name x p) "startswith" apos) [e1, e2] [] cpos) (tE X.K mg W (dSw i f h)) := by
  have hpl : (backTo cpos (starEach [e2] X.env)).any (·.1) = false := by rw [hs2]; rfl
  have few : ((backTo cpos (starEach [e1, e2] X.env)).all (fun x => !x.1) && (backToKw cpos (keywordEach [] X.env)).all (fun x => x.1.isSome)
      && decide ([e1, e2].length + ([] : List Keyword).length + (if ([] : List Keyword).isEmpty then 0 else 1) < 30)) = true := by
    rw [hs, hs2]; rfl
  refine PE.by fun pins s₀ σ H Q I q => ⟨_, pe_bm PySem.F.plainAttrs_str PySem.F.slot_str_startswith PySem.F.type_str_startswith mt_startswith3 (pe_var hN hv hd hcd) (pa_cons h1 (pa_cons h2 pa_nil hs2) hs) rfl few hl hs hpl, ?_⟩
  obtain ⟨g, s, F, hK, hm, w, p⟩ := q
  unfold dSw at p
  split at p
  · rename_i x e0
    obtain ⟨u0, e1, r0⟩ := w.slots i _ e0
    have r0 : Rp g.K F u0 (.str x) := r0
    cases r0 with
    | str hx =>
      refine ⟨.str x, e1, rfl, ?_⟩
      refine tE_frz hK hm w p fun d s1 F1 H1 u w1 m1 r1 p1 => ?_
      refine tE_frz hK hm w1 p1 fun d2 s2 F2 H2 u2 w2 m2 r2 p2 => ?_
      split at p2
      · cases r1; cases r2
        exact ⟨_, _, _, rfl, rfl, p2 F2 H2 w2 (Same.refl _) _ (.bl _)⟩
      · exact p2.elim
  · exact p.elim
end Ev

namespace Ev
open PySem PySem.Spec PyProof.Rows L2

/-! ## the small language: what the evaluator reads -/
inductive Tg where
  | n (i : Nat)
  | t (ts : List Tg)
mutual
inductive Ex where
  | var (i : Nat) | peek (i : Nat) | mv (i : Nat) | c (d : PyData)
  | bin (o : Operator) (a b : Ex) | neg (a : Ex)
  | cmp (o : CmpOp) (a b : Ex) | chain (o o' : CmpOp) (a b c : Ex)
  | and (a b : Ex) | or (a b : Ex) | not (a : Ex) | ite (c a b : Ex)
  | tup (es : List Ex) | lst (es : List Ex)
  | idx (a b : Ex) | idxV (i : Nat) (b : Ex)
  | cut (a : Ex) (lo hi : Option Ex) | cutV (i : Nat) (lo hi : Option Ex)
  | call (f : Nat) (es : List Ex)
  | b1 (b : B1) (a : Ex) | b2 (b : B2) (a a' : Ex)
  | isi (a : Ex) (t : Ty)
  | app (i : Nat) (a : Ex) | ext (i : Nat) (a : Ex) | pop (i : Nat) | popAt (i : Nat) (a : Ex)
  | sw (i : Nat) (a b : Ex)
  | lc (it : Itx) (tg : Tg) (ft : Option Ex) (vs : List Nat) (elt : Ex)
  | lc2 (it : Itx) (tg : Tg) (ft : Option Ex) (vs : List Nat) (it1 : Itx) (tg1 : Tg) (ft1 : Option Ex) (vs1 : List Nat) (elt : Ex)
inductive Itx where
  | of (e : Ex) | rng1 (a : Ex) | rng2 (a b : Ex)
end
inductive Sx where
  | expr (e : Ex) | set (i : Nat) (e : Ex) | asg (tg : Tg) (e : Ex) | sto (i : Nat) (ei e : Ex) | aug (i : Nat) (o : Operator) (e : Ex)
  | ifs (c : Ex) (a b : List Sx) | whl (c : Ex) (b : List Sx) | fr (it : Itx) (tg : Tg) (b : List Sx)
  | ret (e : Ex) | retN | brk | cont | pass
mutual
def Tg.put : Tg → PyData → Stt → Option Stt
  | Tg.n i => gPut i
  | Tg.t ts => gUn ts.length (Tg.puts ts)
def Tg.puts : List Tg → List PyData → Stt → Option Stt
  | [] => gNo
  | h :: ts => gCo (Tg.put h) (Tg.puts ts)
end
mutual
def Tg.at : Tg → List Nat
  | Tg.n i => [i]
  | Tg.t ts => Tg.ats ts
def Tg.ats : List Tg → List Nat
  | [] => []
  | h :: ts => Tg.at h ++ Tg.ats ts
end
structure Dn where
  v : De Va
  t : De Bool
def Dn.ofV (f : De Va) : Dn := ⟨f, dTru f⟩
def Dn.ofB (f : De Bool) : Dn := ⟨toV f, f⟩
def dIteB (c f h : De Bool) : De Bool := fun s => (c s).bind fun b s => if b = true then f s else h s
mutual
def den (C : Nat → Fn) : Ex → Dn
  | .var i => .ofV (dVar i)
  | .peek i => .ofV (dPeek i)
  | .mv i => .ofV (dMv i)
  | .c d => .ofV (dC d)
  | .bin o a b => .ofV (dBin o (den C a).v (den C b).v)
  | .neg a => .ofV (dNeg (den C a).v)
  | .cmp o a b => .ofB (dCmpB o (den C a).v (den C b).v)
  | .chain o o' a b c => .ofB (dChainB o o' (den C a).v (den C b).v (den C c).v)
  | .and a b => ⟨dAnd (den C a).v (den C b).v, dAndB (den C a).t (den C b).t⟩
  | .or a b => ⟨dOr (den C a).v (den C b).v, dOrB (den C a).t (den C b).t⟩
  | .not a => ⟨dNot (den C a).v, dNotB (den C a).t⟩
  | .ite c a b => ⟨dIte (den C c).t (den C a).v (den C b).v, dIteB (den C c).t (den C a).t (den C b).t⟩
  | .tup es => .ofV (dTup (denL C es))
  | .lst es => .ofV (dLst (denL C es))
  | .idx a b => .ofV (dIdx (den C a).v (den C b).v)
  | .idxV i b => .ofV (dIdxV i (den C b).v)
  | .cut a lo hi => .ofV (dCut (den C a).v (denO C lo) (denO C hi))
  | .cutV i lo hi => .ofV (dCutV i (denO C lo) (denO C hi))
  | .call f es => .ofV (dCall (C f) (denL C es))
  | .b1 b a => .ofV (dB1 b (den C a).v)
  | .b2 b a a' => .ofV (dB2 b (den C a).v (den C a').v)
  | .isi a t => .ofV (dIsi (den C a).v t)
  | .app i a => .ofV (dApp i (den C a).v)
  | .ext i a => .ofV (dExt i (den C a).v)
  | .pop i => .ofV (dPop i)
  | .popAt i a => .ofV (dPopAt i (den C a).v)
  | .sw i a b => .ofV (dSw i (den C a).v (den C b).v)
  | .lc it tg ft vs elt => .ofV (dLc (denI C it) tg.put (denT C ft) vs (accE (den C elt).v))
  | .lc2 it tg ft vs it1 tg1 ft1 vs1 elt => .ofV (dLc (denI C it) tg.put (denT C ft) vs (accL (denI C it1) tg1.put (denT C ft1) vs1 (accE (den C elt).v)))
def denL (C : Nat → Fn) : List Ex → De (List Va)
  | [] => dNil
  | e :: es => dCons (den C e).v (denL C es)
def denO (C : Nat → Fn) : Option Ex → dO
  | none => dNo
  | some e => dSome (den C e).v
def denI (C : Nat → Fn) : Itx → De (List PyData)
  | .of e => dItems (den C e).v
  | .rng1 a => dRange1 (den C a).v
  | .rng2 a b => dRange2 (den C a).v (den C b).v
def denT (C : Nat → Fn) : Option Ex → De Bool
  | none => dYes
  | some e => (den C e).t
end
/-- how many turns a while is followed at most -/
def turns : Nat := 1000000
mutual
def denS (C : Nat → Fn) : Sx → Ds
  | .expr e => dDrop (den C e).v
  | .set i e => dSet i (den C e).v
  | .asg tg e => dAsg tg.put (den C e).v
  | .sto i ei e => dSto i (den C ei).v (den C e).v
  | .aug i o e => dAug i o (den C e).v
  | .ifs c a b => dIf (den C c).t (denB C a) (denB C b)
  | .whl c b => whileD (den C c).t (denB C b) turns
  | .fr it tg b => dFor (denI C it) tg.put (denB C b)
  | .ret e => dRet (den C e).v
  | .retN => dRetN
  | .brk => dBrk
  | .cont => dCont
  | .pass => dSkip
def denB (C : Nat → Fn) : List Sx → Ds
  | [] => dSkip
  | s :: r => dSeq (denS C s) (denB C r)
end
/-- a def: its parameters, its slots, its body -/
structure FDef where
  np : Nat
  nl : Nat
  body : List Sx
/-- the defs up to a depth of calls -/
def run (T : List FDef) : Nat → Nat → Fn
  | 0, _ => fun _ _ => .bad
  | n + 1, j => match T[j]? with
    | some d => fnOf d.np d.nl (denB (run T n) d.body)
    | none => fun _ _ => .bad

/-! ## from the text -/
inductive Md where
  | frz | peek | mv
def Md.ex (i : Nat) : Md → Ex
  | .frz => .var i
  | .peek => .peek i
  | .mv => .mv i
def boEx (a b : Ex) : BoolOp → Ex
  | .And => .and a b
  | .Or => .or a b
structure Tb where
  fns : List Str
  cst : List (Str × PyData)
def ixOf : List Str → Str → Option Nat
  | [], _ => none
  | y :: r, x => if y = x then some 0 else (ixOf r x).map (· + 1)
theorem ixOf_get : ∀ {N : List Str} {x : Str} {i : Nat}, ixOf N x = some i → N[i]? = some x
  | y :: r, x, i, h => by
    unfold ixOf at h
    split at h
    · rename_i e; cases h; rw [e]; rfl
    · obtain ⟨j, e, rfl⟩ := Option.map_eq_some_iff.mp h
      simpa using ixOf_get e
def seen (sc : Scope) (x : Str) : Bool := match sc.names.lookup x with
  | some .local => true
  | some .cell => true
  | some .free => true
  | _ => false
def stored (sc : Scope) (x : Str) : Bool := match sc.names.lookup x with
  | some .local => true
  | some .cell => true
  | _ => false
/-- a name that may be stored: a local, or a cell of this very block -/
def storedF (sc : Scope) (fc : Str → Bool) (x : Str) : Bool := match sc.names.lookup x with
  | some .local => true
  | some .cell => fc x
  | _ => false
def isGl (sc : Scope) (x : Str) : Bool := match sc.names.lookup x with
  | some .globalImplicit => true
  | _ => false
def plainN (x : Str) : Bool := !(x == ("__debug__" : Str)) && !(x == ("__classdict__" : Str)) && !(x == ("__name__" : Str))
def slotOf (N : List Str) (sc : Scope) (x : Str) : Option Nat := if (seen sc x && plainN x) = true then ixOf N x else none
def trC : Const → Option PyData
  | .none => some .none
  | .bool b => some (.bool b)
  | .int i => some (.int i)
  | .str x => if okS x = true then some (.str x) else none
  | _ => none
def noSlice : Expr → Bool
  | .Slice .. => false
  | _ => true
def noStar : Expr → Bool
  | .Starred .. => false
  | _ => true
def noSet : Expr → Bool
  | .Set .. => false
  | _ => true
def b1Of (x : Str) : Option B1 := [B1.len, .abs, .sum, .max, .min, .int, .bool, .str, .tuple, .list].find? fun b => decide (b.name = x)
def b2Of (x : Str) : Option B2 := [B2.max, .min].find? fun b => decide (b.name = x)
def tyOf (x : Str) : Option Ty := [Ty.int, .bool, .str, .tuple, .list, .dict].find? fun b => decide (b.name = x)
def ownOf (N : List Str) (scope : Scope) : List (Str × Nat) := scope.names.filterMap fun y => match y.2 with
  | .local => (ixOf N y.1).map fun i => (y.1, i)
  | .cell => (ixOf N y.1).map fun i => (y.1, i)
  | _ => none
mutual
def trTg (N : List Str) (sc : Scope) (fc : Str → Bool) : Nat → Expr → Option Tg
  | 0, _ => none
  | n + 1, .Name x _ => if (storedF sc fc x && plainN x) = true then (ixOf N x).map .n else none
  | n + 1, .Tuple es _ _ => (trTgs N sc fc n es).map .t
  | _, _ => none
def trTgs (N : List Str) (sc : Scope) (fc : Str → Bool) : Nat → List Expr → Option (List Tg)
  | 0, _ => none
  | _, [] => some []
  | n + 1, e :: es => if noStar e = true then (trTg N sc fc n e).bind fun t => (trTgs N sc fc n es).map (t :: ·) else none
end
def rngArgs (T : Tb) (sc : Scope) : Expr → Option (List Expr)
  | .Call (.Name x _) es [] _ => if x = "range" ∧ (isGl sc x && (ixOf T.fns x).isNone) = true then some es else none
  | _ => none
mutual
def trE (T : Tb) (N : List Str) : Nat → Scope → Md → Expr → Option Ex
  | 0, _, _, _ => none
  | _ + 1, sc, _, .Constant c _ _ => (trC c).map .c
  | _ + 1, sc, m, .Name x _ => match slotOf N sc x with
    | some i => some (m.ex i)
    | none => if (isGl sc x && plainN x) = true then (T.cst.lookup x).map .c else none
  | n + 1, sc, _, .BinOp a o b _ => (trE T N n sc .frz a).bind fun a => (trE T N n sc .frz b).map fun b => .bin o a b
  | n + 1, sc, _, .UnaryOp .USub a _ => (trE T N n sc .frz a).map .neg
  | n + 1, sc, _, .UnaryOp .Not a _ => (trE T N n sc .peek a).map .not
  | n + 1, sc, _, .Compare a [o] [b] _ => if behindInMarks o b = false then (trE T N n sc .frz a).bind fun a => (trE T N n sc .peek b).map fun b => .cmp o a b else none
  | n + 1, sc, _, .Compare a [o, o'] [b, c] _ => if lastMarks [o, o'] [b, c] = false then (trE T N n sc .frz a).bind fun a => (trE T N n sc .frz b).bind fun b => (trE T N n sc .peek c).map fun c => .chain o o' a b c else none
  | n + 1, sc, _, .BoolOp o es _ => trBo T N n sc o es
  | n + 1, sc, m, .IfExp c a b _ => (trE T N n sc .peek c).bind fun c => (trE T N n sc m a).bind fun a => (trE T N n sc m b).map fun b => .ite c a b
  | n + 1, sc, _, .Tuple es _ _ => (trL T N n sc es).map .tup
  | n + 1, sc, _, .List es _ => (trL T N n sc es).map .lst
  | n + 1, sc, _, .Subscript a (.Slice lo hi none _) _ => (trO T N n sc lo).bind fun lo => (trO T N n sc hi).bind fun hi => match a with
    | .Name x _ => (slotOf N sc x).map fun i => .cutV i lo hi
    | a => (trE T N n sc .frz a).map fun a => .cut a lo hi
  | n + 1, sc, _, .Subscript a b _ => if noSlice b = true then (trE T N n sc .frz b).bind fun b => match a with
    | .Name x _ => (match slotOf N sc x with
      | some i => some (.idxV i b)
      | none => if (isGl sc x && plainN x) = true then (T.cst.lookup x).map fun d => .idx (.c d) b else none)
    | a => (trE T N n sc .frz a).map fun a => .idx a b
    else none
  | n + 1, sc, _, .Call (.Name x _) es [] _ => if (isGl sc x && plainN x) = true then trCall T N n sc x es else none
  | n + 1, sc, _, .Call (.Attribute (.Name x _) mname apos) es [] cpos => if (apos.endLine == cpos.line) = true then (slotOf N sc x).bind fun i => trMt T N n sc i mname es else none
  | n + 1, sc, _, .ListComp elt gens scope _ => let own := ownOf N scope
    if blkC N sc scope own = true then (match gens with
      | g :: _ => (trI T N n sc g.iter).bind fun it => trLc T N n (relS scope sc) (fun x => scope.names.lookup x == some .cell) (own.map (·.2)) it elt gens
      | [] => none) else none
  | _, _, _, _ => none
def trBo (T : Tb) (N : List Str) : Nat → Scope → BoolOp → List Expr → Option Ex
  | 0, _, _, _ => none
  | n + 1, sc, _, [a] => trE T N n sc .peek a
  | n + 1, sc, o, a :: b :: r => (trE T N n sc .peek a).bind fun a => (trBo T N n sc o (b :: r)).map fun b => boEx a b o
  | _, _, _, [] => none
def trL (T : Tb) (N : List Str) : Nat → Scope → List Expr → Option (List Ex)
  | 0, _, _ => none
  | _ + 1, sc, [] => some []
  | n + 1, sc, e :: es => if noStar e = true then (trE T N n sc .frz e).bind fun a => (trL T N n sc es).map (a :: ·) else none
def trO (T : Tb) (N : List Str) : Nat → Scope → Option Expr → Option (Option Ex)
  | 0, _, _ => none
  | _ + 1, sc, none => some none
  | n + 1, sc, some e => (trE T N n sc .frz e).map some
def trCall (T : Tb) (N : List Str) : Nat → Scope → Str → List Expr → Option Ex
  | 0, _, _, _ => none
  | n + 1, sc, x, es => match ixOf T.fns x with
    | some j => (trL T N n sc es).map (.call j)
    | none => match es with
      | [a] => if noStar a = true then (b1Of x).bind fun b => (trE T N n sc .peek a).map (.b1 b) else none
      | [a, b] => if (noStar a && noStar b) = true then
          (match b2Of x with
          | some k => (trE T N n sc .frz a).bind fun a => (trE T N n sc .frz b).map fun b => .b2 k a b
          | none => if x = "isinstance" then (match b with
            | .Name y _ => if (isGl sc y && (ixOf T.fns y).isNone) = true then (tyOf y).bind fun t => (trE T N n sc .peek a).map fun a => .isi a t else none
            | _ => none) else none)
        else none
      | _ => none
def trMt (T : Tb) (N : List Str) : Nat → Scope → Nat → Str → List Expr → Option Ex
  | 0, _, _, _, _ => none
  | n + 1, sc, i, m, es => match es with
    | [] => if m = "pop" then some (.pop i) else none
    | [a] => if noStar a = true then (if m = "append" then (trE T N n sc .frz a).map (.app i) else if m = "extend" then (trE T N n sc .frz a).map (.ext i) else if m = "pop" then (trE T N n sc .frz a).map (.popAt i) else none) else none
    | [a, b] => if (noStar a && noStar b) = true then (if m = "startswith" then (trE T N n sc .frz a).bind fun a => (trE T N n sc .frz b).map fun b => .sw i a b else none) else none
    | _ => none
def trI (T : Tb) (N : List Str) : Nat → Scope → Expr → Option Itx
  | 0, _, _ => none
  | n + 1, sc, e => match rngArgs T sc e with
    | some [a] => if noStar a = true then (trE T N n sc .frz a).map .rng1 else none
    | some [a, b] => if (noStar a && noStar b) = true then (trE T N n sc .frz a).bind fun a => (trE T N n sc .frz b).map fun b => .rng2 a b else none
    | some _ => none
    | none => if noSet e = true then (trE T N n sc .frz e).map .of else none
def trIfs (T : Tb) (N : List Str) : Nat → Scope → List Expr → Option (Option Ex)
  | 0, _, _ => none
  | _ + 1, sc, [] => some none
  | n + 1, sc, [e] => (trE T N n sc .peek e).map some
  | _, _, _ => none
def trLc (T : Tb) (N : List Str) : Nat → Scope → (Str → Bool) → List Nat → Itx → Expr → List Comprehension → Option Ex
  | 0, _, _, _, _, _, _ => none
  | n + 1, sc, fc, vs, it, elt, [g] => if g.is_async = 0 then (trTg N sc fc n g.target).bind fun tg => (trIfs T N n sc g.ifs).bind fun ft => (trE T N n sc .frz elt).bind fun e =>
      if tg.at.all (fun i => decide (i ∈ vs)) = true then some (.lc it tg ft vs e) else none
    else none
  | n + 1, sc, fc, vs, it, elt, [g, k] => if g.is_async = 0 ∧ k.is_async = 0 then (trTg N sc fc n g.target).bind fun tg => (trIfs T N n sc g.ifs).bind fun ft => (trI T N n sc k.iter).bind fun it1 => (trTg N sc fc n k.target).bind fun tg1 =>
      (trIfs T N n sc k.ifs).bind fun ft1 => (trE T N n sc .frz elt).bind fun e =>
      if (tg.at.all (fun i => decide (i ∈ vs)) && tg1.at.all (fun i => decide (i ∈ vs))) = true then some (.lc2 it tg ft vs it1 tg1 ft1 tg1.at e) else none
    else none
  | _, _, _, _, _, _, _ => none
end
end Ev

namespace Ev
open PySem PySem.Spec PyProof.Rows L2

/-- the names of what is built in, as far as the reader knows it -/
def bNames : List Str := ["len", "abs", "sum", "max", "min", "int", "bool", "str", "tuple", "list", "dict", "range", "isinstance"]
/-- a def as it is called here -/
def FnHere (X : Cx) (x : Str) (φ : Fn) : Prop := ∃ f fd ps k np, X.mg x = some (.ref f) ∧ PySem.W.keepIn X.K (.ref f) = true ∧ Binds X.K fd ps [] ∧ Room k X.A ∧
  FnOk X.prog X.w X.K X.mg X.base (L2.CX X.prog X.w) k f fd ps (spFn X.K X.mg np φ) ∧ ∀ vs S, vs.length ≠ np → φ vs S = .bad
structure Good (T : Tb) (C : Nat → Fn) (N : List Str) (sc : Scope) (fc : Str → Bool) (W : WX) (X : Cx) : Prop where
  hN : X.N = N
  nd : N.Nodup
  hsc : X.env.scope = sc
  hfc : ∀ x, fc x = true → X.fn x = true
  calm : X.calm = true
  hu : X.A.units + 66 < cLine
  tk : Takes X W
  fns : ∀ j x, T.fns[j]? = some x → FnHere X x (C j)
  blt : ∀ x, x ∈ bNames → ixOf T.fns x = none → X.mg x = none
  cst : ∀ x d, T.cst.lookup x = some d → ∃ u v, X.mg x = some u ∧ RelV v u ∧ ∀ F, Rp X.K F v d
section
variable {T : Tb} {C : Nat → Fn} {N : List Str} {sc : Scope} {fc : Str → Bool} {W : WX} {X : Cx}
theorem Good.blk (G : Good T C N sc fc W X) (scope : Scope) : InBlk X scope fun Y => Good T C N (relS scope sc) (fun x => scope.names.lookup x == some .cell) WF Y := fun s H Cc cl fp =>
  ⟨G.hN, G.nd, by rw [← G.hsc]; rfl, fun x h => h, G.calm, G.hu, takes0, G.fns, G.blt, G.cst⟩
theorem slotOf_ok {x : Str} {i : Nat} (G : Good T C N sc fc W X) (h : slotOf N sc x = some i) : X.N[i]? = some x ∧ Vis X.env.scope x ∧ (x == ("__debug__" : Str)) = false ∧ (x == ("__classdict__" : Str)) = false := by
  unfold slotOf at h
  split at h
  · rename_i hc
    obtain ⟨h1, h2⟩ := Bool.and_eq_true_iff.mp hc
    refine ⟨by rw [G.hN]; exact ixOf_get h, ?_, ?_, ?_⟩
    · rw [G.hsc]
      unfold seen at h1
      unfold Vis
      split at h1
      · exact .inl (by assumption)
      · exact .inr (.inl (by assumption))
      · exact .inr (.inr (by assumption))
      · cases h1
    · unfold plainN at h2
      simp only [Bool.and_eq_true, Bool.not_eq_true'] at h2
      exact h2.1.1
    · unfold plainN at h2
      simp only [Bool.and_eq_true, Bool.not_eq_true'] at h2
      exact h2.1.2
  · cases h
theorem gl_ok {x : Str} (G : Good T C N sc fc W X) (h : isGl sc x = true) : Gl X x := by
  show X.env.scope.names.lookup x = _
  rw [G.hsc]
  unfold isGl at h
  split at h
  · assumption
  · cases h
theorem plain_dbg {x : Str} (h : plainN x = true) : (x == ("__debug__" : Str)) = false := by
  unfold plainN at h
  simp only [Bool.and_eq_true, Bool.not_eq_true'] at h
  exact h.1.1
theorem star1 {e : Expr} {es : List Expr} {env : PySem.Env} (h : noStar e = true) : starEach (e :: es) env = (false, eval e env) :: starEach es env := by
  cases e <;> first | rfl | cases h
theorem trC_ok {c : Const} {d : PyData} {j : Nat} {pos : Pos} (h : trC c = some d) : PE X (.Constant c j pos) (tE X.K X.mg W (dC d)) := by
  unfold trC at h
  split at h
  · cases h; exact pe_dNon
  · cases h; exact pe_dBl
  · cases h; exact pe_dInt
  · split at h
    · cases h; exact pe_dStr (by assumption)
    · cases h
  · cases h
theorem storedF_ok {x : Str} (G : Good T C N sc fc W X) (h : storedF sc fc x = true) : L2.Loc X.env.scope x ∧ (X.fn x = true ∨ X.env.scope.names.lookup x = some .local) := by
  rw [G.hsc]
  unfold storedF at h
  unfold L2.Loc
  split at h
  · rename_i e; exact ⟨.inl e, .inr e⟩
  · rename_i e; exact ⟨.inr e, .inl (G.hfc x h)⟩
  · cases h
mutual
theorem trTg_ok (G : Good T C N sc fc W X) : ∀ (n : Nat) (e : Expr) (t : Tg), trTg N sc fc n e = some t → PG X e (tG X.K X.mg t.at t.put)
  | 0, _, _, h => by cases h
  | n + 1, e, t, h => by
    cases e with
    | Name x p =>
      have h : (if (storedF sc fc x && plainN x) = true then (ixOf N x).map Tg.n else none) = some t := h
      split at h
      · rename_i hc
        obtain ⟨h1, h2⟩ := Bool.and_eq_true_iff.mp hc
        obtain ⟨i, e1, rfl⟩ := Option.map_eq_some_iff.mp h
        obtain ⟨h3, h4⟩ := storedF_ok G h1
        exact pg_dPut (by rw [G.hN]; exact G.nd) (by rw [G.hN]; exact ixOf_get e1) h3 h4
      · cases h
    | Tuple es k p =>
      obtain ⟨ts, e1, rfl⟩ := Option.map_eq_some_iff.mp (show (trTgs N sc fc n es).map Tg.t = some t from h)
      obtain ⟨h1, h2, h3⟩ := trTgs_ok G n es ts e1
      exact pg_dUnT G.calm h1 h2 h3
    | _ => cases h
theorem trTgs_ok (G : Good T C N sc fc W X) : ∀ (n : Nat) (es : List Expr) (ts : List Tg), trTgs N sc fc n es = some ts → PGs X es (tGs X.K X.mg (Tg.ats ts) (Tg.puts ts)) ∧ (assignEach es X.env).length = ts.length ∧ (assignEach es X.env).findIdx? (·.1) = none
  | 0, _, _, h => by cases h
  | n + 1, [], ts, h => by cases h; exact ⟨pgs_dNo, rfl, rfl⟩
  | n + 1, e :: es, ts, h => by
    have h : (if noStar e = true then (trTg N sc fc n e).bind fun t => (trTgs N sc fc n es).map (t :: ·) else none) = some ts := h
    split at h
    · rename_i hs
      obtain ⟨t, e1, h⟩ := Option.bind_eq_some_iff.mp h
      obtain ⟨ts', e2, rfl⟩ := Option.map_eq_some_iff.mp h
      obtain ⟨h1, h2, h3⟩ := trTgs_ok G n es ts' e2
      have ha : assignEach (e :: es) X.env = (false, assign e X.env) :: assignEach es X.env := by
        cases e <;> first | rfl | cases hs
      refine ⟨pgs_dCo (trTg_ok G n e t e1) h1 (by rw [ha]; rfl), by rw [ha]; simp [h2], ?_⟩
      rw [ha, List.findIdx?_cons]
      simp [h3]
    · cases h
end
end
/-! ### expressions -/
section
variable (T : Tb) (C : Nat → Fn) (N : List Str)
def OkE (n : Nat) : Prop := ∀ sc m e ir fc W X, trE T N n sc m e = some ir → Good T C N sc fc W X → PE X e (tE X.K X.mg W (den C ir).v) ∧ PT X e (tT X.K X.mg W (den C ir).t)
def OkBo (n : Nat) : Prop := ∀ sc o es ir pos fc W X, trBo T N n sc o es = some ir → Good T C N sc fc W X → PE X (.BoolOp o es pos) (tE X.K X.mg W (den C ir).v) ∧ PW X (.BoolOp o es pos) (tT X.K X.mg W (den C ir).t)
def OkL (n : Nat) : Prop := ∀ sc es irs fc W X, trL T N n sc es = some irs → Good T C N sc fc W X → PA X es (tA X.K X.mg W (denL C irs)) ∧ es.all noStar = true
def OkO (n : Nat) : Prop := ∀ sc e o fc W X, trO T N n sc e = some o → Good T C N sc fc W X → PO X e (tOp2 X.K X.mg W (denO C o))
def OkCall (n : Nat) : Prop := ∀ sc x es ir p pos fc W X, trCall T N n sc x es = some ir → isGl sc x = true → plainN x = true → Good T C N sc fc W X → ∃ f, den C ir = Dn.ofV f ∧ PE X (.Call (.Name x p) es [] pos) (tE X.K X.mg W f)
def OkMt (n : Nat) : Prop := ∀ sc i m es ir x p apos cpos fc W X, trMt T N n sc i m es = some ir → slotOf N sc x = some i → (apos.endLine == cpos.line) = true → Good T C N sc fc W X → ∃ f, den C ir = Dn.ofV f ∧ PE X (.Call (.Attribute (.Name x p) m apos) es [] cpos) (tE X.K X.mg W f)
def OkI (n : Nat) : Prop := ∀ sc e ir fc W X tg, trI T N n sc e = some ir → Good T C N sc fc W X → PI X tg e (tI X.K X.mg W (denI C ir)) ∧ ∀ env x, foldedSetIterable e env x = pure x
def OkIfs (n : Nat) : Prop := ∀ sc es o fc W X, trIfs T N n sc es = some o → Good T C N sc fc W X → PTs X es (tT X.K X.mg W (denT C o))
end
section
variable {T : Tb} {C : Nat → Fn} {N : List Str} {sc : Scope} {fc : Str → Bool} {W : WX} {X : Cx} {n : Nat}
theorem folded_of {e : Expr} (h : noSet e = true) : ∀ env x, foldedSetIterable e env x = pure x := by
  intro env x
  cases e <;> first | rfl | cases h
theorem plain_ix {b : Expr} (h : noSlice b = true) : PlainIx b := by
  intro o i
  cases b <;> first | rfl | cases h
theorem star_all {env : PySem.Env} : ∀ {es : List Expr}, es.all noStar = true → starEach es env = es.map fun e => (false, eval e env)
  | [], _ => rfl
  | e :: es, h => by
    rw [List.all_cons, Bool.and_eq_true] at h
    rw [star1 h.1, star_all h.2]
    rfl
theorem star_plain {env : PySem.Env} {pos : Pos} {es : List Expr} (h : es.all noStar = true) : (backTo pos (starEach es env)).any (·.1) = false := by
  rw [star_all h]
  unfold backTo
  rw [List.map_map, List.any_map]
  simp
theorem blt_ok {x : Str} (G : Good T C N sc fc W X) (hx : x ∈ bNames) (h : ixOf T.fns x = none) : X.mg x = none := G.blt x hx h
theorem b1Of_ok {x : Str} {b : B1} (h : b1Of x = some b) : x = b.name ∧ x ∈ bNames := by
  have := List.find?_some h
  have e : b.name = x := of_decide_eq_true this
  subst e
  refine ⟨rfl, ?_⟩
  cases b <;> decide +kernel
theorem b2Of_ok {x : Str} {b : B2} (h : b2Of x = some b) : x = b.name ∧ x ∈ bNames := by
  have := List.find?_some h
  have e : b.name = x := of_decide_eq_true this
  subst e
  refine ⟨rfl, ?_⟩
  cases b <;> decide +kernel
theorem tyOf_ok {x : Str} {b : Ty} (h : tyOf x = some b) : x = b.name ∧ x ∈ bNames := by
  have := List.find?_some h
  have e : b.name = x := of_decide_eq_true this
  subst e
  refine ⟨rfl, ?_⟩
  cases b <;> decide +kernel
theorem cst_ok {x : Str} {d : PyData} {pos : Pos} (G : Good T C N sc fc W X) (hg : isGl sc x = true) (hp : plainN x = true) (h : T.cst.lookup x = some d) : PE X (.Name x pos) (tE X.K X.mg W (dC d)) := by
  obtain ⟨u, v, h1, h2, h3⟩ := G.cst x d h
  exact pe_dC (pe_glob (gl_ok G hg) h1 h2 (plain_dbg hp)) h3
theorem name_ok {x : Str} {m : Md} {ir : Ex} {pos : Pos} (G : Good T C N sc fc W X) (h : trE T N (n + 1) sc m (.Name x pos) = some ir) : PE X (.Name x pos) (tE X.K X.mg W (den C ir).v) ∧ (den C ir) = Dn.ofV (den C ir).v := by
  have h : (match slotOf N sc x with
    | some i => some (m.ex i)
    | none => if (isGl sc x && plainN x) = true then (T.cst.lookup x).map Ex.c else none) = some ir := h
  split at h
  · rename_i i e
    obtain ⟨h1, h2, h3, h4⟩ := slotOf_ok G e
    cases h
    cases m with
    | frz => exact ⟨pe_dVar h1 h2 h3 h4, rfl⟩
    | peek => exact ⟨pe_dPeek h1 h2 h3 h4, rfl⟩
    | mv => exact ⟨pe_dMv h1 h2 h3 h4, rfl⟩
  · split at h
    · rename_i hc
      obtain ⟨h1, h2⟩ := Bool.and_eq_true_iff.mp hc
      obtain ⟨d, e, rfl⟩ := Option.map_eq_some_iff.mp h
      exact ⟨cst_ok G h1 h2 e, rfl⟩
    · cases h
/-- of a value's denotation the test's -/
theorem ofV_pt {e : Expr} {f : De Va} (h : PE X e (tE X.K X.mg W f)) (he : ∀ whole, isTrue e X.env whole = (do let v ← whole; standAt e.pos; holding [v] (truthy v))) : PE X e (tE X.K X.mg W (Dn.ofV f).v) ∧ PT X e (tT X.K X.mg W (Dn.ofV f).t) := ⟨h, pt_dTru h he⟩
theorem stepL (hE : OkE T C N n) (hL : OkL T C N n) : OkL T C N (n + 1) := by
  intro sc es irs fc W X h G
  cases es with
  | nil => cases h; exact ⟨pa_dNil, rfl⟩
  | cons e es =>
    have h : (if noStar e = true then (trE T N n sc .frz e).bind fun a => (trL T N n sc es).map (a :: ·) else none) = some irs := h
    split at h
    · rename_i hs
      obtain ⟨a, e1, h⟩ := Option.bind_eq_some_iff.mp h
      obtain ⟨r, e2, rfl⟩ := Option.map_eq_some_iff.mp h
      obtain ⟨h1, h2⟩ := hL sc es r fc W X e2 G
      exact ⟨pa_dCons (hE sc .frz e a fc W X e1 G).1 h1 (star1 hs), by rw [List.all_cons, hs, h2]; rfl⟩
    · cases h
theorem stepO (hE : OkE T C N n) : OkO T C N (n + 1) := by
  intro sc e o fc W X h G
  cases e with
  | none => cases h; exact po_dNo
  | some e =>
    obtain ⟨a, e1, rfl⟩ := Option.map_eq_some_iff.mp (show (trE T N n sc .frz e).map some = some o from h)
    exact po_dSome (hE sc .frz e a fc W X e1 G).1
theorem stepI (hE : OkE T C N n) : OkI T C N (n + 1) := by
  intro sc e ir fc W X tg h G
  have gen : ∀ {e : Expr} {ir : Itx}, noSet e = true → (trE T N n sc .frz e).map Itx.of = some ir → PI X tg e (tI X.K X.mg W (denI C ir)) ∧ ∀ env x, foldedSetIterable e env x = pure x := fun {e ir} hs h => by
    obtain ⟨a, e1, rfl⟩ := Option.map_eq_some_iff.mp h
    exact ⟨pi_dItems (hE sc .frz e a fc W X e1 G).1, folded_of hs⟩
  have h : (match rngArgs T sc e with
    | some [a] => if noStar a = true then (trE T N n sc .frz a).map Itx.rng1 else none
    | some [a, b] => if (noStar a && noStar b) = true then (trE T N n sc .frz a).bind fun a => (trE T N n sc .frz b).map fun b => Itx.rng2 a b else none
    | some _ => none
    | none => if noSet e = true then (trE T N n sc .frz e).map Itx.of else none) = some ir := h
  have key : ∀ {es : List Expr}, rngArgs T sc e = some es → ∃ x p q, e = .Call (.Name x p) es [] q ∧ x = "range" ∧ isGl sc x = true ∧ X.mg x = none := fun {es} hr => by
    unfold rngArgs at hr
    split at hr
    · split at hr
      · rename_i hx
        obtain ⟨hx, hg⟩ := hx
        obtain ⟨hg1, hg2⟩ := Bool.and_eq_true_iff.mp hg
        cases hr
        exact ⟨_, _, _, rfl, hx, hg1, blt_ok G (by rw [hx]; decide +kernel) (Option.isNone_iff_eq_none.mp hg2)⟩
      · cases hr
    · cases hr
  cases hr : rngArgs T sc e with
  | none =>
    rw [hr] at h
    have h : (if noSet e = true then (trE T N n sc .frz e).map Itx.of else none) = some ir := h
    split at h
    · exact gen (by assumption) h
    · cases h
  | some es =>
    obtain ⟨x, p, q, rfl, hx, hg1, hm⟩ := key hr
    rw [hr] at h
    refine ⟨?_, fun _ _ => rfl⟩
    match es, h with
    | [], h => cases h
    | [a], h =>
      have h : (if noStar a = true then (trE T N n sc .frz a).map Itx.rng1 else none) = some ir := h
      split at h
      · rename_i hs
        obtain ⟨a', e1, rfl⟩ := Option.map_eq_some_iff.mp h
        exact pi_dRange1 hx (gl_ok G hg1) hm (hE sc .frz a a' fc W X e1 G).1 (star1 hs)
      · cases h
    | [a, b], h =>
      have h : (if (noStar a && noStar b) = true then (trE T N n sc .frz a).bind fun a => (trE T N n sc .frz b).map fun b => Itx.rng2 a b else none) = some ir := h
      split at h
      · rename_i hs
        obtain ⟨hs1, hs2⟩ := Bool.and_eq_true_iff.mp hs
        obtain ⟨a', e1, h⟩ := Option.bind_eq_some_iff.mp h
        obtain ⟨b', e2, rfl⟩ := Option.map_eq_some_iff.mp h
        exact pi_dRange2 hx (gl_ok G hg1) hm (hE sc .frz a a' fc W X e1 G).1 (hE sc .frz b b' fc W X e2 G).1 (by rw [star1 hs1, star1 hs2]; rfl) (by rw [star1 hs2]; rfl)
      · cases h
    | _ :: _ :: _ :: _, h => cases h
theorem trI_folded : ∀ {n : Nat} {sc : Scope} {e : Expr} {ir : Itx}, trI T N n sc e = some ir → ∀ env x, foldedSetIterable e env x = pure x := by
  intro n sc e ir h
  cases n with
  | zero => cases h
  | succ n =>
    have h : (match rngArgs T sc e with
      | some [a] => if noStar a = true then (trE T N n sc .frz a).map Itx.rng1 else none
      | some [a, b] => if (noStar a && noStar b) = true then (trE T N n sc .frz a).bind fun a => (trE T N n sc .frz b).map fun b => Itx.rng2 a b else none
      | some _ => none
      | none => if noSet e = true then (trE T N n sc .frz e).map Itx.of else none) = some ir := h
    cases hr : rngArgs T sc e with
    | none =>
      rw [hr] at h
      have h : (if noSet e = true then (trE T N n sc .frz e).map Itx.of else none) = some ir := h
      split at h
      · exact folded_of (by assumption)
      · cases h
    | some es =>
      unfold rngArgs at hr
      split at hr
      · exact fun _ _ => rfl
      · cases hr
/-- a comprehension, as a value and as what a name gets -/
def OkLc (T : Tb) (C : Nat → Fn) (N : List Str) (n : Nat) : Prop := ∀ sc m elt gens scope pos ir fc W X, trE T N n sc m (.ListComp elt gens scope pos) = some ir → Good T C N sc fc W X → ∃ f, den C ir = Dn.ofV f ∧ PE X (.ListComp elt gens scope pos) (tE X.K X.mg W f) ∧
  ∀ y py spos i, X.N[i]? = some y → X.env.scope.names.lookup y = some .local → swapsWith (.ListComp elt gens scope pos) (some (Expr.Name y py)) spos.line X.env = pure true → PS X (.Assign [.Name y py] (.ListComp elt gens scope pos) spos) (tS X.K X.mg W (dSet i f))
theorem stepLc (hE : OkE T C N n) (hI : OkI T C N n) (hF : OkIfs T C N n) (hI' : ∀ k, k < n → OkE T C N k ∧ OkI T C N k ∧ OkIfs T C N k) : OkLc T C N (n + 1) := by
  intro sc m elt gens scope pos ir fc W X h G
  have h : (if blkC N sc scope (ownOf N scope) = true then (match gens with
      | g :: _ => (trI T N n sc g.iter).bind fun it => trLc T N n (relS scope sc) (fun x => scope.names.lookup x == some .cell) ((ownOf N scope).map (·.2)) it elt gens
      | [] => none) else none) = some ir := h
  split at h
  · rename_i hb
    have ok : BlkOk X.N X.env.scope scope (ownOf N scope) := by
      rw [G.hN, G.hsc]; exact blkOk_by hb
    have hnd : X.N.Nodup := by rw [G.hN]; exact G.nd
    cases gens with
    | nil => cases h
    | cons g0 rest =>
      obtain ⟨it, e0, h⟩ := Option.bind_eq_some_iff.mp h
      cases n with
      | zero => cases h
      | succ n =>
        obtain ⟨hE', hI'', hF'⟩ := hI' n (Nat.lt_succ_self n)
        match rest, h with
        | [], h =>
          have h : (if g0.is_async = 0 then (trTg N (relS scope sc) (fun x => scope.names.lookup x == some .cell) n g0.target).bind fun tg => (trIfs T N n (relS scope sc) g0.ifs).bind fun ft => (trE T N n (relS scope sc) .frz elt).bind fun e =>
            if tg.at.all (fun i => decide (i ∈ (ownOf N scope).map (·.2))) = true then some (Ex.lc it tg ft ((ownOf N scope).map (·.2)) e) else none else none) = some ir := h
          split at h
          · rename_i ha
            obtain ⟨tg, e1, h⟩ := Option.bind_eq_some_iff.mp h
            obtain ⟨ft, e2, h⟩ := Option.bind_eq_some_iff.mp h
            obtain ⟨e, e3, h⟩ := Option.bind_eq_some_iff.mp h
            split at h
            · rename_i hv
              cases h
              obtain ⟨gt, gi, gf, ga⟩ := g0
              cases ha
              obtain ⟨i1, i2⟩ := hI sc gi it fc W X gt e0 G
              have his : ∀ i ∈ tg.at, i ∈ (ownOf N scope).map (·.2) := fun i hi => of_decide_eq_true (List.all_eq_true.mp hv i hi)
              have hg : InBlk X scope fun Y => PG Y gt (tG X.K X.mg tg.at tg.put) := fun s H Cc cl fp => trTg_ok (G.blk scope s H Cc cl fp) n gt tg e1
              have ht : InBlk X scope fun Y => PTs Y gf (tT X.K X.mg WF (denT C ft)) := fun s H Cc cl fp => hF' _ gf ft _ _ _ e2 (G.blk scope s H Cc cl fp)
              have hel : InBlk X scope fun Y => PE Y elt (tE X.K X.mg WF (den C e).v) := fun s H Cc cl fp => (hE' _ .frz elt e _ _ _ e3 (G.blk scope s H Cc cl fp)).1
              exact ⟨_, rfl, pe_dLc1 G.calm hnd i1 ok his hg ht hel (i2 _), fun y py spos i hy hyl hsw => ps_dLc1 G.calm hnd hy hyl hsw i1 ok his hg ht hel (i2 _)⟩
            · cases h
          · cases h
        | [k0], h =>
          have h : (if g0.is_async = 0 ∧ k0.is_async = 0 then (trTg N (relS scope sc) (fun x => scope.names.lookup x == some .cell) n g0.target).bind fun tg => (trIfs T N n (relS scope sc) g0.ifs).bind fun ft => (trI T N n (relS scope sc) k0.iter).bind fun it1 => (trTg N (relS scope sc) (fun x => scope.names.lookup x == some .cell) n k0.target).bind fun tg1 =>
            (trIfs T N n (relS scope sc) k0.ifs).bind fun ft1 => (trE T N n (relS scope sc) .frz elt).bind fun e =>
            if (tg.at.all (fun i => decide (i ∈ (ownOf N scope).map (·.2))) && tg1.at.all (fun i => decide (i ∈ (ownOf N scope).map (·.2)))) = true then some (Ex.lc2 it tg ft ((ownOf N scope).map (·.2)) it1 tg1 ft1 tg1.at e) else none else none) = some ir := h
          split at h
          · rename_i ha
            obtain ⟨ha, hk⟩ := ha
            obtain ⟨tg, e1, h⟩ := Option.bind_eq_some_iff.mp h
            obtain ⟨ft, e2, h⟩ := Option.bind_eq_some_iff.mp h
            obtain ⟨it1, e4, h⟩ := Option.bind_eq_some_iff.mp h
            obtain ⟨tg1, e5, h⟩ := Option.bind_eq_some_iff.mp h
            obtain ⟨ft1, e6, h⟩ := Option.bind_eq_some_iff.mp h
            obtain ⟨e, e3, h⟩ := Option.bind_eq_some_iff.mp h
            split at h
            · rename_i hv
              cases h
              obtain ⟨hv, hv1⟩ := Bool.and_eq_true_iff.mp hv
              obtain ⟨gt, gi, gf, ga⟩ := g0
              obtain ⟨kt, ki, kf, ka⟩ := k0
              cases ha; cases hk
              obtain ⟨i1, i2⟩ := hI sc gi it fc W X gt e0 G
              have his : ∀ i ∈ tg.at, i ∈ (ownOf N scope).map (·.2) := fun i hi => of_decide_eq_true (List.all_eq_true.mp hv i hi)
              have hjs : ∀ i ∈ tg1.at, i ∈ (ownOf N scope).map (·.2) := fun i hi => of_decide_eq_true (List.all_eq_true.mp hv1 i hi)
              have hg : InBlk X scope fun Y => PG Y gt (tG X.K X.mg tg.at tg.put) := fun s H Cc cl fp => trTg_ok (G.blk scope s H Cc cl fp) n gt tg e1
              have hg1 : InBlk X scope fun Y => PG Y kt (tG X.K X.mg tg1.at tg1.put) := fun s H Cc cl fp => trTg_ok (G.blk scope s H Cc cl fp) n kt tg1 e5
              have ht : InBlk X scope fun Y => PTs Y gf (tT X.K X.mg WF (denT C ft)) := fun s H Cc cl fp => hF' _ gf ft _ _ _ e2 (G.blk scope s H Cc cl fp)
              have ht1 : InBlk X scope fun Y => PTs Y kf (tT X.K X.mg WF (denT C ft1)) := fun s H Cc cl fp => hF' _ kf ft1 _ _ _ e6 (G.blk scope s H Cc cl fp)
              have hi1 : InBlk X scope fun Y => PI Y kt ki (tI X.K X.mg WF (denI C it1)) := fun s H Cc cl fp => (hI'' _ ki it1 _ _ _ kt e4 (G.blk scope s H Cc cl fp)).1
              have hs1 : ∀ env x, foldedSetIterable ki env x = pure x := trI_folded e4
              have hel : InBlk X scope fun Y => PE Y elt (tE X.K X.mg WF (den C e).v) := fun s H Cc cl fp => (hE' _ .frz elt e _ _ _ e3 (G.blk scope s H Cc cl fp)).1
              exact ⟨_, rfl, pe_dLc2 G.calm hnd i1 ok his (fun _ h => h) hjs hg ht hi1 hg1 ht1 hel (i2 _) hs1, fun y py spos i hy hyl hsw => ps_dLc2 G.calm hnd hy hyl hsw i1 ok his (fun _ h => h) hjs hg ht hi1 hg1 ht1 hel (i2 _) hs1⟩
            · cases h
          · cases h
        | _ :: _ :: _, h => cases h
  · cases h
end
end Ev

namespace Ev
open PySem PySem.Spec PyProof.Rows L2
section
variable {T : Tb} {C : Nat → Fn} {N : List Str} {sc : Scope} {fc : Str → Bool} {W : WX} {X : Cx} {n : Nat}
theorem stepIfs (hE : OkE T C N n) : OkIfs T C N (n + 1) := by
  intro sc es o fc W X h G
  match es, h with
  | [], h => cases h; exact pts_dNil
  | [e], h =>
    obtain ⟨a, e1, rfl⟩ := Option.map_eq_some_iff.mp (show (trE T N n sc .peek e).map some = some o from h)
    exact pts_dOne (hE sc .peek e a fc W X e1 G).2
  | _ :: _ :: _, h => cases h
theorem stepBo (hE : OkE T C N n) (hB : OkBo T C N n) : OkBo T C N (n + 1) := by
  intro sc o es ir pos fc W X h G
  match es, h with
  | [], h => cases h
  | [a], h =>
    have h : trE T N n sc .peek a = some ir := h
    obtain ⟨h1, h2⟩ := hE sc .peek a ir fc W X h G
    cases o with
    | And => exact ⟨pe_dOne h1, pw_dAnd1 h2⟩
    | Or => exact ⟨pe_dOne h1, pw_dOr1 h2⟩
  | a :: b :: r, h =>
    obtain ⟨a', e1, h⟩ := Option.bind_eq_some_iff.mp (show ((trE T N n sc .peek a).bind fun a => (trBo T N n sc o (b :: r)).map fun b => boEx a b o) = some ir from h)
    obtain ⟨r', e2, rfl⟩ := Option.map_eq_some_iff.mp h
    obtain ⟨h1, h2⟩ := hE sc .peek a a' fc W X e1 G
    obtain ⟨h3, h4⟩ := hB sc o (b :: r) r' pos fc W X e2 G
    cases o with
    | And => exact ⟨pe_dAnd h1 h3, pw_dAnd h2 h4⟩
    | Or => exact ⟨pe_dOr h1 h3, pw_dOr h2 h4⟩
theorem star_one {a : Expr} {env : PySem.Env} (h : noStar a = true) : starEach [a] env = (false, eval a env) :: starEach [] env := star1 h
theorem stepCall (hE : OkE T C N n) (hL : OkL T C N n) : OkCall T C N (n + 1) := by
  intro sc x es ir p pos fc W X h hg hpn G
  have h : (match ixOf T.fns x with
    | some j => (trL T N n sc es).map (Ex.call j)
    | none => match (generalizing := false) es with
      | [a] => if noStar a = true then (b1Of x).bind fun b => (trE T N n sc .peek a).map (Ex.b1 b) else none
      | [a, b] => if (noStar a && noStar b) = true then
          (match (generalizing := false) b2Of x with
          | some k => (trE T N n sc .frz a).bind fun a => (trE T N n sc .frz b).map fun b => Ex.b2 k a b
          | none => if x = "isinstance" then (match (generalizing := false) b with
            | .Name y _ => if (isGl sc y && (ixOf T.fns y).isNone) = true then (tyOf y).bind fun t => (trE T N n sc .peek a).map fun a => Ex.isi a t else none
            | _ => none) else none)
        else none
      | _ => none) = some ir := h
  split at h
  · rename_i j hj
    obtain ⟨as, e1, rfl⟩ := Option.map_eq_some_iff.mp h
    refine ⟨_, rfl, ?_⟩
    obtain ⟨f, fd, ps, k, np, a1, a2, a3, a4, a5, a6⟩ := G.fns j x (ixOf_get hj)
    obtain ⟨h1, h2⟩ := hL sc es as fc W X e1 G
    cases es with
    | nil =>
      cases n with
      | zero => cases e1
      | succ n =>
        cases e1
        cases np with
        | zero => exact pe_dCall0 a5 a4 (gl_ok G hg) a1 a2 a3 G.tk (plain_dbg hpn)
        | succ np =>
          refine ⟨fun pins s₀ σ H Q I q => ?_⟩
          obtain ⟨g, s, F, hK, hm, w, p⟩ := q
          have := a6 [] s.S (by simp)
          simp only [den, Dn.ofV, dCall, denL, dNil, Res.bind] at p
          rw [this] at p
          exact p.elim
    | cons e es =>
      rw [List.all_cons, Bool.and_eq_true] at h2
      exact pe_dCall a5 a4 (gl_ok G hg) a1 a2 a3 G.tk h1 a6 (plain_dbg hpn) (star1 h2.1) (star_plain h2.2)
  · rename_i hj
    match es, h with
    | [], h => cases h
    | [a], h =>
      have h : (if noStar a = true then (b1Of x).bind fun b => (trE T N n sc .peek a).map (Ex.b1 b) else none) = some ir := h
      split at h
      · rename_i hs
        obtain ⟨b, e1, h⟩ := Option.bind_eq_some_iff.mp h
        obtain ⟨a', e2, rfl⟩ := Option.map_eq_some_iff.mp h
        obtain ⟨hx, hn⟩ := b1Of_ok e1
        exact ⟨_, rfl, pe_dB1 G.calm hx (gl_ok G hg) (blt_ok G hn hj) (hE sc .peek a a' fc W X e2 G).1 (star1 hs)⟩
      · cases h
    | [a, b], h =>
      have h : (if (noStar a && noStar b) = true then
          (match (generalizing := false) b2Of x with
          | some k => (trE T N n sc .frz a).bind fun a => (trE T N n sc .frz b).map fun b => Ex.b2 k a b
          | none => if x = "isinstance" then (match (generalizing := false) b with
            | .Name y _ => if (isGl sc y && (ixOf T.fns y).isNone) = true then (tyOf y).bind fun t => (trE T N n sc .peek a).map fun a => Ex.isi a t else none
            | _ => none) else none)
        else none) = some ir := h
      split at h
      · rename_i hs
        obtain ⟨hs1, hs2⟩ := Bool.and_eq_true_iff.mp hs
        split at h
        · rename_i k hk
          obtain ⟨a', e1, h⟩ := Option.bind_eq_some_iff.mp h
          obtain ⟨b', e2, rfl⟩ := Option.map_eq_some_iff.mp h
          obtain ⟨hx, hn⟩ := b2Of_ok hk
          exact ⟨_, rfl, pe_dB2 G.calm hx (gl_ok G hg) (blt_ok G hn hj) (hE sc .frz a a' fc W X e1 G).1 (hE sc .frz b b' fc W X e2 G).1 (star1 hs1) (star1 hs2)⟩
        · split at h
          · rename_i hx
            split at h
            · rename_i y p2 
              split at h
              · rename_i hc
                obtain ⟨hc1, hc2⟩ := Bool.and_eq_true_iff.mp hc
                obtain ⟨t, e1, h⟩ := Option.bind_eq_some_iff.mp h
                obtain ⟨a', e2, rfl⟩ := Option.map_eq_some_iff.mp h
                obtain ⟨hy, hn⟩ := tyOf_ok e1
                exact ⟨_, rfl, pe_dIsi hx hy (gl_ok G hg) (blt_ok G (by rw [hx]; decide +kernel) hj) (gl_ok G hc1) (blt_ok G hn (Option.isNone_iff_eq_none.mp hc2)) (hE sc .peek a a' fc W X e2 G).1 (star1 hs1)⟩
              · cases h
            · cases h
          · cases h
      · cases h
    | _ :: _ :: _ :: _, h => cases h
theorem stepMt (hE : OkE T C N n) : OkMt T C N (n + 1) := by
  intro sc i m es ir x p apos cpos fc W X h hx hl G
  obtain ⟨h1, h2, h3, h4⟩ := slotOf_ok G hx
  match es, h with
  | [], h =>
    have h : (if m = "pop" then some (Ex.pop i) else none) = some ir := h
    split at h
    · rename_i hm
      cases h
      subst hm
      exact ⟨_, rfl, pe_dPop h1 h2 h3 h4 hl⟩
    · cases h
  | [a], h =>
    have h2' : (if noStar a = true then (if m = "append" then (trE T N n sc .frz a).map (Ex.app i) else if m = "extend" then (trE T N n sc .frz a).map (Ex.ext i) else if m = "pop" then (trE T N n sc .frz a).map (Ex.popAt i) else none) else none) = some ir := h
    clear h
    split at h2'
    · rename_i hs
      split at h2'
      · rename_i hm
        subst hm
        obtain ⟨a', e, rfl⟩ := Option.map_eq_some_iff.mp h2'
        exact ⟨_, rfl, pe_dApp h1 h2 h3 h4 (hE sc .frz a a' fc W X e G).1 (star1 hs) hl⟩
      · split at h2'
        · rename_i hm
          subst hm
          obtain ⟨a', e, rfl⟩ := Option.map_eq_some_iff.mp h2'
          exact ⟨_, rfl, pe_dExt h1 h2 h3 h4 (hE sc .frz a a' fc W X e G).1 (star1 hs) hl⟩
        · split at h2'
          · rename_i hm
            subst hm
            obtain ⟨a', e, rfl⟩ := Option.map_eq_some_iff.mp h2'
            exact ⟨_, rfl, pe_dPopAt h1 h2 h3 h4 (hE sc .frz a a' fc W X e G).1 (star1 hs) hl⟩
          · cases h2'
    · cases h2'
  | [a, b], h =>
    have h2' : (if (noStar a && noStar b) = true then (if m = "startswith" then (trE T N n sc .frz a).bind fun a => (trE T N n sc .frz b).map fun b => Ex.sw i a b else none) else none) = some ir := h
    clear h
    split at h2'
    · rename_i hs
      obtain ⟨hs1, hs2⟩ := Bool.and_eq_true_iff.mp hs
      split at h2'
      · rename_i hm
        subst hm
        obtain ⟨a', e1, h2'⟩ := Option.bind_eq_some_iff.mp h2'
        obtain ⟨b', e2, rfl⟩ := Option.map_eq_some_iff.mp h2'
        exact ⟨_, rfl, pe_dSw h1 h2 h3 h4 (hE sc .frz a a' fc W X e1 G).1 (hE sc .frz b b' fc W X e2 G).1 (star1 hs1) (star1 hs2) hl⟩
      · cases h2'
    · cases h2'
  | _ :: _ :: _ :: _, h => cases h
theorem pt_dIte {mg : Str → Option Value} {a b c : Expr} {fc f h : De Bool} {pos : Pos} (hc : PT X c (tT X.K mg W fc)) (ha : PT X a (tT X.K mg W f)) (hb : PT X b (tT X.K mg W h)) : PT X (.IfExp c a b pos) (tT X.K mg W (dIteB fc f h)) := by
  have core : PT X (.IfExp c a b pos) (fun σ H Q => tT X.K mg W fc σ H fun k H1 => if k = true then tT X.K mg W f σ H1 Q else tT X.K mg W h σ H1 Q) := by
    refine ⟨fun pins s σ H Q I p => ?_⟩
    rw [arm_isTrue_IfExp]
    refine wpAny_bind (thn (hc.run pins s σ H _ I p) fun d s1 ⟨H1, I1, q1⟩ => ?_)
    cases d with
    | true => exact ha.run pins s1 σ H1 Q I1 q1
    | false => exact hb.run pins s1 σ H1 Q I1 q1
  refine PT.by fun pins s₀ σ H Q I q => ⟨_, core, ?_⟩
  obtain ⟨g, s, F, hK, hm, w, p⟩ := q
  refine tT_run hK hm w p fun k s1 F1 H1 w1 m1 p1 => ?_
  cases k with
  | true => exact ⟨g, s1, F1, hK, hm, w1, p1⟩
  | false => exact ⟨g, s1, F1, hK, hm, w1, p1⟩
structure Low (T : Tb) (C : Nat → Fn) (N : List Str) (n : Nat) : Prop where
  e : OkE T C N n
  bo : OkBo T C N n
  l : OkL T C N n
  o : OkO T C N n
  ca : OkCall T C N n
  mt : OkMt T C N n
  i : OkI T C N n
  fs : OkIfs T C N n
  lc : OkLc T C N n
theorem sub_ok {a : Expr} {b : Ex} {ib : Expr} {m : Md} {ir : Ex} {pos : Pos} (L : Low T C N n) (G : Good T C N sc fc W X) (hb : PE X ib (tE X.K X.mg W (den C b).v)) (hp : PlainIx ib) (h : (match a with
    | .Name x _ => (match slotOf N sc x with
      | some i => some (Ex.idxV i b)
      | none => if (isGl sc x && plainN x) = true then (T.cst.lookup x).map fun d => Ex.idx (.c d) b else none)
    | a => (trE T N n sc .frz a).map fun a => Ex.idx a b) = some ir) : PE X (.Subscript a ib pos) (tE X.K X.mg W (den C ir).v) ∧ PT X (.Subscript a ib pos) (tT X.K X.mg W (den C ir).t) := by
  have gen : ∀ {a : Expr}, (trE T N n sc .frz a).map (fun a => Ex.idx a b) = some ir → PE X (.Subscript a ib pos) (tE X.K X.mg W (den C ir).v) ∧ PT X (.Subscript a ib pos) (tT X.K X.mg W (den C ir).t) := fun {a} h => by
    obtain ⟨a', e, rfl⟩ := Option.map_eq_some_iff.mp h
    exact ofV_pt (pe_dIdx (L.e sc .frz a a' fc W X e G).1 hb hp) (fun _ => rfl)
  split at h
  · split at h
    · rename_i i e
      cases h
      obtain ⟨h1, h2, h3, h4⟩ := slotOf_ok G e
      exact ofV_pt (pe_dIdxV h1 h2 h3 h4 hb hp) (fun _ => rfl)
    · split at h
      · rename_i hc
        obtain ⟨hc1, hc2⟩ := Bool.and_eq_true_iff.mp hc
        obtain ⟨d, e, rfl⟩ := Option.map_eq_some_iff.mp h
        exact ofV_pt (pe_dIdx (cst_ok G hc1 hc2 e) hb hp) (fun _ => rfl)
      · cases h
  · exact gen h
theorem stepE (L : Low T C N n) (lc : OkLc T C N (n + 1)) : OkE T C N (n + 1) := by
  intro sc m e ir fc W X h G
  cases e with
  | Constant c j pos =>
    obtain ⟨d, e, rfl⟩ := Option.map_eq_some_iff.mp (show (trC c).map Ex.c = some ir from h)
    exact ofV_pt (trC_ok e) (fun _ => rfl)
  | Name x pos =>
    obtain ⟨h1, h2⟩ := name_ok G h
    rw [h2] at *
    exact ofV_pt h1 (fun _ => rfl)
  | BinOp a o b pos =>
    obtain ⟨a', e1, h⟩ := Option.bind_eq_some_iff.mp (show ((trE T N n sc .frz a).bind fun a => (trE T N n sc .frz b).map fun b => Ex.bin o a b) = some ir from h)
    obtain ⟨b', e2, rfl⟩ := Option.map_eq_some_iff.mp h
    exact ofV_pt (pe_dBin (L.e sc .frz a a' fc W X e1 G).1 (L.e sc .frz b b' fc W X e2 G).1) (fun _ => rfl)
  | UnaryOp o a pos =>
    cases o with
    | USub =>
      obtain ⟨a', e1, rfl⟩ := Option.map_eq_some_iff.mp (show (trE T N n sc .frz a).map Ex.neg = some ir from h)
      exact ofV_pt (pe_dNeg (L.e sc .frz a a' fc W X e1 G).1) (fun _ => rfl)
    | Not =>
      obtain ⟨a', e1, rfl⟩ := Option.map_eq_some_iff.mp (show (trE T N n sc .peek a).map Ex.not = some ir from h)
      obtain ⟨h1, h2⟩ := L.e sc .peek a a' fc W X e1 G
      exact ⟨pe_dNot h1, pt_dNot h2⟩
    | _ => cases h
  | Compare a os bs pos =>
    match os, bs, h with
    | [o], [b], h =>
      have h : (if behindInMarks o b = false then (trE T N n sc .frz a).bind fun a => (trE T N n sc .peek b).map fun b => Ex.cmp o a b else none) = some ir := h
      split at h
      · rename_i hm
        obtain ⟨a', e1, h⟩ := Option.bind_eq_some_iff.mp h
        obtain ⟨b', e2, rfl⟩ := Option.map_eq_some_iff.mp h
        have ha := (L.e sc .frz a a' fc W X e1 G).1
        have hb := (L.e sc .peek b b' fc W X e2 G).1
        exact ⟨pe_dCmp G.hu ha hb hm, pt_dCmp G.hu ha hb hm⟩
      · cases h
    | [o, o'], [b, c], h =>
      have h : (if lastMarks [o, o'] [b, c] = false then (trE T N n sc .frz a).bind fun a => (trE T N n sc .frz b).bind fun b => (trE T N n sc .peek c).map fun c => Ex.chain o o' a b c else none) = some ir := h
      split at h
      · rename_i hm
        obtain ⟨a', e1, h⟩ := Option.bind_eq_some_iff.mp h
        obtain ⟨b', e2, h⟩ := Option.bind_eq_some_iff.mp h
        obtain ⟨c', e3, rfl⟩ := Option.map_eq_some_iff.mp h
        have ha := (L.e sc .frz a a' fc W X e1 G).1
        have hb := (L.e sc .frz b b' fc W X e2 G).1
        have hc := (L.e sc .peek c c' fc W X e3 G).1
        exact ⟨pe_dChain G.hu ha hb hc hm, pt_dChain G.hu ha hb hc hm⟩
      · cases h
    | [], _, h => cases h
    | [_], [], h => cases h
    | [_], _ :: _ :: _, h => cases h
    | [_, _], [], h => cases h
    | [_, _], [_], h => cases h
    | [_, _], _ :: _ :: _ :: _, h => cases h
    | _ :: _ :: _ :: _, _, h => cases h
  | BoolOp o es pos =>
    obtain ⟨h1, h2⟩ := L.bo sc o es ir pos fc W X (show trBo T N n sc o es = some ir from h) G
    exact ⟨h1, h2.pt⟩
  | IfExp c a b pos =>
    obtain ⟨c', e1, h⟩ := Option.bind_eq_some_iff.mp (show ((trE T N n sc .peek c).bind fun c => (trE T N n sc m a).bind fun a => (trE T N n sc m b).map fun b => Ex.ite c a b) = some ir from h)
    obtain ⟨a', e2, h⟩ := Option.bind_eq_some_iff.mp h
    obtain ⟨b', e3, rfl⟩ := Option.map_eq_some_iff.mp h
    obtain ⟨a1, a2⟩ := L.e sc m a a' fc W X e2 G
    obtain ⟨b1, b2⟩ := L.e sc m b b' fc W X e3 G
    have hc := (L.e sc .peek c c' fc W X e1 G).2
    exact ⟨pe_dIte hc a1 b1, pt_dIte hc a2 b2⟩
  | Tuple es k pos =>
    obtain ⟨as, e1, rfl⟩ := Option.map_eq_some_iff.mp (show (trL T N n sc es).map Ex.tup = some ir from h)
    exact ofV_pt (pe_dTup (L.l sc es as fc W X e1 G).1) (fun _ => rfl)
  | List es pos =>
    obtain ⟨as, e1, rfl⟩ := Option.map_eq_some_iff.mp (show (trL T N n sc es).map Ex.lst = some ir from h)
    exact ofV_pt (pe_dLst (L.l sc es as fc W X e1 G).1) (fun _ => rfl)
  | Subscript a b pos =>
    by_cases hs : noSlice b = true
    · have h : ((trE T N n sc .frz b).bind fun b => match a with
        | .Name x _ => (match slotOf N sc x with
          | some i => some (Ex.idxV i b)
          | none => if (isGl sc x && plainN x) = true then (T.cst.lookup x).map fun d => Ex.idx (.c d) b else none)
        | a => (trE T N n sc .frz a).map fun a => Ex.idx a b) = some ir := by
        cases b <;> first | exact h | cases hs
      obtain ⟨b', e1, h⟩ := Option.bind_eq_some_iff.mp h
      exact sub_ok (m := m) L G (L.e sc .frz b b' fc W X e1 G).1 (plain_ix hs) h
    · cases b with
      | Slice lo hi st p2 =>
        cases st with
        | some _ => cases h
        | none =>
          have h : ((trO T N n sc lo).bind fun lo => (trO T N n sc hi).bind fun hi => match a with
            | .Name x _ => (slotOf N sc x).map fun i => Ex.cutV i lo hi
            | a => (trE T N n sc .frz a).map fun a => Ex.cut a lo hi) = some ir := h
          obtain ⟨lo', e1, h⟩ := Option.bind_eq_some_iff.mp h
          obtain ⟨hi', e2, h⟩ := Option.bind_eq_some_iff.mp h
          have h1 := L.o sc lo lo' fc W X e1 G
          have h2 := L.o sc hi hi' fc W X e2 G
          split at h
          · obtain ⟨i, e, rfl⟩ := Option.map_eq_some_iff.mp h
            obtain ⟨g1, g2, g3, g4⟩ := slotOf_ok G e
            exact ofV_pt (pe_dCutV g1 g2 g3 g4 h1 h2) (fun _ => rfl)
          · obtain ⟨a', e, rfl⟩ := Option.map_eq_some_iff.mp h
            exact ofV_pt (pe_dCut (L.e sc .frz _ a' fc W X e G).1 h1 h2) (fun _ => rfl)
      | _ => exact absurd rfl hs
  | Call f es ks pos =>
    cases ks with
    | cons _ _ =>
      cases f with
      | Attribute o _ _ => cases o <;> cases h
      | _ => cases h
    | nil =>
      cases f with
      | Name x p =>
        have h : (if (isGl sc x && plainN x) = true then trCall T N n sc x es else none) = some ir := h
        split at h
        · rename_i hc
          obtain ⟨hc1, hc2⟩ := Bool.and_eq_true_iff.mp hc
          obtain ⟨f, e1, h1⟩ := L.ca sc x es ir p pos fc W X h hc1 hc2 G
          rw [e1]
          exact ofV_pt h1 (fun _ => rfl)
        · cases h
      | Attribute o mname apos =>
        cases o with
        | Name x p =>
          have h : (if (apos.endLine == pos.line) = true then (slotOf N sc x).bind fun i => trMt T N n sc i mname es else none) = some ir := h
          split at h
          · rename_i hl
            obtain ⟨i, e1, h⟩ := Option.bind_eq_some_iff.mp h
            obtain ⟨f, e2, h1⟩ := L.mt sc i mname es ir x p apos pos fc W X h e1 hl G
            rw [e2]
            exact ofV_pt h1 (fun _ => rfl)
          · cases h
        | _ => cases h
      | _ => cases h
  | ListComp elt gens scope pos =>
    obtain ⟨f, e1, h1, _⟩ := lc sc m elt gens scope pos ir fc W X h G
    rw [e1]
    exact ofV_pt h1 (fun _ => rfl)
  | _ => cases h
end
theorem low_all (T : Tb) (C : Nat → Fn) (N : List Str) : ∀ n, Low T C N n := by
  have base : Low T C N 0 := by
    refine ⟨?_, ?_, ?_, ?_, ?_, ?_, ?_, ?_, ?_⟩
    · intro sc m e ir fc W X h; cases h
    · intro sc o es ir pos fc W X h; cases h
    · intro sc es irs fc W X h; cases h
    · intro sc e o fc W X h; cases h
    · intro sc x es ir p pos fc W X h; cases h
    · intro sc i m es ir x p apos cpos fc W X h; cases h
    · intro sc e ir fc W X tg h; cases h
    · intro sc es o fc W X h; cases h
    · intro sc m elt gens scope pos ir fc W X h; cases h
  have key : ∀ n, Low T C N n ∧ ∀ k, k < n → Low T C N k := by
    intro n
    induction n with
    | zero => exact ⟨base, fun k h => absurd h (Nat.not_lt_zero k)⟩
    | succ n ih =>
      obtain ⟨L, B⟩ := ih
      have lc : OkLc T C N (n + 1) := stepLc L.e L.i L.fs fun k hk => ⟨(B k hk).e, (B k hk).i, (B k hk).fs⟩
      refine ⟨⟨stepE L lc, stepBo L.e L.bo, stepL L.e L.l, stepO L.e, stepCall L.e L.l, stepMt L.e, stepI L.e, stepIfs L.e, lc⟩, fun k hk => ?_⟩
      rcases Nat.lt_succ_iff_lt_or_eq.mp hk with h | rfl
      · exact B k h
      · exact L
  exact fun n => (key n).1
end Ev

namespace Ev
open PySem PySem.Spec PyProof.Rows L2

/-! ## statements -/
def noComp : Expr → Bool
  | .ListComp .. => false
  | .SetComp .. => false
  | .DictComp .. => false
  | _ => true
def noTup : Expr → Bool
  | .Tuple .. => false
  | _ => true
theorem swaps_no {e : Expr} (h : noComp e = true) (t : Option Expr) (l : Nat) (env : PySem.Env) : swapsWith e t l env = pure false := by
  cases e <;> first | rfl | cases h
theorem sole_no {e t : Expr} (h : noComp e = true) (l : Nat) (env : PySem.Env) : swapsWithSole [t] e l env = pure false := by
  show swapsWith e (some t) l env = pure false
  exact swaps_no h _ _ _
theorem swapped_no {e t : Expr} (h : noTup e = true) (env : PySem.Env) : swappedStores [t] e env = pure none := by
  cases e <;> first | (cases t <;> rfl) | cases h
theorem assign_sub {ei : Expr} (h : noSlice ei = true) {x : Str} {p tpos : Pos} {env : PySem.Env} (v : Value) : assign (.Subscript (.Name x p) ei tpos) env v = (do
      let ov ← holding [v] (eval (.Name x p) env)
      let iv ← holding [v, ov] (eval ei env)
      standAt tpos
      holding [v, ov, iv] (setItem ov iv v)
      release [v, ov, iv] []) := by
  cases ei <;> first | rfl | cases h
/-- does the comprehension swap with the name -/
def swB (sc : Scope) (t : Str) (l : Nat) (scope : Scope) (p : Pos) : Bool := (if sc.kind.isAnnotationScope then ScopeKind.function else sc.kind) == .function && sc.names.lookup t == some .local && l == p.line
      && !(scope.names.any fun (n, k) => n == t && (k == .local || k == .cell))
theorem swaps_lc {elt : Expr} {gens : List Comprehension} {scope : Scope} {p q : Pos} {x : Str} {l : Nat} {env : PySem.Env} : swapsWith (.ListComp elt gens scope p) (some (.Name x q)) l env = pure (swB env.scope x q.line scope p) := rfl
def trAs (T : Tb) (N : List Str) (n : Nat) (sc : Scope) (e : Expr) : Expr → Option Sx
  | .Name x _ => if (storedF sc (fun _ => true) x && plainN x) = true then (ixOf N x).bind fun i => (trE T N n sc .frz e).map fun e => .set i e else none
  | .Tuple ts _ _ => if (noComp e && noTup e) = true then (trTg N sc (fun _ => true) n (.Tuple ts 0 ⟨0, 0, 0, 0⟩)).bind fun t => (trE T N n sc .frz e).map fun e => .asg t e else none
  | .Subscript (.Name x _) ei _ => if (noSlice ei && noComp e && noTup e) = true then (slotOf N sc x).bind fun i => (trE T N n sc .frz ei).bind fun ei => (trE T N n sc .frz e).map fun e => .sto i ei e else none
  | _ => none
mutual
def trS (T : Tb) (N : List Str) : Nat → Scope → Stmt → Option Sx
  | 0, _, _ => none
  | n + 1, sc, .Expr e _ => if noComp e = true then (trE T N n sc .frz e).map .expr else none
  | n + 1, sc, .Assign [t] e _ => trAs T N n sc e t
  | n + 1, sc, .AugAssign (.Name x _) o e _ => if (storedF sc (fun _ => true) x && plainN x) = true then (ixOf N x).bind fun i => (trE T N n sc .frz e).map fun e => .aug i o e else none
  | n + 1, sc, .If c a b _ => (trE T N n sc .peek c).bind fun c => (trB T N n sc a).bind fun a => (trB T N n sc b).map fun b => .ifs c a b
  | n + 1, sc, .While c b [] _ => (trE T N n sc .peek c).bind fun c => (trB T N n sc b).map fun b => .whl c b
  | n + 1, sc, .For t e b [] _ => (trTg N sc (fun _ => true) n t).bind fun t => (trI T N n sc e).bind fun e => (trB T N n sc b).map fun b => .fr e t b
  | n + 1, sc, .Return (some e) _ => (trE T N n sc .mv e).map .ret
  | _ + 1, _, .Return none _ => some .retN
  | _ + 1, _, .Break _ => some .brk
  | _ + 1, _, .Continue _ => some .cont
  | _ + 1, _, .Pass _ => some .pass
  | _, _, _ => none
def trB (T : Tb) (N : List Str) : Nat → Scope → List Stmt → Option (List Sx)
  | 0, _, _ => none
  | _ + 1, _, [] => some []
  | n + 1, sc, s :: r => (trS T N n sc s).bind fun a => (trB T N n sc r).map (a :: ·)
end
section
variable {T : Tb} {C : Nat → Fn} {N : List Str} {sc : Scope} {W : WX} {X : Cx}
structure GoodS (T : Tb) (C : Nat → Fn) (N : List Str) (sc : Scope) (W : WX) (X : Cx) : Prop where
  g : Good T C N sc (fun _ => true) W X
  hp : PassesOwn (model X.prog X.w) X.A X.env X.xe
theorem ix_loc {x : Str} {i : Nat} (G : Good T C N sc (fun _ => true) W X) (hc : (storedF sc (fun _ => true) x && plainN x) = true) (h : ixOf N x = some i) : X.N.Nodup ∧ X.N[i]? = some x ∧ L2.Loc X.env.scope x ∧ (X.fn x = true ∨ X.env.scope.names.lookup x = some .local) := by
  obtain ⟨h1, _⟩ := Bool.and_eq_true_iff.mp hc
  obtain ⟨h3, h4⟩ := storedF_ok G h1
  exact ⟨by rw [G.hN]; exact G.nd, by rw [G.hN]; exact ixOf_get h, h3, h4⟩
theorem expr_ok {n : Nat} {m : Md} {e : Expr} {ir : Ex} (G : GoodS T C N sc W X) (h : trE T N n sc m e = some ir) : PE X e (tE X.K X.mg W (den C ir).v) := ((low_all T C N n).e sc m e ir _ W X h G.g).1
theorem test_ok {n : Nat} {m : Md} {e : Expr} {ir : Ex} (G : GoodS T C N sc W X) (h : trE T N n sc m e = some ir) : PT X e (tT X.K X.mg W (den C ir).t) := ((low_all T C N n).e sc m e ir _ W X h G.g).2
theorem trTg_pos {n k k' : Nat} {fc : Str → Bool} {ts : List Expr} {p p' : Pos} {t : Tg} (h : trTg N sc fc n (.Tuple ts k p) = some t) : trTg N sc fc n (.Tuple ts k' p') = some t := by
  cases n with
  | zero => cases h
  | succ n => exact h
theorem trAs_ok {n : Nat} {e t : Expr} {ir : Sx} {pos : Pos} (G : GoodS T C N sc W X) (h : trAs T N n sc e t = some ir) : PS X (.Assign [t] e pos) (tS X.K X.mg W (denS C ir)) := by
  cases t with
  | Name x px =>
    have h : (if (storedF sc (fun _ => true) x && plainN x) = true then (ixOf N x).bind fun i => (trE T N n sc .frz e).map fun e => Sx.set i e else none) = some ir := h
    split at h
    · rename_i hc
      obtain ⟨i, e0, h⟩ := Option.bind_eq_some_iff.mp h
      obtain ⟨e', e1, rfl⟩ := Option.map_eq_some_iff.mp h
      obtain ⟨h1, h2, h3, h4⟩ := ix_loc G.g hc e0
      by_cases hn : noComp e = true
      · exact ps_dSet h1 h2 h3 (expr_ok G e1) (swaps_no hn _ _ _) h4
      · cases e with
        | ListComp elt gens scope p =>
          cases hs : swB X.env.scope x px.line scope p with
          | false => exact ps_dSet h1 h2 h3 (expr_ok G e1) (by rw [swaps_lc, hs]) h4
          | true =>
            obtain ⟨f, e2, _, h5⟩ := (low_all T C N n).lc sc .frz elt gens scope p e' _ W X e1 G.g
            have hl : X.env.scope.names.lookup x = some .local := by
              unfold swB at hs
              simp only [Bool.and_eq_true] at hs
              exact eq_of_beq hs.1.1.2
            have := h5 x px pos i h2 hl (by rw [swaps_lc, hs])
            show PS X _ (tS X.K X.mg W (dSet i (den C e').v))
            rw [e2]
            exact this
        | SetComp _ _ _ _ => cases n <;> cases e1
        | DictComp _ _ _ _ _ => cases n <;> cases e1
        | _ => exact absurd rfl hn
    · cases h
  | Tuple es k pt =>
    have h : (if (noComp e && noTup e) = true then (trTg N sc (fun _ => true) n (.Tuple es 0 ⟨0, 0, 0, 0⟩)).bind fun t => (trE T N n sc .frz e).map fun e => Sx.asg t e else none) = some ir := h
    split at h
    · rename_i hc
      obtain ⟨hc1, hc2⟩ := Bool.and_eq_true_iff.mp hc
      obtain ⟨t, e0, h⟩ := Option.bind_eq_some_iff.mp h
      obtain ⟨e', e1, rfl⟩ := Option.map_eq_some_iff.mp h
      exact ps_dAsg (expr_ok G e1) (trTg_ok G.g n _ t (trTg_pos e0)) (sole_no hc1 _ _) (swapped_no hc2 _) rfl
    · cases h
  | Subscript a ei ps =>
    cases a with
    | Name x px =>
      have h : (if (noSlice ei && noComp e && noTup e) = true then (slotOf N sc x).bind fun i => (trE T N n sc .frz ei).bind fun ei => (trE T N n sc .frz e).map fun e => Sx.sto i ei e else none) = some ir := h
      split at h
      · rename_i hc
        obtain ⟨hc1, hc2⟩ := Bool.and_eq_true_iff.mp hc
        obtain ⟨hc0, hc1⟩ := Bool.and_eq_true_iff.mp hc1
        obtain ⟨i, e0, h⟩ := Option.bind_eq_some_iff.mp h
        obtain ⟨ei', e1, h⟩ := Option.bind_eq_some_iff.mp h
        obtain ⟨e', e2, rfl⟩ := Option.map_eq_some_iff.mp h
        obtain ⟨h1, h2, h3, h4⟩ := slotOf_ok G.g e0
        exact ps_dSto h1 h2 h3 h4 (expr_ok G e1) (expr_ok G e2) (assign_sub hc0) (sole_no hc1 _ _) (swapped_no hc2 _)
      · cases h
    | _ => cases h
  | _ => cases h
def OkS (T : Tb) (C : Nat → Fn) (N : List Str) (sc : Scope) (W : WX) (X : Cx) (n : Nat) : Prop := ∀ (st : Stmt) (ir : Sx), trS T N n sc st = some ir → PS X st (tS X.K X.mg W (denS C ir))
def OkB (T : Tb) (C : Nat → Fn) (N : List Str) (sc : Scope) (W : WX) (X : Cx) (n : Nat) : Prop := ∀ (b : List Stmt) (ir : List Sx), trB T N n sc b = some ir → PSs X b (tS X.K X.mg W (denB C ir))
theorem stepS {n : Nat} (G : GoodS T C N sc W X) (hB : OkB T C N sc W X n) : OkS T C N sc W X (n + 1) := by
  intro st ir h
  cases st with
  | Expr e pos =>
    have h : (if noComp e = true then (trE T N n sc .frz e).map Sx.expr else none) = some ir := h
    split at h
    · rename_i hc
      obtain ⟨e', e1, rfl⟩ := Option.map_eq_some_iff.mp h
      exact ps_dDrop (expr_ok G e1) (swaps_no hc _ _ _)
    · cases h
  | Assign ts e pos =>
    match ts, h with
    | [], h => cases h
    | [t], h => exact trAs_ok G h
    | _ :: _ :: _, h => cases h
  | AugAssign t o e pos =>
    cases t with
    | Name x px =>
      have h : (if (storedF sc (fun _ => true) x && plainN x) = true then (ixOf N x).bind fun i => (trE T N n sc .frz e).map fun e => Sx.aug i o e else none) = some ir := h
      split at h
      · rename_i hc
        obtain ⟨i, e0, h⟩ := Option.bind_eq_some_iff.mp h
        obtain ⟨e', e1, rfl⟩ := Option.map_eq_some_iff.mp h
        obtain ⟨h1, h2, h3, h4⟩ := ix_loc G.g hc e0
        exact ps_dAug h1 h2 h3 h4 (expr_ok G e1)
      · cases h
    | _ => cases h
  | If c a b pos =>
    obtain ⟨c', e1, h⟩ := Option.bind_eq_some_iff.mp (show ((trE T N n sc .peek c).bind fun c => (trB T N n sc a).bind fun a => (trB T N n sc b).map fun b => Sx.ifs c a b) = some ir from h)
    obtain ⟨a', e2, h⟩ := Option.bind_eq_some_iff.mp h
    obtain ⟨b', e3, rfl⟩ := Option.map_eq_some_iff.mp h
    exact ps_dIf (test_ok G e1) (hB a a' e2) (hB b b' e3)
  | While c b el pos =>
    cases el with
    | nil =>
      obtain ⟨c', e1, h⟩ := Option.bind_eq_some_iff.mp (show ((trE T N n sc .peek c).bind fun c => (trB T N n sc b).map fun b => Sx.whl c b) = some ir from h)
      obtain ⟨b', e3, rfl⟩ := Option.map_eq_some_iff.mp h
      exact ps_dWhile G.hp (test_ok G e1) (hB b b' e3)
    | cons _ _ => cases h
  | For t e b el pos =>
    cases el with
    | nil =>
      obtain ⟨t', e1, h⟩ := Option.bind_eq_some_iff.mp (show ((trTg N sc (fun _ => true) n t).bind fun t => (trI T N n sc e).bind fun e => (trB T N n sc b).map fun b => Sx.fr e t b) = some ir from h)
      obtain ⟨e', e2, h⟩ := Option.bind_eq_some_iff.mp h
      obtain ⟨b', e3, rfl⟩ := Option.map_eq_some_iff.mp h
      obtain ⟨h1, h2⟩ := (low_all T C N n).i sc e e' _ W X t e2 G.g
      exact ps_dFor G.hp G.g.calm h1 (trTg_ok G.g n t t' e1) (hB b b' e3) (h2 _)
    | cons _ _ => cases h
  | Return e pos =>
    cases e with
    | some e =>
      obtain ⟨e', e1, rfl⟩ := Option.map_eq_some_iff.mp (show (trE T N n sc .mv e).map Sx.ret = some ir from h)
      exact ps_dRet (expr_ok G e1)
    | none => cases h; exact ps_dRetN
  | Break pos => cases h; exact ps_dBrk
  | Continue pos => cases h; exact ps_dCont
  | Pass pos => cases h; exact ps_dPass
  | _ => cases h
theorem stepB {n : Nat} (hS : OkS T C N sc W X n) (hB : OkB T C N sc W X n) : OkB T C N sc W X (n + 1) := by
  intro b ir h
  cases b with
  | nil => cases h; exact pss_dNil
  | cons s r =>
    obtain ⟨a, e1, h⟩ := Option.bind_eq_some_iff.mp (show ((trS T N n sc s).bind fun a => (trB T N n sc r).map (a :: ·)) = some ir from h)
    obtain ⟨b, e2, rfl⟩ := Option.map_eq_some_iff.mp h
    exact pss_dCons (hS s a e1) (hB r b e2)
theorem low_s (G : GoodS T C N sc W X) : ∀ n, OkS T C N sc W X n ∧ OkB T C N sc W X n
  | 0 => ⟨(by intro _ _ h; cases h), (by intro _ _ h; cases h)⟩
  | n + 1 => ⟨stepS G (low_s G n).2, stepB (low_s G n).1 (low_s G n).2⟩
end
/-! ## the table of the defs -/
/-- what the head gives about one def -/
structure DefAt (K : PySem.W.Frag) (mg : Str → Option Value) (T : Tb) (x : Str) (st : Stmt) (N ps : List Str) (f : Addr) (fd : FuncData) : Prop where
  fu : Fun K x x st f fd
  sc : FnScope N ps (defScope st)
  bd : Binds K fd ps []
  at_ : mg x = some (.ref f)
/-- the global names as the reader sees them -/
structure World1 (K : PySem.W.Frag) (mg : Str → Option Value) (T : Tb) : Prop where
  blt : ∀ x, x ∈ bNames → ixOf T.fns x = none → mg x = none
  cst : ∀ x d, T.cst.lookup x = some d → ∃ u v, mg x = some u ∧ RelV v u ∧ ∀ F, Rp K F v d
theorem run_bad (D : List FDef) (n j : Nat) {d : FDef} (h : (D : List FDef)[(j : Nat)]? = some d) (vs : List Va) (S : List PyData) (hl : vs.length ≠ d.np) : run D n j vs S = .bad := by
  cases n with
  | zero => rfl
  | succ n =>
    show (match D[j]? with
      | some d => fnOf d.np d.nl (denB (run D n) d.body)
      | none => fun _ _ => .bad) vs S = .bad
    rw [h]
    exact if_neg hl
section
variable {P : Program} {w : World} {K : PySem.W.Frag} {mg : Str → Option Value} {base : Heap} {T : Tb} {D : List FDef}
/-- the context of a def's body is good -/
theorem goodS_cx {C : Nat → Fn} {N ps : List Str} {sc : Scope} {qual : Str} {f : Addr} {cdv : Value} {A : Around} {outer : List PySem.Env} {s : Shared} {H : Hp} {E : XK} {k : Nat} (Sc : FnScope N ps sc) (w1 : World1 K mg T) (hr : Room k (A.deeper (envOfC qual sc s.heap.objs.size f cdv)))
    (hf : ∀ j x, T.fns[j]? = some x → FnHere (cxOf (L2.CX P w) P w K mg base N qual sc f cdv A outer s H E) x (C j)) : GoodS T C N sc (wOut E) (cxOf (L2.CX P w) P w K mg base N qual sc f cdv A outer s H E) := by
  refine ⟨⟨rfl, Sc.nd, rfl, fun _ _ => rfl, rfl, ?_, takes_of rfl rfl rfl rfl, hf, w1.blt, w1.cst⟩, passes_of rfl⟩
  have := hr.un
  show (A.deeper (envOfC qual sc s.heap.objs.size f cdv)).units + 66 < _
  omega
/-- every def of the table, at every depth -/
theorem table_ok (w1 : World1 K mg T) (hT : ∀ j x, T.fns[j]? = some x → ∃ st N ps f fd, ∃ d : FDef, DefAt K mg T x st N ps f fd ∧ (D : List FDef)[(j : Nat)]? = some d ∧ d.np = ps.length ∧ d.nl = N.length ∧ ∃ n, trB T N n (defScope st) (defBody st) = some d.body) :
    ∀ n j x, T.fns[j]? = some x → ∃ st N ps f fd, ∃ d : FDef, DefAt K mg T x st N ps f fd ∧ (D : List FDef)[(j : Nat)]? = some d ∧ d.np = ps.length ∧ FnOk P w K mg base (L2.CX P w) (n + 1) f fd ps (spFn K mg ps.length (run D n j)) := by
  intro n
  induction n with
  | zero =>
    intro j x hx
    obtain ⟨st, N, ps, f, fd, d, a, b, c, e, m, g⟩ := hT j x hx
    refine ⟨st, N, ps, f, fd, d, a, b, c, ?_⟩
    have hrun : run D 0 j = fnOf ps.length N.length (fun _ => .bad) := by
      funext vs S
      show FR.bad = _
      unfold fnOf
      split <;> rfl
    rw [hrun]
    refine fn_den a.fu a.sc fun cdv A outer s H E hr => PSs.by fun pins s₀ σ H Q I q => ?_
    obtain ⟨g, s, F, hK, hm, w, p⟩ := q
    exact p.elim
  | succ n ih =>
    intro j x hx
    obtain ⟨st, N, ps, f, fd, d, a, b, c, e, m, g⟩ := hT j x hx
    refine ⟨st, N, ps, f, fd, d, a, b, c, ?_⟩
    have hrun : run D (n + 1) j = fnOf ps.length N.length (denB (run D n) d.body) := by
      show (match D[j]? with
        | some d => fnOf d.np d.nl (denB (run D n) d.body)
        | none => fun _ _ => .bad) = _
      rw [b]
      show fnOf d.np d.nl _ = _
      rw [c, e]
    rw [hrun]
    refine fn_den a.fu a.sc fun cdv A outer s H E hr => ?_
    refine (low_s (goodS_cx a.sc w1 hr fun j' x' hx' => ?_) m).2 _ _ g
    obtain ⟨st', N', ps', f', fd', d', a', b', c', o⟩ := ih j' x' hx'
    exact ⟨f', fd', ps', n + 1, ps'.length, a'.at_, a'.fu.kp, a'.bd, hr, o, fun vs S hl => run_bad D n j' b' vs S (by rw [c']; exact hl)⟩
end
end Ev

namespace Ev
open PySem PySem.Spec PyProof.Rows L2

/-! ## the pot of a script -/
def potBody (scope : Scope) (p1 p2 p3 p4 p5 p6 p7 p8 p9 p10 p11 p12 p13 p14 : Pos) (j1 j2 j3 j4 : Nat) : List Stmt :=
  [.Return (some (.List [.ListComp (.Call (.Name "abs" p1) [.Name "cell" p2] [] p3) [⟨.Name "cell" p4, .Subscript (.Name "script" p5) (.Slice none (some (.Constant (.int 63) j1 p6)) none p7) p8, [], 0⟩] scope p9,
    .Constant (.int 0) j2 p10, .Constant (.int 0) j3 p11, .Constant (.int 1) j4 p12] p13)) p14]
def absI (i : Int) : Int := if i < 0 then -i else i
theorem absI_nn (i : Int) : 0 ≤ absI i := by unfold absI; split <;> omega
def potN : List Str := ["script", "cell"]
def spPot (K : PySem.W.Frag) : Sp := fun vs H Q _ => ∃ (a : Addr) (ns : List Int), vs = [.ref a] ∧ SqL K H a (ns.map V.int) ∧ ns.length ≤ 63 ∧
  ∀ H' p q, Same H H' → H p = none → p ≠ q → H' p = some (.lst [.ref q, .int 0, .int 0, .int 1]) → H' q = some (.lst ((ns.map absI).map V.int)) → Q (.ref p) H'
theorem cut63 (xs : List V) (h : xs.length ≤ 63) : cutV xs none (some 63) = xs := by
  unfold cutV
  rw [HT.sIx_none, show HT.sIx xs.length xs.length (some 63) = min 63 xs.length from HT.sIx_nat xs.length xs.length 63]
  rw [List.drop_zero, Nat.sub_zero, Nat.min_eq_right h, List.take_length]
section
variable {P : Program} {w : World} {K : PySem.W.Frag} {mg : Str → Option Value} {base : Heap}
theorem pot_ok {scope : Scope} {p1 p2 p3 p4 p5 p6 p7 p8 p9 p10 p11 p12 p13 p14 : Pos} {j1 j2 j3 j4 : Nat} {x : Str} {st : Stmt} {f : Addr} {fd : FuncData} {k : Nat} (Fu : Fun K x x st f fd) (Sc : FnScope potN ["script"] (defScope st)) (hb : defBody st = potBody scope p1 p2 p3 p4 p5 p6 p7 p8 p9 p10 p11 p12 p13 p14 j1 j2 j3 j4)
    (hblk : blkC potN (defScope st) scope [("cell", 1)] = true) (hs : (defScope st).names.lookup (Str.ofString "script") = some NameKind.local) (hc : scope.names.lookup (Str.ofString "cell") = some NameKind.local) (hg : (relS scope (defScope st)).names.lookup (Str.ofString "abs") = some NameKind.globalImplicit) (hc2 : (relS scope (defScope st)).names.lookup (Str.ofString "cell") = some NameKind.local) (hma : mg "abs" = none) :
    FnOk P w K mg base (L2.CX P w) (k + 1) f fd ["script"] (spPot K) := by
  refine Fu.okX Sc (fun vs H Q E h => by obtain ⟨a, ns, rfl, _⟩ := h; rfl) fun cdv A outer s H vs Q E hr h => ?_
  rw [hb]
  refine ⟨_, pss_one (ps_ret (pe_lst (pa_cons (pe_lc rfl Sc.nd (pi_list (pe_slice sl_list (pe_var (i := 0) rfl (.inl hs) (by decide +kernel) (by decide +kernel)) po_none (po_some pe_int))) (blkOk_by hblk)
      (fun s H C cl fp => pg_name (i := 1) Sc.nd rfl (.inl hc2) (.inr hc2)) (fun s H C cl fp => pts_nil) (fun s H C cl fp => pe_callB call_abs hg hma (boot_B1 .abs).1 (pa_cons (pe_var (i := 1) rfl (.inl hc2) (by decide +kernel) (by decide +kernel)) pa_nil rfl)) (fun _ => rfl))
    (pa_cons pe_int (pa_cons pe_int (pa_cons pe_int pa_nil rfl) rfl) rfl) rfl))), ?_⟩
  obtain ⟨a, ns, rfl, hS, hlen, q⟩ := h
  refine ⟨.ref a, rfl, 63, rfl, a, ns.map V.int, rfl, hS, fun c nc => ?_⟩
  have m1 : Same H (upd H c (.lst (cutV (ns.map V.int) none (some 63)))) := fun b x e => by
    rw [upd_ne (ne_of_none e nc)]; exact e
  rw [cut63 _ (by rw [List.length_map]; exact hlen)] at m1 ⊢
  refine ⟨c, rfl, ⟨ns.map V.int, .inl (.inl upd_same)⟩, fun D nD => ?_⟩
  have hDc : D ≠ c := fun e => by rw [e, upd_same] at nD; cases nD
  refine ⟨fun i m H' => i + m = ns.length ∧ Same H H' ∧ H' c = some (.lst (ns.map V.int)) ∧ H' D = some (.lst (((ns.take i).map absI).map V.int)), ⟨ns.length, by omega, ?_, ?_, ?_⟩, fun i m H' hW => ?_⟩
  · exact fun b x e => by
      have e1 := m1 b x e
      rw [upd_ne (ne_of_none e1 nD)]; exact e1
  · rw [upd_ne hDc.symm, upd_same]
  · rw [upd_same]; rfl
  · obtain ⟨hm, sm, ec, eD⟩ := hW
    have hC : SqL K H' c (ns.map V.int) := .inl (.inl ec)
    by_cases hi : i < ns.length
    · have gi : (ns.map V.int)[i]? = some (.int ns[i]) := by rw [List.getElem?_map, List.getElem?_eq_getElem hi]; rfl
      refine .inr ⟨⟨_, _, hC, gi⟩, fun H'' => Same H H'' ∧ H'' c = some (.lst (ns.map V.int)) ∧ H'' D = some (.lst (((ns.take (i + 1)).map absI).map V.int)), fun H'' hN => ⟨m - 1, by omega, by omega, hN⟩, fun x H'' hy => ?_⟩
      obtain ⟨rfl, fx⟩ := hy
      have ex : x = .int ns[i] := Option.some.inj ((fx _ hC).symm.trans gi)
      subst ex
      refine ⟨rfl, ?_⟩
      unfold tYes; dsimp only
      rw [if_pos rfl]
      refine ⟨_, rfl, ns[i], rfl, _, eD, ?_, ?_, ?_, ?_⟩
      · rw [List.length_map, List.length_map, List.length_take]
        exact Nat.lt_of_le_of_lt (Nat.min_le_left _ _) (Nat.lt_of_le_of_lt (Nat.le_trans (Nat.le_of_lt hi) hlen) (by decide))
      · exact fun b x e => by
          rw [upd_ne (ne_of_none (m1 b x e) nD)]
          exact sm b x e
      · rw [upd_ne hDc.symm]; exact ec
      · rw [upd_same, List.take_add_one, List.getElem?_eq_getElem hi, List.map_append, List.map_append]
        rfl
    · refine .inl ⟨⟨_, hC, by rw [List.length_map]; omega⟩, ?_⟩
      have et : ns.take i = ns := List.take_of_length_le (by omega)
      rw [et] at eD
      refine ⟨by show 4 ≤ sizeLine; decide, fun p np => ?_⟩
      have hpD : p ≠ D := fun e => by rw [e, eD] at np; cases np
      have hpH : H p = none := by
        cases e : H p with
        | none => rfl
        | some o => rw [sm _ _ e] at np; cases np
      refine q _ p D (fun b x e => ?_) hpH hpD upd_same ?_
      · rw [upd_ne (ne_of_none (sm b x e) np)]; exact sm b x e
      · rw [upd_ne (Ne.symm hpD)]; exact eD
/-- a law's promise -/
def spLaw (K : PySem.W.Frag) : Sp := fun vs H Q _ => ∃ (a : Addr) (ns : List Int), vs = [.ref a] ∧ SqL K H a (ns.map V.int) ∧ ns.length ≤ 63 ∧ ∀ H', Q (.bl true) H'
/-- the pot's first content -/
def pot0 (ns : List Int) : List PyData := [.list ((ns.map absI).map PyData.int), .int 0, .int 0, .int 1]
def start0 (N : List Str) (ns : List Int) : Stt := ⟨none :: some .pot :: List.replicate (N.length - 2) none, pot0 ns⟩
theorem rp_ints {F : Hp} : ∀ ns : List Int, RpAll K F (ns.map V.int) (ns.map PyData.int)
  | [] => .nil
  | n :: ns => .cons (.int n) (rp_ints ns)
theorem law_ok {T : Tb} {D : List FDef} {N : List Str} {st : Stmt} {py pp ps pc pos : Pos} {rest : List Stmt} {f fp : Addr} {fd fdp : FuncData} {m n : Nat} {ir : List Sx} (Fu : Fun K "law" "law" st f fd) (Sc : FnScope N ["script"] (defScope st))
    (hb : defBody st = .Assign [.Name "pot" py] (.Call (.Name "_law_pot" pp) [.Name "script" ps] [] pc) pos :: rest) (h0 : N[0]? = some (Str.ofString "script")) (h1 : N[1]? = some (Str.ofString "pot")) (hs : (defScope st).names.lookup (Str.ofString "script") = some NameKind.local) (hpt : (defScope st).names.lookup (Str.ofString "pot") = some NameKind.local)
    (hg : (defScope st).names.lookup (Str.ofString "_law_pot") = some NameKind.globalImplicit) (hm : mg "_law_pot" = some (.ref fp)) (hk : PySem.W.keepIn K (.ref fp) = true) (hbp : Binds K fdp ["script"] []) (FP : FnOk P w K mg base (L2.CX P w) (m + 1) fp fdp ["script"] (spPot K))
    (w1 : World1 K mg T) (hT : ∀ j x, T.fns[j]? = some x → ∃ st N ps f fd, ∃ d : FDef, DefAt K mg T x st N ps f fd ∧ (D : List FDef)[(j : Nat)]? = some d ∧ d.np = ps.length ∧ d.nl = N.length ∧ ∃ n, trB T N n (defScope st) (defBody st) = some d.body)
    (hr : trB T N n (defScope st) rest = some ir) (plain : ∀ ns : List Int, ns.length ≤ 63 → ∃ s', denB (run D m) ir (start0 N ns) = .rt (.dat (.bool true)) s') : FnOk P w K mg base (L2.CX P w) (m + 2) f fd ["script"] (spLaw K) := by
  refine Fu.okX Sc (fun vs H Q E h => by obtain ⟨a, ns, rfl, _⟩ := h; rfl) fun cdv A outer s H vs Q E hroom h => ?_
  have G : GoodS T (run D m) N (defScope st) (wOut E) (cxOf (L2.CX P w) P w K mg base N "law" (defScope st) f cdv A outer s H E) := goodS_cx Sc w1 hroom fun j' x' hx' => by
    obtain ⟨st', N', ps', f', fd', d', a', b', c', o⟩ := table_ok (P := P) (w := w) (base := base) w1 hT m j' x' hx'
    exact ⟨f', fd', ps', m + 1, ps'.length, a'.at_, a'.fu.kp, a'.bd, hroom, o, fun vs S hl => run_bad D m j' b' vs S (by rw [c']; exact hl)⟩
  rw [hb]
  refine ⟨_, pss_cons (ps_set (i := 1) Sc.nd h1 (.inl hpt) (pe_callS FP hroom hg hm hk hbp (fun σ => passAt G.g.tk σ) (pa_cons (pe_var (i := 0) h0 (.inl hs) (by decide +kernel) (by decide +kernel)) pa_nil rfl)) rfl (.inr hpt)) ((low_s G n).2 _ _ hr), ?_⟩
  obtain ⟨a, ns, rfl, hS, hlen, q⟩ := h
  have hN : 2 ≤ N.length := by
    rcases Nat.lt_or_ge N.length 2 with h | h
    · rw [List.getElem?_eq_none (by omega)] at h1; cases h1
    · exact h
  refine ⟨.ref a, ?_, a, ns, rfl, hS, hlen, fun H' p q' sm np hpq ep eq => ?_⟩
  · unfold L2.start
    rfl
  refine ⟨⟨K, mg, p, fun b => if b = p then none else H' b, H'⟩, start0 N ns, fun b => if b = p then none else H' b, rfl, rfl, ?_, ?_⟩
  · have eF : ∀ b, b ≠ p → (if b = p then none else H' b) = H' b := fun b hb => if_neg hb
    refine ⟨?_, fun b x e => ?_, Same.refl _, fun _ _ => rfl, fun _ _ _ h => h, if_pos rfl, ⟨_, ep, by show 4 ≤ sizeLine; decide, ?_⟩, fun i v e => ?_, fun i j xs ys a e1 e2 _ _ => ?_⟩
    · unfold start0 L2.start
      simp
      omega
    · have e : (if b = p then none else H' b) = some x := e
      split at e
      · cases e
      · exact e
    · refine .cons (.lst (xs := (ns.map absI).map V.int) ?_ ?_ (rp_ints _)) (.cons (.int _) (.cons (.int _) (.cons (.int _) .nil)))
      · show (if q' = p then none else H' q') = _
        rw [if_neg (Ne.symm hpq)]; exact eq
      · rw [List.length_map, List.length_map]
        exact Nat.le_trans hlen (by decide)
    · have e : (none :: some Va.pot :: List.replicate (N.length - 2) (none : Option Va))[i]? = some (some v) := e
      match i, e with
      | 0, e => cases e
      | 1, e =>
        cases e
        refine ⟨.ref p, ?_, rfl⟩
        unfold L2.start
        rw [List.getElem?_set_self (by simp; omega)]
      | i + 2, e =>
        rw [List.getElem?_cons_succ, List.getElem?_cons_succ, List.getElem?_replicate] at e
        split at e <;> cases e
    · have e1 : (none :: some Va.pot :: List.replicate (N.length - 2) (none : Option Va))[i]? = some (some (.own xs)) := e1
      match i, e1 with
      | 0, e => cases e
      | 1, e => cases e
      | i + 2, e =>
        rw [List.getElem?_cons_succ, List.getElem?_cons_succ, List.getElem?_replicate] at e
        split at e <;> cases e
  · obtain ⟨s', e⟩ := plain ns hlen
    rw [e]
    intro σ' F' H2 u w' m' r
    cases r
    exact q H2
end
end Ev

namespace Ev
open PySem PySem.Spec PyProof.Rows L2

/-! ## what the head gives, put together -/
def NoneAll (mg : Str → Option Value) : List Str → Prop
  | [] => True
  | x :: r => mg x = none ∧ NoneAll mg r
theorem NoneAll.at {mg : Str → Option Value} : ∀ {l : List Str}, NoneAll mg l → ∀ x, x ∈ l → mg x = none
  | y :: r, ⟨h, hr⟩, x, hx => by
    rcases List.mem_cons.mp hx with rfl | hx
    · exact h
    · exact hr.at x hx
def CstAt (K : PySem.W.Frag) (mg : Str → Option Value) (x : Str) (d : PyData) : Prop := ∃ u v, mg x = some u ∧ RelV v u ∧ ∀ F, Rp K F v d
def CstAll (K : PySem.W.Frag) (mg : Str → Option Value) : List (Str × PyData) → Prop
  | [] => True
  | p :: r => CstAt K mg p.1 p.2 ∧ CstAll K mg r
theorem CstAll.at {K : PySem.W.Frag} {mg : Str → Option Value} : ∀ {l : List (Str × PyData)}, CstAll K mg l → ∀ x d, l.lookup x = some d → CstAt K mg x d
  | (y, e) :: r, ⟨h, hr⟩, x, d, hx => by
    rw [List.lookup_cons] at hx
    split at hx
    · rename_i q
      cases hx
      rw [eq_of_beq q]
      exact h
    · exact hr.at x d hx
theorem cst_str {K : PySem.W.Frag} {mg : Str → Option Value} {x s : Str} {t : Tok} (h : mg x = some (.str s t)) (o : okS s = true) : CstAt K mg x (.str s) := ⟨_, .str s, h, ⟨t, rfl⟩, fun _ => .str o⟩
theorem cst_int {K : PySem.W.Frag} {mg : Str → Option Value} {x : Str} {i : Int} {t : Tok} (h : mg x = some (.int i t)) : CstAt K mg x (.int i) := ⟨_, .int i, h, ⟨t, rfl⟩, fun _ => .int i⟩
/-- plain values and what they are -/
def flatV : List Value → List PyData → Bool
  | [], [] => true
  | .str s _ :: vs, .str x :: ds => decide (s = x) && okS x && flatV vs ds
  | .int i _ :: vs, .int j :: ds => decide (i = j) && flatV vs ds
  | _, _ => false
theorem flatV_ok {K : PySem.W.Frag} {F : Hp} : ∀ {vs : List Value} {ds : List PyData}, flatV vs ds = true → ∃ xs, Vals xs vs ∧ RpAll K F xs ds
  | [], [], _ => ⟨[], .nil, .nil⟩
  | .str s t :: vs, .str x :: ds, h => by
    unfold flatV at h
    simp only [Bool.and_eq_true, decide_eq_true_eq] at h
    obtain ⟨⟨rfl, o⟩, h⟩ := h
    obtain ⟨xs, a, b⟩ := flatV_ok (K := K) (F := F) h
    exact ⟨.str s :: xs, .cons ⟨t, rfl⟩ a, .cons (.str o) b⟩
  | .int i t :: vs, .int j :: ds, h => by
    unfold flatV at h
    simp only [Bool.and_eq_true, decide_eq_true_eq] at h
    obtain ⟨rfl, h⟩ := h
    obtain ⟨xs, a, b⟩ := flatV_ok (K := K) (F := F) h
    exact ⟨.int i :: xs, .cons ⟨t, rfl⟩ a, .cons (.int i) b⟩
theorem flatV_at {K : PySem.W.Frag} : ∀ {vs : List Value} {ds : List PyData}, flatV vs ds = true → ∃ xs, Vals xs vs ∧ ∀ F, RpAll K F xs ds
  | [], [], _ => ⟨[], .nil, fun _ => .nil⟩
  | .str s t :: vs, .str x :: ds, h => by
    unfold flatV at h
    simp only [Bool.and_eq_true, decide_eq_true_eq] at h
    obtain ⟨⟨rfl, o⟩, h⟩ := h
    obtain ⟨xs, a, b⟩ := flatV_at (K := K) h
    exact ⟨.str s :: xs, .cons ⟨t, rfl⟩ a, fun F => .cons (.str o) (b F)⟩
  | .int i t :: vs, .int j :: ds, h => by
    unfold flatV at h
    simp only [Bool.and_eq_true, decide_eq_true_eq] at h
    obtain ⟨rfl, h⟩ := h
    obtain ⟨xs, a, b⟩ := flatV_at (K := K) h
    exact ⟨.int i :: xs, .cons ⟨t, rfl⟩ a, fun F => .cons (.int i) (b F)⟩
theorem vals_len {xs : List V} {vs : List Value} (h : Vals xs vs) : xs.length = vs.length := h.length
theorem cst_tup {K : PySem.W.Frag} {mg : Str → Option Value} {x : Str} {a : Addr} {its : Array Value} {n : Nat} {sl : Array (Option Value)} {ds : List PyData} (h : mg x = some (.ref a)) (l : K.lookup a = some ⟨.type "tuple", none, .seq its n, sl⟩) (z : its.size ≤ 1000) (f : flatV its.toList ds = true) : CstAt K mg x (.tuple ds) := by
  obtain ⟨xs, h1, h2⟩ := flatV_at (K := K) f
  have hz : its.size ≤ sizeLine := Nat.le_trans z (by decide)
  refine ⟨_, .ref a, h, rfl, fun F => .tup (.inr ⟨_, its, n, l, rfl, rfl, hz, h1⟩) ?_ (h2 F)⟩
  rw [vals_len h1, Array.length_toList]
  exact hz
def TabAt (K : PySem.W.Frag) (mg : Str → Option Value) (T : Tb) (D : List FDef) (j : Nat) (x : Str) : Prop := ∃ st N ps f fd, ∃ d : FDef, DefAt K mg T x st N ps f fd ∧ D[j]? = some d ∧ d.np = ps.length ∧ d.nl = N.length ∧ ∃ n, trB T N n (defScope st) (defBody st) = some d.body
def TabAll (K : PySem.W.Frag) (mg : Str → Option Value) (T : Tb) (D : List FDef) : Nat → List Str → Prop
  | _, [] => True
  | j, x :: r => TabAt K mg T D j x ∧ TabAll K mg T D (j + 1) r
theorem TabAll.at {K : PySem.W.Frag} {mg : Str → Option Value} {T : Tb} {D : List FDef} : ∀ {l : List Str} {i : Nat}, TabAll K mg T D i l → ∀ (j : Nat) (x : Str), l[j]? = some x → TabAt K mg T D (i + j) x
  | y :: r, i, ⟨h, hr⟩, 0, x, hx => by cases hx; exact h
  | y :: r, i, ⟨h, hr⟩, j + 1, x, hx => by
    have := hr.at j x (by simpa using hx)
    rwa [show i + 1 + j = i + (j + 1) by omega] at this
theorem w1_of {K : PySem.W.Frag} {mg : Str → Option Value} {T : Tb} (hn : NoneAll mg bNames) (hc : CstAll K mg T.cst) : World1 K mg T := ⟨fun x hx _ => hn.at x hx, fun x d h => hc.at x d h⟩
section
variable {K : PySem.W.Frag} {h : Heap} {mg : Str → Option Value}
/-- a def of the top, by what the head's heap says of it -/
theorem def_at {T : Tb} {x : Str} {st : Stmt} {N ps : List Str} {f : Addr} {oc : Value} {od an : Option Addr} {osl : Array (Option Value)} {kV doc pm cdv ct : Value} (X : K.In h) (G : h.Ns mainGlobals mg)
    (a : PySem.W.nsIn K mainGlobals x = some (some (.ref f))) (l : K.lookup f = some ⟨oc, od, .func (PySem.W.fnOf x x (defArgs st) (defBody st) (defScope st) .none kV doc pm an cdv ct), osl⟩)
    (c : PySem.W.codeIn K cdv x = true) (k : PySem.W.keepIn K (.ref f) = true) (Sc : FnScope N ps (defScope st))
    (hb : ∀ (kV doc pm : Value) (an : Option Addr) (cdv ct : Value) (us : List Value), us.length = ps.length → bindArgs (PySem.W.fnOf x x (defArgs st) (defBody st) (defScope st) .none kV doc pm an cdv ct) ⟨us, []⟩ = pure (ps.zip us)) :
    DefAt K mg T x st N ps f (PySem.W.fnOf x x (defArgs st) (defBody st) (defScope st) .none kV doc pm an cdv ct) := by
  have F := fun_mk (st := st) l c k
  exact ⟨F, Sc, F.binds hb, PySem.W.mg_of X G a⟩
end
theorem cx_none {P : Program} {w : World} {H : Hp} {s : Shared} {e : Value} {s' : Shared} (h : L2.CX P w [] H s (fun _ _ _ => False) e s') : False := by
  obtain ⟨_, _, _, _, _, _, _, _, _, _, _, _, f⟩ := h
  exact f
end Ev

namespace Ev
open PySem PySem.Spec PyProof.Rows L2

/-! ## the plain reading: each step over a written-out state -/
section
variable {α β : Type} {ρ : List (Option Va)} {S : List PyData} {s : Stt}
@[simp] theorem R_ok {a : α} {g : α → De β} : (Res.ok a s).bind g = g a s := rfl
@[simp] theorem R_exc {x : Exn} {g : α → De β} : (Res.exc x s : Res α).bind g = .exc x s := rfl
@[simp] theorem R_okS {a : α} {g : α → Stt → SR} : (Res.ok a s).toS g = g a s := rfl
@[simp] theorem R_excS {x : Exn} {g : α → Stt → SR} : (Res.exc x s : Res α).toS g = .exc x s := rfl
@[simp] theorem S_nx {h : Ds} : (SR.nx s).seq h = h s := rfl
@[simp] theorem S_rt {v : Va} {h : Ds} : (SR.rt v s).seq h = .rt v s := rfl
@[simp] theorem S_bk {h : Ds} : (SR.bk s).seq h = .bk s := rfl
@[simp] theorem S_ct {h : Ds} : (SR.ct s).seq h = .ct s := rfl
@[simp] theorem S_exc {x : Exn} {h : Ds} : (SR.exc x s).seq h = .exc x s := rfl
@[simp] theorem of_some {a : α} : ofOpt (some a) s = .ok a s := rfl
@[simp] theorem frz_d {d : PyData} : frz (.dat d) s = .ok d s := rfl
@[simp] theorem frz_o {xs : List PyData} : frz (.own xs) s = .ok (.list xs) s := rfl
@[simp] theorem val_d {d : PyData} : valD (.dat d) = some d := rfl
@[simp] theorem val_o {xs : List PyData} : valD (.own xs) = some (.list xs) := rfl
@[simp] theorem val_b {xs : List PyData} : valD (.bor xs) = some (.list xs) := rfl
@[simp] theorem arg_d {d : PyData} : toArg (.dat d) s = .ok (.dat d) s := rfl
@[simp] theorem arg_o {xs : List PyData} : toArg (.own xs) s = .ok (.dat (.list xs)) s := rfl
@[simp] theorem arg_p : toArg .pot s = .ok .pot s := rfl
@[simp] theorem s_frz {f : De Va} : dFrz f ⟨ρ, S⟩ = (f ⟨ρ, S⟩).bind frz := rfl
@[simp] theorem s_var {i : Nat} : dVar i ⟨ρ, S⟩ = match ρ[i]? with
  | some (some (.dat d)) => .ok (.dat d) ⟨ρ, S⟩
  | some (some (.own xs)) => .ok (.dat (.list xs)) ⟨ρ.set i (some (.dat (.list xs))), S⟩
  | some (some .pot) => .ok .pot ⟨ρ, S⟩
  | _ => .bad := rfl
@[simp] theorem s_peek {i : Nat} : dPeek i ⟨ρ, S⟩ = match ρ[i]? with
  | some (some (.dat d)) => .ok (.dat d) ⟨ρ, S⟩
  | some (some (.own xs)) => .ok (.bor xs) ⟨ρ, S⟩
  | some (some .pot) => .ok .pot ⟨ρ, S⟩
  | _ => .bad := rfl
@[simp] theorem s_mv {i : Nat} : dMv i ⟨ρ, S⟩ = match ρ[i]? with
  | some (some (.dat d)) => .ok (.dat d) ⟨ρ, S⟩
  | some (some (.own xs)) => .ok (.own xs) ⟨ρ.set i none, S⟩
  | some (some .pot) => .ok .pot ⟨ρ, S⟩
  | _ => .bad := rfl
@[simp] theorem s_c {d : PyData} : dC d s = .ok (.dat d) s := rfl
@[simp] theorem s_bin {o : Operator} {f h : De Va} : dBin o f h ⟨ρ, S⟩ = (dFrz f ⟨ρ, S⟩).bind fun a s => (dFrz h s).bind fun b s => ofOpt (bopD o a b) s := rfl
@[simp] theorem s_neg {f : De Va} : dNeg f ⟨ρ, S⟩ = (dFrz f ⟨ρ, S⟩).bind fun a s => match a with
  | .int i => .ok (.dat (.int (-i))) s
  | _ => .bad := by
  unfold dNeg
  first
  | rfl
  | (cases dFrz f ⟨ρ, S⟩ <;> first | rfl | (rename_i a s; cases a <;> rfl))
@[simp] theorem s_toV {f : De Bool} : toV f ⟨ρ, S⟩ = (f ⟨ρ, S⟩).bind fun b s => .ok (.dat (.bool b)) s := rfl
@[simp] theorem s_cmp {o : CmpOp} {f h : De Va} : dCmpB o f h ⟨ρ, S⟩ = (dFrz f ⟨ρ, S⟩).bind fun a s => (h s).bind fun b s => ofOpt ((valD b).bind (cmpD o a)) s := rfl
@[simp] theorem s_tru {f : De Va} : dTru f ⟨ρ, S⟩ = (f ⟨ρ, S⟩).bind fun v s => ofOpt ((valD v).bind truD) s := rfl
@[simp] theorem s_andB {f h : De Bool} : dAndB f h ⟨ρ, S⟩ = (f ⟨ρ, S⟩).bind fun b s => if b = true then h s else .ok false s := rfl
@[simp] theorem s_orB {f h : De Bool} : dOrB f h ⟨ρ, S⟩ = (f ⟨ρ, S⟩).bind fun b s => if b = true then .ok true s else h s := rfl
@[simp] theorem s_notB {f : De Bool} : dNotB f ⟨ρ, S⟩ = (f ⟨ρ, S⟩).bind fun b s => .ok (!b) s := rfl
@[simp] theorem s_nil : dNil s = .ok [] s := rfl
@[simp] theorem s_cons {f : De Va} {fs : De (List Va)} : dCons f fs ⟨ρ, S⟩ = ((f ⟨ρ, S⟩).bind toArg).bind fun v s => (fs s).bind fun vs s => .ok (v :: vs) s := rfl
@[simp] theorem s_tup {fs : De (List Va)} : dTup fs ⟨ρ, S⟩ = (fs ⟨ρ, S⟩).bind fun vs s => ofOpt ((datsOf vs).bind fun ds => if ds.length ≤ 16777216 then some (.dat (.tuple ds)) else none) s := rfl
@[simp] theorem s_lst {fs : De (List Va)} : dLst fs ⟨ρ, S⟩ = (fs ⟨ρ, S⟩).bind fun vs s => ofOpt ((datsOf vs).bind fun ds => if ds.length ≤ 16777216 then some (.own ds) else none) s := rfl
@[simp] theorem s_idx {f h : De Va} : dIdx f h ⟨ρ, S⟩ = (dFrz f ⟨ρ, S⟩).bind fun a s => (dFrz h s).bind fun b s => ofOpt ((idxD a b).map Va.dat) s := rfl
@[simp] theorem s_idxV {i : Nat} {h : De Va} : dIdxV i h ⟨ρ, S⟩ = match ρ[i]? with
  | some (some _) => (dFrz h ⟨ρ, S⟩).bind fun b s => ofOpt ((slotD s i).bind fun a => (idxD a b).map Va.dat) s
  | _ => .bad := rfl
@[simp] theorem s_slot {i : Nat} : slotD ⟨ρ, S⟩ i = match ρ[i]? with
  | some (some (.dat d)) => some d
  | some (some (.own xs)) => some (.list xs)
  | some (some .pot) => some (.list S)
  | _ => none := rfl
@[simp] theorem s_cutV {i : Nat} {l h : dO} : dCutV i l h ⟨ρ, S⟩ = match ρ[i]? with
  | some (some _) => (l ⟨ρ, S⟩).bind fun lo s => (h s).bind fun hi s => ofOpt ((slotD s i).bind fun a => cutD a lo hi) s
  | _ => .bad := rfl
@[simp] theorem s_cut {f : De Va} {l h : dO} : dCut f l h ⟨ρ, S⟩ = (dFrz f ⟨ρ, S⟩).bind fun a s => (l s).bind fun lo s => (h s).bind fun hi s => ofOpt (cutD a lo hi) s := rfl
@[simp] theorem s_no : dNo s = .ok none s := rfl
@[simp] theorem s_someO {f : De Va} : dSome f ⟨ρ, S⟩ = (dFrz f ⟨ρ, S⟩).bind fun a s => match a with
  | .int i => .ok (some i) s
  | _ => .bad := rfl
@[simp] theorem s_b1 {b : B1} {f : De Va} : dB1 b f ⟨ρ, S⟩ = (f ⟨ρ, S⟩).bind fun v s => ofOpt ((valD v).bind (b1D b)) s := rfl
@[simp] theorem s_call {φ : Fn} {fs : De (List Va)} : dCall φ fs ⟨ρ, S⟩ = (fs ⟨ρ, S⟩).bind fun vs s => match φ vs s.S with
  | .ok v S => .ok v ⟨s.ρ, S⟩
  | .exc x S => .exc x ⟨s.ρ, S⟩
  | .bad => .bad := rfl
@[simp] theorem s_app {i : Nat} {f : De Va} : dApp i f ⟨ρ, S⟩ = match ownAt ⟨ρ, S⟩ i with
  | none => .bad
  | some _ => (dFrz f ⟨ρ, S⟩).bind fun d s => match ownAt s i with
    | none => .bad
    | some xs => if xs.length < 16777216 then .ok (.dat .none) (setOwn s i (xs ++ [d])) else .bad := rfl
@[simp] theorem s_ownAt {i : Nat} : ownAt ⟨ρ, S⟩ i = match ρ[i]? with
  | some (some (.own xs)) => some xs
  | _ => none := rfl
@[simp] theorem s_setOwn {i : Nat} {xs : List PyData} : setOwn ⟨ρ, S⟩ i xs = ⟨ρ.set i (some (.own xs)), S⟩ := rfl
@[simp] theorem s_seq {f h : Ds} : dSeq f h ⟨ρ, S⟩ = (f ⟨ρ, S⟩).seq h := rfl
@[simp] theorem s_skip : dSkip s = .nx s := rfl
@[simp] theorem s_brk : dBrk s = .bk s := rfl
@[simp] theorem s_cont : dCont s = .ct s := rfl
@[simp] theorem s_ret {f : De Va} : dRet f ⟨ρ, S⟩ = (f ⟨ρ, S⟩).toS fun v s => .rt v s := rfl
@[simp] theorem s_retN : dRetN s = .rt (.dat .none) s := rfl
@[simp] theorem s_drop {f : De Va} : dDrop f ⟨ρ, S⟩ = (f ⟨ρ, S⟩).toS fun _ s => .nx s := rfl
@[simp] theorem s_set {i : Nat} {f : De Va} : dSet i f ⟨ρ, S⟩ = (f ⟨ρ, S⟩).toS (putV i) := rfl
@[simp] theorem put_d {i : Nat} {d : PyData} : putV i (.dat d) ⟨ρ, S⟩ = .nx ⟨ρ.set i (some (.dat d)), S⟩ := rfl
@[simp] theorem put_o {i : Nat} {xs : List PyData} : putV i (.own xs) ⟨ρ, S⟩ = .nx ⟨ρ.set i (some (.own xs)), S⟩ := rfl
@[simp] theorem put_p {i : Nat} : putV i .pot ⟨ρ, S⟩ = .nx ⟨ρ.set i (some .pot), S⟩ := rfl
@[simp] theorem s_if {c : De Bool} {f h : Ds} : dIf c f h ⟨ρ, S⟩ = (c ⟨ρ, S⟩).toS fun b s => if b = true then f s else h s := rfl
@[simp] theorem s_asg {h : PyData → Stt → Option Stt} {f : De Va} : dAsg h f ⟨ρ, S⟩ = (dFrz f ⟨ρ, S⟩).toS fun d s => match h d s with
  | some s => .nx s
  | none => .bad := rfl
@[simp] theorem s_sto {i : Nat} {fi f : De Va} : dSto i fi f ⟨ρ, S⟩ = match ρ[i]? with
  | some (some _) => (dFrz f ⟨ρ, S⟩).toS fun d s => (dFrz fi s).toS fun k s => match s.ρ[i]?, k with
    | some (some (.own xs)), .int k => (match ixN xs.length k with
      | some j => .nx (setOwn s i (xs.set j d))
      | none => .bad)
    | some (some .pot), .int k => (match ixN s.S.length k with
      | some j => .nx ⟨s.ρ, s.S.set j d⟩
      | none => .bad)
    | _, _ => .bad
  | _ => .bad := rfl
@[simp] theorem s_aug {i : Nat} {o : Operator} {f : De Va} : dAug i o f ⟨ρ, S⟩ = match ρ[i]? with
  | some (some (.dat (.int k))) => (dFrz f ⟨ρ, S⟩).toS fun d s => match d with
    | .int j => (match augI o k j with
      | some r => .nx ⟨s.ρ.set i (some (.dat (.int r))), s.S⟩
      | none => .bad)
    | _ => .bad
  | _ => .bad := rfl
@[simp] theorem s_items {f : De Va} : dItems f ⟨ρ, S⟩ = (dFrz f ⟨ρ, S⟩).bind fun d s => ofOpt (itemsD d) s := rfl
@[simp] theorem s_rng1 {f : De Va} : dRange1 f ⟨ρ, S⟩ = (dFrz f ⟨ρ, S⟩).bind fun d s => match d with
  | .int j => if inR j = true then .ok (rangeL 0 j.toNat) s else .bad
  | _ => .bad := rfl
@[simp] theorem s_for {f : De (List PyData)} {h : PyData → Stt → Option Stt} {body : Ds} : dFor f h body ⟨ρ, S⟩ = (f ⟨ρ, S⟩).toS fun ds s => forD h body ds s := rfl
@[simp] theorem s_gPut {i : Nat} {d : PyData} : gPut i d ⟨ρ, S⟩ = some ⟨ρ.set i (some (.dat d)), S⟩ := rfl
@[simp] theorem s_yes : dYes s = .ok true s := rfl
@[simp] theorem s_sw {i : Nat} {f h : De Va} : dSw i f h ⟨ρ, S⟩ = match ρ[i]? with
  | some (some (.dat (.str x))) => (dFrz f ⟨ρ, S⟩).bind fun d s => (dFrz h s).bind fun e s => match d, e with
    | .str y, .int k => .ok (.dat (.bool (PySem.Txt.startswith3 x y k))) s
    | _, _ => .bad
  | _ => .bad := rfl
end
@[simp] theorem ofV_v {f : De Va} : (Dn.ofV f).v = f := rfl
@[simp] theorem ofV_t {f : De Va} : (Dn.ofV f).t = dTru f := rfl
@[simp] theorem ofB_v {f : De Bool} : (Dn.ofB f).v = toV f := rfl
@[simp] theorem ofB_t {f : De Bool} : (Dn.ofB f).t = f := rfl
/-- a value at a place: ints -/
theorem idx_nat {xs : List PyData} {j : Nat} {i : Int} {d : PyData} (h : xs[j]? = some d) (hi : i = (j : Int)) : idxD (.list xs) (.int i) = some d := by
  subst hi
  exact atI_nat h
section
variable {i j : Int} {x y : Str} {xs ys : List PyData} {a b : PyData}
@[simp] theorem b_add : bopD .Add (.int i) (.int j) = some (.dat (.int (i + j))) := rfl
@[simp] theorem b_sub : bopD .Sub (.int i) (.int j) = some (.dat (.int (i - j))) := rfl
@[simp] theorem b_mul : bopD .Mult (.int i) (.int j) = if (-(2 ^ 64) < i ∧ i < 2 ^ 64) ∨ (-(2 ^ 64) < j ∧ j < 2 ^ 64) then some (.dat (.int (i * j))) else none := by
  show (if _ then _ else _ : Option Int).map _ = _
  split <;> rfl
@[simp] theorem b_div : bopD .FloorDiv (.int i) (.int j) = if 0 < j ∧ j < 1073741824 then some (.dat (.int (i / j))) else none := by
  show (if _ then _ else _ : Option Int).map _ = _
  split <;> rfl
@[simp] theorem b_mod : bopD .Mod (.int i) (.int j) = if 0 < j then some (.dat (.int (i % j))) else none := by
  show (if _ then _ else _ : Option Int).map _ = _
  split <;> rfl
@[simp] theorem b_strs : bopD .Add (.str x) (.str y) = if x.length + y.length ≤ 16777216 then some (.dat (.str (x ++ y))) else none := rfl
@[simp] theorem b_tups : bopD .Add (.tuple xs) (.tuple ys) = if xs.length + ys.length ≤ 16777216 then some (.dat (.tuple (xs ++ ys))) else none := rfl
@[simp] theorem b_lsts : bopD .Add (.list xs) (.list ys) = if xs.length + ys.length ≤ 16777216 then some (.own (xs ++ ys)) else none := rfl
theorem pow18 : bopD .Pow (.int 10) (.int 18) = some (.dat (.int 1000000000000000000)) := by simp [bopD, bopI]
@[simp] theorem i_lst : idxD (.list xs) (.int i) = atI xs i := rfl
@[simp] theorem i_tup : idxD (.tuple xs) (.int i) = atI xs i := rfl
@[simp] theorem i_str : idxD (.str x) (.int i) = (atI x.cps.toList i).map fun c => .str ⟨#[c]⟩ := rfl
@[simp] theorem c_lt : cmpD .Lt (.int i) (.int j) = some (decide (i < j)) := rfl
@[simp] theorem c_le : cmpD .LtE (.int i) (.int j) = some (decide (i ≤ j)) := rfl
@[simp] theorem c_gt : cmpD .Gt (.int i) (.int j) = some (decide (j < i)) := rfl
@[simp] theorem c_ge : cmpD .GtE (.int i) (.int j) = some (decide (j ≤ i)) := rfl
@[simp] theorem c_inS : cmpD .In (.str x) (.str y) = some (strIn x y) := rfl
@[simp] theorem l_str : b1D .len (.str x) = some (.dat (.int x.length)) := rfl
@[simp] theorem l_lst : b1D .len (.list xs) = some (.dat (.int xs.length)) := rfl
@[simp] theorem l_tup : b1D .len (.tuple xs) = some (.dat (.int xs.length)) := rfl
@[simp] theorem l_int : b1D .int (.int i) = some (.dat (.int i)) := rfl
@[simp] theorem l_tl : b1D .tuple (.list xs) = some (.dat (.tuple xs)) := rfl
@[simp] theorem l_tt : b1D .tuple (.tuple xs) = some (.dat (.tuple xs)) := rfl
@[simp] theorem l_ls : b1D .list (.str x) = some (.own (x.cps.toList.map fun c => .str ⟨#[c]⟩)) := rfl
@[simp] theorem t_bool {k : Bool} : truD (.bool k) = some k := rfl
@[simp] theorem u_str {lo hi : Option Int} : cutD (.str x) lo hi = some (.dat (.str (cutS x lo hi))) := rfl
@[simp] theorem u_tup {lo hi : Option Int} : cutD (.tuple xs) lo hi = some (.dat (.tuple (cutL xs lo hi))) := rfl
@[simp] theorem u_lst {lo hi : Option Int} : cutD (.list xs) lo hi = some (.own (cutL xs lo hi)) := rfl
end
/-! statement by statement -/
section
variable {C : Nat → Fn} {c : Ex} {a b r : List Sx} {x : Sx} {s s' : Stt}
theorem ifs_t (h : (den C c).t s = .ok true s') : denS C (.ifs c a b) s = denB C a s' := by
  show ((den C c).t s).toS _ = _
  rw [h]; rfl
theorem ifs_f (h : (den C c).t s = .ok false s') : denS C (.ifs c a b) s = denB C b s' := by
  show ((den C c).t s).toS _ = _
  rw [h]; rfl
theorem cons_nx (h : denS C x s = .nx s') : denB C (x :: r) s = denB C r s' := by
  show (denS C x s).seq _ = _
  rw [h]; rfl
theorem cons_rt {v : Va} (h : denS C x s = .rt v s') : denB C (x :: r) s = .rt v s' := by
  show (denS C x s).seq _ = _
  rw [h]; rfl
theorem cons_bk (h : denS C x s = .bk s') : denB C (x :: r) s = .bk s' := by
  show (denS C x s).seq _ = _
  rw [h]; rfl
theorem nil_nx : denB C [] s = .nx s := rfl
theorem app_nx {l : List Sx} (h : denB C l s = .nx s') : denB C (l ++ r) s = denB C r s' := by
  induction l generalizing s with
  | nil => cases h; rfl
  | cons y l ih =>
    have h : (denS C y s).seq (denB C l) = .nx s' := h
    show (denS C y s).seq (denB C (l ++ r)) = _
    cases e : denS C y s with
    | nx s1 => rw [e] at h; exact ih h
    | rt v s1 => rw [e] at h; cases h
    | bk s1 => rw [e] at h; cases h
    | ct s1 => rw [e] at h; cases h
    | exc y s1 => rw [e] at h; cases h
    | bad => rw [e] at h; cases h
end
/-! ## the drawing -/
def drawB : List Sx := [
  .ifs (.cmp .Lt (.idxV 0 (.c (.int (2)))) (.c (.int (2)))) [
    .set 2 (.c (.int (7))),
    .ifs (.cmp .Lt (.idxV 0 (.c (.int (1)))) (.b1 .len (.idxV 0 (.c (.int (0)))))) [
      .set 2 (.idx (.idxV 0 (.c (.int (0)))) (.idxV 0 (.c (.int (1))))),
      .sto 0 (.c (.int (1))) (.bin .Add (.idxV 0 (.c (.int (1)))) (.c (.int (1))))] [],
    .sto 0 (.c (.int (3))) (.bin .Mod (.b1 .int (.bin .Add (.bin .Mult (.idxV 0 (.c (.int (3)))) (.c (.int (48271)))) (.c (.int (11))))) (.c (.int (2147483647)))),
    .sto 0 (.c (.int (2))) (.var 2),
    .ifs (.cmp .Lt (.var 2) (.bin .Pow (.c (.int (10))) (.c (.int (18))))) [
      .set 3 (.bin .Mod (.b1 .int (.bin .Add (.bin .Add (.bin .Mult (.var 2) (.c (.int (69621)))) (.bin .Mult (.idxV 0 (.c (.int (3)))) (.c (.int (40692))))) (.c (.int (5))))) (.c (.int (2147483629)))),
      .sto 0 (.c (.int (2))) (.bin .Add (.bin .Mult (.var 3) (.c (.int (2147483587)))) (.bin .Mod (.b1 .int (.bin .Add (.bin .Mult (.var 2) (.c (.int (16807)))) (.idxV 0 (.c (.int (3)))))) (.c (.int (2147483587)))))] []] [],
  .set 4 (.bin .Mod (.b1 .int (.idxV 0 (.c (.int (2))))) (.var 1)),
  .sto 0 (.c (.int (2))) (.bin .FloorDiv (.idxV 0 (.c (.int (2)))) (.var 1)),
  .ret (.mv 4)]
def potS (L : List Int) (a b c : Int) : List PyData := [.list (L.map PyData.int), .int a, .int b, .int c]
/-- a pot's content -/
def PotOk (S : List PyData) : Prop := ∃ (L : List Int) (a b c : Int), S = potS L a b c ∧ 0 ≤ a
theorem pot0_ok (ns : List Int) : PotOk (pot0 ns) := ⟨ns.map absI, 0, 0, 1, rfl, by omega⟩
@[simp] theorem ix0 {d : PyData} {r : List PyData} : atI (d :: r) 0 = some d := atI_nat (j := 0) rfl
@[simp] theorem ix1 {d e : PyData} {r : List PyData} : atI (d :: e :: r) 1 = some e := atI_nat (j := 1) rfl
@[simp] theorem ix2 {d e f : PyData} {r : List PyData} : atI (d :: e :: f :: r) 2 = some f := atI_nat (j := 2) rfl
@[simp] theorem ix3 {d e f g : PyData} {r : List PyData} : atI (d :: e :: f :: g :: r) 3 = some g := atI_nat (j := 3) rfl
@[simp] theorem ixN1 : ixN 4 1 = some 1 := by decide
@[simp] theorem ixN2 : ixN 4 2 = some 2 := by decide
@[simp] theorem ixN3 : ixN 4 3 = some 3 := by decide
theorem draw_tail (C : Nat → Fn) (L : List Int) (a b c : Int) {m : Int} (h1 : 0 < m) (h2 : m < 1073741824) (u v : Option Va) : denB C (drawB.drop 1) ⟨[some .pot, some (.dat (.int m)), u, v, none], potS L a b c⟩ = .rt (.dat (.int (b % m))) ⟨[some .pot, some (.dat (.int m)), u, v, some (.dat (.int (b % m)))], potS L a (b / m) c⟩ := by
  unfold drawB potS
  simp only [List.drop, denB, denS, den]
  simp [h1, h2]
theorem draw_set (C : Nat → Fn) (L : List Int) (a b c : Int) (m : Int) : b < 2 → 0 ≤ a → ∃ (a' b' c' : Int) (u v : Option Va), 0 ≤ a' ∧ (denB C (drawB.take 1) ⟨[some .pot, some (.dat (.int m)), none, none, none], potS L a b c⟩) = .nx ⟨[some .pot, some (.dat (.int m)), u, v, none], potS L a' b' c'⟩ := by
  intro hb ha
  -- the cell
  obtain ⟨x, a1, ha1, e1⟩ : ∃ (x a1 : Int), 0 ≤ a1 ∧ denS C (.ifs (.cmp .Lt (.idxV 0 (.c (.int (1)))) (.b1 .len (.idxV 0 (.c (.int (0)))))) [
      .set 2 (.idx (.idxV 0 (.c (.int (0)))) (.idxV 0 (.c (.int (1))))),
      .sto 0 (.c (.int (1))) (.bin .Add (.idxV 0 (.c (.int (1)))) (.c (.int (1))))] []) ⟨[some .pot, some (.dat (.int m)), some (.dat (.int 7)), none, none], potS L a b c⟩ = .nx ⟨[some .pot, some (.dat (.int m)), some (.dat (.int x)), none, none], potS L a1 b c⟩ := by
    by_cases hl : a < (L.length : Int)
    · obtain ⟨j, rfl⟩ : ∃ j : Nat, a = (j : Int) := ⟨a.toNat, by omega⟩
      have hj : j < L.length := by omega
      refine ⟨L[j], (j : Int) + 1, by omega, ?_⟩
      have e : atI (L.map PyData.int) (j : Int) = some (.int L[j]) := atI_nat (by rw [List.getElem?_map, List.getElem?_eq_getElem hj]; rfl)
      unfold potS
      simp only [denB, denS, den]
      simp [hj, e]
    · refine ⟨7, a, ha, ?_⟩
      unfold potS
      simp only [denB, denS, den]
      simp [hl]
  -- the rest
  have e2 : ∀ L' (a' b' c' : Int), ∃ (b2 c2 : Int) (v : Option Va), denB C [.sto 0 (.c (.int (3))) (.bin .Mod (.b1 .int (.bin .Add (.bin .Mult (.idxV 0 (.c (.int (3)))) (.c (.int (48271)))) (.c (.int (11))))) (.c (.int (2147483647)))),
    .sto 0 (.c (.int (2))) (.var 2),
    .ifs (.cmp .Lt (.var 2) (.bin .Pow (.c (.int (10))) (.c (.int (18))))) [
      .set 3 (.bin .Mod (.b1 .int (.bin .Add (.bin .Add (.bin .Mult (.var 2) (.c (.int (69621)))) (.bin .Mult (.idxV 0 (.c (.int (3)))) (.c (.int (40692))))) (.c (.int (5))))) (.c (.int (2147483629)))),
      .sto 0 (.c (.int (2))) (.bin .Add (.bin .Mult (.var 3) (.c (.int (2147483587)))) (.bin .Mod (.b1 .int (.bin .Add (.bin .Mult (.var 2) (.c (.int (16807)))) (.idxV 0 (.c (.int (3)))))) (.c (.int (2147483587)))))] []] ⟨[some .pot, some (.dat (.int m)), some (.dat (.int x)), none, none], potS L' a' b' c'⟩ = .nx ⟨[some .pot, some (.dat (.int m)), some (.dat (.int x)), v, none], potS L' a' b2 c2⟩ := by
    intro L' a' b' c'
    by_cases hx : x < 1000000000000000000
    · refine ⟨((x * 69621 + (c' * 48271 + 11) % 2147483647 * 40692 + 5) % 2147483629) * 2147483587 + (x * 16807 + (c' * 48271 + 11) % 2147483647) % 2147483587, (c' * 48271 + 11) % 2147483647, some (.dat (.int ((x * 69621 + (c' * 48271 + 11) % 2147483647 * 40692 + 5) % 2147483629))), ?_⟩
      unfold potS
      simp only [denB, denS, den]
      simp [pow18, hx]
    · refine ⟨x, (c' * 48271 + 11) % 2147483647, none, ?_⟩
      unfold potS
      simp only [denB, denS, den]
      simp [pow18, hx]
  obtain ⟨b2, c2, v, e3⟩ := e2 L a1 b c
  refine ⟨a1, b2, c2, some (.dat (.int x)), v, ha1, ?_⟩
  show denB C (.ifs _ (.set 2 (.c (.int 7)) :: .ifs _ _ _ :: _) [] :: []) _ = _
  rw [cons_nx ((ifs_t (s' := ⟨[some .pot, some (.dat (.int m)), none, none, none], potS L a b c⟩) ?_).trans ((cons_nx (s' := ⟨[some .pot, some (.dat (.int m)), some (.dat (.int 7)), none, none], potS L a b c⟩) rfl).trans ((cons_nx e1).trans e3)))]
  · rfl
  · unfold potS
    simp only [den]
    simp [hb]
theorem draw_ok (C : Nat → Fn) {S : List PyData} (h : PotOk S) {m : Int} (h1 : 0 < m) (h2 : m < 1073741824) : ∃ k S', 0 ≤ k ∧ k < m ∧ PotOk S' ∧ fnOf 2 5 (denB C drawB) [.pot, .dat (.int m)] S = .ok (.dat (.int k)) S' := by
  obtain ⟨L, a, b, c, rfl, ha⟩ := h
  have key : ∃ (a' b' c' : Int) (u v : Option Va), 0 ≤ a' ∧ (denB C (drawB.take 1) ⟨[some .pot, some (.dat (.int m)), none, none, none], potS L a b c⟩) = .nx ⟨[some .pot, some (.dat (.int m)), u, v, none], potS L a' b' c'⟩ := by
    by_cases hb : b < 2
    · exact draw_set C L a b c m hb ha
    · refine ⟨a, b, c, none, none, ha, ?_⟩
      have hc : (den C (.cmp .Lt (.idxV 0 (.c (.int (2)))) (.c (.int (2))))).t ⟨[some .pot, some (.dat (.int m)), none, none, none], potS L a b c⟩ = .ok false ⟨[some .pot, some (.dat (.int m)), none, none, none], potS L a b c⟩ := by
        unfold potS
        simp only [den]
        simp [hb]
      exact (cons_nx (ifs_f hc)).trans rfl
  obtain ⟨a', b', c', u, v, ha', e⟩ := key
  refine ⟨b' % m, _, Int.emod_nonneg _ (by omega), Int.emod_lt_of_pos _ h1, ⟨L, a', b' / m, c', rfl, ha'⟩, ?_⟩
  have e4 : denB C drawB ⟨[some .pot, some (.dat (.int m)), none, none, none], potS L a b c⟩ = _ := (app_nx (l := drawB.take 1) (r := drawB.drop 1) e).trans (draw_tail C L a' b' c' h1 h2 u v)
  show (match denB C drawB ⟨[some .pot, some (.dat (.int m)), none, none, none], potS L a b c⟩ with
    | .rt (.bor _) _ => FR.bad
    | .rt v s => .ok v s.S
    | .nx s => .ok (.dat .none) s.S
    | .exc x s => .exc x s.S
    | _ => .bad) = _
  rw [e4]
/-- a drawing keeps its word -/
def DrawOk (φ : Fn) : Prop := ∀ (S : List PyData) (m : Int), PotOk S → 0 < m → m < 1073741824 → ∃ k S', 0 ≤ k ∧ k < m ∧ PotOk S' ∧ φ [.pot, .dat (.int m)] S = .ok (.dat (.int k)) S'
theorem drawOk (C : Nat → Fn) : DrawOk (fnOf 2 5 (denB C drawB)) := fun S m h h1 h2 => draw_ok C h h1 h2
theorem atI_mem {α : Type} {xs : List α} {k : Int} (h0 : 0 ≤ k) (h1 : k < (xs.length : Int)) : ∃ d, d ∈ xs ∧ atI xs k = some d := by
  obtain ⟨j, rfl⟩ : ∃ j : Nat, k = (j : Int) := ⟨k.toNat, by omega⟩
  have hj : j < xs.length := by omega
  exact ⟨xs[j], List.getElem_mem hj, atI_nat (List.getElem?_eq_getElem hj)⟩
/-- _law_pick -/
def pickB (j : Nat) : List Sx := [.ret (.idxV 1 (.call j [(.var 0), (.b1 .len (.peek 1))]))]
def PickOk (φ : Fn) : Prop := ∀ (S : List PyData) (xs : List PyData), PotOk S → 0 < xs.length → xs.length < 1073741824 → ∃ d S', d ∈ xs ∧ PotOk S' ∧ φ [.pot, .dat (.list xs)] S = .ok (.dat d) S'
theorem pickOk (C : Nat → Fn) (j : Nat) (h : DrawOk (C j)) : PickOk (fnOf 2 2 (denB C (pickB j))) := by
  intro S xs hp h1 h2
  obtain ⟨k, S', k0, k1, p', e⟩ := h S xs.length hp (by omega) (by omega)
  obtain ⟨d, hd, ed⟩ := atI_mem k0 k1
  refine ⟨d, S', hd, p', ?_⟩
  show (match denB C (pickB j) ⟨[some .pot, some (.dat (.list xs))], S⟩ with
    | .rt (.bor _) _ => FR.bad
    | .rt v s => .ok v s.S
    | .nx s => .ok (.dat .none) s.S
    | .exc x s => .exc x s.S
    | _ => .bad) = _
  have : denB C (pickB j) ⟨[some .pot, some (.dat (.list xs))], S⟩ = .rt (.dat d) ⟨[some .pot, some (.dat (.list xs))], S'⟩ := by
    unfold pickB
    simp only [denB, denS, den, denL]
    simp [e, ed]
  rw [this]
/-! equality of what is plain -/
mutual
def noDict : PyData → Bool
  | .dict _ => false
  | .list xs => noDicts xs
  | .tuple xs => noDicts xs
  | _ => true
def noDicts : List PyData → Bool
  | [] => true
  | x :: xs => noDict x && noDicts xs
end
mutual
theorem eqv_self : ∀ d : PyData, noDict d = true → PyData.eqv d d = true
  | .none, _ => rfl
  | .bool b, _ => by cases b <;> rfl
  | .int i, _ => by show (i == i) = true; simp
  | .str x, _ => by show (x == x) = true; simp
  | .list xs, h => eqvAll_self xs h
  | .tuple xs, h => eqvAll_self xs h
theorem eqvAll_self : ∀ xs : List PyData, noDicts xs = true → PyData.eqvAll xs xs = true
  | [], _ => rfl
  | x :: xs, h => by
    have h : (noDict x && noDicts xs) = true := h
    obtain ⟨h1, h2⟩ := Bool.and_eq_true_iff.mp h
    show (PyData.eqv x x && PyData.eqvAll xs xs) = true
    rw [eqv_self x h1, eqvAll_self xs h2]
    rfl
end
theorem eq_self {d : PyData} (h : noDict d = true) (hd : d.depth ≤ 64) : cmpD .Eq d d = some true := by
  show (if min d.depth d.depth ≤ 64 then some (PyData.eqv d d) else none) = _
  rw [if_pos (Nat.le_trans (Nat.min_le_left _ _) hd), eqv_self d h]
end Ev

namespace Ev
open PySem PySem.Spec PyProof.Rows L2

/-! ## texts as lists -/
abbrev txt (L : List Nat) : Str := ⟨L.toArray⟩
@[simp] theorem txt_len (L : List Nat) : (txt L).length = L.length := by
  show L.toArray.size = _
  simp
@[simp] theorem txt_in (c : Nat) (L : List Nat) : strIn (txt [c]) (txt L) = decide (c ∈ L) := by
  unfold strIn
  simp
theorem txt_at {L : List Nat} {i : Nat} (h : i < L.length) : atI L (i : Int) = some L[i] := atI_nat (List.getElem?_eq_getElem h)
theorem cut_nat (L : List Nat) (i j : Nat) (h : i ≤ L.length) : cutS (txt L) (some (i : Int)) (some (j : Int)) = txt ((L.drop i).take (j - i)) := by
  unfold cutS
  rw [HT.sIx_nat, HT.sIx_nat, txt_len]
  show txt _ = txt _
  congr 1
  rw [Nat.min_eq_left h]
  rcases Nat.le_total j L.length with h2 | h2
  · rw [Nat.min_eq_left h2]
  · rw [Nat.min_eq_right h2, List.take_of_length_le (by simp), List.take_of_length_le (by simp; omega)]
theorem cut_to (L : List Nat) (i : Nat) : cutS (txt L) none (some (i : Int)) = txt (L.take i) := by
  unfold cutS
  rw [HT.sIx_nat, HT.sIx_none, txt_len]
  show txt _ = txt _
  congr 1
  simp
theorem cut_last (L : List Nat) : cutS (txt L) (some (-1)) none = txt (L.drop (L.length - 1)) := by
  unfold cutS
  rw [HT.sIx_none, txt_len]
  show txt _ = txt _
  congr 1
  have : HT.sIx L.length 0 (some (-1)) = L.length - 1 := by
    show (if (-1 : Int) < 0 then ((-1 : Int) + (L.length : Int)).toNat else min (-1 : Int).toNat L.length) = _
    rw [if_pos (by decide)]
    omega
  rw [this]
  exact List.take_of_length_le (by simp)
theorem sw_eq (L M : List Nat) (i : Nat) (h : i ≤ L.length) : PySem.Txt.startswith3 (txt L) (txt M) (i : Int) = decide ((L.drop i).take M.length = M) := by
  unfold PySem.Txt.startswith3
  have e : PySem.fromIndex (txt L).length (i : Int) = i := by
    unfold PySem.fromIndex
    rw [if_neg (by omega)]
    omega
  rw [e, PySem.StrLaws.subAt_eq, txt_len, txt_len]
  show (decide (i + M.length ≤ L.length) && ((L.drop i).take M.length == M)) = _
  by_cases hm : (L.drop i).take M.length = M
  · have : M.length ≤ (L.drop i).length := by
      have := congrArg List.length hm
      rw [List.length_take] at this
      omega
    rw [List.length_drop] at this
    simp [hm]
    omega
  · simp [hm]
theorem strs_eq (L M : List Nat) : (txt L = txt M) ↔ L = M := ⟨fun h => by injection h with h; simpa using h, fun h => by rw [h]⟩
@[simp] theorem eqv_str (x y : Str) : PyData.eqv (.str x) (.str y) = decide (x = y) := by
  show (x == y) = _
  rfl
@[simp] theorem dp_str (x : Str) : (PyData.str x).depth = 0 := rfl
@[simp] theorem c_eqS (x y : Str) : cmpD .Eq (.str x) (.str y) = some (decide (x = y)) := by
  unfold cmpD
  simp
@[simp] theorem c_neS (x y : Str) : cmpD .NotEq (.str x) (.str y) = some (!decide (x = y)) := by
  unfold cmpD
  simp
theorem fn_rt {np nl : Nat} {body : Ds} {args : List Va} {S : List PyData} {d : PyData} {s' : Stt} (h : args.length = np) (e : body ⟨args.map some ++ List.replicate (nl - np) none, S⟩ = .rt (.dat d) s') : fnOf np nl body args S = .ok (.dat d) s'.S := by
  unfold fnOf
  rw [if_pos h, e]
/-! loops -/
section
variable {c : De Bool} {body : Ds} {n : Nat} {s s' s1 : Stt}
theorem whl_f (h : c s = .ok false s') : whileD c body (n + 1) s = .nx s' := by
  show (c s).toS _ = _
  rw [h]; rfl
theorem whl_t (h : c s = .ok true s1) (hb : body s1 = .nx s') : whileD c body (n + 1) s = whileD c body n s' := by
  show (c s).toS _ = _
  rw [h]
  show (match body s1 with
        | .nx s => whileD c body n s
        | .ct s => whileD c body n s
        | .bk s => .nx s
        | r => r) = _
  rw [hb]
theorem whl_b (h : c s = .ok true s1) (hb : body s1 = .bk s') : whileD c body (n + 1) s = .nx s' := by
  show (c s).toS _ = _
  rw [h]
  show (match body s1 with
        | .nx s => whileD c body n s
        | .ct s => whileD c body n s
        | .bk s => .nx s
        | r => r) = _
  rw [hb]
variable {p : PyData → Stt → Option Stt} {d : PyData} {ds : List PyData}
theorem for_nx (h : p d s = some s1) (hb : body s1 = .nx s') : forD p body (d :: ds) s = forD p body ds s' := by
  show (match p d s with
    | none => SR.bad
    | some s => _) = _
  rw [h]
  show (match body s1 with
    | .nx s => forD p body ds s
    | .ct s => forD p body ds s
    | .bk s => .nx s
    | x => x) = _
  rw [hb]
theorem for_rt {v : Va} (h : p d s = some s1) (hb : body s1 = .rt v s') : forD p body (d :: ds) s = .rt v s' := by
  show (match p d s with
    | none => SR.bad
    | some s => _) = _
  rw [h]
  show (match body s1 with
    | .nx s => forD p body ds s
    | .ct s => forD p body ds s
    | .bk s => .nx s
    | x => x) = _
  rw [hb]
end
theorem fr_of {C : Nat → Fn} {it : Itx} {tg : Tg} {b : List Sx} {s s1 : Stt} {ds : List PyData} (h : denI C it s = .ok ds s1) : denS C (.fr it tg b) s = forD (Tg.put tg) (denB C b) ds s1 := by
  show dFor (denI C it) tg.put (denB C b) s = _
  unfold dFor
  rw [h]
  rfl
theorem inR_nat {n : Nat} (h : n < 1000000) : Ev.inR (n : Int) = true := by
  unfold Ev.inR
  have h1 : (n : Int) < 1000000 := by omega
  have h2 : (0 : Int) ≤ (n : Int) := by omega
  have h3 : (1000000 : Int) < 2 ^ 62 := by decide +kernel
  have h4 : -(2 ^ 62 : Int) ≤ 0 := by decide +kernel
  exact decide_eq_true ⟨Int.le_trans h4 h2, Int.lt_trans h1 h3⟩
theorem rng1_int {f : De Va} {j : Int} {s s1 : Stt} (h : dFrz f s = .ok (.int j) s1) : dRange1 f s = if Ev.inR j = true then .ok (rangeL 0 j.toNat) s1 else .bad := by
  unfold dRange1
  rw [h]
  rfl
theorem rng1_of {C : Nat → Fn} {a : Ex} {n : Nat} {s s1 : Stt} (h : (den C a).v s = .ok (.dat (.int (n : Int))) s1) (hn : n < 1000000) : denI C (.rng1 a) s = .ok (rangeL 0 n) s1 := by
  have e : dFrz (den C a).v s = .ok (.int (n : Int)) s1 := by
    unfold dFrz
    rw [h]
    rfl
  have e2 : denI C (.rng1 a) s = dRange1 (den C a).v s := by simp only [denI]
  rw [e2, rng1_int e, if_pos (inR_nat hn), Int.toNat_natCast]
theorem inD_list (a : PyData) (xs : List PyData) : inD a (.list xs) = if min (PyData.depthAll xs) a.depth ≤ 64 then some (xs.any fun z => PyData.eqv z a) else none := rfl
theorem inD_tup (a : PyData) (xs : List PyData) : inD a (.tuple xs) = if min (PyData.depthAll xs) a.depth ≤ 64 then some (xs.any fun z => PyData.eqv z a) else none := rfl
end Ev

namespace Lk
open PySem PySem.Spec PyProof.Rows L2 Ev
def topS (i : Nat) : Stmt := PySem.Challenge.pw_partnerlots_k69_tokens.main.body.getD i (.Pass ⟨0, 0, 0, 0⟩)
abbrev s0 : Stmt := topS 4 -- run_at
abbrev s1 : Stmt := topS 5 -- sign_at
abbrev s2 : Stmt := topS 6 -- token_at
abbrev s3 : Stmt := topS 7 -- tokens_of
abbrev s4 : Stmt := topS 10 -- _law_draw
abbrev s5 : Stmt := topS 11 -- _law_pick
abbrev s6 : Stmt := topS 12 -- _law_run
abbrev s7 : Stmt := topS 13 -- _law_token
abbrev s8 : Stmt := topS 14 -- _law_tokens
abbrev sPot : Stmt := topS 9
abbrev sLaw : Stmt := topS 15
def T : Tb := ⟨[(Str.ofString "run_at"), (Str.ofString "sign_at"), (Str.ofString "token_at"), (Str.ofString "tokens_of"), (Str.ofString "_law_draw"), (Str.ofString "_law_pick"), (Str.ofString "_law_run"), (Str.ofString "_law_token"), (Str.ofString "_law_tokens")], [(Str.ofString "SMALL", (.str (Str.ofString "abcdefghijklmnopqrstuvwxyz"))), (Str.ofString "FIGURES", (.str (Str.ofString "0123456789"))), (Str.ofString "SIGNS", (.tuple [(.str (Str.ofString "<=")), (.str (Str.ofString "!=")), (.str (Str.ofString "==")), (.str (Str.ofString "/=")), (.str (Str.ofString ":=")), (.str (Str.ofString "(")), (.str (Str.ofString ")")), (.str (Str.ofString "[")), (.str (Str.ofString "]")), (.str (Str.ofString "{")), (.str (Str.ofString "}")), (.str (Str.ofString "<")), (.str (Str.ofString ">")), (.str (Str.ofString ",")), (.str (Str.ofString "+")), (.str (Str.ofString "-")), (.str (Str.ofString "="))]))]⟩
abbrev N0 : List Str := [(Str.ofString "line"), (Str.ofString "place"), (Str.ofString "signs"), (Str.ofString "end")]
abbrev P0 : List Str := [(Str.ofString "line"), (Str.ofString "place"), (Str.ofString "signs")]
def b0 : List Sx := [
  .set 3 (.var 1),
  .whl (.and (.cmp .Lt (.var 3) (.b1 .len (.peek 0))) (.cmp .In (.idxV 0 (.var 3)) (.peek 2))) [
    .aug 3 .Add (.c (.int (1)))],
  .ret (.cutV 0 (some (.var 1)) (some (.var 3)))]
abbrev N1 : List Str := [(Str.ofString "line"), (Str.ofString "place"), (Str.ofString "sign")]
abbrev P1 : List Str := [(Str.ofString "line"), (Str.ofString "place")]
def b1 : List Sx := [
  .fr (.of (.c (.tuple [(.str (Str.ofString "<=")), (.str (Str.ofString "!=")), (.str (Str.ofString "==")), (.str (Str.ofString "/=")), (.str (Str.ofString ":=")), (.str (Str.ofString "(")), (.str (Str.ofString ")")), (.str (Str.ofString "[")), (.str (Str.ofString "]")), (.str (Str.ofString "{")), (.str (Str.ofString "}")), (.str (Str.ofString "<")), (.str (Str.ofString ">")), (.str (Str.ofString ",")), (.str (Str.ofString "+")), (.str (Str.ofString "-")), (.str (Str.ofString "="))]))) (.n 2) [
    .ifs (.sw 0 (.var 2) (.var 1)) [
      .ret (.mv 2)] []],
  .ret (.c (.str (Str.ofString "")))]
abbrev N2 : List Str := [(Str.ofString "line"), (Str.ofString "place"), (Str.ofString "word"), (Str.ofString "figures"), (Str.ofString "sign")]
abbrev P2 : List Str := [(Str.ofString "line"), (Str.ofString "place")]
def b2 : List Sx := [
  .ifs (.cmp .In (.idxV 0 (.var 1)) (.c (.str (Str.ofString "abcdefghijklmnopqrstuvwxyz")))) [
    .set 2 (.call 0 [(.var 0), (.var 1), (.bin .Add (.c (.str (Str.ofString "abcdefghijklmnopqrstuvwxyz"))) (.c (.str (Str.ofString "0123456789"))))]),
    .ifs (.or (.cmp .Gt (.b1 .len (.peek 2)) (.c (.int (8)))) (.and (.cmp .Gt (.var 1) (.c (.int (0)))) (.cmp .In (.idxV 0 (.bin .Sub (.var 1) (.c (.int (1))))) (.c (.str (Str.ofString "0123456789")))))) [
      .ret (.tup [(.c (.str (Str.ofString "wrong"))), (.c (.str (Str.ofString "")))])] [],
    .ret (.tup [(.c (.str (Str.ofString "word"))), (.var 2)])] [],
  .ifs (.cmp .In (.idxV 0 (.var 1)) (.c (.str (Str.ofString "0123456789")))) [
    .set 3 (.call 0 [(.var 0), (.var 1), (.c (.str (Str.ofString "0123456789")))]),
    .ifs (.or (.cmp .Gt (.b1 .len (.peek 3)) (.c (.int (3)))) (.and (.cmp .Gt (.b1 .len (.peek 3)) (.c (.int (1)))) (.cmp .Eq (.idxV 3 (.c (.int (0)))) (.c (.str (Str.ofString "0")))))) [
      .ret (.tup [(.c (.str (Str.ofString "wrong"))), (.c (.str (Str.ofString "")))])] [],
    .ret (.tup [(.c (.str (Str.ofString "number"))), (.var 3)])] [],
  .set 4 (.call 1 [(.var 0), (.var 1)]),
  .ifs (.cmp .Eq (.var 4) (.c (.str (Str.ofString "")))) [
    .ret (.tup [(.c (.str (Str.ofString "wrong"))), (.c (.str (Str.ofString "")))])] [],
  .ret (.tup [(.c (.str (Str.ofString "sign"))), (.var 4)])]
abbrev N3 : List Str := [(Str.ofString "line"), (Str.ofString "rows"), (Str.ofString "place"), (Str.ofString "kind"), (Str.ofString "text")]
abbrev P3 : List Str := [(Str.ofString "line")]
def b3 : List Sx := [
  .set 1 (.lst []),
  .set 2 (.c (.int (0))),
  .whl (.cmp .Lt (.var 2) (.b1 .len (.peek 0))) [
    .ifs (.cmp .Eq (.idxV 0 (.var 2)) (.c (.str (Str.ofString " ")))) [
      .aug 2 .Add (.c (.int (1)))] [
      .asg (.t [(.n 3), (.n 4)]) (.call 2 [(.var 0), (.var 2)]),
      .expr (.app 1 (.tup [(.var 3), (.var 4), (.bin .Add (.var 2) (.c (.int (1))))])),
      .ifs (.cmp .Eq (.var 3) (.c (.str (Str.ofString "wrong")))) [
        .brk] [],
      .aug 2 .Add (.b1 .len (.peek 4))]],
  .ret (.b1 .tuple (.peek 1))]
abbrev N4 : List Str := [(Str.ofString "pot"), (Str.ofString "many"), (Str.ofString "cell"), (Str.ofString "first"), (Str.ofString "value")]
abbrev P4 : List Str := [(Str.ofString "pot"), (Str.ofString "many")]
def b4 : List Sx := [
  .ifs (.cmp .Lt (.idxV 0 (.c (.int (2)))) (.c (.int (2)))) [
    .set 2 (.c (.int (7))),
    .ifs (.cmp .Lt (.idxV 0 (.c (.int (1)))) (.b1 .len (.idxV 0 (.c (.int (0)))))) [
      .set 2 (.idx (.idxV 0 (.c (.int (0)))) (.idxV 0 (.c (.int (1))))),
      .sto 0 (.c (.int (1))) (.bin .Add (.idxV 0 (.c (.int (1)))) (.c (.int (1))))] [],
    .sto 0 (.c (.int (3))) (.bin .Mod (.b1 .int (.bin .Add (.bin .Mult (.idxV 0 (.c (.int (3)))) (.c (.int (48271)))) (.c (.int (11))))) (.c (.int (2147483647)))),
    .sto 0 (.c (.int (2))) (.var 2),
    .ifs (.cmp .Lt (.var 2) (.bin .Pow (.c (.int (10))) (.c (.int (18))))) [
      .set 3 (.bin .Mod (.b1 .int (.bin .Add (.bin .Add (.bin .Mult (.var 2) (.c (.int (69621)))) (.bin .Mult (.idxV 0 (.c (.int (3)))) (.c (.int (40692))))) (.c (.int (5))))) (.c (.int (2147483629)))),
      .sto 0 (.c (.int (2))) (.bin .Add (.bin .Mult (.var 3) (.c (.int (2147483587)))) (.bin .Mod (.b1 .int (.bin .Add (.bin .Mult (.var 2) (.c (.int (16807)))) (.idxV 0 (.c (.int (3)))))) (.c (.int (2147483587)))))] []] [],
  .set 4 (.bin .Mod (.b1 .int (.idxV 0 (.c (.int (2))))) (.var 1)),
  .sto 0 (.c (.int (2))) (.bin .FloorDiv (.idxV 0 (.c (.int (2)))) (.var 1)),
  .ret (.mv 4)]
abbrev N5 : List Str := [(Str.ofString "pot"), (Str.ofString "row")]
abbrev P5 : List Str := [(Str.ofString "pot"), (Str.ofString "row")]
def b5 : List Sx := [
  .ret (.idxV 1 (.call 4 [(.var 0), (.b1 .len (.peek 1))]))]
abbrev N6 : List Str := [(Str.ofString "line"), (Str.ofString "start"), (Str.ofString "signs"), (Str.ofString "end"), (Str.ofString "turn")]
abbrev P6 : List Str := [(Str.ofString "line"), (Str.ofString "start"), (Str.ofString "signs")]
def b6 : List Sx := [
  .set 3 (.var 1),
  .fr (.rng1 (.b1 .len (.peek 0))) (.n 4) [
    .ifs (.and (.cmp .Lt (.var 3) (.b1 .len (.peek 0))) (.cmp .In (.idxV 0 (.var 3)) (.peek 2))) [
      .set 3 (.bin .Add (.var 3) (.c (.int (1))))] []],
  .ret (.cutV 0 (some (.var 1)) (some (.var 3)))]
abbrev N7 : List Str := [(Str.ofString "line"), (Str.ofString "place"), (Str.ofString "small"), (Str.ofString "figures"), (Str.ofString "word"), (Str.ofString "run")]
abbrev P7 : List Str := [(Str.ofString "line"), (Str.ofString "place")]
def b7 : List Sx := [
  .set 2 (.c (.str (Str.ofString "abcdefghijklmnopqrstuvwxyz"))),
  .set 3 (.c (.str (Str.ofString "0123456789"))),
  .ifs (.cmp .In (.idxV 0 (.var 1)) (.peek 2)) [
    .set 4 (.call 6 [(.var 0), (.var 1), (.bin .Add (.var 2) (.var 3))]),
    .ifs (.or (.cmp .Gt (.b1 .len (.peek 4)) (.c (.int (8)))) (.cmp .In (.cut (.cutV 0 none (some (.var 1))) (some (.neg (.c (.int (1))))) none) (.b1 .list (.peek 3)))) [
      .ret (.tup [(.c (.str (Str.ofString "wrong"))), (.c (.str (Str.ofString "")))])] [],
    .ret (.tup [(.c (.str (Str.ofString "word"))), (.var 4)])] [],
  .ifs (.cmp .In (.idxV 0 (.var 1)) (.peek 3)) [
    .set 5 (.call 6 [(.var 0), (.var 1), (.var 3)]),
    .ifs (.or (.cmp .Gt (.b1 .len (.peek 5)) (.c (.int (3)))) (.and (.cmp .Eq (.idxV 5 (.c (.int (0)))) (.c (.str (Str.ofString "0")))) (.cmp .NotEq (.var 5) (.c (.str (Str.ofString "0")))))) [
      .ret (.tup [(.c (.str (Str.ofString "wrong"))), (.c (.str (Str.ofString "")))])] [],
    .ret (.tup [(.c (.str (Str.ofString "number"))), (.var 5)])] [],
  .ifs (.cmp .In (.cutV 0 (some (.var 1)) (some (.bin .Add (.var 1) (.c (.int (2)))))) (.tup [(.c (.str (Str.ofString "<="))), (.c (.str (Str.ofString "!="))), (.c (.str (Str.ofString "=="))), (.c (.str (Str.ofString "/="))), (.c (.str (Str.ofString ":=")))])) [
    .ret (.tup [(.c (.str (Str.ofString "sign"))), (.cutV 0 (some (.var 1)) (some (.bin .Add (.var 1) (.c (.int (2))))))])] [],
  .ifs (.cmp .In (.idxV 0 (.var 1)) (.c (.str (Str.ofString "()[]{}<>,+-=")))) [
    .ret (.tup [(.c (.str (Str.ofString "sign"))), (.idxV 0 (.var 1))])] [],
  .ret (.tup [(.c (.str (Str.ofString "wrong"))), (.c (.str (Str.ofString "")))])]
abbrev N8 : List Str := [(Str.ofString "line"), (Str.ofString "rows"), (Str.ofString "place"), (Str.ofString "turn"), (Str.ofString "told")]
abbrev P8 : List Str := [(Str.ofString "line")]
def b8 : List Sx := [
  .set 1 (.lst []),
  .set 2 (.c (.int (0))),
  .fr (.rng1 (.b1 .len (.peek 0))) (.n 3) [
    .ifs (.and (.cmp .Lt (.var 2) (.b1 .len (.peek 0))) (.cmp .Eq (.idxV 0 (.var 2)) (.c (.str (Str.ofString " "))))) [
      .set 2 (.bin .Add (.var 2) (.c (.int (1))))] [
      .ifs (.cmp .Lt (.var 2) (.b1 .len (.peek 0))) [
        .set 4 (.call 7 [(.var 0), (.var 2)]),
        .expr (.app 1 (.tup [(.idxV 4 (.c (.int (0)))), (.idxV 4 (.c (.int (1)))), (.bin .Add (.var 2) (.c (.int (1))))])),
        .ifs (.cmp .Eq (.idxV 4 (.c (.int (0)))) (.c (.str (Str.ofString "wrong")))) [
          .ret (.b1 .tuple (.peek 1))] [],
        .set 2 (.bin .Add (.var 2) (.b1 .len (.idxV 4 (.c (.int (1))))))] []]],
  .ret (.b1 .tuple (.peek 1))]
def D : List FDef := [⟨3, 4, b0⟩, ⟨2, 3, b1⟩, ⟨2, 5, b2⟩, ⟨1, 5, b3⟩, ⟨2, 5, b4⟩, ⟨2, 2, b5⟩, ⟨3, 5, b6⟩, ⟨2, 6, b7⟩, ⟨1, 5, b8⟩]
abbrev NL : List Str := [(Str.ofString "script"), (Str.ofString "pot"), (Str.ofString "pieces"), (Str.ofString "line"), (Str.ofString "step")]
def bL : List Sx := [
  .set 2 (.lst [(.c (.str (Str.ofString "x"))), (.c (.str (Str.ofString "ab"))), (.c (.str (Str.ofString "zed9"))), (.c (.str (Str.ofString "long1234"))), (.c (.str (Str.ofString "longer123"))), (.c (.str (Str.ofString "a234567890"))), (.c (.str (Str.ofString "0"))), (.c (.str (Str.ofString "7"))), (.c (.str (Str.ofString "42"))), (.c (.str (Str.ofString "999"))), (.c (.str (Str.ofString "00"))), (.c (.str (Str.ofString "07"))), (.c (.str (Str.ofString "1000"))), (.c (.str (Str.ofString "(")))]),
  .set 2 (.bin .Add (.var 2) (.lst [(.c (.str (Str.ofString ")"))), (.c (.str (Str.ofString "["))), (.c (.str (Str.ofString "]"))), (.c (.str (Str.ofString "{"))), (.c (.str (Str.ofString "}"))), (.c (.str (Str.ofString "<"))), (.c (.str (Str.ofString ">"))), (.c (.str (Str.ofString ","))), (.c (.str (Str.ofString "+"))), (.c (.str (Str.ofString "-"))), (.c (.str (Str.ofString "="))), (.c (.str (Str.ofString "!="))), (.c (.str (Str.ofString "<="))), (.c (.str (Str.ofString "=="))), (.c (.str (Str.ofString "/="))), (.c (.str (Str.ofString ":="))), (.c (.str (Str.ofString "!"))), (.c (.str (Str.ofString ":")))])),
  .set 2 (.bin .Add (.var 2) (.lst [(.c (.str (Str.ofString "/"))), (.c (.str (Str.ofString "A"))), (.c (.str (Str.ofString "_"))), (.c (.str (Str.ofString "."))), (.c (.str (Str.ofString "all"))), (.c (.str (Str.ofString "board"))), (.c (.str (Str.ofString "~"))), (.c (.str (Str.ofString "x"))), (.c (.str (Str.ofString "3"))), (.c (.str (Str.ofString "f")))])),
  .set 3 (.idx (.lst [(.c (.str (Str.ofString ""))), (.c (.str (Str.ofString ""))), (.c (.str (Str.ofString " "))), (.c (.str (Str.ofString "   ")))]) (.call 4 [(.var 1), (.c (.int (4)))])),
  .fr (.rng1 (.call 4 [(.var 1), (.c (.int (10)))])) (.n 4) [
    .set 3 (.bin .Add (.bin .Add (.var 3) (.call 5 [(.var 1), (.var 2)])) (.idx (.lst [(.c (.str (Str.ofString ""))), (.c (.str (Str.ofString " "))), (.c (.str (Str.ofString " "))), (.c (.str (Str.ofString "  ")))]) (.call 4 [(.var 1), (.c (.int (4)))])))],
  .ret (.cmp .Eq (.call 3 [(.var 3)]) (.call 8 [(.var 3)]))]
end Lk

namespace Lk
open PySem PySem.Spec PyProof.Rows L2 Ev
/-- how far a run goes -/
def runL (L : List Nat) (p : Nat) (G : List Nat) : Nat := ((L.drop p).takeWhile (fun c => decide (c ∈ G))).length
theorem runL_stop {L : List Nat} {p : Nat} {G : List Nat} (h : ¬ (∃ hp : p < L.length, L[p] ∈ G)) : runL L p G = 0 := by
  unfold runL
  by_cases hp : p < L.length
  · rw [List.drop_eq_getElem_cons hp, List.takeWhile_cons]
    rw [if_neg (by simpa using fun z => h ⟨hp, z⟩)]
    rfl
  · rw [List.drop_eq_nil_of_le (by omega)]; rfl
theorem runL_go {L : List Nat} {p : Nat} {G : List Nat} (hp : p < L.length) (h : L[p] ∈ G) : runL L p G = runL L (p + 1) G + 1 := by
  unfold runL
  rw [List.drop_eq_getElem_cons hp, List.takeWhile_cons, if_pos (by simpa using h)]
  rfl
theorem runL_le {L : List Nat} {p : Nat} {G : List Nat} (h : p ≤ L.length) : p + runL L p G ≤ L.length := by
  unfold runL
  have := (List.takeWhile_sublist (fun c => decide (c ∈ G)) (l := L.drop p)).length_le
  rw [List.length_drop] at this
  omega
theorem runL_take (L : List Nat) (p : Nat) (G : List Nat) : (L.drop p).take (runL L p G) = (L.drop p).takeWhile (fun c => decide (c ∈ G)) := by
  unfold runL
  generalize L.drop p = R
  induction R with
  | nil => rfl
  | cons a r ih =>
    rw [List.takeWhile_cons]
    split
    · show a :: r.take _ = _
      rw [ih]
    · rfl
section
variable (C : Nat → Fn) (S : List PyData)
abbrev st4 (L : List Nat) (p : Nat) (G : List Nat) (e : Nat) : Stt := ⟨[some (.dat (.str (txt L))), some (.dat (.int (p : Int))), some (.dat (.str (txt G))), some (.dat (.int (e : Int)))], S⟩
theorem b0_c (L : List Nat) (p : Nat) (G : List Nat) (e : Nat) : (den C (.and (.cmp .Lt (.var 3) (.b1 .len (.peek 0))) (.cmp .In (.idxV 0 (.var 3)) (.peek 2)))).t (st4 S L p G e) = .ok (decide (∃ h : e < L.length, L[e] ∈ G)) (st4 S L p G e) := by
  simp only [den, st4]
  by_cases h : e < L.length
  · simp [h, txt_at h]
  · simp [h]
theorem b0_w (L : List Nat) (p : Nat) (G : List Nat) : ∀ (m n e : Nat), L.length - e ≤ m → m < n → whileD (den C (.and (.cmp .Lt (.var 3) (.b1 .len (.peek 0))) (.cmp .In (.idxV 0 (.var 3)) (.peek 2)))).t (denB C [.aug 3 .Add (.c (.int (1)))]) n (st4 S L p G e) = .nx (st4 S L p G (e + runL L e G)) := by
  intro m
  induction m with
  | zero =>
    intro n e h1 h2
    obtain ⟨n, rfl⟩ : ∃ k, n = k + 1 := ⟨n - 1, by omega⟩
    have hs : ¬ ∃ h : e < L.length, L[e] ∈ G := fun ⟨h, _⟩ => by omega
    rw [whl_f ((b0_c C S L p G e).trans (by rw [decide_eq_false hs])), runL_stop hs]
    rfl
  | succ m ih =>
    intro n e h1 h2
    obtain ⟨n, rfl⟩ : ∃ k, n = k + 1 := ⟨n - 1, by omega⟩
    by_cases hs : ∃ h : e < L.length, L[e] ∈ G
    · rw [whl_t (s' := st4 S L p G (e + 1)) ((b0_c C S L p G e).trans (by rw [decide_eq_true hs])), ih n (e + 1) (by omega) (by omega), runL_go hs.1 hs.2]
      · congr 2; omega
      · simp only [denB, denS, den, st4]
        simp [augI]
    · rw [whl_f ((b0_c C S L p G e).trans (by rw [decide_eq_false hs])), runL_stop hs]
      rfl
theorem f0 (L : List Nat) (p : Nat) (G : List Nat) (hp : p ≤ L.length) (hL : L.length < 1000000) : fnOf 3 4 (denB C b0) [.dat (.str (txt L)), .dat (.int (p : Int)), .dat (.str (txt G))] S = .ok (.dat (.str (txt ((L.drop p).takeWhile (fun c => decide (c ∈ G)))))) S := by
  refine fn_rt (s' := st4 S L p G (p + runL L p G)) rfl ?_
  show denB C b0 ⟨[some (.dat (.str (txt L))), some (.dat (.int (p : Int))), some (.dat (.str (txt G))), none], S⟩ = _
  unfold b0
  rw [cons_nx (s' := st4 S L p G p) (by simp only [denS, den]; simp)]
  refine (cons_nx (s' := st4 S L p G (p + runL L p G)) (show denS C (.whl _ _) _ = _ from b0_w C S L p G L.length turns p (by omega) hL)).trans (cons_rt ?_)
  have := cut_nat L p (p + runL L p G) hp
  rw [Nat.add_sub_cancel_left, runL_take] at this
  rw [Int.natCast_add] at this
  simp only [denS, den, denO, st4]
  simp [this]
abbrev st5 (L : List Nat) (p : Nat) (G : List Nat) (e : Nat) (u : Option Va) : Stt := ⟨[some (.dat (.str (txt L))), some (.dat (.int (p : Int))), some (.dat (.str (txt G))), some (.dat (.int (e : Int))), u], S⟩
theorem b6_c (L : List Nat) (p : Nat) (G : List Nat) (e : Nat) (u : Option Va) : (den C (.and (.cmp .Lt (.var 3) (.b1 .len (.peek 0))) (.cmp .In (.idxV 0 (.var 3)) (.peek 2)))).t (st5 S L p G e u) = .ok (decide (∃ h : e < L.length, L[e] ∈ G)) (st5 S L p G e u) := by
  simp only [den, st5]
  by_cases h : e < L.length
  · simp [h, txt_at h]
  · simp [h]
theorem b6_f (L : List Nat) (p : Nat) (G : List Nat) : ∀ (ds : List PyData) (e : Nat) (u : Option Va), runL L e G ≤ ds.length → ∃ u', forD (Tg.put (.n 4)) (denB C [.ifs (.and (.cmp .Lt (.var 3) (.b1 .len (.peek 0))) (.cmp .In (.idxV 0 (.var 3)) (.peek 2))) [
      .set 3 (.bin .Add (.var 3) (.c (.int (1))))] []]) ds (st5 S L p G e u) = .nx (st5 S L p G (e + runL L e G) u') := by
  intro ds
  induction ds with
  | nil =>
    intro e u h1
    have : runL L e G = 0 := Nat.le_zero.mp h1
    exact ⟨u, by rw [this]; rfl⟩
  | cons d ds ih =>
    intro e u h1
    by_cases hs : ∃ h : e < L.length, L[e] ∈ G
    · obtain ⟨u', h⟩ := ih (e + 1) (some (.dat d)) (by rw [List.length_cons, runL_go hs.1 hs.2] at h1; omega)
      refine ⟨u', (for_nx (s1 := st5 S L p G e (some (.dat d))) (s' := st5 S L p G (e + 1) (some (.dat d))) rfl ((cons_nx ((ifs_t ((b6_c C S L p G e _).trans (by rw [decide_eq_true hs]))).trans (cons_nx (s' := st5 S L p G (e + 1) (some (.dat d))) ?_))).trans rfl)).trans (h.trans ?_)⟩
      · simp only [denS, den, st5]
        simp
      · rw [runL_go hs.1 hs.2]
        congr 2; omega
    · obtain ⟨u', h⟩ := ih e (some (.dat d)) (by rw [runL_stop hs]; exact Nat.zero_le _)
      exact ⟨u', (for_nx (s1 := st5 S L p G e (some (.dat d))) (s' := st5 S L p G e (some (.dat d))) rfl ((cons_nx ((ifs_f ((b6_c C S L p G e _).trans (by rw [decide_eq_false hs]))).trans rfl)).trans rfl)).trans h⟩
theorem f6 (L : List Nat) (p : Nat) (G : List Nat) (hp : p ≤ L.length) (hL : L.length < 1000000) : fnOf 3 5 (denB C b6) [.dat (.str (txt L)), .dat (.int (p : Int)), .dat (.str (txt G))] S = .ok (.dat (.str (txt ((L.drop p).takeWhile (fun c => decide (c ∈ G)))))) S := by
  obtain ⟨u', h⟩ := b6_f C S L p G (rangeL 0 L.length) p none (by
    have := runL_le (G := G) hp
    unfold rangeL
    rw [List.length_map, List.length_range]
    omega)
  refine fn_rt (s' := st5 S L p G (p + runL L p G) u') rfl ?_
  show denB C b6 ⟨[some (.dat (.str (txt L))), some (.dat (.int (p : Int))), some (.dat (.str (txt G))), none, none], S⟩ = _
  unfold b6
  rw [cons_nx (s' := st5 S L p G p none) (by simp only [denS, den]; simp)]
  refine (cons_nx (s' := st5 S L p G (p + runL L p G) u') ?_).trans (cons_rt ?_)
  · have e : denI C (.rng1 (.b1 .len (.peek 0))) (st5 S L p G p none) = .ok (rangeL 0 L.length) (st5 S L p G p none) := rng1_of (by
      simp only [den, st5]
      simp) hL
    exact (fr_of e).trans h
  · have := cut_nat L p (p + runL L p G) hp
    rw [Nat.add_sub_cancel_left, runL_take, Int.natCast_add] at this
    simp only [denS, den, denO, st5]
    simp [this]
end
/-! one token -/
def small : List Nat := "abcdefghijklmnopqrstuvwxyz".toList.map Char.toNat
def figs : List Nat := "0123456789".toList.map Char.toNat
def twos : List (List Nat) := ["<=", "!=", "==", "/=", ":="].map fun x => x.toList.map Char.toNat
def ones : List Nat := "()[]{}<>,+-=".toList.map Char.toNat
def kW : Str := Str.ofString "wrong"
theorem e_small : Str.ofString "abcdefghijklmnopqrstuvwxyz" = txt small := by decide +kernel
theorem e_figs : Str.ofString "0123456789" = txt figs := by decide +kernel
theorem e_ones : Str.ofString "()[]{}<>,+-=" = txt ones := by decide +kernel
theorem e_nil : Str.ofString "" = txt [] := by decide +kernel
theorem e_zero : Str.ofString "0" = txt [48] := by decide +kernel
theorem e_blank : Str.ofString " " = txt [32] := by decide +kernel
theorem e_both : txt small ++ txt figs = txt (small ++ figs) := by decide +kernel
def word (L : List Nat) (p : Nat) (G : List Nat) : List Nat := (L.drop p).takeWhile (fun c => decide (c ∈ G))
/-- the token at a place: its kind, its text -/
def tokS (L : List Nat) (p : Nat) : Str × List Nat :=
  if L.getD p 0 ∈ small then (if 8 < (word L p (small ++ figs)).length ∨ (0 < p ∧ L.getD (p - 1) 0 ∈ figs) then (Str.ofString "wrong", []) else (Str.ofString "word", word L p (small ++ figs)))
  else if L.getD p 0 ∈ figs then (if 3 < (word L p figs).length ∨ (1 < (word L p figs).length ∧ L.getD p 0 = 48) then (Str.ofString "wrong", []) else (Str.ofString "number", word L p figs))
  else if (L.drop p).take 2 ∈ twos then (Str.ofString "sign", (L.drop p).take 2)
  else if L.getD p 0 ∈ ones then (Str.ofString "sign", [L.getD p 0])
  else (Str.ofString "wrong", [])
def tokD (L : List Nat) (p : Nat) : PyData := .tuple [.str (tokS L p).1, .str (txt (tokS L p).2)]
theorem word_first {L : List Nat} {p : Nat} {G : List Nat} (hp : p < L.length) (h : L[p] ∈ G) : ∃ r, word L p G = L[p] :: r := by
  unfold word
  rw [List.drop_eq_getElem_cons hp, List.takeWhile_cons, if_pos (by simpa using h)]
  exact ⟨_, rfl⟩
theorem getD_at {L : List Nat} {p : Nat} (hp : p < L.length) : L.getD p 0 = L[p] := by
  rw [List.getD_eq_getElem?_getD, List.getElem?_eq_getElem hp]; rfl
/-- the sign at a place, or nothing -/
def sgn (L : List Nat) (p : Nat) : List Nat := if (L.drop p).take 2 ∈ twos then (L.drop p).take 2 else if L.getD p 0 ∈ ones then [L.getD p 0] else []
def hit (L : List Nat) (p : Nat) (M : List Nat) : Bool := decide ((L.drop p).take M.length = M)
theorem find_two {R : List Nat} : ∀ {Ms : List (List Nat)}, (∀ M ∈ Ms, M.length = 2) → Ms.find? (fun M => decide (R.take M.length = M)) = if R.take 2 ∈ Ms then some (R.take 2) else none
  | [], _ => by simp
  | M :: Ms, h => by
    have h2 : M.length = 2 := h M (List.mem_cons_self ..)
    rw [List.find?_cons, h2, find_two fun N hN => h N (List.mem_cons_of_mem _ hN)]
    by_cases e : R.take 2 = M
    · simp [e]
    · simp [e]
theorem find_one {c : Nat} {R : List Nat} : ∀ {cs : List Nat}, (cs.map fun c => [c]).find? (fun M => decide ((c :: R).take M.length = M)) = if c ∈ cs then some [c] else none
  | [] => by simp
  | d :: cs => by
    rw [List.map_cons, List.find?_cons, find_one]
    by_cases e : c = d
    · simp [e]
    · simp [e]
theorem sgn_find {L : List Nat} {p : Nat} (hp : p < L.length) : (twos ++ ones.map fun c => [c]).find? (hit L p) = if sgn L p = [] then none else some (sgn L p) := by
  obtain ⟨c, R, hR⟩ : ∃ c R, L.drop p = c :: R := ⟨_, _, List.drop_eq_getElem_cons hp⟩
  have hc : L.getD p 0 = c := by
    rw [getD_at hp]
    have := List.drop_eq_getElem_cons hp
    rw [hR] at this
    injection this with h _
    exact h.symm
  unfold hit sgn
  rw [List.find?_append, find_two (by decide), hR, find_one, hc]
  by_cases h1 : (c :: R).take 2 ∈ twos
  · rw [if_pos h1, if_pos h1, if_neg (show ¬ ((c :: R).take 2 = []) from by simp)]
    rfl
  · rw [if_neg h1, if_neg h1]
    by_cases h2 : c ∈ ones
    · rw [if_pos h2, if_pos h2]; rfl
    · rw [if_neg h2, if_neg h2]; rfl
section
variable (C : Nat → Fn) (S : List PyData)
theorem b1_f (L : List Nat) (p : Nat) (hp : p ≤ L.length) : ∀ (Ms : List (List Nat)) (u : Option Va), match Ms.find? (hit L p) with
    | some M => ∃ s', forD (Tg.put (.n 2)) (denB C [.ifs (.sw 0 (.var 2) (.var 1)) [.ret (.mv 2)] []]) (Ms.map fun M => .str (txt M)) ⟨[some (.dat (.str (txt L))), some (.dat (.int (p : Int))), u], S⟩ = .rt (.dat (.str (txt M))) ⟨s', S⟩
    | none => ∃ u', forD (Tg.put (.n 2)) (denB C [.ifs (.sw 0 (.var 2) (.var 1)) [.ret (.mv 2)] []]) (Ms.map fun M => .str (txt M)) ⟨[some (.dat (.str (txt L))), some (.dat (.int (p : Int))), u], S⟩ = .nx ⟨[some (.dat (.str (txt L))), some (.dat (.int (p : Int))), u'], S⟩
  | [], u => ⟨u, rfl⟩
  | M :: Ms, u => by
    have hc : (den C (.sw 0 (.var 2) (.var 1))).t ⟨[some (.dat (.str (txt L))), some (.dat (.int (p : Int))), some (.dat (.str (txt M)))], S⟩ = .ok (hit L p M) ⟨[some (.dat (.str (txt L))), some (.dat (.int (p : Int))), some (.dat (.str (txt M)))], S⟩ := by
      have := sw_eq L M p hp
      unfold hit
      simp only [den]
      simp [this]
    rw [List.find?_cons]
    cases e : hit L p M with
    | true =>
      rw [e] at hc
      exact ⟨_, for_rt (s1 := ⟨[some (.dat (.str (txt L))), some (.dat (.int (p : Int))), some (.dat (.str (txt M)))], S⟩) rfl (cons_rt ((ifs_t hc).trans (cons_rt rfl)))⟩
    | false =>
      rw [e] at hc
      have key := for_nx (s := ⟨[some (.dat (.str (txt L))), some (.dat (.int (p : Int))), u], S⟩) (p := Tg.put (.n 2)) (d := .str (txt M)) (ds := Ms.map fun M => .str (txt M)) (body := denB C [.ifs (.sw 0 (.var 2) (.var 1)) [.ret (.mv 2)] []]) (s1 := ⟨[some (.dat (.str (txt L))), some (.dat (.int (p : Int))), some (.dat (.str (txt M)))], S⟩) rfl (cons_nx ((ifs_f hc).trans rfl))
      have ih := b1_f L p hp Ms (some (.dat (.str (txt M))))
      dsimp only
      split
      · rename_i N h1
        rw [h1] at ih
        obtain ⟨s', h⟩ := ih
        exact ⟨s', key.trans h⟩
      · rename_i h1
        rw [h1] at ih
        obtain ⟨s', h⟩ := ih
        exact ⟨s', key.trans h⟩
theorem e_signs : (.tuple [(.str (Str.ofString "<=")), (.str (Str.ofString "!=")), (.str (Str.ofString "==")), (.str (Str.ofString "/=")), (.str (Str.ofString ":=")), (.str (Str.ofString "(")), (.str (Str.ofString ")")), (.str (Str.ofString "[")), (.str (Str.ofString "]")), (.str (Str.ofString "{")), (.str (Str.ofString "}")), (.str (Str.ofString "<")), (.str (Str.ofString ">")), (.str (Str.ofString ",")), (.str (Str.ofString "+")), (.str (Str.ofString "-")), (.str (Str.ofString "="))] : PyData) = .tuple ((twos ++ ones.map fun c => [c]).map fun M => .str (txt M)) := by kernel_rfl
theorem f1 (L : List Nat) (p : Nat) (hp : p < L.length) : fnOf 2 3 (denB C b1) [.dat (.str (txt L)), .dat (.int (p : Int))] S = .ok (.dat (.str (txt (sgn L p)))) S := by
  have h := b1_f C S L p (Nat.le_of_lt hp) (twos ++ ones.map fun c => [c]) none
  rw [sgn_find hp] at h
  have hi : denI C (.of (.c (.tuple ((twos ++ ones.map fun c => [c]).map fun M => .str (txt M))))) ⟨[some (.dat (.str (txt L))), some (.dat (.int (p : Int))), none], S⟩ = .ok ((twos ++ ones.map fun c => [c]).map fun M => .str (txt M)) ⟨[some (.dat (.str (txt L))), some (.dat (.int (p : Int))), none], S⟩ := rfl
  by_cases e : sgn L p = []
  · rw [if_pos e] at h
    obtain ⟨u', h⟩ := h
    refine fn_rt (s' := ⟨[some (.dat (.str (txt L))), some (.dat (.int (p : Int))), u'], S⟩) rfl ?_
    show denB C b1 ⟨[some (.dat (.str (txt L))), some (.dat (.int (p : Int))), none], S⟩ = _
    unfold b1
    rw [e_signs, e, e_nil]
    exact (cons_nx ((fr_of hi).trans h)).trans (cons_rt rfl)
  · rw [if_neg e] at h
    obtain ⟨s', h⟩ := h
    refine fn_rt (s' := ⟨s', S⟩) rfl ?_
    show denB C b1 ⟨[some (.dat (.str (txt L))), some (.dat (.int (p : Int))), none], S⟩ = _
    unfold b1
    rw [e_signs]
    exact cons_rt ((fr_of hi).trans h)
end
end Lk

namespace Lk
open PySem PySem.Spec PyProof.Rows L2 Ev
section
variable (C : Nat → Fn) (S : List PyData)
theorem ts_append (A B : List Nat) : txt A ++ txt B = txt (A ++ B) := by
  show Str.append _ _ = _
  unfold Str.append
  simp
theorem f2 (L : List Nat) (p : Nat) (hp : p < L.length) (h0 : ∀ G, C 0 [.dat (.str (txt L)), .dat (.int (p : Int)), .dat (.str (txt G))] S = .ok (.dat (.str (txt (word L p G)))) S) (h1 : C 1 [.dat (.str (txt L)), .dat (.int (p : Int))] S = .ok (.dat (.str (txt (sgn L p)))) S) :
    fnOf 2 5 (denB C b2) [.dat (.str (txt L)), .dat (.int (p : Int))] S = .ok (.dat (tokD L p)) S := by
  suffices h : ∃ s', denB C b2 ⟨[some (.dat (.str (txt L))), some (.dat (.int (p : Int))), none, none, none], S⟩ = .rt (.dat (tokD L p)) ⟨s', S⟩ by
    obtain ⟨s', h⟩ := h
    exact fn_rt (s' := ⟨s', S⟩) rfl h
  have hc := txt_at hp
  have hl : small.length + figs.length ≤ 16777216 := by decide
  unfold b2 tokD tokS
  rw [getD_at hp]
  simp only [e_small, e_figs, e_zero, e_nil]
  by_cases c1 : L[p] ∈ small
  · rw [if_pos c1]
    have hw := h0 (small ++ figs)
    generalize word L p (small ++ figs) = w at hw ⊢
    by_cases k1 : 8 < w.length
    · have k1' : (8 : Int) < (w.length : Int) := by omega
      rw [if_pos (.inl k1)]
      simp only [denB, denS, den, denL]
      simp [hc, c1, hw, hl, k1', datsOf, ts_append]
    · have k1' : ¬ (8 : Int) < (w.length : Int) := by omega
      by_cases k2 : 0 < p
      · have k2' : (0 : Int) < (p : Int) := by omega
        have hq : (p : Int) - 1 = ((p - 1 : Nat) : Int) := by omega
        have hc2 := txt_at (L := L) (i := p - 1) (by omega)
        rw [getD_at (show p - 1 < L.length by omega)]
        by_cases k3 : L[p - 1]'(by omega) ∈ figs
        · rw [if_pos (.inr ⟨k2, k3⟩)]
          simp only [denB, denS, den, denL]
          simp [hc, c1, hw, hl, k1', k2', k2, hq, hc2, k3, datsOf, ts_append]
        · rw [if_neg (fun z => z.elim k1 fun z => k3 z.2)]
          simp only [denB, denS, den, denL]
          simp [hc, c1, hw, hl, k1', k2', k2, hq, hc2, k3, datsOf, ts_append]
      · have k2' : ¬ (0 : Int) < (p : Int) := by omega
        rw [if_neg (fun z => z.elim k1 fun z => k2 z.1)]
        simp only [denB, denS, den, denL]
        simp [hc, c1, hw, hl, k1', k2', k2, datsOf, ts_append]
  · rw [if_neg c1]
    by_cases c2 : L[p] ∈ figs
    · rw [if_pos c2]
      have hw := h0 figs
      obtain ⟨r, hr⟩ := word_first (G := figs) hp c2
      rw [hr] at hw ⊢
      have hi : atI (L[p] :: r) 0 = some L[p] := atI_nat (j := 0) rfl
      generalize L[p] = c at *
      by_cases k1 : 3 < (c :: r).length
      · have k1' : (3 : Int) < (r.length : Int) + 1 := by rw [List.length_cons] at k1; omega
        rw [if_pos (.inl k1)]
        simp only [denB, denS, den, denL]
        simp [hc, c1, c2, hw, k1', datsOf]
      · have k1' : ¬ (3 : Int) < (r.length : Int) + 1 := by rw [List.length_cons] at k1; omega
        by_cases k2 : 1 < (c :: r).length
        · have k2' : (1 : Int) < (r.length : Int) + 1 := by rw [List.length_cons] at k2; omega
          have k2'' : 0 < r.length := by rw [List.length_cons] at k2; omega
          by_cases k3 : c = 48
          · rw [if_pos (.inr ⟨k2, k3⟩)]
            subst k3
            simp only [denB, denS, den, denL]
            simp [hc, c1, c2, hw, hi, k1', k2', k2'', datsOf]
          · rw [if_neg (fun z => z.elim k1 fun z => k3 z.2)]
            simp only [denB, denS, den, denL]
            simp [hc, c1, c2, hw, hi, k1', k2', k2'', k3, datsOf]
        · have k2' : ¬ (1 : Int) < (r.length : Int) + 1 := by rw [List.length_cons] at k2; omega
          have k2'' : r.length = 0 := by rw [List.length_cons] at k2; omega
          rw [if_neg (fun z => z.elim k1 fun z => k2 z.1)]
          simp only [denB, denS, den, denL]
          simp [hc, c1, c2, hw, hi, k1', k2', k2'', datsOf]
    · rw [if_neg c2]
      have hg := getD_at hp
      have hs : sgn L p = if (L.drop p).take 2 ∈ twos then (L.drop p).take 2 else if L[p] ∈ ones then [L[p]] else [] := by unfold sgn; rw [hg]
      have hn : (L.drop p).take 2 ≠ [] := by
        intro z
        have := congrArg List.length z
        rw [List.length_take, List.length_drop] at this
        simp at this
        omega
      by_cases k1 : (L.drop p).take 2 ∈ twos
      · rw [if_pos k1] at hs ⊢
        rw [hs] at h1
        generalize (L.drop p).take 2 = t at *
        simp only [denB, denS, den, denL]
        simp [hc, c1, c2, h1, hn, datsOf]
      · rw [if_neg k1] at hs ⊢
        by_cases k2 : L[p] ∈ ones
        · rw [if_pos k2] at hs ⊢
          rw [hs] at h1
          simp only [denB, denS, den, denL]
          simp [hc, c1, c2, h1, datsOf]
        · rw [if_neg k2] at hs ⊢
          rw [hs] at h1
          simp only [denB, denS, den, denL]
          simp [hc, c1, c2, h1, datsOf]
theorem any_signs (L : List Nat) (M : List Nat) : ((L.map fun c => PyData.str ⟨#[c]⟩).any fun z => PyData.eqv z (.str (txt M))) = decide (∃ c ∈ L, M = [c]) := by
  rw [Bool.eq_iff_iff, List.any_eq_true, decide_eq_true_eq]
  constructor
  · rintro ⟨z, hz, e⟩
    obtain ⟨c, hc, rfl⟩ := List.mem_map.mp hz
    rw [eqv_str, decide_eq_true_eq] at e
    exact ⟨c, hc, ((strs_eq [c] M).mp e).symm⟩
  · rintro ⟨c, hc, rfl⟩
    exact ⟨_, List.mem_map.mpr ⟨c, hc, rfl⟩, by rw [eqv_str, decide_eq_true_eq]⟩
theorem in_signs (L : List Nat) (M : List Nat) : inD (.str (txt M)) (.list (L.map fun c => PyData.str ⟨#[c]⟩)) = some (decide (∃ c ∈ L, M = [c])) := by
  rw [inD_list, any_signs, if_pos]
  exact Nat.le_trans (Nat.min_le_right _ _) (show (0 : Nat) ≤ 64 from by decide)
theorem c_inL (a : PyData) (xs : List PyData) : cmpD .In a (.list xs) = inD a (.list xs) := rfl
theorem c_inT (a : PyData) (xs : List PyData) : cmpD .In a (.tuple xs) = inD a (.tuple xs) := rfl
theorem prev_in {L : List Nat} {p : Nat} (hp : p < L.length) (G : List Nat) : (∃ c ∈ G, (L.take p).drop ((L.take p).length - 1) = [c]) ↔ (0 < p ∧ L.getD (p - 1) 0 ∈ G) := by
  by_cases h : 0 < p
  · have e : (L.take p).drop ((L.take p).length - 1) = [L[p - 1]'(by omega)] := by
      have hl : (L.take p).length = p := by rw [List.length_take]; omega
      rw [hl]
      rw [List.drop_eq_getElem_cons (by omega), List.drop_eq_nil_of_le (by omega)]
      simp
    rw [e, getD_at (show p - 1 < L.length by omega)]
    constructor
    · rintro ⟨c, hc, e⟩
      cases e
      exact ⟨h, hc⟩
    · rintro ⟨_, hc⟩
      exact ⟨_, hc, rfl⟩
  · have : p = 0 := by omega
    subst this
    simp
theorem in_twos (M : List Nat) : inD (.str (txt M)) (.tuple [(.str (Str.ofString "<=")), (.str (Str.ofString "!=")), (.str (Str.ofString "==")), (.str (Str.ofString "/=")), (.str (Str.ofString ":="))]) = some (decide (M ∈ twos)) := by
  have e : [(PyData.str (Str.ofString "<=")), (.str (Str.ofString "!=")), (.str (Str.ofString "==")), (.str (Str.ofString "/=")), (.str (Str.ofString ":="))] = twos.map fun M => .str (txt M) := by kernel_rfl
  rw [e]
  rw [inD_tup, if_pos (show min _ (PyData.str (txt M)).depth ≤ 64 from Nat.le_trans (Nat.min_le_right _ _) (show (0 : Nat) ≤ 64 from by decide))]
  congr 1
  rw [Bool.eq_iff_iff, List.any_eq_true, decide_eq_true_eq]
  constructor
  · rintro ⟨z, hz, e⟩
    obtain ⟨c, hc, rfl⟩ := List.mem_map.mp hz
    rw [eqv_str, decide_eq_true_eq] at e
    rw [← (strs_eq c M).mp e]
    exact hc
  · intro h
    exact ⟨_, List.mem_map.mpr ⟨M, h, rfl⟩, by rw [eqv_str, decide_eq_true_eq]⟩
theorem f7 (L : List Nat) (p : Nat) (hp : p < L.length) (h0 : ∀ G, C 6 [.dat (.str (txt L)), .dat (.int (p : Int)), .dat (.str (txt G))] S = .ok (.dat (.str (txt (word L p G)))) S) :
    fnOf 2 6 (denB C b7) [.dat (.str (txt L)), .dat (.int (p : Int))] S = .ok (.dat (tokD L p)) S := by
  suffices h : ∃ s', denB C b7 ⟨[some (.dat (.str (txt L))), some (.dat (.int (p : Int))), none, none, none, none], S⟩ = .rt (.dat (tokD L p)) ⟨s', S⟩ by
    obtain ⟨s', h⟩ := h
    exact fn_rt (s' := ⟨s', S⟩) rfl h
  have hc := txt_at hp
  have hl : small.length + figs.length ≤ 16777216 := by decide
  unfold b7 tokD tokS
  simp only [e_small, e_figs, e_zero, e_nil, e_ones]
  rw [show L.getD p 0 = L[p] from getD_at hp]
  by_cases c1 : L[p] ∈ small
  · rw [if_pos c1]
    have hw := h0 (small ++ figs)
    generalize word L p (small ++ figs) = w at hw ⊢
    by_cases k1 : 8 < w.length
    · have k1' : (8 : Int) < (w.length : Int) := by omega
      rw [if_pos (.inl k1)]
      simp only [denB, denS, den, denL]
      simp [hc, c1, hw, hl, k1', datsOf, ts_append]
    · have k1' : ¬ (8 : Int) < (w.length : Int) := by omega
      have k2 := prev_in hp figs
      have k3 := in_signs figs ((L.take p).drop ((L.take p).length - 1))
      have k4 := cut_to L p
      have k5 := cut_last (L.take p)
      generalize (L.take p).drop ((L.take p).length - 1) = M at *
      simp only [denB, denS, den, denL, denO]
      by_cases k6 : (0 < p ∧ L.getD (p - 1) 0 ∈ figs)
      · rw [if_pos (.inr k6)]
        rw [decide_eq_true (k2.mpr k6)] at k3
        simp [hc, c1, hw, hl, k1', k3, k4, k5, c_inL, c_inT, datsOf, ts_append]
      · rw [if_neg (fun z => z.elim k1 k6)]
        rw [decide_eq_false (fun z => k6 (k2.mp z))] at k3
        simp [hc, c1, hw, hl, k1', k3, k4, k5, c_inL, c_inT, datsOf, ts_append]
  · rw [if_neg c1]
    by_cases c2 : L[p] ∈ figs
    · rw [if_pos c2]
      have hw := h0 figs
      obtain ⟨r, hr⟩ := word_first (G := figs) hp c2
      rw [hr] at hw ⊢
      have hi : atI (L[p] :: r) 0 = some L[p] := atI_nat (j := 0) rfl
      generalize L[p] = c at *
      by_cases k1 : 3 < (c :: r).length
      · have k1' : (3 : Int) < (r.length : Int) + 1 := by rw [List.length_cons] at k1; omega
        rw [if_pos (.inl k1)]
        simp only [denB, denS, den, denL]
        simp [hc, c1, c2, hw, k1', datsOf]
      · have k1' : ¬ (3 : Int) < (r.length : Int) + 1 := by rw [List.length_cons] at k1; omega
        by_cases k3 : c = 48
        · subst k3
          by_cases k2 : 1 < ((48 : Nat) :: r).length
          · have k2' : ¬ r = [] := fun z => by rw [z] at k2; simp at k2
            rw [if_pos (.inr ⟨k2, rfl⟩)]
            simp only [denB, denS, den, denL]
            simp [hc, c1, c2, hw, hi, k1', k2', datsOf]
          · have k2' : r = [] := by
              cases r with
              | nil => rfl
              | cons _ _ => simp at k2
            rw [if_neg (fun z => z.elim k1 fun z => k2 z.1)]
            subst k2'
            simp only [denB, denS, den, denL]
            simp [hc, c1, c2, hw, hi, datsOf]
        · rw [if_neg (fun z => z.elim k1 fun z => k3 z.2)]
          simp only [denB, denS, den, denL]
          simp [hc, c1, c2, hw, hi, k1', k3, datsOf]
    · rw [if_neg c2]
      have k0 : cutS (txt L) (some (p : Int)) (some ((p : Int) + 2)) = txt ((L.drop p).take 2) := by
        have := cut_nat L p (p + 2) (Nat.le_of_lt hp)
        rw [Nat.add_sub_cancel_left] at this
        rw [← this]
        rfl
      have k9 := in_twos ((L.drop p).take 2)
      by_cases k1 : (L.drop p).take 2 ∈ twos
      · rw [if_pos k1]
        rw [decide_eq_true k1] at k9
        generalize (L.drop p).take 2 = t at *
        simp only [denB, denS, den, denL, denO]
        simp [hc, c1, c2, k0, k9, c_inL, c_inT, datsOf]
      · rw [if_neg k1]
        rw [decide_eq_false k1] at k9
        generalize (L.drop p).take 2 = t at *
        by_cases k2 : L[p] ∈ ones
        · rw [if_pos k2]
          simp only [denB, denS, den, denL, denO]
          simp [hc, c1, c2, k0, k9, k2, c_inL, c_inT, datsOf]
        · rw [if_neg k2]
          simp only [denB, denS, den, denL, denO]
          simp [hc, c1, c2, k0, k9, k2, c_inL, c_inT, datsOf]
end
end Lk

namespace Lk
open PySem PySem.Spec PyProof.Rows L2 Ev
def rowD (L : List Nat) (p : Nat) : PyData := .tuple [.str (tokS L p).1, .str (txt (tokS L p).2), .int ((p : Int) + 1)]
/-- the rows from a place on, in n steps -/
def toks (L : List Nat) : Nat → Nat → List PyData → List PyData
  | 0, _, rows => rows
  | n + 1, p, rows => if p < L.length then (if L.getD p 0 = 32 then toks L n (p + 1) rows else if (tokS L p).1 = Str.ofString "wrong" then rows ++ [rowD L p] else toks L n (p + (tokS L p).2.length) (rows ++ [rowD L p])) else rows
theorem word_len {L : List Nat} {p : Nat} {G : List Nat} (hp : p < L.length) (h : L.getD p 0 ∈ G) : 0 < (word L p G).length ∧ p + (word L p G).length ≤ L.length := by
  rw [getD_at hp] at h
  obtain ⟨r, e⟩ := word_first hp h
  refine ⟨by rw [e]; simp, ?_⟩
  have := runL_le (G := G) (Nat.le_of_lt hp)
  unfold runL at this
  exact this
theorem tok_len {L : List Nat} {p : Nat} (hp : p < L.length) (h : ¬ (tokS L p).1 = Str.ofString "wrong") : 0 < (tokS L p).2.length ∧ p + (tokS L p).2.length ≤ L.length := by
  have hd : ((L.drop p).take 2).length = min 2 (L.length - p) := by rw [List.length_take, List.length_drop]
  unfold tokS at h ⊢
  by_cases c1 : L.getD p 0 ∈ small
  · rw [if_pos c1] at h ⊢
    split at h
    · exact absurd rfl h
    · rename_i k
      rw [if_neg k]
      exact word_len hp (List.mem_append.mpr (.inl c1))
  · rw [if_neg c1] at h ⊢
    by_cases c2 : L.getD p 0 ∈ figs
    · rw [if_pos c2] at h ⊢
      split at h
      · exact absurd rfl h
      · rename_i k
        rw [if_neg k]
        exact word_len hp c2
    · rw [if_neg c2] at h ⊢
      by_cases c3 : (L.drop p).take 2 ∈ twos
      · rw [if_pos c3]
        dsimp only
        rw [hd]
        have : ((L.drop p).take 2).length = 2 := (show ∀ M ∈ twos, M.length = 2 by decide) _ c3
        omega
      · rw [if_neg c3] at h ⊢
        by_cases c4 : L.getD p 0 ∈ ones
        · rw [if_pos c4]
          exact ⟨Nat.one_pos, hp⟩
        · rw [if_neg c4] at h
          exact absurd rfl h
section
variable (C : Nat → Fn) (S : List PyData)
abbrev t5 (L : List Nat) (rows : List PyData) (p : Nat) (u v : Option Va) : Stt := ⟨[some (.dat (.str (txt L))), some (.own rows), some (.dat (.int (p : Int))), u, v], S⟩
abbrev w3c : Ex := .cmp .Lt (.var 2) (.b1 .len (.peek 0))
abbrev w3b : List Sx := [
    .ifs (.cmp .Eq (.idxV 0 (.var 2)) (.c (.str (Str.ofString " ")))) [
      .aug 2 .Add (.c (.int (1)))] [
      .asg (.t [(.n 3), (.n 4)]) (.call 2 [(.var 0), (.var 2)]),
      .expr (.app 1 (.tup [(.var 3), (.var 4), (.bin .Add (.var 2) (.c (.int (1))))])),
      .ifs (.cmp .Eq (.var 3) (.c (.str (Str.ofString "wrong")))) [
        .brk] [],
      .aug 2 .Add (.b1 .len (.peek 4))]]
theorem w3_c (L : List Nat) (rows : List PyData) (p : Nat) (u v : Option Va) : (den C w3c).t (t5 S L rows p u v) = .ok (decide (p < L.length)) (t5 S L rows p u v) := by
  simp only [den, t5]
  simp
theorem w3_blank (L : List Nat) (rows : List PyData) (p : Nat) (u v : Option Va) (hp : p < L.length) (h : L.getD p 0 = 32) : denB C w3b (t5 S L rows p u v) = .nx (t5 S L rows (p + 1) u v) := by
  rw [getD_at hp] at h
  simp only [denB, denS, den, t5, e_blank]
  simp [txt_at hp, h, augI]
theorem w3_tok (L : List Nat) (rows : List PyData) (p : Nat) (u v : Option Va) (hp : p < L.length) (h : ¬ L.getD p 0 = 32) (hz : rows.length < 16777216) (h2 : C 2 [.dat (.str (txt L)), .dat (.int (p : Int))] S = .ok (.dat (tokD L p)) S) :
    denB C w3b (t5 S L rows p u v) = if (tokS L p).1 = Str.ofString "wrong" then .bk (t5 S L (rows ++ [rowD L p]) p (some (.dat (.str (tokS L p).1))) (some (.dat (.str (txt (tokS L p).2))))) else .nx (t5 S L (rows ++ [rowD L p]) (p + (tokS L p).2.length) (some (.dat (.str (tokS L p).1))) (some (.dat (.str (txt (tokS L p).2))))) := by
  rw [getD_at hp] at h
  unfold tokD at h2
  unfold rowD
  generalize (tokS L p).1 = k at *
  generalize (tokS L p).2 = t at *
  by_cases hk : k = Str.ofString "wrong"
  · rw [if_pos hk]
    subst hk
    simp only [denB, denS, den, denL, t5, e_blank]
    simp [txt_at hp, h, augI, h2, hz, datsOf, Tg.put, Tg.puts, gUn, gCo, gNo]
  · rw [if_neg hk]
    simp only [denB, denS, den, denL, t5, e_blank]
    simp [txt_at hp, h, augI, h2, hz, hk, datsOf, Tg.put, Tg.puts, gUn, gCo, gNo]
theorem w3_loop (L : List Nat) (hL : L.length < 1000000) (h2 : ∀ p, p < L.length → C 2 [.dat (.str (txt L)), .dat (.int (p : Int))] S = .ok (.dat (tokD L p)) S) : ∀ (m n p : Nat) (rows : List PyData) (u v : Option Va), L.length - p ≤ m → m < n → rows.length ≤ p →
    ∃ p' u' v', whileD (den C w3c).t (denB C w3b) n (t5 S L rows p u v) = .nx (t5 S L (toks L m p rows) p' u' v') := by
  intro m
  induction m with
  | zero =>
    intro n p rows u v h1 h3 h4
    obtain ⟨n, rfl⟩ : ∃ k, n = k + 1 := ⟨n - 1, by omega⟩
    exact ⟨p, u, v, whl_f ((w3_c C S L rows p u v).trans (by rw [decide_eq_false (by omega)]; rfl))⟩
  | succ m ih =>
    intro n p rows u v h1 h3 h4
    obtain ⟨n, rfl⟩ : ∃ k, n = k + 1 := ⟨n - 1, by omega⟩
    unfold toks
    by_cases hp : p < L.length
    · rw [if_pos hp]
      have hc := (w3_c C S L rows p u v).trans (by rw [decide_eq_true hp])
      by_cases hb : L.getD p 0 = 32
      · rw [if_pos hb]
        obtain ⟨p', u', v', h⟩ := ih n (p + 1) rows u v (by omega) (by omega) (by omega)
        exact ⟨p', u', v', (whl_t hc (w3_blank C S L rows p u v hp hb)).trans h⟩
      · rw [if_neg hb]
        have hk := w3_tok C S L rows p u v hp hb (by omega) (h2 p hp)
        by_cases hw : (tokS L p).1 = Str.ofString "wrong"
        · rw [if_pos hw] at hk ⊢
          exact ⟨_, _, _, whl_b hc hk⟩
        · rw [if_neg hw] at hk ⊢
          obtain ⟨l1, l2⟩ := tok_len hp hw
          obtain ⟨p', u', v', h⟩ := ih n (p + (tokS L p).2.length) (rows ++ [rowD L p]) _ _ (by omega) (by omega) (by rw [List.length_append, List.length_singleton]; omega)
          exact ⟨p', u', v', (whl_t hc hk).trans h⟩
    · rw [if_neg hp]
      exact ⟨p, u, v, whl_f ((w3_c C S L rows p u v).trans (by rw [decide_eq_false hp]))⟩
theorem f3 (L : List Nat) (hL : L.length < 1000000) (h2 : ∀ p, p < L.length → C 2 [.dat (.str (txt L)), .dat (.int (p : Int))] S = .ok (.dat (tokD L p)) S) : fnOf 1 5 (denB C b3) [.dat (.str (txt L))] S = .ok (.dat (.tuple (toks L L.length 0 []))) S := by
  obtain ⟨p', u', v', h⟩ := w3_loop C S L hL h2 L.length turns 0 [] none none (by omega) hL (Nat.le_refl _)
  refine fn_rt (s' := t5 S L (toks L L.length 0 []) p' u' v') rfl ?_
  show denB C b3 ⟨[some (.dat (.str (txt L))), none, none, none, none], S⟩ = _
  unfold b3
  rw [cons_nx (s' := ⟨[some (.dat (.str (txt L))), some (.own []), none, none, none], S⟩) (by simp only [denS, den, denL]; simp [datsOf])]
  rw [cons_nx (s' := t5 S L [] 0 none none) (by simp only [denS, den]; simp)]
  refine (cons_nx (show denS C (.whl _ _) _ = _ from h)).trans (cons_rt ?_)
  simp only [denS, den, t5]
  simp
abbrev w8b : List Sx := [
    .ifs (.and (.cmp .Lt (.var 2) (.b1 .len (.peek 0))) (.cmp .Eq (.idxV 0 (.var 2)) (.c (.str (Str.ofString " "))))) [
      .set 2 (.bin .Add (.var 2) (.c (.int (1))))] [
      .ifs (.cmp .Lt (.var 2) (.b1 .len (.peek 0))) [
        .set 4 (.call 7 [(.var 0), (.var 2)]),
        .expr (.app 1 (.tup [(.idxV 4 (.c (.int (0)))), (.idxV 4 (.c (.int (1)))), (.bin .Add (.var 2) (.c (.int (1))))])),
        .ifs (.cmp .Eq (.idxV 4 (.c (.int (0)))) (.c (.str (Str.ofString "wrong")))) [
          .ret (.b1 .tuple (.peek 1))] [],
        .set 2 (.bin .Add (.var 2) (.b1 .len (.idxV 4 (.c (.int (1))))))] []]]
theorem w8_end (L : List Nat) (rows : List PyData) (p : Nat) (u v : Option Va) (hp : ¬ p < L.length) : denB C w8b (t5 S L rows p u v) = .nx (t5 S L rows p u v) := by
  have hp' : ¬ (p : Int) < (L.length : Int) := by omega
  simp only [denB, denS, den, t5, e_blank]
  simp [hp, hp']
theorem w8_blank (L : List Nat) (rows : List PyData) (p : Nat) (u v : Option Va) (hp : p < L.length) (h : L.getD p 0 = 32) : denB C w8b (t5 S L rows p u v) = .nx (t5 S L rows (p + 1) u v) := by
  rw [getD_at hp] at h
  have hp' : (p : Int) < (L.length : Int) := by omega
  simp only [denB, denS, den, t5, e_blank]
  simp [txt_at hp, h, hp, hp']
theorem w8_tok (L : List Nat) (rows : List PyData) (p : Nat) (u v : Option Va) (hp : p < L.length) (h : ¬ L.getD p 0 = 32) (hz : rows.length < 16777216) (h2 : C 7 [.dat (.str (txt L)), .dat (.int (p : Int))] S = .ok (.dat (tokD L p)) S) :
    denB C w8b (t5 S L rows p u v) = if (tokS L p).1 = Str.ofString "wrong" then .rt (.dat (.tuple (rows ++ [rowD L p]))) (t5 S L (rows ++ [rowD L p]) p u (some (.dat (tokD L p)))) else .nx (t5 S L (rows ++ [rowD L p]) (p + (tokS L p).2.length) u (some (.dat (tokD L p)))) := by
  rw [getD_at hp] at h
  have hp' : (p : Int) < (L.length : Int) := by omega
  unfold tokD at h2 ⊢
  unfold rowD
  generalize (tokS L p).1 = k at *
  generalize (tokS L p).2 = t at *
  by_cases hk : k = Str.ofString "wrong"
  · rw [if_pos hk]
    subst hk
    simp only [denB, denS, den, denL, t5, e_blank]
    simp [txt_at hp, h, hp, hp', h2, hz, datsOf]
  · rw [if_neg hk]
    simp only [denB, denS, den, denL, t5, e_blank]
    simp [txt_at hp, h, hp, hp', h2, hz, hk, datsOf]
theorem w8_loop (L : List Nat) (hL : L.length < 1000000) (h2 : ∀ p, p < L.length → C 7 [.dat (.str (txt L)), .dat (.int (p : Int))] S = .ok (.dat (tokD L p)) S) : ∀ (ds : List PyData) (p : Nat) (rows : List PyData) (u v : Option Va), rows.length ≤ p →
    (∃ p' u' v', forD (Tg.put (.n 3)) (denB C w8b) ds (t5 S L rows p u v) = .nx (t5 S L (toks L ds.length p rows) p' u' v')) ∨ (∃ s', forD (Tg.put (.n 3)) (denB C w8b) ds (t5 S L rows p u v) = .rt (.dat (.tuple (toks L ds.length p rows))) ⟨s', S⟩) := by
  intro ds
  induction ds with
  | nil => exact fun p rows u v _ => .inl ⟨p, u, v, rfl⟩
  | cons d ds ih =>
    intro p rows u v h4
    rw [List.length_cons]
    unfold toks
    have hput : (Tg.put (.n 3)) d (t5 S L rows p u v) = some (t5 S L rows p (some (.dat d)) v) := rfl
    by_cases hp : p < L.length
    · rw [if_pos hp]
      by_cases hb : L.getD p 0 = 32
      · rw [if_pos hb]
        have e := for_nx (ds := ds) hput (w8_blank C S L rows p (some (.dat d)) v hp hb)
        rcases ih (p + 1) rows (some (.dat d)) v (by omega) with ⟨p', u', v', h⟩ | ⟨s', h⟩
        · exact .inl ⟨p', u', v', e.trans h⟩
        · exact .inr ⟨s', e.trans h⟩
      · rw [if_neg hb]
        have hk := w8_tok C S L rows p (some (.dat d)) v hp hb (by omega) (h2 p hp)
        by_cases hw : (tokS L p).1 = Str.ofString "wrong"
        · rw [if_pos hw] at hk ⊢
          exact .inr ⟨_, for_rt hput hk⟩
        · rw [if_neg hw] at hk ⊢
          obtain ⟨l1, l2⟩ := tok_len hp hw
          have e := for_nx (ds := ds) hput hk
          rcases ih (p + (tokS L p).2.length) (rows ++ [rowD L p]) (some (.dat d)) (some (.dat (tokD L p))) (by rw [List.length_append, List.length_singleton]; omega) with ⟨p', u', v', h⟩ | ⟨s', h⟩
          · exact .inl ⟨p', u', v', e.trans h⟩
          · exact .inr ⟨s', e.trans h⟩
    · rw [if_neg hp]
      have e := for_nx (ds := ds) hput (w8_end C S L rows p (some (.dat d)) v hp)
      have ht : toks L ds.length p rows = rows := by
        cases ds with
        | nil => rfl
        | cons _ _ => rw [List.length_cons]; unfold toks; rw [if_neg hp]
      rcases ih p rows (some (.dat d)) v h4 with ⟨p', u', v', h⟩ | ⟨s', h⟩
      · exact .inl ⟨p', u', v', by rw [e, h, ht]⟩
      · exact .inr ⟨s', by rw [e, h, ht]⟩
theorem f8 (L : List Nat) (hL : L.length < 1000000) (h2 : ∀ p, p < L.length → C 7 [.dat (.str (txt L)), .dat (.int (p : Int))] S = .ok (.dat (tokD L p)) S) : fnOf 1 5 (denB C b8) [.dat (.str (txt L))] S = .ok (.dat (.tuple (toks L L.length 0 []))) S := by
  have hr : denI C (.rng1 (.b1 .len (.peek 0))) (t5 S L [] 0 none none) = .ok (rangeL 0 L.length) (t5 S L [] 0 none none) := rng1_of (by
    simp only [den, t5]
    simp) hL
  have hlen : (rangeL 0 L.length).length = L.length := by unfold rangeL; rw [List.length_map, List.length_range]
  have h := w8_loop C S L hL h2 (rangeL 0 L.length) 0 [] none none (Nat.le_refl _)
  rw [hlen] at h
  have e0 : denB C b8 ⟨[some (.dat (.str (txt L))), none, none, none, none], S⟩ = denB C (b8.drop 2) (t5 S L [] 0 none none) := by
    unfold b8
    rw [cons_nx (s' := ⟨[some (.dat (.str (txt L))), some (.own []), none, none, none], S⟩) (by simp only [denS, den, denL]; simp [datsOf])]
    rw [cons_nx (s' := t5 S L [] 0 none none) (by simp only [denS, den]; simp)]
    rfl
  rcases h with ⟨p', u', v', h⟩ | ⟨s', h⟩
  · refine fn_rt (s' := t5 S L (toks L L.length 0 []) p' u' v') rfl (e0.trans ?_)
    refine (cons_nx ((fr_of hr).trans h)).trans (cons_rt ?_)
    simp only [denS, den, t5]
    simp
  · refine fn_rt (s' := ⟨s', S⟩) rfl (e0.trans ?_)
    exact cons_rt ((fr_of hr).trans h)
end
end Lk

namespace Lk
open PySem PySem.Spec PyProof.Rows L2 Ev
def U (s : String) : List Nat := s.toList.map Char.toNat
def Q1 : List (List Nat) := ["x", "ab", "zed9", "long1234", "longer123", "a234567890", "0", "7", "42", "999", "00", "07", "1000", "("].map U
def Q2 : List (List Nat) := [")", "[", "]", "{", "}", "<", ">", ",", "+", "-", "=", "!=", "<=", "==", "/=", ":=", "!", ":"].map U
def Q3 : List (List Nat) := ["/", "A", "_", ".", "all", "board", "~", "x", "3", "f"].map U
def QA : List (List Nat) := Q1 ++ Q2 ++ Q3
def Bl : List (List Nat) := ["", " ", " ", "  "].map U
def Bl0 : List (List Nat) := ["", "", " ", "   "].map U
def TX (Ls : List (List Nat)) : List PyData := Ls.map fun M => .str (txt M)
theorem draw_at (C : Nat → Fn) (j : Nat) (h : DrawOk (C j)) {S : List PyData} (hp : PotOk S) (m : Nat) (h1 : 0 < m) (h2 : m < 1073741824) : ∃ k S', PotOk S' ∧ 0 ≤ k ∧ k < (m : Int) ∧ C j [.pot, .dat (.int (m : Int))] S = .ok (.dat (.int k)) S' := by
  obtain ⟨k, S', a, b, c, d⟩ := h S m hp (by omega) (by omega)
  exact ⟨k, S', c, a, b, d⟩
theorem T_mem {Ls : List (List Nat)} {k : Int} (h0 : 0 ≤ k) (h1 : k < (Ls.length : Int)) : ∃ M, M ∈ Ls ∧ atI (TX Ls) k = some (.str (txt M)) := by
  obtain ⟨d, hd, e⟩ := atI_mem (xs := TX Ls) h0 (by unfold TX; rw [List.length_map]; exact h1)
  obtain ⟨M, hM, rfl⟩ := List.mem_map.mp hd
  exact ⟨M, hM, e⟩
abbrev q5 (w : Option Va) (L : List Nat) (u : Option Va) (S : List PyData) : Stt := ⟨[none, some .pot, w, some (.dat (.str (txt L))), u], S⟩
abbrev wLb : List Sx := [
    .set 3 (.bin .Add (.bin .Add (.var 3) (.call 5 [(.var 1), (.var 2)])) (.idx (.lst [(.c (.str (Str.ofString ""))), (.c (.str (Str.ofString " "))), (.c (.str (Str.ofString " "))), (.c (.str (Str.ofString "  ")))]) (.call 4 [(.var 1), (.c (.int (4)))])))]
theorem e_Bl : [PyData.str (Str.ofString ""), .str (Str.ofString " "), .str (Str.ofString " "), .str (Str.ofString "  ")] = TX Bl := by kernel_rfl
theorem e_Bl0 : [PyData.str (Str.ofString ""), .str (Str.ofString ""), .str (Str.ofString " "), .str (Str.ofString "   ")] = TX Bl0 := by kernel_rfl
theorem wL_step (C : Nat → Fn) (h4 : DrawOk (C 4)) (h5 : PickOk (C 5)) (L : List Nat) (hL : L.length ≤ 1000) (S : List PyData) (hS : PotOk S) (u : Option Va) (w : Option Va) (hw : w = some (.own (TX QA)) ∨ w = some (.dat (.list (TX QA)))) :
    ∃ L' S', L'.length ≤ L.length + 12 ∧ PotOk S' ∧ denB C wLb (q5 w L u S) = .nx (q5 (some (.dat (.list (TX QA)))) L' u S') := by
  obtain ⟨d, S1, hd, hS1, e1⟩ := h5 S (TX QA) hS (by decide +kernel) (by decide +kernel)
  obtain ⟨M, hM, rfl⟩ := List.mem_map.mp hd
  obtain ⟨k, S2, hS2, k0, k1, e2⟩ := draw_at C 4 h4 hS1 4 (by decide) (by decide)
  obtain ⟨B, hB, e3⟩ := T_mem (Ls := Bl) k0 k1
  have lM : M.length ≤ 10 := (show ∀ M ∈ QA, M.length ≤ 10 by decide +kernel) M hM
  have lB : B.length ≤ 2 := (show ∀ M ∈ Bl, M.length ≤ 2 by decide +kernel) B hB
  have e2 : C 4 [.pot, .dat (.int 4)] S1 = .ok (.dat (.int k)) S2 := e2
  have z1 : L.length + M.length ≤ 16777216 := by omega
  have z2 : L.length + M.length + B.length ≤ 16777216 := by omega
  have hz : (TX Bl).length ≤ 16777216 := by decide +kernel
  refine ⟨L ++ M ++ B, S2, by rw [List.length_append, List.length_append]; omega, hS2, ?_⟩
  rcases hw with rfl | rfl
  · simp only [denB, denS, den, denL, q5]
    simp [e1, e2, datsOf, e_Bl, e3, z1, z2, hz, ts_append]
  · simp only [denB, denS, den, denL, q5]
    simp [e1, e2, datsOf, e_Bl, e3, z1, z2, hz, ts_append]
theorem wL_loop (C : Nat → Fn) (h4 : DrawOk (C 4)) (h5 : PickOk (C 5)) : ∀ (ds : List PyData) (L : List Nat) (S : List PyData) (u w : Option Va), L.length + 12 * ds.length ≤ 1000 → PotOk S → (w = some (.own (TX QA)) ∨ w = some (.dat (.list (TX QA)))) →
    ∃ L' S' u' w', L'.length ≤ 1000 ∧ PotOk S' ∧ forD (Tg.put (.n 4)) (denB C wLb) ds (q5 w L u S) = .nx (q5 w' L' u' S') := by
  intro ds
  induction ds with
  | nil => exact fun L S u w h1 h2 h3 => ⟨L, S, u, w, by omega, h2, rfl⟩
  | cons d ds ih =>
    intro L S u w h1 h2 h3
    rw [List.length_cons] at h1
    obtain ⟨L1, S1, l1, s1, e1⟩ := wL_step C h4 h5 L (by omega) S h2 (some (.dat d)) w h3
    obtain ⟨L', S', u', w', l2, s2, e2⟩ := ih L1 S1 (some (.dat d)) _ (by omega) s1 (.inr rfl)
    exact ⟨L', S', u', w', l2, s2, (for_nx rfl e1).trans e2⟩
theorem e_Q1 : [PyData.str (Str.ofString "x"), (.str (Str.ofString "ab")), (.str (Str.ofString "zed9")), (.str (Str.ofString "long1234")), (.str (Str.ofString "longer123")), (.str (Str.ofString "a234567890")), (.str (Str.ofString "0")), (.str (Str.ofString "7")), (.str (Str.ofString "42")), (.str (Str.ofString "999")), (.str (Str.ofString "00")), (.str (Str.ofString "07")), (.str (Str.ofString "1000")), (.str (Str.ofString "("))] = TX Q1 := by kernel_rfl
theorem noDict_rows (L : List Nat) : ∀ (n p : Nat) (rows : List PyData), noDicts rows = true → PyData.depthAll rows ≤ 1 → noDicts (toks L n p rows) = true ∧ PyData.depthAll (toks L n p rows) ≤ 1 := by
  have app : ∀ (xs : List PyData) (y : PyData), noDicts xs = true → PyData.depthAll xs ≤ 1 → noDict y = true → y.depth ≤ 1 → noDicts (xs ++ [y]) = true ∧ PyData.depthAll (xs ++ [y]) ≤ 1 := fun xs y => by
    induction xs with
    | nil =>
      intro _ _ h1 h2
      refine ⟨?_, ?_⟩
      · show (noDict y && true) = true
        rw [h1]; rfl
      · show max y.depth 0 ≤ 1
        omega
    | cons x xs ih =>
      intro h1 h2 h3 h4
      have h1 : (noDict x && noDicts xs) = true := h1
      have h2 : max x.depth (PyData.depthAll xs) ≤ 1 := h2
      obtain ⟨g1, g2⟩ := Bool.and_eq_true_iff.mp h1
      obtain ⟨a, b⟩ := ih g2 (by omega) h3 h4
      refine ⟨?_, ?_⟩
      · show (noDict x && noDicts (xs ++ [y])) = true
        rw [g1, a]; rfl
      · show max x.depth (PyData.depthAll (xs ++ [y])) ≤ 1
        omega
  have row : ∀ p, noDict (rowD L p) = true ∧ (rowD L p).depth ≤ 1 := fun p => ⟨rfl, Nat.le_refl 1⟩
  intro n
  induction n with
  | zero => exact fun p rows h1 h2 => ⟨h1, h2⟩
  | succ n ih =>
    intro p rows h1 h2
    unfold toks
    split
    · split
      · exact ih _ _ h1 h2
      · split
        · exact app _ _ h1 h2 (row p).1 (row p).2
        · obtain ⟨a, b⟩ := app _ _ h1 h2 (row p).1 (row p).2
          exact ih _ _ a b
    · exact ⟨h1, h2⟩
theorem law_end (C : Nat → Fn) (L : List Nat) (S : List PyData) (u w : Option Va) (h3 : C 3 [.dat (.str (txt L))] S = .ok (.dat (.tuple (toks L L.length 0 []))) S) (h8 : C 8 [.dat (.str (txt L))] S = .ok (.dat (.tuple (toks L L.length 0 []))) S) :
    ∃ s', denB C [.ret (.cmp .Eq (.call 3 [(.var 3)]) (.call 8 [(.var 3)]))] (q5 w L u S) = .rt (.dat (.bool true)) s' := by
  obtain ⟨a, b⟩ := noDict_rows L L.length 0 [] rfl (Nat.zero_le _)
  have e := eq_self (d := .tuple (toks L L.length 0 [])) a (show PyData.depthAll _ + 1 ≤ 64 by omega)
  refine ⟨q5 w L u S, ?_⟩
  simp only [denB, denS, den, denL, q5]
  simp [h3, h8, e]
theorem start3 (C : Nat → Fn) (S : List PyData) : denB C (bL.take 3) ⟨[none, some .pot, none, none, none], S⟩ = .nx ⟨[none, some .pot, some (.own (TX QA)), none, none], S⟩ := by kernel_rfl
theorem law_plain (ns : List Int) (h : ns.length ≤ 63) : ∃ s', denB (run D 6) bL (start0 NL ns) = .rt (.dat (.bool true)) s' := by
  have r0 : ∀ n, run D (n + 1) 0 = fnOf 3 4 (denB (run D n) b0) := fun n => rfl
  have r1 : ∀ n, run D (n + 1) 1 = fnOf 2 3 (denB (run D n) b1) := fun n => rfl
  have r2 : ∀ n, run D (n + 1) 2 = fnOf 2 5 (denB (run D n) b2) := fun n => rfl
  have r3 : ∀ n, run D (n + 1) 3 = fnOf 1 5 (denB (run D n) b3) := fun n => rfl
  have r4 : ∀ n, run D (n + 1) 4 = fnOf 2 5 (denB (run D n) drawB) := fun n => rfl
  have r5 : ∀ n, run D (n + 1) 5 = fnOf 2 2 (denB (run D n) (pickB 4)) := fun n => rfl
  have r6 : ∀ n, run D (n + 1) 6 = fnOf 3 5 (denB (run D n) b6) := fun n => rfl
  have r7 : ∀ n, run D (n + 1) 7 = fnOf 2 6 (denB (run D n) b7) := fun n => rfl
  have r8 : ∀ n, run D (n + 1) 8 = fnOf 1 5 (denB (run D n) b8) := fun n => rfl
  have h4 : DrawOk (run D 6 4) := by rw [r4]; exact drawOk _
  have h5 : PickOk (run D 6 5) := by rw [r5]; exact pickOk _ 4 (by rw [r4]; exact drawOk _)
  have h3 : ∀ (L : List Nat) (S : List PyData), L.length < 1000000 → run D 6 3 [.dat (.str (txt L))] S = .ok (.dat (.tuple (toks L L.length 0 []))) S := fun L S hL => by
    rw [r3]
    refine f3 _ S L hL fun p hp => ?_
    rw [r2]
    refine f2 _ S L p hp (fun G => ?_) ?_
    · rw [r0]; exact f0 _ S L p G (Nat.le_of_lt hp) hL
    · rw [r1]; exact f1 _ S L p hp
  have h8 : ∀ (L : List Nat) (S : List PyData), L.length < 1000000 → run D 6 8 [.dat (.str (txt L))] S = .ok (.dat (.tuple (toks L L.length 0 []))) S := fun L S hL => by
    rw [r8]
    refine f8 _ S L hL fun p hp => ?_
    rw [r7]
    refine f7 _ S L p hp (fun G => ?_)
    rw [r6]; exact f6 _ S L p G (Nat.le_of_lt hp) hL
  generalize run D 6 = C at h4 h5 h3 h8
  have hS := pot0_ok ns
  show ∃ s', denB C bL ⟨[none, some .pot, none, none, none], pot0 ns⟩ = _
  generalize pot0 ns = S at hS
  obtain ⟨k, S1, hS1, k0, k1, e1⟩ := draw_at C 4 h4 hS 4 (by decide) (by decide)
  obtain ⟨B, hB, e2⟩ := T_mem (Ls := Bl0) k0 k1
  have lB : B.length ≤ 3 := (show ∀ M ∈ Bl0, M.length ≤ 3 by decide +kernel) B hB
  obtain ⟨n, S2, hS2, n0, n1, e3⟩ := draw_at C 4 h4 hS1 10 (by decide) (by decide)
  obtain ⟨n, rfl⟩ : ∃ j : Nat, n = (j : Int) := ⟨n.toNat, by omega⟩
  have e1 : C 4 [.pot, .dat (.int 4)] S = .ok (.dat (.int k)) S1 := e1
  have e3 : C 4 [.pot, .dat (.int 10)] S1 = .ok (.dat (.int (n : Int))) S2 := e3
  have hlen : (rangeL 0 n).length = n := by unfold rangeL; rw [List.length_map, List.length_range]
  have start : denB C (bL.take 4) ⟨[none, some .pot, none, none, none], S⟩ = .nx (q5 (some (.own (TX QA))) B none S1) := by
    refine (app_nx (l := bL.take 3) (r := [.set 3 (.idx (.lst [(.c (.str (Str.ofString ""))), (.c (.str (Str.ofString ""))), (.c (.str (Str.ofString " "))), (.c (.str (Str.ofString "   ")))]) (.call 4 [(.var 1), (.c (.int (4)))]))]) (start3 C S)).trans ?_
    have hz : (TX Bl0).length ≤ 16777216 := by decide +kernel
    simp only [denB, denS, den, denL, q5]
    simp [e1, datsOf, e_Bl0, e2, hz]
  have hr : denI C (.rng1 (.call 4 [(.var 1), (.c (.int (10)))])) (q5 (some (.own (TX QA))) B none S1) = .ok (rangeL 0 n) (q5 (some (.own (TX QA))) B none S2) := rng1_of (by
    simp only [den, denL, q5]
    simp [e3]) (by omega)
  obtain ⟨L', S', u', w', l2, s2, e4⟩ := wL_loop C h4 h5 (rangeL 0 n) B S2 none _ (by rw [hlen]; omega) hS2 (.inl rfl)
  obtain ⟨s', e5⟩ := law_end C L' S' u' w' (h3 L' S' (by omega)) (h8 L' S' (by omega))
  exact ⟨s', (app_nx (l := bL.take 4) (r := bL.drop 4) start).trans ((cons_nx ((fr_of hr).trans e4)).trans e5)⟩
end Lk

namespace Lk
open PySem PySem.Spec PyProof.Rows L2 Ev
theorem sc0 : FnScope N0 P0 (defScope s0) := ⟨rfl, rfl, rfl, by decide +kernel, rfl, by decide +kernel, by decide +kernel⟩
theorem tr0 : trB T N0 80 (defScope s0) (defBody s0) = some b0 := by kernel_rfl
theorem sc1 : FnScope N1 P1 (defScope s1) := ⟨rfl, rfl, rfl, by decide +kernel, rfl, by decide +kernel, by decide +kernel⟩
theorem tr1 : trB T N1 80 (defScope s1) (defBody s1) = some b1 := by kernel_rfl
theorem sc2 : FnScope N2 P2 (defScope s2) := ⟨rfl, rfl, rfl, by decide +kernel, rfl, by decide +kernel, by decide +kernel⟩
theorem tr2 : trB T N2 80 (defScope s2) (defBody s2) = some b2 := by kernel_rfl
theorem sc3 : FnScope N3 P3 (defScope s3) := ⟨rfl, rfl, rfl, by decide +kernel, rfl, by decide +kernel, by decide +kernel⟩
theorem tr3 : trB T N3 80 (defScope s3) (defBody s3) = some b3 := by kernel_rfl
theorem sc4 : FnScope N4 P4 (defScope s4) := ⟨rfl, rfl, rfl, by decide +kernel, rfl, by decide +kernel, by decide +kernel⟩
theorem tr4 : trB T N4 80 (defScope s4) (defBody s4) = some b4 := by kernel_rfl
theorem sc5 : FnScope N5 P5 (defScope s5) := ⟨rfl, rfl, rfl, by decide +kernel, rfl, by decide +kernel, by decide +kernel⟩
theorem tr5 : trB T N5 80 (defScope s5) (defBody s5) = some b5 := by kernel_rfl
theorem sc6 : FnScope N6 P6 (defScope s6) := ⟨rfl, rfl, rfl, by decide +kernel, rfl, by decide +kernel, by decide +kernel⟩
theorem tr6 : trB T N6 80 (defScope s6) (defBody s6) = some b6 := by kernel_rfl
theorem sc7 : FnScope N7 P7 (defScope s7) := ⟨rfl, rfl, rfl, by decide +kernel, rfl, by decide +kernel, by decide +kernel⟩
theorem tr7 : trB T N7 80 (defScope s7) (defBody s7) = some b7 := by kernel_rfl
theorem sc8 : FnScope N8 P8 (defScope s8) := ⟨rfl, rfl, rfl, by decide +kernel, rfl, by decide +kernel, by decide +kernel⟩
theorem tr8 : trB T N8 80 (defScope s8) (defBody s8) = some b8 := by kernel_rfl
theorem scP : FnScope potN [Str.ofString "script"] (defScope sPot) := ⟨rfl, rfl, rfl, by decide +kernel, rfl, by decide +kernel, by decide +kernel⟩
theorem scL : FnScope NL [Str.ofString "script"] (defScope sLaw) := ⟨rfl, rfl, rfl, by decide +kernel, rfl, by decide +kernel, by decide +kernel⟩
theorem trL : trB T NL 80 (defScope sLaw) (defBody sLaw).tail = some bL := by kernel_rfl
theorem all_mk {l : PySem.W.OpenLaw} {w : World} {K : PySem.W.Frag} {h : Heap} {mg : Str → Option Value} {fa : Addr} (X : K.In h) (G : h.Ns mainGlobals mg) (hfa : mg "law" = some (.ref fa))
    {f0 : Addr} {od0 an0 : Option Addr} {sl0 : Array (Option Value)} {oc0 kV0 dc0 pm0 cd0 ct0 : Value} (a0 : PySem.W.nsIn K mainGlobals (Str.ofString "run_at") = some (some (.ref f0)))
    (l0 : K.lookup f0 = some ⟨oc0, od0, .func (PySem.W.fnOf (Str.ofString "run_at") (Str.ofString "run_at") (defArgs s0) (defBody s0) (defScope s0) .none kV0 dc0 pm0 an0 cd0 ct0), sl0⟩) (c0 : PySem.W.codeIn K cd0 (Str.ofString "run_at") = true) (k0 : PySem.W.keepIn K (.ref f0) = true)
    {f1 : Addr} {od1 an1 : Option Addr} {sl1 : Array (Option Value)} {oc1 kV1 dc1 pm1 cd1 ct1 : Value} (a1 : PySem.W.nsIn K mainGlobals (Str.ofString "sign_at") = some (some (.ref f1)))
    (l1 : K.lookup f1 = some ⟨oc1, od1, .func (PySem.W.fnOf (Str.ofString "sign_at") (Str.ofString "sign_at") (defArgs s1) (defBody s1) (defScope s1) .none kV1 dc1 pm1 an1 cd1 ct1), sl1⟩) (c1 : PySem.W.codeIn K cd1 (Str.ofString "sign_at") = true) (k1 : PySem.W.keepIn K (.ref f1) = true)
    {f2 : Addr} {od2 an2 : Option Addr} {sl2 : Array (Option Value)} {oc2 kV2 dc2 pm2 cd2 ct2 : Value} (a2 : PySem.W.nsIn K mainGlobals (Str.ofString "token_at") = some (some (.ref f2)))
    (l2 : K.lookup f2 = some ⟨oc2, od2, .func (PySem.W.fnOf (Str.ofString "token_at") (Str.ofString "token_at") (defArgs s2) (defBody s2) (defScope s2) .none kV2 dc2 pm2 an2 cd2 ct2), sl2⟩) (c2 : PySem.W.codeIn K cd2 (Str.ofString "token_at") = true) (k2 : PySem.W.keepIn K (.ref f2) = true)
    {f3 : Addr} {od3 an3 : Option Addr} {sl3 : Array (Option Value)} {oc3 kV3 dc3 pm3 cd3 ct3 : Value} (a3 : PySem.W.nsIn K mainGlobals (Str.ofString "tokens_of") = some (some (.ref f3)))
    (l3 : K.lookup f3 = some ⟨oc3, od3, .func (PySem.W.fnOf (Str.ofString "tokens_of") (Str.ofString "tokens_of") (defArgs s3) (defBody s3) (defScope s3) .none kV3 dc3 pm3 an3 cd3 ct3), sl3⟩) (c3 : PySem.W.codeIn K cd3 (Str.ofString "tokens_of") = true) (k3 : PySem.W.keepIn K (.ref f3) = true)
    {f4 : Addr} {od4 an4 : Option Addr} {sl4 : Array (Option Value)} {oc4 kV4 dc4 pm4 cd4 ct4 : Value} (a4 : PySem.W.nsIn K mainGlobals (Str.ofString "_law_draw") = some (some (.ref f4)))
    (l4 : K.lookup f4 = some ⟨oc4, od4, .func (PySem.W.fnOf (Str.ofString "_law_draw") (Str.ofString "_law_draw") (defArgs s4) (defBody s4) (defScope s4) .none kV4 dc4 pm4 an4 cd4 ct4), sl4⟩) (c4 : PySem.W.codeIn K cd4 (Str.ofString "_law_draw") = true) (k4 : PySem.W.keepIn K (.ref f4) = true)
    {f5 : Addr} {od5 an5 : Option Addr} {sl5 : Array (Option Value)} {oc5 kV5 dc5 pm5 cd5 ct5 : Value} (a5 : PySem.W.nsIn K mainGlobals (Str.ofString "_law_pick") = some (some (.ref f5)))
    (l5 : K.lookup f5 = some ⟨oc5, od5, .func (PySem.W.fnOf (Str.ofString "_law_pick") (Str.ofString "_law_pick") (defArgs s5) (defBody s5) (defScope s5) .none kV5 dc5 pm5 an5 cd5 ct5), sl5⟩) (c5 : PySem.W.codeIn K cd5 (Str.ofString "_law_pick") = true) (k5 : PySem.W.keepIn K (.ref f5) = true)
    {f6 : Addr} {od6 an6 : Option Addr} {sl6 : Array (Option Value)} {oc6 kV6 dc6 pm6 cd6 ct6 : Value} (a6 : PySem.W.nsIn K mainGlobals (Str.ofString "_law_run") = some (some (.ref f6)))
    (l6 : K.lookup f6 = some ⟨oc6, od6, .func (PySem.W.fnOf (Str.ofString "_law_run") (Str.ofString "_law_run") (defArgs s6) (defBody s6) (defScope s6) .none kV6 dc6 pm6 an6 cd6 ct6), sl6⟩) (c6 : PySem.W.codeIn K cd6 (Str.ofString "_law_run") = true) (k6 : PySem.W.keepIn K (.ref f6) = true)
    {f7 : Addr} {od7 an7 : Option Addr} {sl7 : Array (Option Value)} {oc7 kV7 dc7 pm7 cd7 ct7 : Value} (a7 : PySem.W.nsIn K mainGlobals (Str.ofString "_law_token") = some (some (.ref f7)))
    (l7 : K.lookup f7 = some ⟨oc7, od7, .func (PySem.W.fnOf (Str.ofString "_law_token") (Str.ofString "_law_token") (defArgs s7) (defBody s7) (defScope s7) .none kV7 dc7 pm7 an7 cd7 ct7), sl7⟩) (c7 : PySem.W.codeIn K cd7 (Str.ofString "_law_token") = true) (k7 : PySem.W.keepIn K (.ref f7) = true)
    {f8 : Addr} {od8 an8 : Option Addr} {sl8 : Array (Option Value)} {oc8 kV8 dc8 pm8 cd8 ct8 : Value} (a8 : PySem.W.nsIn K mainGlobals (Str.ofString "_law_tokens") = some (some (.ref f8)))
    (l8 : K.lookup f8 = some ⟨oc8, od8, .func (PySem.W.fnOf (Str.ofString "_law_tokens") (Str.ofString "_law_tokens") (defArgs s8) (defBody s8) (defScope s8) .none kV8 dc8 pm8 an8 cd8 ct8), sl8⟩) (c8 : PySem.W.codeIn K cd8 (Str.ofString "_law_tokens") = true) (k8 : PySem.W.keepIn K (.ref f8) = true)
    {fP : Addr} {odP anP : Option Addr} {slP : Array (Option Value)} {ocP kVP dcP pmP cdP ctP : Value} (aP : PySem.W.nsIn K mainGlobals (Str.ofString "_law_pot") = some (some (.ref fP)))
    (lP : K.lookup fP = some ⟨ocP, odP, .func (PySem.W.fnOf (Str.ofString "_law_pot") (Str.ofString "_law_pot") (defArgs sPot) (defBody sPot) (defScope sPot) .none kVP dcP pmP anP cdP ctP), slP⟩) (cP : PySem.W.codeIn K cdP (Str.ofString "_law_pot") = true) (kP : PySem.W.keepIn K (.ref fP) = true)
    {fL : Addr} {odL anL : Option Addr} {slL : Array (Option Value)} {ocL kVL dcL pmL cdL ctL : Value} (aL : PySem.W.nsIn K mainGlobals (Str.ofString "law") = some (some (.ref fL)))
    (lL : K.lookup fL = some ⟨ocL, odL, .func (PySem.W.fnOf (Str.ofString "law") (Str.ofString "law") (defArgs sLaw) (defBody sLaw) (defScope sLaw) .none kVL dcL pmL anL cdL ctL), slL⟩) (cL : PySem.W.codeIn K cdL (Str.ofString "law") = true) (kL : PySem.W.keepIn K (.ref fL) = true)
    (z0 : PySem.W.nsIn K mainGlobals (Str.ofString "len") = some none)
    (z1 : PySem.W.nsIn K mainGlobals (Str.ofString "abs") = some none)
    (z2 : PySem.W.nsIn K mainGlobals (Str.ofString "sum") = some none)
    (z3 : PySem.W.nsIn K mainGlobals (Str.ofString "max") = some none)
    (z4 : PySem.W.nsIn K mainGlobals (Str.ofString "min") = some none)
    (z5 : PySem.W.nsIn K mainGlobals (Str.ofString "int") = some none)
    (z6 : PySem.W.nsIn K mainGlobals (Str.ofString "bool") = some none)
    (z7 : PySem.W.nsIn K mainGlobals (Str.ofString "str") = some none)
    (z8 : PySem.W.nsIn K mainGlobals (Str.ofString "tuple") = some none)
    (z9 : PySem.W.nsIn K mainGlobals (Str.ofString "list") = some none)
    (z10 : PySem.W.nsIn K mainGlobals (Str.ofString "dict") = some none)
    (z11 : PySem.W.nsIn K mainGlobals (Str.ofString "range") = some none)
    (z12 : PySem.W.nsIn K mainGlobals (Str.ofString "isinstance") = some none)
    {q0 : Tok} (v0 : PySem.W.nsIn K mainGlobals (Str.ofString "SMALL") = some (some (.str (Str.ofString "abcdefghijklmnopqrstuvwxyz") q0)))
    {q1 : Tok} (v1 : PySem.W.nsIn K mainGlobals (Str.ofString "FIGURES") = some (some (.str (Str.ofString "0123456789") q1)))
    {q2 : Addr} {t2 : Array Value} {n2 : Nat} {y2 : Array (Option Value)} (v2 : PySem.W.nsIn K mainGlobals (Str.ofString "SIGNS") = some (some (.ref q2))) (w2 : K.lookup q2 = some ⟨.type "tuple", none, .seq t2 n2, y2⟩) (x2 : t2.size ≤ 1000) (u2 : flatV t2.toList [(.str (Str.ofString "<=")), (.str (Str.ofString "!=")), (.str (Str.ofString "==")), (.str (Str.ofString "/=")), (.str (Str.ofString ":=")), (.str (Str.ofString "(")), (.str (Str.ofString ")")), (.str (Str.ofString "[")), (.str (Str.ofString "]")), (.str (Str.ofString "{")), (.str (Str.ofString "}")), (.str (Str.ofString "<")), (.str (Str.ofString ">")), (.str (Str.ofString ",")), (.str (Str.ofString "+")), (.str (Str.ofString "-")), (.str (Str.ofString "="))] = true)
    : ∃ fd : FuncData, (∀ (s : Shared) (u : Value), BindsTo s fd ⟨[u], []⟩ [(Str.ofString "script", u)]) ∧ ∀ base : Heap, K.In base → base.Ns mainGlobals mg → FnOk l.prog w K mg base (L2.CX l.prog w) 8 fa fd [Str.ofString "script"] (Ev.spLaw K) := by
  have e := hfa.symm.trans (PySem.W.mg_of X G aL)
  cases e
  have d0 := def_at (T := T) (st := s0) X G a0 l0 c0 k0 sc0 fun _ _ _ _ _ _ us hl => match us, hl with | [_, _, _], _ => rfl
  have d1 := def_at (T := T) (st := s1) X G a1 l1 c1 k1 sc1 fun _ _ _ _ _ _ us hl => match us, hl with | [_, _], _ => rfl
  have d2 := def_at (T := T) (st := s2) X G a2 l2 c2 k2 sc2 fun _ _ _ _ _ _ us hl => match us, hl with | [_, _], _ => rfl
  have d3 := def_at (T := T) (st := s3) X G a3 l3 c3 k3 sc3 fun _ _ _ _ _ _ us hl => match us, hl with | [_], _ => rfl
  have d4 := def_at (T := T) (st := s4) X G a4 l4 c4 k4 sc4 fun _ _ _ _ _ _ us hl => match us, hl with | [_, _], _ => rfl
  have d5 := def_at (T := T) (st := s5) X G a5 l5 c5 k5 sc5 fun _ _ _ _ _ _ us hl => match us, hl with | [_, _], _ => rfl
  have d6 := def_at (T := T) (st := s6) X G a6 l6 c6 k6 sc6 fun _ _ _ _ _ _ us hl => match us, hl with | [_, _, _], _ => rfl
  have d7 := def_at (T := T) (st := s7) X G a7 l7 c7 k7 sc7 fun _ _ _ _ _ _ us hl => match us, hl with | [_, _], _ => rfl
  have d8 := def_at (T := T) (st := s8) X G a8 l8 c8 k8 sc8 fun _ _ _ _ _ _ us hl => match us, hl with | [_], _ => rfl
  have dP := def_at (T := T) (st := sPot) X G aP lP cP kP scP fun _ _ _ _ _ _ us hl => match us, hl with | [_], _ => rfl
  have dL := def_at (T := T) (st := sLaw) X G aL lL cL kL scL fun _ _ _ _ _ _ us hl => match us, hl with | [_], _ => rfl
  have W1 : World1 K mg T := w1_of ⟨PySem.W.mg_none_of X G z0, PySem.W.mg_none_of X G z1, PySem.W.mg_none_of X G z2, PySem.W.mg_none_of X G z3, PySem.W.mg_none_of X G z4, PySem.W.mg_none_of X G z5, PySem.W.mg_none_of X G z6, PySem.W.mg_none_of X G z7, PySem.W.mg_none_of X G z8, PySem.W.mg_none_of X G z9, PySem.W.mg_none_of X G z10, PySem.W.mg_none_of X G z11, PySem.W.mg_none_of X G z12, trivial⟩ ⟨cst_str (PySem.W.mg_of X G v0) (by decide +kernel), cst_str (PySem.W.mg_of X G v1) (by decide +kernel), cst_tup (PySem.W.mg_of X G v2) w2 x2 u2, trivial⟩
  have hT : TabAll K mg T D 0 T.fns := ⟨⟨_, _, _, _, _, _, d0, rfl, rfl, rfl, 80, tr0⟩, ⟨_, _, _, _, _, _, d1, rfl, rfl, rfl, 80, tr1⟩, ⟨_, _, _, _, _, _, d2, rfl, rfl, rfl, 80, tr2⟩, ⟨_, _, _, _, _, _, d3, rfl, rfl, rfl, 80, tr3⟩, ⟨_, _, _, _, _, _, d4, rfl, rfl, rfl, 80, tr4⟩, ⟨_, _, _, _, _, _, d5, rfl, rfl, rfl, 80, tr5⟩, ⟨_, _, _, _, _, _, d6, rfl, rfl, rfl, 80, tr6⟩, ⟨_, _, _, _, _, _, d7, rfl, rfl, rfl, 80, tr7⟩, ⟨_, _, _, _, _, _, d8, rfl, rfl, rfl, 80, tr8⟩, trivial⟩
  refine ⟨PySem.W.fnOf (Str.ofString "law") (Str.ofString "law") (defArgs sLaw) (defBody sLaw) (defScope sLaw) .none kVL dcL pmL anL cdL ctL, fun s v => .of_eq rfl, fun base _ _ => ?_⟩
  exact law_ok (T := T) (D := D) dL.fu scL rfl rfl rfl rfl rfl rfl dP.at_ kP dP.bd (pot_ok dP.fu scP rfl (by decide +kernel) rfl rfl rfl rfl (PySem.W.mg_none_of X G z1)) W1 (fun j x hx => by have := hT.at j x hx; rwa [Nat.zero_add] at this) trL law_plain
end Lk
open PySem PySem.W PyProof.Rows in
set_option maxHeartbeats 0 in
theorem PySem.Challenge.cw_partnerlots_k69_tokens_holds : PySem.Challenge.rw_partnerlots_k69_tokens.Holds := by
  w_on; o_law; k_head; (case hw => w_witness2)
  k_fill
  refine L2.walk_of (l := PySem.Challenge.rw_partnerlots_k69_tokens) (n := 63) (k := 8) (x := "script") (CX := fun w => L2.CX PySem.Challenge.rw_partnerlots_k69_tokens.prog w) (sp := fun w => Ev.spLaw _) rfl (by decide) rfl ⟨rfl, by decide, by decide⟩ (fun w h Y => PySem.W.kIn_of Y) ?F (fun _ _ a ns hl _ hS => ⟨a, ns, rfl, hS, hl, fun _ => rfl⟩) (fun _ _ _ _ _ h => Ev.cx_none h)
  case F =>
    intro w mg fa h KX G hmg
    refine' Lk.all_mk KX G hmg ?a0 ?l0 ?c0 ?k0 ?a1 ?l1 ?c1 ?k1 ?a2 ?l2 ?c2 ?k2 ?a3 ?l3 ?c3 ?k3 ?a4 ?l4 ?c4 ?k4 ?a5 ?l5 ?c5 ?k5 ?a6 ?l6 ?c6 ?k6 ?a7 ?l7 ?c7 ?k7 ?a8 ?l8 ?c8 ?k8 ?aP ?lP ?cP ?kP ?aL ?lL ?cL ?kL ?z0 ?z1 ?z2 ?z3 ?z4 ?z5 ?z6 ?z7 ?z8 ?z9 ?z10 ?z11 ?z12 ?v0 ?v1 ?v2 ?w2 ?x2 ?u2
    (case a0 => k_is); (case l0 => k_is); (case c0 => k_is); (case k0 => k_is); (case a1 => k_is); (case l1 => k_is); (case c1 => k_is); (case k1 => k_is); (case a2 => k_is); (case l2 => k_is); (case c2 => k_is); (case k2 => k_is); (case a3 => k_is); (case l3 => k_is); (case c3 => k_is); (case k3 => k_is); (case a4 => k_is); (case l4 => k_is); (case c4 => k_is); (case k4 => k_is); (case a5 => k_is); (case l5 => k_is); (case c5 => k_is); (case k5 => k_is); (case a6 => k_is); (case l6 => k_is); (case c6 => k_is); (case k6 => k_is); (case a7 => k_is); (case l7 => k_is); (case c7 => k_is); (case k7 => k_is); (case a8 => k_is); (case l8 => k_is); (case c8 => k_is); (case k8 => k_is); (case aP => k_is); (case lP => k_is); (case cP => k_is); (case kP => k_is); (case aL => k_is); (case lL => k_is); (case cL => k_is); (case kL => k_is); (case z0 => k_is); (case z1 => k_is); (case z2 => k_is); (case z3 => k_is); (case z4 => k_is); (case z5 => k_is); (case z6 => k_is); (case z7 => k_is); (case z8 => k_is); (case z9 => k_is); (case z10 => k_is); (case z11 => k_is); (case z12 => k_is); (case v0 => k_is); (case v1 => k_is); (case v2 => k_is); (case w2 => k_is); (case x2 => decide +kernel); (case u2 => decide +kernel)
