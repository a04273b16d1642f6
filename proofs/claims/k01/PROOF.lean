import PyProof.Rows.All
import HandS.ForExc
import HandS.ForMost
import HandS.Deep
import HandS.IsInst
import HandS.Flow
import HandS.TupAny
import HandS.CallSlots
import HandS.TupLe
import HandS.Zip
import HandS.StrMore
import HandS.Rev
import HandS.Conv
import HandS.ExcInit
import HandS.WordsExc
import KE.KExcSuper
import HandS.SortInts
import HandS.SortKw
import KE.DatumOrd
import HandS.SetFor
import HandS.Strs
import KE.KExcIs
import HandS.ExcField
import HandS.ExcIs
import HandS.HotCalls
import HandS.Flt
import HandS.More
import HandS.Text
import HandS.Ends
import PySem.Challenge.RW_partnerlots_k01_arrangements
set_option Elab.async false
set_option linter.all false
set_option maxRecDepth 100000
set_option maxHeartbeats 4000000
set_option autoImplicit false
namespace Ev
open PySem PySem.Spec PyProof.Rows L2

/-! ## values, states, results -/
/-- a value: plain data; an owned (unshared) list; a list lent out of its slot; the pot -/
inductive Va where
  | dat (d : PyData)
  | own (xs : List PyData)
  | bor (xs : List PyData)
  | pot
/-- an exception: its class by name, its fields -/
structure Exn where
  cls : Str
  fs : List (Str × PyData)
structure Stt where
  ρ : List (Option Va)
  S : List PyData
inductive Res (α : Type) where
  | ok (a : α) (s : Stt)
  | exc (x : Exn) (s : Stt)
  | bad
def Res.bind {α β : Type} : Res α → (α → Stt → Res β) → Res β
  | .ok a s, g => g a s
  | .exc x s, _ => .exc x s
  | .bad, _ => .bad
theorem Res.bind_ok {α β : Type} (a : α) (s : Stt) (g : α → Stt → Res β) : (Res.ok a s).bind g = g a s := rfl

/-! ## how data lie in the heap -/
/-- a text that lies: its signs are signs, its length is within the line -/
def okS (x : Str) : Bool := PyData.strOk x && decide (x.length ≤ 16777216)
mutual
inductive Rp (K : PySem.W.Frag) (F : Hp) : V → PyData → Prop
  | non : Rp K F .non .none
  | bl (b : Bool) : Rp K F (.bl b) (.bool b)
  | int (i : Int) : Rp K F (.int i) (.int i)
  | str {x : Str} : okS x = true → Rp K F (.str x) (.str x)
  | lst {a : Addr} {xs : List V} {ds : List PyData} : F a = some (.lst xs) → xs.length ≤ sizeLine → RpAll K F xs ds → Rp K F (.ref a) (.list ds)
  | tup {a : Addr} {xs : List V} {ds : List PyData} : SqT K F a xs → xs.length ≤ sizeLine → RpAll K F xs ds → Rp K F (.ref a) (.tuple ds)
inductive RpAll (K : PySem.W.Frag) (F : Hp) : List V → List PyData → Prop
  | nil : RpAll K F [] []
  | cons {v : V} {vs : List V} {d : PyData} {ds : List PyData} : Rp K F v d → RpAll K F vs ds → RpAll K F (v :: vs) (d :: ds)
end
theorem seqT {K : PySem.W.Frag} {H H' : Hp} {a : Addr} {xs : List V} (e : Same H H') (h : SqT K H a xs) : SqT K H' a xs := by
  rcases h with (h | ⟨o, h⟩) | h
  · exact .inl (.inl (e _ _ h))
  · exact .inl (.inr ⟨o, e _ _ h⟩)
  · exact .inr h
mutual
theorem Rp.mono {K : PySem.W.Frag} {F F' : Hp} (e : Same F F') : ∀ {d : PyData} {v : V}, Rp K F v d → Rp K F' v d
  | .none, _, h => by cases h; exact .non
  | .bool _, _, h => by cases h; exact .bl _
  | .int _, _, h => by cases h; exact .int _
  | .str _, _, h => by cases h with | str k => exact .str k
  | .list ds, _, h => by cases h with | lst a b c => exact .lst (e _ _ a) b (RpAll.mono e c)
  | .tuple ds, _, h => by cases h with | tup a b c => exact .tup (seqT e a) b (RpAll.mono e c)
  | .dict _, _, h => by cases h
theorem RpAll.mono {K : PySem.W.Frag} {F F' : Hp} (e : Same F F') : ∀ {ds : List PyData} {vs : List V}, RpAll K F vs ds → RpAll K F' vs ds
  | [], _, h => by cases h; exact .nil
  | _ :: _, _, h => by cases h with | cons a b => exact .cons (Rp.mono e a) (RpAll.mono e b)
end
mutual
theorem Rp.dp {K : PySem.W.Frag} {F : Hp} : ∀ {d : PyData} {v : V}, Rp K F v d → Dp K F v d ∧ d.canLay0 = true
  | .none, _, h => by cases h; exact ⟨.non, rfl⟩
  | .bool _, _, h => by cases h; exact ⟨.bl _, rfl⟩
  | .int _, _, h => by cases h; exact ⟨.int _, rfl⟩
  | .str _, _, h => by cases h with | str k => exact ⟨.str _, by simpa [PyData.canLay0] using (Bool.and_eq_true_iff.mp k).1⟩
  | .list ds, _, h => by cases h with | lst a b c => exact ⟨.lst (.inl (.inl a)) (RpAll.dp c).1, by simpa [PyData.canLay0] using (RpAll.dp c).2⟩
  | .tuple ds, _, h => by cases h with | tup a b c => exact ⟨.tup a (RpAll.dp c).1, by simpa [PyData.canLay0] using (RpAll.dp c).2⟩
  | .dict _, _, h => by cases h
theorem RpAll.dp {K : PySem.W.Frag} {F : Hp} : ∀ {ds : List PyData} {vs : List V}, RpAll K F vs ds → DpAll K F vs ds ∧ PyData.canLayAll0 ds = true
  | [], _, h => by cases h; exact ⟨.nil, rfl⟩
  | _ :: _, _, h => by cases h with | cons a b => exact ⟨.cons (Rp.dp a).1 (RpAll.dp b).1, by simp [PyData.canLayAll0, (Rp.dp a).2, (RpAll.dp b).2]⟩
end
theorem RpAll.length {K : PySem.W.Frag} {F : Hp} : ∀ {ds : List PyData} {vs : List V}, RpAll K F vs ds → vs.length = ds.length
  | [], _, h => by cases h; rfl
  | _ :: _, _, h => by cases h with | cons a b => simp [RpAll.length b]
theorem RpAll.get {K : PySem.W.Frag} {F : Hp} : ∀ {ds : List PyData} {vs : List V} {i : Nat} {d : PyData}, RpAll K F vs ds → ds[i]? = some d → ∃ v, vs[i]? = some v ∧ Rp K F v d
  | [], _, _, _, h, e => by simp at e
  | _ :: _, _, 0, _, h, e => by cases h with | cons a b => simp at e; subst e; exact ⟨_, rfl, a⟩
  | _ :: _, _, i + 1, _, h, e => by
    cases h with
    | cons a b =>
      obtain ⟨v, e1, r⟩ := RpAll.get (i := i) b (by simpa using e)
      exact ⟨v, by simpa using e1, r⟩
theorem RpAll.get' {K : PySem.W.Frag} {F : Hp} : ∀ {ds : List PyData} {vs : List V} {i : Nat} {v : V}, RpAll K F vs ds → vs[i]? = some v → ∃ d, ds[i]? = some d ∧ Rp K F v d
  | [], _, _, _, h, e => by cases h; simp at e
  | _ :: _, _, 0, _, h, e => by cases h with | cons a b => simp at e; subst e; exact ⟨_, rfl, a⟩
  | _ :: _, _, i + 1, _, h, e => by
    cases h with
    | cons a b =>
      obtain ⟨v, e1, r⟩ := RpAll.get' (i := i) b (by simpa using e)
      exact ⟨v, by simpa using e1, r⟩
theorem RpAll.append {K : PySem.W.Frag} {F : Hp} : ∀ {ds es : List PyData} {vs ws : List V}, RpAll K F vs ds → RpAll K F ws es → RpAll K F (vs ++ ws) (ds ++ es)
  | [], _, _, _, h, k => by cases h; exact k
  | _ :: _, _, _, _, h, k => by cases h with | cons a b => exact .cons a (RpAll.append b k)
theorem RpAll.set {K : PySem.W.Frag} {F : Hp} {d : PyData} {v : V} (r : Rp K F v d) : ∀ {ds : List PyData} {vs : List V} (i : Nat), RpAll K F vs ds → RpAll K F (vs.set i v) (ds.set i d)
  | [], _, _, h => by cases h; exact .nil
  | _ :: _, _, 0, h => by cases h with | cons a b => exact .cons r b
  | _ :: _, _, i + 1, h => by cases h with | cons a b => exact .cons a (RpAll.set r i b)
theorem RpAll.take {K : PySem.W.Frag} {F : Hp} : ∀ {ds : List PyData} {vs : List V} (n : Nat), RpAll K F vs ds → RpAll K F (vs.take n) (ds.take n)
  | _, _, 0, h => by simpa using .nil
  | [], _, n + 1, h => by cases h; simpa using .nil
  | _ :: _, _, n + 1, h => by cases h with | cons a b => exact .cons a (RpAll.take n b)
theorem RpAll.drop {K : PySem.W.Frag} {F : Hp} : ∀ {ds : List PyData} {vs : List V} (n : Nat), RpAll K F vs ds → RpAll K F (vs.drop n) (ds.drop n)
  | _, _, 0, h => h
  | [], _, n + 1, h => by cases h; exact .nil
  | _ :: _, _, n + 1, h => by cases h with | cons a b => exact RpAll.drop n b
theorem RpAll.erase {K : PySem.W.Frag} {F : Hp} : ∀ {ds : List PyData} {vs : List V} (i : Nat), RpAll K F vs ds → RpAll K F (vs.eraseIdx i) (ds.eraseIdx i)
  | [], _, _, h => by cases h; exact .nil
  | _ :: _, _, 0, h => by cases h with | cons a b => exact b
  | _ :: _, _, i + 1, h => by cases h with | cons a b => exact .cons a (RpAll.erase i b)
theorem RpAll.reverse {K : PySem.W.Frag} {F : Hp} : ∀ {ds : List PyData} {vs : List V}, RpAll K F vs ds → RpAll K F vs.reverse ds.reverse
  | [], _, h => by cases h; exact .nil
  | _ :: _, _, h => by
    cases h with
    | cons a b =>
      rw [List.reverse_cons, List.reverse_cons]
      exact RpAll.append (RpAll.reverse b) (.cons a .nil)

/-! ## the state's representation -/
/-- what fixes a representation: the written part, the pot's address, the heaps at the entry -/
structure Gh where
  K : PySem.W.Frag
  mg : Str → Option Value
  pa : Addr
  F0 : Hp
  H0 : Hp
/-- an owned list at a -/
structure OwnAt (g : Gh) (F H : Hp) (a : Addr) (xs : List PyData) : Prop where
  ne : a ≠ g.pa
  new : g.H0 a = none
  hid : F a = none
  at_ : ∃ vs, H a = some (.lst vs) ∧ vs.length ≤ sizeLine ∧ RpAll g.K F vs xs
def SlRep (g : Gh) (F H : Hp) (u : V) : Va → Prop
  | .dat d => Rp g.K F u d
  | .own xs => ∃ a, u = .ref a ∧ OwnAt g F H a xs
  | .bor _ => False
  | .pot => u = .ref g.pa
structure Wf (g : Gh) (s : Stt) (σ : L2.St) (F H : Hp) : Prop where
  len : s.ρ.length = σ.length
  sub : Same F H
  ff : Same g.F0 F
  new : ∀ a, g.H0 a ≠ none → F a = g.F0 a
  base : ∀ a o, a ≠ g.pa → g.H0 a = some o → H a = some o
  hpa : F g.pa = none
  pot : ∃ vs, H g.pa = some (.lst vs) ∧ vs.length ≤ sizeLine ∧ RpAll g.K F vs s.S
  slots : ∀ (i : Nat) (v : Va), s.ρ[i]? = some (some v) → ∃ u, σ[i]? = some (some u) ∧ SlRep g F H u v
  sep : ∀ (i j : Nat) (xs ys : List PyData) (a : Addr), s.ρ[i]? = some (some (.own xs)) → s.ρ[j]? = some (some (.own ys)) → σ[i]? = some (some (.ref a)) → σ[j]? = some (some (.ref a)) → i = j
/-- the owned slots do not hold a -/
def Apart (s : Stt) (σ : L2.St) (a : Addr) : Prop := ∀ (i : Nat) (xs : List PyData), s.ρ[i]? = some (some (.own xs)) → σ[i]? ≠ some (some (.ref a))
/-- the value of an expression -/
def VRep (g : Gh) (s : Stt) (σ : L2.St) (F H : Hp) (u : V) : Va → Prop
  | .dat d => Rp g.K F u d
  | .own xs => ∃ a, u = .ref a ∧ OwnAt g F H a xs ∧ Apart s σ a
  | .bor xs => ∃ a vs, u = .ref a ∧ H a = some (.lst vs) ∧ vs.length ≤ sizeLine ∧ RpAll g.K F vs xs
  | .pot => u = .ref g.pa

section
variable {g : Gh} {s : Stt} {σ : L2.St} {F H F' H' : Hp}
theorem same_upd {H : Hp} {p : Addr} {o : HO} (h : H p = none) : Same H (upd H p o) := fun b x e => by
  rw [upd_ne (ne_of_none e h)]; exact e
theorem same_upd2 {F H : Hp} {p : Addr} {o : HO} (h : Same F H) : Same (L2.upd F p o) (L2.upd H p o) := fun b x e => by
  by_cases hb : b = p
  · subst hb; rw [upd_same] at e ⊢; exact e
  · rw [upd_ne hb] at e ⊢; exact h _ _ e
theorem Wf.none_of (E : Wf g s σ F H) {p : Addr} (h : H p = none) : F p = none := E.sub.free h
theorem OwnAt.keep {a : Addr} {xs : List PyData} (o : OwnAt g F H a xs) (e : Same F F') (h : F' a = none) (k : H' a = H a) : OwnAt g F' H' a xs := by
  obtain ⟨vs, e1, z, r⟩ := o.at_
  exact ⟨o.ne, o.new, h, vs, k.trans e1, z, r.mono e⟩
/-- a new object of frozen data -/
theorem Wf.alloc (E : Wf g s σ F H) {p : Addr} (hp : H p = none) (o : HO) : Wf g s σ (upd F p o) (upd H p o) := by
  have hF : F p = none := E.none_of hp
  have sF : Same F (upd F p o) := same_upd hF
  have npa : g.pa ≠ p := by
    obtain ⟨vs, e, _⟩ := E.pot
    exact ne_of_none e hp
  refine ⟨E.len, same_upd2 E.sub, E.ff.trans sF, fun a h => ?_, fun a o' h1 h2 => ?_, by rw [upd_ne npa]; exact E.hpa, ?_, fun i v e => ?_, E.sep⟩
  · have hne : a ≠ p := by
      rintro rfl
      by_cases h1 : a = g.pa
      · exact npa h1.symm
      · cases q : g.H0 a with
        | none => exact h q
        | some o' => rw [E.base a o' h1 q] at hp; cases hp
    rw [upd_ne hne]; exact E.new a h
  · have := E.base a o' h1 h2
    rw [upd_ne (ne_of_none this hp)]; exact this
  · obtain ⟨vs, e, z, r⟩ := E.pot
    exact ⟨vs, by rw [upd_ne npa]; exact e, z, r.mono sF⟩
  · obtain ⟨u, e1, r⟩ := E.slots i v e
    refine ⟨u, e1, ?_⟩
    cases v with
    | dat d => exact Rp.mono sF r
    | pot => exact r
    | bor _ => exact r
    | own xs =>
      obtain ⟨a, e2, o2⟩ := r
      obtain ⟨vs, e3, _⟩ := o2.at_
      have hne : a ≠ p := ne_of_none e3 hp
      exact ⟨a, e2, o2.keep sF (by rw [upd_ne hne]; exact o2.hid) (by rw [upd_ne hne])⟩
/-- a new object that is hidden (an owned list) -/
theorem Wf.hide (E : Wf g s σ F H) {p : Addr} (hp : H p = none) (o : HO) : Wf g s σ F (upd H p o) := by
  have npa : g.pa ≠ p := by
    obtain ⟨vs, e, _⟩ := E.pot
    exact ne_of_none e hp
  refine ⟨E.len, E.sub.trans (same_upd hp), E.ff, E.new, fun a o' h1 h2 => ?_, E.hpa, ?_, fun i v e => ?_, E.sep⟩
  · have := E.base a o' h1 h2
    rw [upd_ne (ne_of_none this hp)]; exact this
  · obtain ⟨vs, e, z, r⟩ := E.pot
    exact ⟨vs, by rw [upd_ne npa]; exact e, z, r⟩
  · obtain ⟨u, e1, r⟩ := E.slots i v e
    refine ⟨u, e1, ?_⟩
    cases v with
    | dat d => exact r
    | pot => exact r
    | bor _ => exact r
    | own xs =>
      obtain ⟨a, e2, o2⟩ := r
      obtain ⟨vs, e3, _⟩ := o2.at_
      have hne : a ≠ p := ne_of_none e3 hp
      exact ⟨a, e2, o2.keep (Same.refl _) o2.hid (by rw [upd_ne hne])⟩
/-- a new list that is owned -/
theorem Wf.own_new (E : Wf g s σ F H) {p : Addr} (hp : H p = none) {vs : List V} {xs : List PyData} (z : vs.length ≤ sizeLine) (r : RpAll g.K F vs xs) :
    Wf g s σ F (upd H p (.lst vs)) ∧ VRep g s σ F (upd H p (.lst vs)) (.ref p) (.own xs) := by
  have npa : p ≠ g.pa := by
    obtain ⟨vs, e, _⟩ := E.pot
    exact (ne_of_none e hp).symm
  have n0 : g.H0 p = none := by
    cases q : g.H0 p with
    | none => rfl
    | some o => rw [E.base p o npa q] at hp; cases hp
  refine ⟨E.hide hp _, p, rfl, ⟨npa, n0, E.none_of hp, vs, upd_same, z, r⟩, fun i ys e1 e2 => ?_⟩
  obtain ⟨u, e3, a, e4, o⟩ := E.slots i _ e1
  rw [e2] at e3; cases e3; cases e4
  obtain ⟨vs', e5, _⟩ := o.at_
  rw [hp] at e5; cases e5
/-- an owned list is frozen -/
theorem Wf.freeze (E : Wf g s σ F H) {a : Addr} {xs : List PyData} (o : OwnAt g F H a xs) (ap : Apart s σ a) :
    ∃ F', Wf g s σ F' H ∧ Same F F' ∧ Rp g.K F' (.ref a) (.list xs) := by
  obtain ⟨vs, e, z, r⟩ := o.at_
  have sF : Same F (upd F a (.lst vs)) := same_upd o.hid
  refine ⟨upd F a (.lst vs), ⟨E.len, fun b x h => ?_, E.ff.trans sF, fun b h => ?_, E.base, by rw [upd_ne o.ne.symm]; exact E.hpa, ?_, fun i v e1 => ?_, E.sep⟩, sF, .lst upd_same z (r.mono sF)⟩
  · by_cases hb : b = a
    · subst hb; rw [upd_same] at h; cases h; exact e
    · rw [upd_ne hb] at h; exact E.sub _ _ h
  · have hb : b ≠ a := by rintro rfl; exact h o.new
    rw [upd_ne hb]; exact E.new b h
  · obtain ⟨vs', e', z', r'⟩ := E.pot
    exact ⟨vs', e', z', r'.mono sF⟩
  · obtain ⟨u, e2, r2⟩ := E.slots i v e1
    refine ⟨u, e2, ?_⟩
    cases v with
    | dat d => exact Rp.mono sF r2
    | pot => exact r2
    | bor _ => exact r2
    | own ys =>
      obtain ⟨b, e3, o2⟩ := r2
      have hb : b ≠ a := by
        rintro rfl
        exact ap i ys e1 (e2.trans (by rw [e3]))
      exact ⟨b, e3, o2.keep sF (by rw [upd_ne hb]; exact o2.hid) rfl⟩
/-- a slot is forgotten -/
theorem Wf.drop (E : Wf g s σ F H) (i : Nat) : Wf g ⟨s.ρ.set i none, s.S⟩ σ F H := by
  have key : ∀ (j : Nat) (v : Va), (s.ρ.set i none)[j]? = some (some v) → s.ρ[j]? = some (some v) ∧ j ≠ i := fun j v e => by
    by_cases hj : i = j
    · subst hj
      by_cases hl : i < s.ρ.length
      · rw [List.getElem?_set_self hl] at e; cases e
      · rw [List.getElem?_eq_none (by simpa using hl)] at e; cases e
    · rw [List.getElem?_set_ne hj] at e
      exact ⟨e, fun h => hj h.symm⟩
  exact ⟨by simpa using E.len, E.sub, E.ff, E.new, E.base, E.hpa, E.pot, fun j v e => E.slots j v (key j v e).1, fun i' j' xs ys a h1 h2 => E.sep i' j' xs ys a (key _ _ h1).1 (key _ _ h2).1⟩
/-- an owned list is taken out of its slot -/
theorem Wf.move (E : Wf g s σ F H) {i : Nat} {xs : List PyData} (e : s.ρ[i]? = some (some (.own xs))) :
    ∃ a, σ[i]? = some (some (.ref a)) ∧ Wf g ⟨s.ρ.set i none, s.S⟩ σ F H ∧ VRep g ⟨s.ρ.set i none, s.S⟩ σ F H (.ref a) (.own xs) := by
  obtain ⟨u, e1, a, e2, o⟩ := E.slots i _ e
  subst e2
  refine ⟨a, e1, E.drop i, a, rfl, o, fun j ys e3 e4 => ?_⟩
  have hj : j ≠ i := by
    rintro rfl
    by_cases hl : j < s.ρ.length
    · rw [List.getElem?_set_self hl] at e3; cases e3
    · rw [List.getElem?_eq_none (by simpa using hl)] at e3; cases e3
  rw [List.getElem?_set_ne (Ne.symm hj)] at e3
  exact hj (E.sep j i ys xs a e3 e e4 e1)
/-- a value goes into a slot -/
theorem Wf.store (E : Wf g s σ F H) {i : Nat} {u : V} {v : Va} (hi : i < σ.length) (r : VRep g s σ F H u v) (nb : ∀ xs, v ≠ .bor xs) : Wf g ⟨s.ρ.set i (some v), s.S⟩ (σ.set i (some u)) F H := by
  have hr : i < s.ρ.length := by rw [E.len]; exact hi
  refine ⟨by simpa using E.len, E.sub, E.ff, E.new, E.base, E.hpa, E.pot, fun j w e => ?_, fun j k xs ys a e1 e2 e3 e4 => ?_⟩
  · by_cases hj : i = j
    · subst hj
      rw [List.getElem?_set_self hr] at e
      cases e
      refine ⟨u, List.getElem?_set_self hi, ?_⟩
      cases v with
      | dat d => exact r
      | pot => exact r
      | bor xs => exact absurd rfl (nb xs)
      | own xs => obtain ⟨a, e, o, _⟩ := r; exact ⟨a, e, o⟩
    · rw [List.getElem?_set_ne hj] at e ⊢
      exact E.slots j w e
  · by_cases hj : i = j
    · by_cases hk : i = k
      · exact hj.symm.trans hk
      · subst hj
        rw [List.getElem?_set_self hr] at e1
        rw [List.getElem?_set_self hi] at e3
        rw [List.getElem?_set_ne hk] at e2 e4
        cases e1; cases e3
        obtain ⟨b, e5, o, ap⟩ := r
        cases e5
        exact absurd e4 (ap k ys e2)
    · rw [List.getElem?_set_ne hj] at e1 e3
      by_cases hk : i = k
      · subst hk
        rw [List.getElem?_set_self hr] at e2
        rw [List.getElem?_set_self hi] at e4
        cases e2; cases e4
        obtain ⟨b, e5, o, ap⟩ := r
        cases e5
        exact absurd e3 (ap j xs e1)
      · rw [List.getElem?_set_ne hk] at e2 e4
        exact E.sep j k xs ys a e1 e2 e3 e4
/-- the content of an owned slot changes -/
theorem Wf.write (E : Wf g s σ F H) {i : Nat} {xs ys : List PyData} {a : Addr} {vs : List V} (e : s.ρ[i]? = some (some (.own xs))) (ha : σ[i]? = some (some (.ref a))) (z : vs.length ≤ sizeLine) (r : RpAll g.K F vs ys) :
    Wf g ⟨s.ρ.set i (some (.own ys)), s.S⟩ σ F (upd H a (.lst vs)) := by
  obtain ⟨u, e1, b, e2, o⟩ := E.slots i _ e
  subst e2
  rw [ha] at e1
  cases e1
  have hr : i < s.ρ.length := (List.getElem?_eq_some_iff.mp e).1
  have sH : ∀ c, c ≠ a → (upd H a (.lst vs)) c = H c := fun c hc => upd_ne hc
  refine ⟨by simpa using E.len, fun c x h => ?_, E.ff, E.new, fun c x h1 h2 => ?_, E.hpa, ?_, fun j w e3 => ?_, fun j k xs' ys' c e1 e2 e3 e4 => ?_⟩
  · have hc : c ≠ a := by rintro rfl; rw [o.hid] at h; cases h
    rw [sH c hc]; exact E.sub _ _ h
  · have hc : c ≠ a := by rintro rfl; rw [o.new] at h2; cases h2
    rw [sH c hc]; exact E.base c x h1 h2
  · obtain ⟨vs', e', z', r'⟩ := E.pot
    exact ⟨vs', by rw [sH _ o.ne.symm]; exact e', z', r'⟩
  · by_cases hj : i = j
    · subst hj
      rw [List.getElem?_set_self hr] at e3
      cases e3
      exact ⟨.ref a, ha, a, rfl, ⟨o.ne, o.new, o.hid, vs, upd_same, z, r⟩⟩
    · rw [List.getElem?_set_ne hj] at e3
      obtain ⟨u, e4, r4⟩ := E.slots j w e3
      refine ⟨u, e4, ?_⟩
      cases w with
      | dat d => exact r4
      | pot => exact r4
      | bor _ => exact r4
      | own zs =>
        obtain ⟨b, e5, o2⟩ := r4
        subst e5
        have hb : b ≠ a := by
          rintro rfl
          exact hj (E.sep i j xs zs b e e3 ha e4)
        exact ⟨b, rfl, o2.keep (Same.refl _) o2.hid (sH b hb)⟩
  · have key : ∀ (j : Nat) (zs : List PyData), (s.ρ.set i (some (.own ys)))[j]? = some (some (.own zs)) → ∃ zs', s.ρ[j]? = some (some (.own zs')) := fun j zs h => by
      by_cases hj : i = j
      · subst hj; exact ⟨_, e⟩
      · rw [List.getElem?_set_ne hj] at h; exact ⟨_, h⟩
    obtain ⟨_, q1⟩ := key j _ e1
    obtain ⟨_, q2⟩ := key k _ e2
    exact E.sep j k _ _ c q1 q2 e3 e4
/-- the pot's content changes -/
theorem Wf.potW (E : Wf g s σ F H) {S' : List PyData} {vs : List V} (z : vs.length ≤ sizeLine) (r : RpAll g.K F vs S') : Wf g ⟨s.ρ, S'⟩ σ F (upd H g.pa (.lst vs)) := by
  refine ⟨E.len, fun c x h => ?_, E.ff, E.new, fun c x h1 h2 => ?_, E.hpa, ⟨vs, upd_same, z, r⟩, fun j w e3 => ?_, E.sep⟩
  · have hc : c ≠ g.pa := by rintro rfl; rw [E.hpa] at h; cases h
    rw [upd_ne hc]; exact E.sub _ _ h
  · rw [upd_ne h1]; exact E.base c x h1 h2
  · obtain ⟨u, e4, r4⟩ := E.slots j w e3
    refine ⟨u, e4, ?_⟩
    cases w with
    | dat d => exact r4
    | pot => exact r4
    | bor _ => exact r4
    | own zs =>
      obtain ⟨b, e5, o2⟩ := r4
      exact ⟨b, e5, o2.keep (Same.refl _) o2.hid (upd_ne o2.ne)⟩

/-! ### a nested entry: what is not owned stays -/
open Classical in
/-- the heap without what the owned slots hold -/
noncomputable def strip (s : Stt) (σ : L2.St) (H : Hp) : Hp := fun a => if (∃ (i : Nat) (xs : List PyData), s.ρ[i]? = some (some (.own xs)) ∧ σ[i]? = some (some (.ref a))) then none else H a
noncomputable def Gh.sub (g : Gh) (s : Stt) (σ : L2.St) (F H : Hp) : Gh := ⟨g.K, g.mg, g.pa, F, strip s σ H⟩
theorem Wf.strip (E : Wf g s σ F H) : Wf (g.sub s σ F H) s σ F H := by
  refine ⟨E.len, E.sub, Same.refl _, fun _ _ => rfl, fun a o h1 h2 => ?_, E.hpa, E.pot, fun i v e => ?_, E.sep⟩
  · have h2 : Ev.strip s σ H a = some o := h2
    unfold Ev.strip at h2
    split at h2
    · cases h2
    · exact h2
  · obtain ⟨u, e1, r⟩ := E.slots i v e
    refine ⟨u, e1, ?_⟩
    cases v with
    | dat d => exact r
    | pot => exact r
    | bor _ => exact r
    | own xs =>
      obtain ⟨a, e2, o⟩ := r
      subst e2
      refine ⟨a, rfl, o.ne, ?_, o.hid, o.at_⟩
      show Ev.strip s σ H a = none
      unfold Ev.strip
      rw [if_pos ⟨i, xs, e, e1⟩]
theorem strip_of (E : Wf g s σ F H) {a : Addr} {o : HO} (ha : a ≠ g.pa) (h : g.H0 a = some o) : Ev.strip s σ H a = some o := by
  unfold Ev.strip
  rw [if_neg, E.base a o ha h]
  rintro ⟨i, xs, e1, e2⟩
  obtain ⟨u, e3, b, e4, ow⟩ := E.slots i _ e1
  rw [e2] at e3; cases e3; cases e4
  have := ow.new
  rw [h] at this; cases this
theorem new_of (E : Wf g s σ F H) {a : Addr} (ha : a ≠ g.pa) (h : Ev.strip s σ H a = none) : g.H0 a = none := by
  cases q : g.H0 a with
  | none => rfl
  | some o => rw [strip_of E ha q] at h; cases h
theorem Wf.unstrip {s' : Stt} {σ' : L2.St} (E : Wf g s σ F H) (E' : Wf (g.sub s σ F H) s' σ' F' H') : Wf g s' σ' F' H' := by
  refine ⟨E'.len, E'.sub, E.ff.trans E'.ff, fun a h => ?_, fun a o h1 h2 => E'.base a o h1 (strip_of E h1 h2), E'.hpa, E'.pot, fun i v e => ?_, E'.sep⟩
  · by_cases ha : a = g.pa
    · subst ha
      have z : F' g.pa = none := E'.hpa
      rw [z]
      exact ((E.ff.free E.hpa)).symm
    · cases q : g.H0 a with
      | none => exact absurd q h
      | some o =>
        have : F' a = F a := E'.new a (by
          show Ev.strip s σ H a ≠ none
          rw [strip_of E ha q]; exact fun z => nomatch z)
        rw [this]
        exact E.new a h
  · obtain ⟨u, e1, r⟩ := E'.slots i v e
    refine ⟨u, e1, ?_⟩
    cases v with
    | dat d => exact r
    | pot => exact r
    | bor _ => exact r
    | own xs =>
      obtain ⟨a, e2, o⟩ := r
      exact ⟨a, e2, o.ne, new_of E o.ne o.new, o.hid, o.at_⟩
theorem VRep.unstrip {s' : Stt} {σ' : L2.St} {u : V} {v : Va} (E : Wf g s σ F H) (r : VRep (g.sub s σ F H) s' σ' F' H' u v) : VRep g s' σ' F' H' u v := by
  cases v with
  | dat d => exact r
  | pot => exact r
  | bor _ => exact r
  | own xs =>
    obtain ⟨a, e2, o, ap⟩ := r
    exact ⟨a, e2, ⟨o.ne, new_of E o.ne o.new, o.hid, o.at_⟩, ap⟩
/-- what stands and is not owned stays behind a nested entry -/
theorem Wf.stays {s' : Stt} {σ' : L2.St} (E : Wf g s σ F H) (E' : Wf (g.sub s σ F H) s' σ' F' H') {a : Addr} {o : HO} (ha : a ≠ g.pa) (h : H a = some o) (ap : Apart s σ a) : H' a = some o := by
  refine E'.base a o ha ?_
  show Ev.strip s σ H a = some o
  unfold Ev.strip
  rw [if_neg, h]
  rintro ⟨i, xs, e1, e2⟩
  exact ap i xs e1 e2
end
end Ev

namespace Ev
open PySem PySem.Spec PyProof.Rows L2

/-! ## denotations and what is wanted of them -/
abbrev De (α : Type) := Stt → Res α
/-- an exception as it lies -/
def XRep (g : Gh) (F : Hp) (x : Exn) (cls : Value) (d : Option Addr) : Prop :=
  ∃ C, g.mg x.cls = some (.ref C) ∧ cls = .ref C ∧ ((x.fs = [] ∧ d = none) ∨ ∃ dd vs, d = some dd ∧ F dd = some (.xd vs) ∧ vs.map (·.1) = x.fs.map (·.1) ∧ RpAll g.K F (vs.map (·.2)) (x.fs.map (·.2)))
def Post {α : Type} (g : Gh) (W : WX) (σ : L2.St) (F : Hp) (r : Res α) (k : α → Stt → Hp → Hp → Prop) : Prop :=
  match r with
  | .ok a s => ∀ F' H', Wf g s σ F' H' → Same F F' → k a s F' H'
  | .exc x s => ∀ F' H' cls d, Wf g s σ F' H' → Same F F' → XRep g F' x cls d → W cls d σ H'
  | .bad => False
section
variable {α β : Type} {g : Gh} {W : WX} {σ : L2.St} {F F' H : Hp}
theorem Post.mono {r : Res α} {k : α → Stt → Hp → Hp → Prop} (e : Same F F') (p : Post g W σ F r k) : Post g W σ F' r k := by
  cases r with
  | ok a s => exact fun F1 H1 w m => p F1 H1 w (e.trans m)
  | exc x s => exact fun F1 H1 cls d w m => p F1 H1 cls d w (e.trans m)
  | bad => exact p
theorem Post.imp {r : Res α} {k k' : α → Stt → Hp → Hp → Prop} (p : Post g W σ F r k) (h : ∀ a s F' H', Wf g s σ F' H' → Same F F' → k a s F' H' → k' a s F' H') : Post g W σ F r k' := by
  cases r with
  | ok a s => exact fun F1 H1 w m => h a s F1 H1 w m (p F1 H1 w m)
  | exc x s => exact p
  | bad => exact p
theorem Post.bind {r : Res α} {h : α → Stt → Res β} {k : β → Stt → Hp → Hp → Prop} (p : Post g W σ F (r.bind h) k) : Post g W σ F r fun a s F' _ => Post g W σ F' (h a s) k := by
  cases r with
  | ok a s => exact fun F1 H1 w m => Post.mono m p
  | exc x s => exact p
  | bad => exact p
end

def tE (K : PySem.W.Frag) (mg : Str → Option Value) (W : WX) (f : De Va) : TE := fun σ H Q =>
  ∃ g s F, g.K = K ∧ g.mg = mg ∧ Wf g s σ F H ∧ Post g W σ F (f s) fun v s' F' H' => ∀ u, VRep g s' σ F' H' u v → Q u H'
def tT (K : PySem.W.Frag) (mg : Str → Option Value) (W : WX) (f : De Bool) : TT := fun σ H Q =>
  ∃ g s F, g.K = K ∧ g.mg = mg ∧ Wf g s σ F H ∧ Post g W σ F (f s) fun b _ _ H' => Q b H'
/-- an argument: data, or the pot -/
def ARep (g : Gh) (F : Hp) (u : V) : Va → Prop
  | .dat d => Rp g.K F u d
  | .pot => u = .ref g.pa
  | _ => False
def AReps (g : Gh) (F : Hp) : List V → List Va → Prop
  | [], [] => True
  | u :: us, v :: vs => ARep g F u v ∧ AReps g F us vs
  | _, _ => False
def tA (K : PySem.W.Frag) (mg : Str → Option Value) (W : WX) (f : De (List Va)) : TA := fun σ H Q =>
  ∃ g s F, g.K = K ∧ g.mg = mg ∧ Wf g s σ F H ∧ Post g W σ F (f s) fun vs _ F' H' => ∀ us, AReps g F' us vs → Q us H'
theorem ARep.mono {g : Gh} {F F' : Hp} {u : V} {v : Va} (e : Same F F') (r : ARep g F u v) : ARep g F' u v := by
  cases v with
  | dat d => exact Rp.mono e r
  | pot => exact r
  | own _ => exact r
  | bor _ => exact r
theorem AReps.mono {g : Gh} {F F' : Hp} (e : Same F F') : ∀ {us : List V} {vs : List Va}, AReps g F us vs → AReps g F' us vs
  | [], [], _ => trivial
  | _ :: _, _ :: _, ⟨a, b⟩ => ⟨a.mono e, AReps.mono e b⟩
  | [], _ :: _, h => h
  | _ :: _, [], h => h

theorem PE.by {X : Cx} {e : Expr} {t : TE} (h : ∀ pins s σ H Q, Inv X pins σ H s → t σ H Q → ∃ t', PE X e t' ∧ t' σ H Q) : PE X e t :=
  ⟨fun pins s σ H Q I q => by obtain ⟨t', p, q'⟩ := h pins s σ H Q I q; exact p.run pins s σ H Q I q'⟩
theorem PT.by {X : Cx} {e : Expr} {t : TT} (h : ∀ pins s σ H Q, Inv X pins σ H s → t σ H Q → ∃ t', PT X e t' ∧ t' σ H Q) : PT X e t :=
  ⟨fun pins s σ H Q I q => by obtain ⟨t', p, q'⟩ := h pins s σ H Q I q; exact p.run pins s σ H Q I q'⟩
theorem PW.by {X : Cx} {e : Expr} {t : TT} (h : ∀ pins s σ H Q, Inv X pins σ H s → t σ H Q → ∃ t', PW X e t' ∧ t' σ H Q) : PW X e t :=
  ⟨fun whole pins s σ H Q I q => by obtain ⟨t', p, q'⟩ := h pins s σ H Q I q; exact p.run whole pins s σ H Q I q'⟩
theorem PA.by {X : Cx} {es : List Expr} {t : TA} (h : ∀ pins s σ H Q, Inv X pins σ H s → t σ H Q → ∃ t', PA X es t' ∧ t' σ H Q) : PA X es t :=
  ⟨fun pos pins s σ H Q I q => by obtain ⟨t', p, q'⟩ := h pins s σ H Q I q; exact p.run pos pins s σ H Q I q'⟩
theorem PS.by {X : Cx} {st : Stmt} {t : TS} (h : ∀ pins s σ H D, Inv X pins σ H s → t D σ H → ∃ t', PS X st t' ∧ t' D σ H) : PS X st t :=
  ⟨fun pins s σ H D I q => by obtain ⟨t', p, q'⟩ := h pins s σ H D I q; exact p.run pins s σ H D I q'⟩
theorem PSs.by {X : Cx} {st : List Stmt} {t : TS} (h : ∀ pins s σ H D, Inv X pins σ H s → t D σ H → ∃ t', PSs X st t' ∧ t' D σ H) : PSs X st t :=
  ⟨fun pins s σ H D I q => by obtain ⟨t', p, q'⟩ := h pins s σ H D I q; exact p.run pins s σ H D I q'⟩

/-! ## freezing -/
def frz : Va → De PyData := fun v s => match v with
  | .dat d => .ok d s
  | .own xs => .ok (.list xs) s
  | _ => .bad
/-- an expression as data -/
def dFrz (f : De Va) : De PyData := fun s => (f s).bind frz
section
variable {K : PySem.W.Frag} {mg : Str → Option Value} {W : WX} {σ : L2.St} {F H : Hp} {g : Gh} {s : Stt} {β : Type}
/-- an expression runs, its value is frozen -/
theorem tE_frz {f : De Va} {h : PyData → De β} {k : β → Stt → Hp → Hp → Prop} {R : VK} (hK : g.K = K) (hm : g.mg = mg) (w : Wf g s σ F H) (p : Post g W σ F ((dFrz f s).bind h) k)
    (c : ∀ d s1 F1 H1 u, Wf g s1 σ F1 H1 → Same F F1 → Rp g.K F1 u d → Post g W σ F1 (h d s1) k → R u H1) : tE K mg W f σ H R := by
  refine ⟨g, s, F, hK, hm, w, ?_⟩
  unfold dFrz at p
  have p1 := p.bind
  have p2 : Post g W σ F (f s) fun a s F' _ => Post g W σ F' (frz a s) fun d s F'' _ => Post g W σ F'' (h d s) k := p1.bind
  refine p2.imp fun v s1 F1 H1 w1 m1 q u r => ?_
  cases v with
  | dat d => exact c d s1 F1 H1 u w1 m1 r (q F1 H1 w1 (Same.refl _))
  | own xs =>
    obtain ⟨a, rfl, o, ap⟩ := r
    obtain ⟨F2, w2, m2, r2⟩ := w1.freeze o ap
    exact c _ s1 F2 H1 _ w2 (m1.trans m2) r2 (q F2 H1 w2 m2)
  | bor _ => exact q.elim
  | pot => exact q.elim
/-- an expression runs -/
theorem tE_run {f : De Va} {h : Va → De β} {k : β → Stt → Hp → Hp → Prop} {R : VK} (hK : g.K = K) (hm : g.mg = mg) (w : Wf g s σ F H) (p : Post g W σ F ((f s).bind h) k)
    (c : ∀ v s1 F1 H1 u, Wf g s1 σ F1 H1 → Same F F1 → VRep g s1 σ F1 H1 u v → Post g W σ F1 (h v s1) k → R u H1) : tE K mg W f σ H R := by
  refine ⟨g, s, F, hK, hm, w, ?_⟩
  exact p.bind.imp fun v s1 F1 H1 w1 m1 q u r => c v s1 F1 H1 u w1 m1 r q
theorem tT_run {f : De Bool} {h : Bool → De β} {k : β → Stt → Hp → Hp → Prop} {R : Bool → Hp → Prop} (hK : g.K = K) (hm : g.mg = mg) (w : Wf g s σ F H) (p : Post g W σ F ((f s).bind h) k)
    (c : ∀ b s1 F1 H1, Wf g s1 σ F1 H1 → Same F F1 → Post g W σ F1 (h b s1) k → R b H1) : tT K mg W f σ H R := by
  refine ⟨g, s, F, hK, hm, w, ?_⟩
  exact p.bind.imp fun v s1 F1 H1 w1 m1 q => c v s1 F1 H1 w1 m1 q
theorem tA_run {f : De (List Va)} {h : List Va → De β} {k : β → Stt → Hp → Hp → Prop} {R : List V → Hp → Prop} (hK : g.K = K) (hm : g.mg = mg) (w : Wf g s σ F H) (p : Post g W σ F ((f s).bind h) k)
    (c : ∀ vs s1 F1 H1 us, Wf g s1 σ F1 H1 → Same F F1 → AReps g F1 us vs → Post g W σ F1 (h vs s1) k → R us H1) : tA K mg W f σ H R := by
  refine ⟨g, s, F, hK, hm, w, ?_⟩
  exact p.bind.imp fun v s1 F1 H1 w1 m1 q u r => c v s1 F1 H1 u w1 m1 r q
end

/-! ## names and constants -/
def dVar (i : Nat) : De Va := fun s => match s.ρ[i]? with
  | some (some (.dat d)) => .ok (.dat d) s
  | some (some (.own xs)) => .ok (.dat (.list xs)) ⟨s.ρ.set i (some (.dat (.list xs))), s.S⟩
  | some (some .pot) => .ok .pot s
  | _ => .bad
def dPeek (i : Nat) : De Va := fun s => match s.ρ[i]? with
  | some (some (.dat d)) => .ok (.dat d) s
  | some (some (.own xs)) => .ok (.bor xs) s
  | some (some .pot) => .ok .pot s
  | _ => .bad
def dMv (i : Nat) : De Va := fun s => match s.ρ[i]? with
  | some (some (.dat d)) => .ok (.dat d) s
  | some (some (.own xs)) => .ok (.own xs) ⟨s.ρ.set i none, s.S⟩
  | some (some .pot) => .ok .pot s
  | _ => .bad
theorem set_self {l : List (Option V)} {i : Nat} {u : V} (h : l[i]? = some (some u)) : l.set i (some u) = l := by
  obtain ⟨hi, e⟩ := List.getElem?_eq_some_iff.mp h
  exact List.ext_getElem? fun j => by
    by_cases hj : i = j
    · subst hj; rw [List.getElem?_set_self hi, h]
    · rw [List.getElem?_set_ne hj]
section
variable {X : Cx} {mg : Str → Option Value} {W : WX} {i : Nat} {x : Str} {pos : Pos}
theorem pe_dVar (hN : X.N[i]? = some x) (hv : Vis X.env.scope x) (hd : (x == ("__debug__" : Str)) = false) (hcd : (x == ("__classdict__" : Str)) = false) : PE X (.Name x pos) (tE X.K mg W (dVar i)) := by
  refine PE.by fun pins s₀ σ H Q I q => ⟨_, pe_var hN hv hd hcd, ?_⟩
  obtain ⟨g, s, F, hK, hm, w, p⟩ := q
  unfold dVar at p
  split at p
  · rename_i d e
    obtain ⟨u, e1, r⟩ := w.slots i _ e
    exact ⟨u, e1, p F H w (Same.refl _) u r⟩
  · rename_i xs e
    obtain ⟨a, e1, w1, a', e2, o, ap⟩ := w.move e
    cases e2
    obtain ⟨F2, w2, m2, r2⟩ := w1.freeze o ap
    have hi : i < σ.length := (List.getElem?_eq_some_iff.mp e1).1
    have w3 := w2.store (i := i) (v := .dat (.list xs)) hi r2 (fun _ z => nomatch z)
    have e3 : (s.ρ.set i none).set i (some (Va.dat (.list xs))) = s.ρ.set i (some (Va.dat (.list xs))) := by rw [List.set_set]
    rw [set_self e1] at w3
    simp only [e3] at w3
    exact ⟨_, e1, p F2 H w3 m2 _ r2⟩
  · rename_i e
    obtain ⟨u, e1, r⟩ := w.slots i _ e
    exact ⟨u, e1, p F H w (Same.refl _) u r⟩
  · exact p.elim
theorem pe_dPeek (hN : X.N[i]? = some x) (hv : Vis X.env.scope x) (hd : (x == ("__debug__" : Str)) = false) (hcd : (x == ("__classdict__" : Str)) = false) : PE X (.Name x pos) (tE X.K mg W (dPeek i)) := by
  refine PE.by fun pins s₀ σ H Q I q => ⟨_, pe_var hN hv hd hcd, ?_⟩
  obtain ⟨g, s, F, hK, hm, w, p⟩ := q
  unfold dPeek at p
  split at p
  · rename_i d e
    obtain ⟨u, e1, r⟩ := w.slots i _ e
    exact ⟨u, e1, p F H w (Same.refl _) u r⟩
  · rename_i xs e
    obtain ⟨u, e1, a, e2, o⟩ := w.slots i _ e
    obtain ⟨vs, e3, z, r⟩ := o.at_
    exact ⟨u, e1, p F H w (Same.refl _) u ⟨a, vs, e2, e3, z, r⟩⟩
  · rename_i e
    obtain ⟨u, e1, r⟩ := w.slots i _ e
    exact ⟨u, e1, p F H w (Same.refl _) u r⟩
  · exact p.elim
theorem pe_dMv (hN : X.N[i]? = some x) (hv : Vis X.env.scope x) (hd : (x == ("__debug__" : Str)) = false) (hcd : (x == ("__classdict__" : Str)) = false) : PE X (.Name x pos) (tE X.K mg W (dMv i)) := by
  refine PE.by fun pins s₀ σ H Q I q => ⟨_, pe_var hN hv hd hcd, ?_⟩
  obtain ⟨g, s, F, hK, hm, w, p⟩ := q
  unfold dMv at p
  split at p
  · rename_i d e
    obtain ⟨u, e1, r⟩ := w.slots i _ e
    exact ⟨u, e1, p F H w (Same.refl _) u r⟩
  · rename_i xs e
    obtain ⟨a, e1, w1, r⟩ := w.move e
    exact ⟨_, e1, p F H w1 (Same.refl _) _ r⟩
  · rename_i e
    obtain ⟨u, e1, r⟩ := w.slots i _ e
    exact ⟨u, e1, p F H w (Same.refl _) u r⟩
  · exact p.elim
end
def dC (d : PyData) : De Va := fun s => .ok (.dat d) s
section
variable {X : Cx} {mg : Str → Option Value} {W : WX} {pos : Pos} {j : Nat}
theorem pe_dC {e : Expr} {v : V} {d : PyData} (h : PE X e (tC v)) (r : ∀ F, Rp X.K F v d) : PE X e (tE X.K mg W (dC d)) := by
  refine PE.by fun pins s₀ σ H Q I q => ⟨_, h, ?_⟩
  obtain ⟨g, s, F, hK, hm, w, p⟩ := q
  exact p F H w (Same.refl _) v (by show Rp g.K F v d; rw [hK]; exact r F)
theorem pe_dInt {i : Int} : PE X (.Constant (.int i) j pos) (tE X.K mg W (dC (.int i))) := pe_dC pe_int fun _ => .int _
theorem pe_dBl {b : Bool} : PE X (.Constant (.bool b) j pos) (tE X.K mg W (dC (.bool b))) := pe_dC pe_bl fun _ => .bl _
theorem pe_dNon : PE X (.Constant .none j pos) (tE X.K mg W (dC .none)) := pe_dC pe_non fun _ => .non
theorem pe_dStr {x : Str} (h : okS x = true) : PE X (.Constant (.str x) j pos) (tE X.K mg W (dC (.str x))) := pe_dC pe_str fun _ => .str h
end
end Ev

namespace Ev
open PySem PySem.Spec PyProof.Rows L2

/-! ## values as data for a look -/
def valD : Va → Option PyData
  | .dat d => some d
  | .own xs => some (.list xs)
  | .bor xs => some (.list xs)
  | .pot => none
section
variable {g : Gh} {s : Stt} {σ : L2.St} {F H : Hp} {u : V}
theorem VRep.look {v : Va} {d : PyData} (w : Wf g s σ F H) (r : VRep g s σ F H u v) (e : valD v = some d) : ∀ K' : PySem.W.Frag, K' = g.K → Rp K' H u d := by
  have key : ∀ (a : Addr) (vs : List V) (xs : List PyData), H a = some (.lst vs) → vs.length ≤ sizeLine → RpAll g.K F vs xs → Rp g.K H (.ref a) (.list xs) := fun a vs xs h z r => .lst h z (r.mono w.sub)
  intro K' hK
  subst hK
  cases v with
  | dat d' =>
    cases (show some d' = some d from e)
    exact Rp.mono w.sub r
  | own xs =>
    cases e
    obtain ⟨a, rfl, o, ap⟩ := r
    obtain ⟨vs, e1, z, r1⟩ := o.at_
    exact key a vs xs e1 z r1
  | bor xs =>
    cases e
    obtain ⟨a, vs, rfl, e1, z, r1⟩ := r
    exact key a vs xs e1 z r1
  | pot => cases e
end

/-! ## two-place operations -/
def bopI (o : Operator) (i j : Int) : Option Int :=
  match o with
  | .Add => some (i + j)
  | .Sub => some (i - j)
  | .Mult => if (-(2 ^ 64) < i ∧ i < 2 ^ 64) ∨ (-(2 ^ 64) < j ∧ j < 2 ^ 64) then some (i * j) else none
  | .FloorDiv => if 0 < j ∧ j < 1073741824 then some (i / j) else none
  | .Mod => if 0 < j then some (i % j) else none
  | .Pow => if 0 ≤ j ∧ j ≤ 1000000 ∧ i.natAbs < 2 ^ 64 then some (i ^ j.toNat) else none
  | .LShift => if 0 ≤ j ∧ j ≤ 1000000 ∧ i.natAbs < 2 ^ 64 then some (i * 2 ^ j.toNat) else none
  | .RShift => if 0 ≤ j then some (i / 2 ^ j.toNat) else none
  | .BitAnd => some (Builtin.bitAnd i j)
  | .BitOr => some (Builtin.bitOr i j)
  | .BitXor => some (Builtin.bitXor i j)
  | _ => none
def bopD (o : Operator) : PyData → PyData → Option Va
  | .int i, .int j => (bopI o i j).map fun k => .dat (.int k)
  | .str x, .str y => match o with
    | .Add => if x.length + y.length ≤ 16777216 then some (.dat (.str (x ++ y))) else none
    | _ => none
  | .tuple xs, .tuple ys => match o with
    | .Add => if xs.length + ys.length ≤ 16777216 then some (.dat (.tuple (xs ++ ys))) else none
    | _ => none
  | .list xs, .list ys => match o with
    | .Add => if xs.length + ys.length ≤ 16777216 then some (.own (xs ++ ys)) else none
    | _ => none
  | .list xs, .int k => match o with
    | .Mult => if -(2 ^ 63) ≤ k ∧ k < 2 ^ 63 ∧ xs.length * k.toNat ≤ 16777216 then some (.own (List.replicate k.toNat xs).flatten) else none
    | _ => none
  | _, _ => none
theorem okS_append {x y : Str} (hx : okS x = true) (hy : okS y = true) (z : x.length + y.length ≤ 16777216) : okS (x ++ y) = true := by
  unfold okS at *
  simp only [Bool.and_eq_true, decide_eq_true_eq] at *
  refine ⟨?_, ?_⟩
  · have a := hx.1
    have b := hy.1
    unfold PyData.strOk at *
    show (x.cps ++ y.cps).all _ = true
    rw [Array.all_append, a, b]; rfl
  · show (x.cps ++ y.cps).size ≤ _
    rw [Array.size_append]; exact z
theorem okS_len {x : Str} (h : okS x = true) : x.length ≤ sizeLine := by
  rw [sizeLine_eq]; exact of_decide_eq_true (Bool.and_eq_true_iff.mp h).2
section
variable {X : Cx}
/-- an int's operation -/
theorem bopI_ok {o : Operator} {i j k : Int} (h : bopI o i j = some k) : ∃ r : R2, OpR X (binaryOp o) r ∧ ∀ (H : Hp) (Q : VK), Q (.int k) H → r (.int i) (.int j) H Q := by
  cases o with
  | Add => cases h; exact ⟨_, op_add, fun H Q q => ⟨_, _, rfl, rfl, q⟩⟩
  | Sub => cases h; exact ⟨_, op_sub, fun H Q q => ⟨_, _, rfl, rfl, q⟩⟩
  | Mult =>
    unfold bopI at h; dsimp only at h
    split at h
    · rename_i c; cases h; exact ⟨_, op_mul, fun H Q q => ⟨_, _, rfl, rfl, c, q⟩⟩
    · cases h
  | FloorDiv =>
    unfold bopI at h; dsimp only at h
    split at h
    · rename_i c; cases h; exact ⟨_, op_fdiv, fun H Q q => ⟨_, _, rfl, rfl, c, q⟩⟩
    · cases h
  | Mod =>
    unfold bopI at h; dsimp only at h
    split at h
    · rename_i c; cases h; exact ⟨_, op_mod, fun H Q q => ⟨_, _, rfl, rfl, c, q⟩⟩
    · cases h
  | Pow =>
    unfold bopI at h; dsimp only at h
    split at h
    · rename_i c; cases h; exact ⟨_, op_pow, fun H Q q => ⟨_, _, rfl, rfl, c, q⟩⟩
    · cases h
  | LShift =>
    unfold bopI at h; dsimp only at h
    split at h
    · rename_i c; cases h; exact ⟨_, op_shl, fun H Q q => ⟨_, _, rfl, rfl, c, q⟩⟩
    · cases h
  | RShift =>
    unfold bopI at h; dsimp only at h
    split at h
    · rename_i c; cases h; exact ⟨_, op_shr, fun H Q q => ⟨_, _, rfl, rfl, c, q⟩⟩
    · cases h
  | BitAnd => cases h; exact ⟨_, op_and, fun H Q q => ⟨_, _, rfl, rfl, q⟩⟩
  | BitOr => cases h; exact ⟨_, op_or, fun H Q q => ⟨_, _, rfl, rfl, q⟩⟩
  | BitXor => cases h; exact ⟨_, op_xor, fun H Q q => ⟨_, _, rfl, rfl, q⟩⟩
  | _ => cases h
theorem RpAll.rep {K : PySem.W.Frag} {F : Hp} {ds : List PyData} {vs : List V} (r : RpAll K F vs ds) : ∀ k : Nat, RpAll K F (List.replicate k vs).flatten (List.replicate k ds).flatten
  | 0 => .nil
  | k + 1 => by
    rw [List.replicate_succ, List.replicate_succ, List.flatten_cons, List.flatten_cons]
    exact RpAll.append r (RpAll.rep r k)
theorem len_rep {α : Type} (xs : List α) : ∀ k : Nat, (List.replicate k xs).flatten.length = xs.length * k
  | 0 => by simp
  | k + 1 => by rw [List.replicate_succ, List.flatten_cons, List.length_append, len_rep xs k, Nat.mul_succ, Nat.add_comm]
theorem bopD_ok {o : Operator} {a b : PyData} {v : Va} (h : bopD o a b = some v) : ∃ r : R2, OpR X (binaryOp o) r ∧ ∀ (g : Gh) (s : Stt) (σ : L2.St) (F H : Hp) (x y : V) (Q : VK), g.K = X.K → Wf g s σ F H → Rp g.K F x a → Rp g.K F y b →
    (∀ F' H' u, Wf g s σ F' H' → Same F F' → VRep g s σ F' H' u v → Q u H') → r x y H Q := by
  unfold bopD at h
  split at h
  · rename_i i j
    obtain ⟨k, e, rfl⟩ := Option.map_eq_some_iff.mp h
    obtain ⟨r, ho, hr⟩ := bopI_ok (X := X) e
    refine ⟨r, ho, fun g s σ F H x y Q hK w rx ry q => ?_⟩
    cases rx; cases ry
    exact hr H Q (q F H _ w (Same.refl _) (.int k))
  · rename_i x y
    split at h
    · split at h
      · rename_i z
        cases h
        refine ⟨_, op_add_str, fun g s σ F H u1 u2 Q hK w rx ry q => ?_⟩
        cases rx with
        | str kx =>
          cases ry with
          | str ky =>
            exact ⟨x, y, rfl, rfl, by rw [sizeLine_eq]; exact z, q F H _ w (Same.refl _) (.str (okS_append kx ky z))⟩
      · cases h
    · cases h
  · rename_i xs ys
    split at h
    · split at h
      · rename_i z
        cases h
        refine ⟨_, op_catA, fun g s σ F H u1 u2 Q hK w rx ry q => ?_⟩
        cases rx with
        | tup ha za ra =>
          cases ry with
          | tup hb zb rb =>
            rename_i a vs b ws
            have hs : vs.length + ws.length ≤ sizeLine := by rw [ra.length, rb.length, sizeLine_eq]; exact z
            rw [← hK]
            refine ⟨a, b, vs, ws, rfl, rfl, seqT w.sub ha, seqT w.sub hb, hs, fun e => ?_, fun e e2 => ?_, fun e e2 p hp => ?_⟩
            · subst e; cases ra
              exact q F H _ w (Same.refl _) (.tup hb zb rb)
            · subst e2; cases rb
              rw [List.append_nil] at q
              exact q F H _ w (Same.refl _) (.tup ha za ra)
            · have hF := w.none_of hp
              refine q _ _ _ (w.alloc hp (.tup (vs ++ ws))) (same_upd hF) (.tup (SqT.of upd_same) (by rw [List.length_append]; exact hs) ((RpAll.append ra rb).mono (same_upd hF)))
      · cases h
    · cases h
  · rename_i xs ys
    split at h
    · split at h
      · rename_i z
        cases h
        refine ⟨_, op_cat, fun g s σ F H u1 u2 Q hK w rx ry q => ?_⟩
        cases rx with
        | lst ha za ra =>
          cases ry with
          | lst hb zb rb =>
            rename_i a vs b ws
            have hs : vs.length + ws.length ≤ sizeLine := by rw [ra.length, rb.length, sizeLine_eq]; exact z
            refine ⟨a, b, vs, ws, rfl, rfl, w.sub _ _ ha, w.sub _ _ hb, hs, fun p hp => ?_⟩
            obtain ⟨w2, r2⟩ := w.own_new hp (vs := vs ++ ws) (by rw [List.length_append]; exact hs) (RpAll.append ra rb)
            exact q F _ _ w2 (Same.refl _) r2
      · cases h
    · cases h
  · rename_i xs k
    split at h
    · split at h
      · rename_i z
        cases h
        refine ⟨_, op_rep, fun g s σ F H u1 u2 Q hK w rx ry q => ?_⟩
        cases rx with
        | lst ha za ra =>
          cases ry
          rename_i a vs
          refine ⟨a, k, vs, rfl, rfl, w.sub _ _ ha, z.1, z.2.1, by rw [ra.length, sizeLine_eq]; exact z.2.2, fun p hp => ?_⟩
          have e1 : (List.replicate k.toNat vs).flatten.length ≤ sizeLine := by rw [len_rep, ra.length, sizeLine_eq]; exact z.2.2
          obtain ⟨w2, r2⟩ := w.own_new hp e1 (RpAll.rep ra k.toNat)
          exact q F _ _ w2 (Same.refl _) r2
      · cases h
    · cases h
  · cases h
end
def ofOpt {α : Type} (o : Option α) (s : Stt) : Res α := match o with
  | some a => .ok a s
  | none => .bad
def dBin (o : Operator) (f h : De Va) : De Va := fun s => (dFrz f s).bind fun a s => (dFrz h s).bind fun b s => ofOpt (bopD o a b) s
/-- the strongest reading of an operation -/
def rMax2 (X : Cx) (f : Value → Value → Sem Value) : R2 := fun x y H Q => ∃ r : R2, OpR X f r ∧ r x y H Q
theorem rMax2_ok {X : Cx} {f : Value → Value → Sem Value} : OpR X f (rMax2 X f) := fun pins s σ H x y v u Q I rx ry ⟨r, ho, q⟩ => ho pins s σ H x y v u Q I rx ry q
theorem ofOpt_post {α : Type} {g : Gh} {W : WX} {σ : L2.St} {F : Hp} {o : Option α} {s : Stt} {k : α → Stt → Hp → Hp → Prop} (p : Post g W σ F (ofOpt o s) k) : ∃ a, o = some a ∧ ∀ F' H', Wf g s σ F' H' → Same F F' → k a s F' H' := by
  cases o with
  | none => exact p.elim
  | some a => exact ⟨a, rfl, p⟩
theorem pe_dBin {X : Cx} {mg : Str → Option Value} {W : WX} {o : Operator} {a b : Expr} {f h : De Va} {pos : Pos} (ha : PE X a (tE X.K mg W f)) (hb : PE X b (tE X.K mg W h)) : PE X (.BinOp a o b pos) (tE X.K mg W (dBin o f h)) := by
  refine PE.by fun pins s₀ σ H Q I q => ⟨_, pe_op rMax2_ok ha hb, ?_⟩
  obtain ⟨g, s, F, hK, hm, w, p⟩ := q
  refine tE_frz hK hm w p fun d s1 F1 H1 u w1 m1 r1 p1 => ?_
  refine tE_frz hK hm w1 p1 fun d2 s2 F2 H2 u2 w2 m2 r2 p2 => ?_
  obtain ⟨v, e, q⟩ := ofOpt_post p2
  obtain ⟨r, ho, hr⟩ := bopD_ok (X := X) e
  exact ⟨r, ho, hr g s2 σ F2 H2 u u2 Q hK w2 (r1.mono m2) r2 fun F' H' u' w' m' r' => q F' H' w' m' u' r'⟩
/-- -a -/
def dNeg (f : De Va) : De Va := fun s => (dFrz f s).bind fun a s => match a with
  | .int i => .ok (.dat (.int (-i))) s
  | _ => .bad
theorem pe_dNeg {X : Cx} {mg : Str → Option Value} {W : WX} {a : Expr} {f : De Va} {pos : Pos} (ha : PE X a (tE X.K mg W f)) : PE X (.UnaryOp .USub a pos) (tE X.K mg W (dNeg f)) := by
  refine PE.by fun pins s₀ σ H Q I q => ⟨_, pe_un un_neg ha, ?_⟩
  obtain ⟨g, s, F, hK, hm, w, p⟩ := q
  refine tE_frz hK hm w p fun d s1 F1 H1 u w1 m1 r1 p1 => ?_
  cases d with
  | int i =>
    cases r1
    exact ⟨i, rfl, p1 F1 H1 w1 (Same.refl _) _ (.int _)⟩
  | _ => exact p1.elim

/-! ## comparisons -/
def strLt (x y : Str) : Bool := decide (x.cps.toList < y.cps.toList)
def strIn (x y : Str) : Bool := if x.cps.size = 1 then decide (x.cps.getD 0 0 ∈ y.cps.toList) else !(Builtin.Str.occurrences y x 0 y.length 1).isEmpty
def inD (a : PyData) : PyData → Option Bool
  | .list xs => if min (PyData.depthAll xs) a.depth ≤ 64 then some (xs.any fun z => PyData.eqv z a) else none
  | .tuple xs => if min (PyData.depthAll xs) a.depth ≤ 64 then some (xs.any fun z => PyData.eqv z a) else none
  | .str y => match a with
    | .str x => some (strIn x y)
    | _ => none
  | _ => none
def cmpD (o : CmpOp) (a b : PyData) : Option Bool :=
  match o with
  | .Eq => if min a.depth b.depth ≤ 64 then some (PyData.eqv a b) else none
  | .NotEq => if min a.depth b.depth ≤ 64 then some (!PyData.eqv a b) else none
  | .In => inD a b
  | .NotIn => (inD a b).map (!·)
  | .Is => match b with
    | .none => some (match a with | .none => true | _ => false)
    | .bool y => match a with
      | .bool x => some (decide (x = y))
      | _ => none
    | _ => none
  | .IsNot => match b with
    | .none => some (match a with | .none => false | _ => true)
    | .bool y => match a with
      | .bool x => some (!decide (x = y))
      | _ => none
    | _ => none
  | .Lt => match a, b with
    | .int i, .int j => some (decide (i < j))
    | .str x, .str y => some (strLt x y)
    | _, _ => none
  | .LtE => match a, b with
    | .int i, .int j => some (decide (i ≤ j))
    | .str x, .str y => some (!strLt y x)
    | _, _ => none
  | .Gt => match a, b with
    | .int i, .int j => some (decide (j < i))
    | .str x, .str y => some (strLt y x)
    | _, _ => none
  | .GtE => match a, b with
    | .int i, .int j => some (decide (j ≤ i))
    | .str x, .str y => some (!strLt x y)
    | _, _ => none
section
variable {X : Cx}
def rDD (K : PySem.W.Frag) (P : PyData → PyData → Prop) (f : PyData → PyData → Bool) : R2 := fun x y H Q => ∃ d e, Dp K H x d ∧ Dp K H y e ∧ d.canLay0 = true ∧ e.canLay0 = true ∧ P d e ∧ Q (.bl (f d e)) H
theorem op_eqE (hu : X.A.units + 65 < cLine) : OpR X (compareOp .Eq) (rDD X.K (fun d e => min d.depth e.depth ≤ 64) PyData.eqv) := by
  intro pins s σ H x y v u Q I rx ry h
  obtain ⟨d, e, hd, he, sd, se, hm, q⟩ := h
  obtain ⟨as, r1⟩ := Dp.reads I d x v hd rx
  obtain ⟨bs, r2⟩ := Dp.reads I e y u he ry
  exact SeqAt.compareEq_reads r1 r2 sd se (by omega) ⟨.bl _, H, I, rfl, q⟩
theorem op_neE (hu : X.A.units + 65 < cLine) : OpR X (compareOp .NotEq) (rDD X.K (fun d e => min d.depth e.depth ≤ 64) fun a b => !PyData.eqv a b) := by
  intro pins s σ H x y v u Q I rx ry h
  obtain ⟨d, e, hd, he, sd, se, hm, q⟩ := h
  obtain ⟨as, r1⟩ := Dp.reads I d x v hd rx
  obtain ⟨bs, r2⟩ := Dp.reads I e y u he ry
  exact SeqAt.compareNe_reads r1 r2 sd se (by omega) ⟨.bl _, H, I, rfl, q⟩
theorem lay_list {xs : List PyData} (h : (PyData.list xs).canLay0 = true) : PyData.canLayAll0 xs = true := by simpa [PyData.canLay0] using h
theorem lay_tup {xs : List PyData} (h : (PyData.tuple xs).canLay0 = true) : PyData.canLayAll0 xs = true := by simpa [PyData.canLay0] using h
theorem op_inL (hu : X.A.units + 66 < cLine) {xs : List PyData} : OpR X (compareOp .In) (fun x y H Q => ∃ d, Dp X.K H x d ∧ Dp X.K H y (.list xs) ∧ d.canLay0 = true ∧ (PyData.list xs).canLay0 = true ∧ min (PyData.depthAll xs) d.depth ≤ 64 ∧ Q (.bl (xs.any fun z => PyData.eqv z d)) H) := by
  intro pins s σ H x y v u Q I rx ry h
  obtain ⟨d, hd, he, sd, se, hm, q⟩ := h
  obtain ⟨as, r1⟩ := Dp.reads I d x v hd rx
  obtain ⟨bs, r2⟩ := Dp.reads I _ y u he ry
  exact SeqAt.in_list_reads r2 r1 (lay_list se) sd (by omega) ⟨.bl _, H, I, rfl, q⟩
theorem op_notInL (hu : X.A.units + 66 < cLine) {xs : List PyData} : OpR X (compareOp .NotIn) (fun x y H Q => ∃ d, Dp X.K H x d ∧ Dp X.K H y (.list xs) ∧ d.canLay0 = true ∧ (PyData.list xs).canLay0 = true ∧ min (PyData.depthAll xs) d.depth ≤ 64 ∧ Q (.bl (!xs.any fun z => PyData.eqv z d)) H) := by
  intro pins s σ H x y v u Q I rx ry h
  obtain ⟨d, hd, he, sd, se, hm, q⟩ := h
  obtain ⟨as, r1⟩ := Dp.reads I d x v hd rx
  obtain ⟨bs, r2⟩ := Dp.reads I _ y u he ry
  exact SeqAt.notIn_list_reads r2 r1 (lay_list se) sd (by omega) ⟨.bl _, H, I, rfl, q⟩
theorem op_inT (hu : X.A.units + 66 < cLine) {xs : List PyData} : OpR X (compareOp .In) (fun x y H Q => ∃ d, Dp X.K H x d ∧ Dp X.K H y (.tuple xs) ∧ d.canLay0 = true ∧ (PyData.tuple xs).canLay0 = true ∧ min (PyData.depthAll xs) d.depth ≤ 64 ∧ Q (.bl (xs.any fun z => PyData.eqv z d)) H) := by
  intro pins s σ H x y v u Q I rx ry h
  obtain ⟨d, hd, he, sd, se, hm, q⟩ := h
  obtain ⟨as, r1⟩ := Dp.reads I d x v hd rx
  obtain ⟨bs, r2⟩ := Dp.reads I _ y u he ry
  exact SeqAt.in_tuple_reads r2 r1 (lay_tup se) sd (by omega) ⟨.bl _, H, I, rfl, q⟩
theorem op_notInT (hu : X.A.units + 66 < cLine) {xs : List PyData} : OpR X (compareOp .NotIn) (fun x y H Q => ∃ d, Dp X.K H x d ∧ Dp X.K H y (.tuple xs) ∧ d.canLay0 = true ∧ (PyData.tuple xs).canLay0 = true ∧ min (PyData.depthAll xs) d.depth ≤ 64 ∧ Q (.bl (!xs.any fun z => PyData.eqv z d)) H) := by
  intro pins s σ H x y v u Q I rx ry h
  obtain ⟨d, hd, he, sd, se, hm, q⟩ := h
  obtain ⟨as, r1⟩ := Dp.reads I d x v hd rx
  obtain ⟨bs, r2⟩ := Dp.reads I _ y u he ry
  exact SeqAt.notIn_tuple_reads r2 r1 (lay_tup se) sd (by omega) ⟨.bl _, H, I, rfl, q⟩
theorem str_one {x : Str} (h : x.cps.size = 1) : x = ⟨#[x.cps.getD 0 0]⟩ := by
  obtain ⟨⟨l⟩⟩ := x
  match l, h with
  | [c], _ => rfl
theorem cmpD_ok (hu : X.A.units + 66 < cLine) {o : CmpOp} {a b : PyData} {k : Bool} (h : cmpD o a b = some k) (x y : V) (H : Hp) (Q : VK) (ha : Dp X.K H x a) (hb : Dp X.K H y b) (la : a.canLay0 = true) (lb : b.canLay0 = true) (q : Q (.bl k) H) :
    rMax2 X (compareOp o) x y H Q := by
  cases o with
  | Eq =>
    unfold cmpD at h; dsimp only at h
    split at h
    · cases h; exact ⟨_, op_eqE (by omega), a, b, ha, hb, la, lb, by assumption, q⟩
    · cases h
  | NotEq =>
    unfold cmpD at h; dsimp only at h
    split at h
    · cases h; exact ⟨_, op_neE (by omega), a, b, ha, hb, la, lb, by assumption, q⟩
    · cases h
  | In =>
    have h : inD a b = some k := h
    unfold inD at h
    split at h
    · split at h
      · cases h; exact ⟨_, op_inL hu, a, ha, hb, la, lb, by assumption, q⟩
      · cases h
    · split at h
      · cases h; exact ⟨_, op_inT hu, a, ha, hb, la, lb, by assumption, q⟩
      · cases h
    · split at h
      · rename_i z w
        cases h
        cases ha; cases hb
        unfold strIn at q
        split at q
        · rename_i z1
          exact ⟨_, op_in_sign, _, _, by rw [← str_one z1], rfl, q⟩
        · exact ⟨_, op_in_str, _, _, rfl, rfl, q⟩
      · cases h
    · cases h
  | NotIn =>
    obtain ⟨k', h2, rfl⟩ := Option.map_eq_some_iff.mp (show (inD a b).map (!·) = some k from h)
    unfold inD at h2
    split at h2
    · split at h2
      · cases h2; exact ⟨_, op_notInL hu, a, ha, hb, la, lb, by assumption, q⟩
      · cases h2
    · split at h2
      · cases h2; exact ⟨_, op_notInT hu, a, ha, hb, la, lb, by assumption, q⟩
      · cases h2
    · split at h2
      · rename_i z w
        cases h2
        cases ha; cases hb
        unfold strIn at q
        split at q
        · rename_i z1
          exact ⟨_, op_notIn_sign, _, _, by rw [← str_one z1], rfl, q⟩
        · exact ⟨_, op_notin_str, _, _, rfl, rfl, q⟩
      · cases h2
    · cases h2
  | Is =>
    unfold cmpD at h; dsimp only at h
    split at h
    · cases h
      cases hb
      refine ⟨_, op_isN, rfl, ?_⟩
      cases ha <;> exact q
    · split at h
      · cases h
        cases ha; cases hb
        exact ⟨_, op_is_bl, _, _, rfl, rfl, q⟩
      · cases h
    · cases h
  | IsNot =>
    unfold cmpD at h; dsimp only at h
    split at h
    · cases h
      cases hb
      refine ⟨_, op_notN, rfl, ?_⟩
      cases ha <;> exact q
    · split at h
      · cases h
        cases ha; cases hb
        exact ⟨_, op_isnot_bl, _, _, rfl, rfl, q⟩
      · cases h
    · cases h
  | Lt =>
    unfold cmpD at h; dsimp only at h
    split at h
    · cases h; cases ha; cases hb; exact ⟨_, op_lt, _, _, rfl, rfl, q⟩
    · cases h; cases ha; cases hb; exact ⟨_, op_lt_str, _, _, rfl, rfl, q⟩
    · cases h
  | LtE =>
    unfold cmpD at h; dsimp only at h
    split at h
    · cases h; cases ha; cases hb; exact ⟨_, op_le, _, _, rfl, rfl, q⟩
    · cases h; cases ha; cases hb; exact ⟨_, op_le_str, _, _, rfl, rfl, q⟩
    · cases h
  | Gt =>
    unfold cmpD at h; dsimp only at h
    split at h
    · cases h; cases ha; cases hb; exact ⟨_, op_gt, _, _, rfl, rfl, q⟩
    · cases h; cases ha; cases hb; exact ⟨_, op_gt_str, _, _, rfl, rfl, q⟩
    · cases h
  | GtE =>
    unfold cmpD at h; dsimp only at h
    split at h
    · cases h; cases ha; cases hb; exact ⟨_, op_ge, _, _, rfl, rfl, q⟩
    · cases h; cases ha; cases hb; exact ⟨_, op_ge_str, _, _, rfl, rfl, q⟩
    · cases h
end
/-- a comparison's answer -/
def dCmpB (o : CmpOp) (f h : De Va) : De Bool := fun s => (dFrz f s).bind fun a s => (h s).bind fun b s => ofOpt ((valD b).bind (cmpD o a)) s
def toV (f : De Bool) : De Va := fun s => (f s).bind fun b s => .ok (.dat (.bool b)) s
def dChainB (o o' : CmpOp) (f h j : De Va) : De Bool := fun s => (dFrz f s).bind fun a s => (dFrz h s).bind fun b s => (ofOpt (cmpD o a b) s).bind fun k s =>
  if k = true then (j s).bind fun c s => ofOpt ((valD c).bind (cmpD o' b)) s else .ok false s
section
variable {X : Cx} {mg : Str → Option Value} {W : WX} {o o' : CmpOp} {a b c : Expr} {f h j : De Va} {pos : Pos}
theorem cmp_core (hu : X.A.units + 66 < cLine) {g : Gh} {s : Stt} {σ : L2.St} {F H : Hp} {k : Bool → Stt → Hp → Hp → Prop} {Q : VK} (hK : g.K = X.K) (hm : g.mg = mg) (w : Wf g s σ F H) (p : Post g W σ F (dCmpB o f h s) k)
    (c : ∀ b s1 F1 H1, Wf g s1 σ F1 H1 → Same F F1 → k b s1 F1 H1 → Q (.bl b) H1) : tOp (rMax2 X (compareOp o)) (tE X.K mg W f) (tE X.K mg W h) σ H Q := by
  refine tE_frz hK hm w p fun d s1 F1 H1 u w1 m1 r1 p1 => ?_
  refine tE_run hK hm w1 p1 fun v s2 F2 H2 u2 w2 m2 r2 p2 => ?_
  obtain ⟨bo, e, q⟩ := ofOpt_post p2
  obtain ⟨d2, e2, e3⟩ := Option.bind_eq_some_iff.mp e
  have h2 := r2.look w2 e2 X.K hK.symm
  have h1 : Rp g.K H2 u d := (r1.mono m2).mono w2.sub
  rw [hK] at h1
  exact cmpD_ok hu e3 u u2 H2 Q h1.dp.1 h2.dp.1 h1.dp.2 h2.dp.2 (c bo s2 F2 H2 w2 (m1.trans m2) (q F2 H2 w2 (Same.refl _)))
theorem pe_dCmp (hu : X.A.units + 66 < cLine) (ha : PE X a (tE X.K mg W f)) (hb : PE X b (tE X.K mg W h)) (hm : behindInMarks o b = false) : PE X (.Compare a [o] [b] pos) (tE X.K mg W (toV (dCmpB o f h))) := by
  refine PE.by fun pins s₀ σ H Q I q => ⟨_, pe_cmpR rMax2_ok ha hb hm, ?_⟩
  obtain ⟨g, s, F, hK, hmg, w, p⟩ := q
  refine cmp_core hu hK hmg w p.bind fun b s1 F1 H1 w1 m1 p1 => p1 F1 H1 w1 (Same.refl _) _ (.bl b)
theorem pt_dCmp (hu : X.A.units + 66 < cLine) (ha : PE X a (tE X.K mg W f)) (hb : PE X b (tE X.K mg W h)) (hm : behindInMarks o b = false) : PT X (.Compare a [o] [b] pos) (tT X.K mg W (dCmpB o f h)) := by
  refine PT.by fun pins s₀ σ H Q I q => ⟨_, pt_cmpR rMax2_ok ha hb hm, ?_⟩
  obtain ⟨g, s, F, hK, hmg, w, p⟩ := q
  exact cmp_core hu hK hmg w p fun b s1 F1 H1 w1 m1 p1 => ⟨b, rfl, p1⟩
theorem chain_core (hu : X.A.units + 66 < cLine) {g : Gh} {s : Stt} {σ : L2.St} {F H : Hp} {k : Bool → Stt → Hp → Hp → Prop} {Q : VK} (hK : g.K = X.K) (hm : g.mg = mg) (w : Wf g s σ F H) (p : Post g W σ F (dChainB o o' f h j s) k)
    (c : ∀ b s1 F1 H1, Wf g s1 σ F1 H1 → Same F F1 → k b s1 F1 H1 → Q (.bl b) H1) : tChain (rMax2 X (compareOp o)) (rMax2 X (compareOp o')) (tE X.K mg W f) (tE X.K mg W h) (tE X.K mg W j) σ H Q := by
  refine tE_frz hK hm w p fun d s1 F1 H1 u w1 m1 r1 p1 => ?_
  refine tE_frz hK hm w1 p1 fun d2 s2 F2 H2 u2 w2 m2 r2 p2 => ?_
  obtain ⟨b1, e, q⟩ := ofOpt_post p2.bind
  have h1 : Rp g.K H2 u d := (r1.mono m2).mono w2.sub
  have h2 : Rp g.K H2 u2 d2 := r2.mono w2.sub
  rw [hK] at h1 h2
  refine cmpD_ok hu e u u2 H2 _ h1.dp.1 h2.dp.1 h1.dp.2 h2.dp.2 ⟨b1, rfl, ?_⟩
  have q1 := q F2 H2 w2 (Same.refl _)
  cases b1 with
  | false => exact c false s2 F2 H2 w2 (m1.trans m2) (q1 F2 H2 w2 (Same.refl _))
  | true =>
    refine tE_run hK hm w2 (h := fun c s => ofOpt ((valD c).bind (cmpD o' d2)) s) q1 fun v s3 F3 H3 u3 w3 m3 r3 p3 => ?_
    obtain ⟨bo, e', q'⟩ := ofOpt_post p3
    obtain ⟨d3, e2, e3⟩ := Option.bind_eq_some_iff.mp e'
    have h3 := r3.look w3 e2 X.K hK.symm
    have h2' : Rp g.K H3 u2 d2 := (r2.mono m3).mono w3.sub
    rw [hK] at h2'
    exact cmpD_ok hu e3 u2 u3 H3 Q h2'.dp.1 h3.dp.1 h2'.dp.2 h3.dp.2 (c bo s3 F3 H3 w3 ((m1.trans m2).trans m3) (q' F3 H3 w3 (Same.refl _)))
theorem pe_dChain (hu : X.A.units + 66 < cLine) (ha : PE X a (tE X.K mg W f)) (hb : PE X b (tE X.K mg W h)) (hc : PE X c (tE X.K mg W j)) (hm : lastMarks [o, o'] [b, c] = false) : PE X (.Compare a [o, o'] [b, c] pos) (tE X.K mg W (toV (dChainB o o' f h j))) := by
  refine PE.by fun pins s₀ σ H Q I q => ⟨_, pe_chain rMax2_ok rMax2_ok ha hb hc hm, ?_⟩
  obtain ⟨g, s, F, hK, hmg, w, p⟩ := q
  refine chain_core hu hK hmg w p.bind fun b s1 F1 H1 w1 m1 p1 => p1 F1 H1 w1 (Same.refl _) _ (.bl b)
theorem pt_dChain (hu : X.A.units + 66 < cLine) (ha : PE X a (tE X.K mg W f)) (hb : PE X b (tE X.K mg W h)) (hc : PE X c (tE X.K mg W j)) (hm : lastMarks [o, o'] [b, c] = false) : PT X (.Compare a [o, o'] [b, c] pos) (tT X.K mg W (dChainB o o' f h j)) := by
  refine PT.by fun pins s₀ σ H Q I q => ⟨_, pt_chain rMax2_ok rMax2_ok ha hb hc hm, ?_⟩
  obtain ⟨g, s, F, hK, hmg, w, p⟩ := q
  exact chain_core hu hK hmg w p fun b s1 F1 H1 w1 m1 p1 => ⟨b, rfl, p1⟩
end
end Ev

namespace Ev
open PySem PySem.Spec PyProof.Rows L2

/-! ## truth -/
def truD : PyData → Option Bool
  | .none => some false
  | .bool b => some b
  | .int i => some (i != 0)
  | .str x => some ((x.length : Int) != 0)
  | .list xs => some (!xs.isEmpty)
  | .tuple xs => some (!xs.isEmpty)
  | .dict _ => none
theorem RpAll.isEmpty {K : PySem.W.Frag} {F : Hp} {ds : List PyData} {vs : List V} (r : RpAll K F vs ds) : vs.isEmpty = ds.isEmpty := by
  cases r <;> rfl
theorem truD_ok {K : PySem.W.Frag} {H : Hp} {u : V} {d : PyData} {k : Bool} (r : Rp K H u d) (e : truD d = some k) : TruV K u H k := by
  cases r with
  | non => cases e; rfl
  | bl b => cases e; rfl
  | int i => cases e; rfl
  | str h => cases e; exact ⟨okS_len h, rfl⟩
  | lst h z a => cases e; exact .inl ⟨_, .inl (.inl h), by rw [a.isEmpty]⟩
  | tup h z a => cases e; exact .inr (.inl ⟨_, h, by rw [a.isEmpty]⟩)
def dTru (f : De Va) : De Bool := fun s => (f s).bind fun v s => ofOpt ((valD v).bind truD) s
def dAndB (f h : De Bool) : De Bool := fun s => (f s).bind fun b s => if b = true then h s else .ok false s
def dOrB (f h : De Bool) : De Bool := fun s => (f s).bind fun b s => if b = true then .ok true s else h s
def dNotB (f : De Bool) : De Bool := fun s => (f s).bind fun b s => .ok (!b) s
def dAnd (f h : De Va) : De Va := fun s => (f s).bind fun v s => (ofOpt ((valD v).bind truD) s).bind fun b s => if b = true then h s else .ok v s
def dOr (f h : De Va) : De Va := fun s => (f s).bind fun v s => (ofOpt ((valD v).bind truD) s).bind fun b s => if b = true then .ok v s else h s
def dNot (f : De Va) : De Va := toV (dNotB (dTru f))
def dIte (c : De Bool) (f h : De Va) : De Va := fun s => (c s).bind fun b s => if b = true then f s else h s
section
variable {X : Cx} {mg : Str → Option Value} {W : WX} {a b c : Expr} {f h : De Va} {fb hb : De Bool} {pos : Pos} {rest : List Expr}
theorem pt_dTru (ha : PE X a (tE X.K mg W f)) (he : ∀ whole, isTrue a X.env whole = (do let v ← whole; standAt a.pos; holding [v] (truthy v))) : PT X a (tT X.K mg W (dTru f)) := by
  refine PT.by fun pins s₀ σ H Q I q => ⟨_, pt_truth ha he, ?_⟩
  obtain ⟨g, s, F, hK, hm, w, p⟩ := q
  refine tE_run hK hm w p fun v s1 F1 H1 u w1 m1 r1 p1 => ?_
  obtain ⟨k, e, q⟩ := ofOpt_post p1
  obtain ⟨d, e1, e2⟩ := Option.bind_eq_some_iff.mp e
  exact ⟨k, truD_ok (r1.look w1 e1 X.K hK.symm) e2, q F1 H1 w1 (Same.refl _)⟩
theorem pw_dAnd1 (ha : PT X a (tT X.K mg W fb)) : PW X (.BoolOp .And [a] pos) (tT X.K mg W fb) := pw_and1 ha
theorem pw_dOr1 (ha : PT X a (tT X.K mg W fb)) : PW X (.BoolOp .Or [a] pos) (tT X.K mg W fb) := pw_or1 ha
theorem pw_dAnd (ha : PT X a (tT X.K mg W fb)) (hr : PW X (.BoolOp .And (b :: rest) pos) (tT X.K mg W hb)) : PW X (.BoolOp .And (a :: b :: rest) pos) (tT X.K mg W (dAndB fb hb)) := by
  refine PW.by fun pins s₀ σ H Q I q => ⟨_, pw_and ha hr, ?_⟩
  obtain ⟨g, s, F, hK, hm, w, p⟩ := q
  refine tT_run hK hm w p fun k s1 F1 H1 w1 m1 p1 => ?_
  cases k with
  | false => exact p1 F1 H1 w1 (Same.refl _)
  | true => exact ⟨g, s1, F1, hK, hm, w1, p1⟩
theorem pw_dOr (ha : PT X a (tT X.K mg W fb)) (hr : PW X (.BoolOp .Or (b :: rest) pos) (tT X.K mg W hb)) : PW X (.BoolOp .Or (a :: b :: rest) pos) (tT X.K mg W (dOrB fb hb)) := by
  refine PW.by fun pins s₀ σ H Q I q => ⟨_, pw_or ha hr, ?_⟩
  obtain ⟨g, s, F, hK, hm, w, p⟩ := q
  refine tT_run hK hm w p fun k s1 F1 H1 w1 m1 p1 => ?_
  cases k with
  | true => exact p1 F1 H1 w1 (Same.refl _)
  | false => exact ⟨g, s1, F1, hK, hm, w1, p1⟩
theorem pt_dNot (ha : PT X a (tT X.K mg W fb)) : PT X (.UnaryOp .Not a pos) (tT X.K mg W (dNotB fb)) := by
  refine PT.by fun pins s₀ σ H Q I q => ⟨_, pt_not ha, ?_⟩
  obtain ⟨g, s, F, hK, hm, w, p⟩ := q
  exact tT_run hK hm w p fun k s1 F1 H1 w1 m1 p1 => p1 F1 H1 w1 (Same.refl _)
theorem pe_dNot (ha : PE X a (tE X.K mg W f)) : PE X (.UnaryOp .Not a pos) (tE X.K mg W (dNot f)) := by
  refine PE.by fun pins s₀ σ H Q I q => ⟨_, pe_notT ha, ?_⟩
  obtain ⟨g, s, F, hK, hm, w, p⟩ := q
  have p2 : Post g W σ F (((f s).bind fun v s => ofOpt ((valD v).bind truD) s).bind fun b s => (Res.ok (!b) s).bind fun b s => .ok (Va.dat (.bool b)) s) fun v s' F' H' => ∀ u, VRep g s' σ F' H' u v → Q u H' := by
    unfold dNot toV dNotB dTru at p
    cases e : (f s).bind fun v s => ofOpt ((valD v).bind truD) s with
    | ok a s => rw [e] at p; exact p
    | exc x s => rw [e] at p; exact p
    | bad => rw [e] at p; exact p
  have p3 : Post g W σ F ((f s).bind fun v s => (ofOpt ((valD v).bind truD) s).bind fun b s => .ok (Va.dat (.bool (!b))) s) fun v s' F' H' => ∀ u, VRep g s' σ F' H' u v → Q u H' := by
    cases e : f s with
    | ok a s => rw [e] at p2; exact p2
    | exc x s => rw [e] at p2; exact p2
    | bad => rw [e] at p2; exact p2
  refine tE_run hK hm w p3 fun v s1 F1 H1 u w1 m1 r1 p1 => ?_
  obtain ⟨k, e, q⟩ := ofOpt_post p1.bind
  obtain ⟨d, e1, e2⟩ := Option.bind_eq_some_iff.mp e
  exact ⟨k, truD_ok (r1.look w1 e1 X.K hK.symm) e2, q F1 H1 w1 (Same.refl _) F1 H1 w1 (Same.refl _) _ (.bl _)⟩
theorem pe_dOne {op : BoolOp} (ha : PE X a (tE X.K mg W f)) : PE X (.BoolOp op [a] pos) (tE X.K mg W f) := pe_one ha
theorem pe_dAnd (ha : PE X a (tE X.K mg W f)) (hr : PE X (.BoolOp .And (b :: rest) pos) (tE X.K mg W h)) : PE X (.BoolOp .And (a :: b :: rest) pos) (tE X.K mg W (dAnd f h)) := by
  refine PE.by fun pins s₀ σ H Q I q => ⟨_, pe_andT ha hr, ?_⟩
  obtain ⟨g, s, F, hK, hm, w, p⟩ := q
  refine tE_run hK hm w p fun v s1 F1 H1 u w1 m1 r1 p1 => ?_
  obtain ⟨k, e, q⟩ := ofOpt_post p1.bind
  obtain ⟨d, e1, e2⟩ := Option.bind_eq_some_iff.mp e
  have q1 := q F1 H1 w1 (Same.refl _)
  refine ⟨k, truD_ok (r1.look w1 e1 X.K hK.symm) e2, ?_⟩
  cases k with
  | true => exact ⟨g, s1, F1, hK, hm, w1, q1⟩
  | false => exact q1 F1 H1 w1 (Same.refl _) u r1
theorem pe_dOr (ha : PE X a (tE X.K mg W f)) (hr : PE X (.BoolOp .Or (b :: rest) pos) (tE X.K mg W h)) : PE X (.BoolOp .Or (a :: b :: rest) pos) (tE X.K mg W (dOr f h)) := by
  refine PE.by fun pins s₀ σ H Q I q => ⟨_, pe_orT ha hr, ?_⟩
  obtain ⟨g, s, F, hK, hm, w, p⟩ := q
  refine tE_run hK hm w p fun v s1 F1 H1 u w1 m1 r1 p1 => ?_
  obtain ⟨k, e, q⟩ := ofOpt_post p1.bind
  obtain ⟨d, e1, e2⟩ := Option.bind_eq_some_iff.mp e
  have q1 := q F1 H1 w1 (Same.refl _)
  refine ⟨k, truD_ok (r1.look w1 e1 X.K hK.symm) e2, ?_⟩
  cases k with
  | false => exact ⟨g, s1, F1, hK, hm, w1, q1⟩
  | true => exact q1 F1 H1 w1 (Same.refl _) u r1
theorem pe_dIte (hc : PT X c (tT X.K mg W fb)) (ha : PE X a (tE X.K mg W f)) (hb : PE X b (tE X.K mg W h)) : PE X (.IfExp c a b pos) (tE X.K mg W (dIte fb f h)) := by
  refine PE.by fun pins s₀ σ H Q I q => ⟨_, pe_ifExp hc ha hb, ?_⟩
  obtain ⟨g, s, F, hK, hm, w, p⟩ := q
  refine tT_run hK hm w p fun k s1 F1 H1 w1 m1 p1 => ?_
  cases k with
  | true => exact ⟨g, s1, F1, hK, hm, w1, p1⟩
  | false => exact ⟨g, s1, F1, hK, hm, w1, p1⟩
end

/-! ## argument lists, displays -/
def toArg : Va → De Va := fun v s => match v with
  | .dat d => .ok (.dat d) s
  | .own xs => .ok (.dat (.list xs)) s
  | .pot => .ok .pot s
  | .bor _ => .bad
def dNil : De (List Va) := fun s => .ok [] s
def dCons (f : De Va) (fs : De (List Va)) : De (List Va) := fun s => ((f s).bind toArg).bind fun v s => (fs s).bind fun vs s => .ok (v :: vs) s
def datOf : Va → Option PyData
  | .dat d => some d
  | _ => none
def datsOf : List Va → Option (List PyData)
  | [] => some []
  | .dat d :: r => (datsOf r).map (d :: ·)
  | _ :: _ => none
theorem AReps.dats {g : Gh} {F : Hp} : ∀ {us : List V} {vs : List Va} {ds : List PyData}, AReps g F us vs → datsOf vs = some ds → RpAll g.K F us ds
  | [], [], ds, _, e => by cases e; exact .nil
  | u :: us, .dat d :: vs, ds, ⟨a, b⟩, e => by
    obtain ⟨r, e1, rfl⟩ := Option.map_eq_some_iff.mp (show (datsOf vs).map (d :: ·) = some ds from e)
    exact .cons a (AReps.dats b e1)
  | u :: us, .pot :: vs, ds, _, e => nomatch (show none = some ds from e)
  | u :: us, .own _ :: vs, ds, _, e => nomatch (show none = some ds from e)
  | u :: us, .bor _ :: vs, ds, _, e => nomatch (show none = some ds from e)
  | [], _ :: _, _, h, _ => h.elim
  | _ :: _, [], _, h, _ => h.elim
theorem AReps.length {g : Gh} {F : Hp} : ∀ {us : List V} {vs : List Va}, AReps g F us vs → us.length = vs.length
  | [], [], _ => rfl
  | _ :: _, _ :: _, ⟨_, b⟩ => by simp [AReps.length b]
  | [], _ :: _, h => h.elim
  | _ :: _, [], h => h.elim
def dTup (fs : De (List Va)) : De Va := fun s => (fs s).bind fun vs s => ofOpt ((datsOf vs).bind fun ds => if ds.length ≤ 16777216 then some (.dat (.tuple ds)) else none) s
def dLst (fs : De (List Va)) : De Va := fun s => (fs s).bind fun vs s => ofOpt ((datsOf vs).bind fun ds => if ds.length ≤ 16777216 then some (.own ds) else none) s
section
variable {X : Cx} {mg : Str → Option Value} {W : WX} {e : Expr} {es : List Expr} {f : De Va} {fs : De (List Va)} {pos : Pos}
/-- an expression runs, its value is an argument -/
theorem tE_arg {g : Gh} {s : Stt} {σ : L2.St} {F H : Hp} {β : Type} {h : Va → De β} {k : β → Stt → Hp → Hp → Prop} {R : VK} (hK : g.K = X.K) (hm : g.mg = mg) (w : Wf g s σ F H) (p : Post g W σ F (((f s).bind toArg).bind h) k)
    (c : ∀ v s1 F1 H1 u, Wf g s1 σ F1 H1 → Same F F1 → ARep g F1 u v → Post g W σ F1 (h v s1) k → R u H1) : tE X.K mg W f σ H R := by
  refine ⟨g, s, F, hK, hm, w, ?_⟩
  refine p.bind.bind.imp fun v s1 F1 H1 w1 m1 q u r => ?_
  cases v with
  | dat d => exact c (.dat d) s1 F1 H1 u w1 m1 r (q F1 H1 w1 (Same.refl _))
  | own xs =>
    obtain ⟨a, rfl, o, ap⟩ := r
    obtain ⟨F2, w2, m2, r2⟩ := w1.freeze o ap
    exact c (.dat (.list xs)) s1 F2 H1 _ w2 (m1.trans m2) r2 (q F2 H1 w2 m2)
  | bor _ => exact q.elim
  | pot => exact c .pot s1 F1 H1 u w1 m1 r (q F1 H1 w1 (Same.refl _))
theorem pa_dNil : PA X [] (tA X.K mg W dNil) := by
  refine PA.by fun pins s₀ σ H Q I q => ⟨_, pa_nil, ?_⟩
  obtain ⟨g, s, F, hK, hm, w, p⟩ := q
  exact p F H w (Same.refl _) [] trivial
theorem pa_dCons (he : PE X e (tE X.K mg W f)) (hr : PA X es (tA X.K mg W fs)) (hs : starEach (e :: es) X.env = (false, eval e X.env) :: starEach es X.env) : PA X (e :: es) (tA X.K mg W (dCons f fs)) := by
  refine PA.by fun pins s₀ σ H Q I q => ⟨_, pa_cons he hr hs, ?_⟩
  obtain ⟨g, s, F, hK, hm, w, p⟩ := q
  refine tE_arg hK hm w p fun v s1 F1 H1 u w1 m1 r1 p1 => ?_
  refine tA_run hK hm w1 p1 fun vs s2 F2 H2 us w2 m2 r2 p2 => ?_
  exact p2 F2 H2 w2 (Same.refl _) (u :: us) ⟨r1.mono m2, r2⟩
theorem pe_dTup {k : Nat} (h : PA X es (tA X.K mg W fs)) : PE X (.Tuple es k pos) (tE X.K mg W (dTup fs)) := by
  refine PE.by fun pins s₀ σ H Q I q => ⟨_, pe_tup h, ?_⟩
  obtain ⟨g, s, F, hK, hm, w, p⟩ := q
  refine tA_run hK hm w p fun vs s1 F1 H1 us w1 m1 r1 p1 => ?_
  obtain ⟨v, e, q⟩ := ofOpt_post p1
  obtain ⟨ds, e1, e2⟩ := Option.bind_eq_some_iff.mp e
  split at e2
  · rename_i z
    cases e2
    have r2 := r1.dats e1
    have z' : us.length ≤ sizeLine := by rw [r2.length, sizeLine_eq]; exact z
    refine ⟨z', fun p hp => ?_⟩
    have hF := w1.none_of hp
    exact q _ _ (w1.alloc hp _) (same_upd hF) _ (.tup (SqT.of upd_same) z' (r2.mono (same_upd hF)))
  · cases e2
theorem pe_dLst (h : PA X es (tA X.K mg W fs)) : PE X (.List es pos) (tE X.K mg W (dLst fs)) := by
  refine PE.by fun pins s₀ σ H Q I q => ⟨_, pe_lst h, ?_⟩
  obtain ⟨g, s, F, hK, hm, w, p⟩ := q
  refine tA_run hK hm w p fun vs s1 F1 H1 us w1 m1 r1 p1 => ?_
  obtain ⟨v, e, q⟩ := ofOpt_post p1
  obtain ⟨ds, e1, e2⟩ := Option.bind_eq_some_iff.mp e
  split at e2
  · rename_i z
    cases e2
    have r2 := r1.dats e1
    have z' : us.length ≤ sizeLine := by rw [r2.length, sizeLine_eq]; exact z
    refine ⟨z', fun p hp => ?_⟩
    obtain ⟨w2, r3⟩ := w1.own_new hp z' r2
    exact q _ _ w2 (Same.refl _) _ r3
  · cases e2
end

/-! ## subscripts -/
/-- a thing that is read: its items are frozen -/
def CRp (K : PySem.W.Frag) (F H : Hp) (u : V) : PyData → Prop
  | .list xs => ∃ p vs, u = .ref p ∧ H p = some (.lst vs) ∧ vs.length ≤ sizeLine ∧ RpAll K F vs xs
  | .tuple xs => ∃ p vs, u = .ref p ∧ SqT K F p vs ∧ vs.length ≤ sizeLine ∧ RpAll K F vs xs
  | d => Rp K F u d
theorem CRp.of {K : PySem.W.Frag} {F H : Hp} {u : V} {d : PyData} (m : Same F H) (r : Rp K F u d) : CRp K F H u d := by
  cases r with
  | lst h z a => exact ⟨_, _, rfl, m _ _ h, z, a⟩
  | tup h z a => exact ⟨_, _, rfl, h, z, a⟩
  | non => exact .non
  | bl b => exact .bl b
  | int i => exact .int i
  | str h => exact .str h
theorem CRp.rp {K : PySem.W.Frag} {F H : Hp} {u : V} {d : PyData} (m : Same F H) (r : CRp K F H u d) : Rp K H u d := by
  cases d with
  | list xs => obtain ⟨p, vs, rfl, h, z, a⟩ := r; exact .lst h z (a.mono m)
  | tuple xs => obtain ⟨p, vs, rfl, h, z, a⟩ := r; exact .tup (seqT m h) z (a.mono m)
  | none => exact Rp.mono m r
  | bool _ => exact Rp.mono m r
  | int _ => exact Rp.mono m r
  | str _ => exact Rp.mono m r
  | dict _ => exact Rp.mono m r
theorem VRep.con {g : Gh} {s : Stt} {σ : L2.St} {F H : Hp} {u : V} {v : Va} {d : PyData} (w : Wf g s σ F H) (r : VRep g s σ F H u v) (e : valD v = some d) : CRp g.K F H u d := by
  cases v with
  | dat d' => cases (show some d' = some d from e); exact CRp.of w.sub r
  | own xs =>
    cases e
    obtain ⟨a, rfl, o, ap⟩ := r
    obtain ⟨vs, e1, z, r1⟩ := o.at_
    exact ⟨a, vs, rfl, e1, z, r1⟩
  | bor xs =>
    cases e
    obtain ⟨a, vs, rfl, e1, z, r1⟩ := r
    exact ⟨a, vs, rfl, e1, z, r1⟩
  | pot => cases e
/-- what a slot holds, as data -/
def slotD (s : Stt) (i : Nat) : Option PyData := match s.ρ[i]? with
  | some (some (.dat d)) => some d
  | some (some (.own xs)) => some (.list xs)
  | some (some .pot) => some (.list s.S)
  | _ => none
theorem slotD_rp {g : Gh} {s : Stt} {σ : L2.St} {F H : Hp} {i : Nat} {d : PyData} (w : Wf g s σ F H) (e : slotD s i = some d) : ∃ u, σ[i]? = some (some u) ∧ CRp g.K F H u d := by
  unfold slotD at e
  split at e
  · rename_i d' h
    cases e
    obtain ⟨u, e1, r⟩ := w.slots i _ h
    exact ⟨u, e1, CRp.of w.sub r⟩
  · rename_i xs h
    cases e
    obtain ⟨u, e1, a, rfl, o⟩ := w.slots i _ h
    obtain ⟨vs, e2, z, r⟩ := o.at_
    exact ⟨_, e1, a, vs, rfl, e2, z, r⟩
  · rename_i h
    cases e
    obtain ⟨u, e1, r⟩ := w.slots i _ h
    cases (show u = .ref g.pa from r)
    obtain ⟨vs, e2, z, r2⟩ := w.pot
    exact ⟨_, e1, _, vs, rfl, e2, z, r2⟩
  · cases e
def idxD : PyData → PyData → Option PyData
  | .list xs, .int i => atI xs i
  | .tuple xs, .int i => atI xs i
  | .str x, .int i => (atI x.cps.toList i).map fun c => .str ⟨#[c]⟩
  | _, _ => none
theorem atI_of {α β : Type} {xs : List α} {ys : List β} {i : Int} {d : β} (hl : xs.length = ys.length) (h : atI ys i = some d) : ∃ j : Nat, ys[j]? = some d ∧ ∀ v, xs[j]? = some v → atI xs i = some v := by
  unfold atI at h
  obtain ⟨j, e1, e2⟩ := Option.bind_eq_some_iff.mp h
  refine ⟨j, e2, fun v hv => ?_⟩
  unfold atI
  rw [hl, e1]
  exact hv
theorem okS_sign {x : Str} (h : okS x = true) {i : Int} {c : Nat} (e : atI x.cps.toList i = some c) : okS ⟨#[c]⟩ = true := by
  unfold atI at e
  obtain ⟨j, e1, e2⟩ := Option.bind_eq_some_iff.mp e
  have hm : c ∈ x.cps := by
    have := List.mem_of_getElem? e2
    exact Array.mem_toList_iff.mp this
  unfold okS at *
  simp only [Bool.and_eq_true, decide_eq_true_eq] at *
  have h1 := h.1
  unfold PyData.strOk at *
  have h2 := (Array.all_eq_true_iff_forall_mem.mp h1) c hm
  refine ⟨?_, ?_⟩
  · simp at h2 ⊢
    exact h2
  · show (1 : Nat) ≤ _
    omega
def rMaxIx (X : Cx) : R2 := fun x y H Q => ∃ r : R2, IxR X r ∧ r x y H Q
theorem rMaxIx_ok {X : Cx} : IxR X (rMaxIx X) := fun value slice pins s σ H x y v u Q I rx ry ⟨r, ho, q⟩ hs => ho value slice pins s σ H x y v u Q I rx ry q hs
theorem idxD_ok {X : Cx} {K : PySem.W.Frag} {F H : Hp} {x y : V} {a b d : PyData} {Q : VK} (hK : K = X.K) (m : Same F H) (rx : CRp K F H x a) (ry : Rp K F y b) (e : idxD a b = some d) (q : ∀ u, Rp K F u d → Q u H) : rMaxIx X x y H Q := by
  unfold idxD at e
  split at e
  · cases ry
    obtain ⟨p, vs, rfl, h, z, ra⟩ := rx
    obtain ⟨j, e1, e2⟩ := atI_of ra.length e
    obtain ⟨v, e3, r⟩ := ra.get e1
    exact ⟨_, ix_list, _, _, _, v, rfl, rfl, .inl (.inl h), e2 v e3, q v r⟩
  · cases ry
    obtain ⟨p, vs, rfl, h, z, ra⟩ := rx
    obtain ⟨j, e1, e2⟩ := atI_of ra.length e
    obtain ⟨v, e3, r⟩ := ra.get e1
    have h := seqT m h
    rw [hK] at h
    exact ⟨_, ix_tup, _, _, _, v, rfl, rfl, h, e2 v e3, q v r⟩
  · rename_i z i
    cases ry
    have rx : Rp K F x (.str z) := rx
    cases rx with
    | str h =>
      obtain ⟨c, e1, rfl⟩ := Option.map_eq_some_iff.mp e
      exact ⟨_, ix_str, z, i, c, rfl, rfl, okS_len h, e1, q _ (.str (okS_sign h e1))⟩
  · cases e
def dIdx (f h : De Va) : De Va := fun s => (dFrz f s).bind fun a s => (dFrz h s).bind fun b s => ofOpt ((idxD a b).map Va.dat) s
/-- the subscript of a name: what it holds behind the index -/
def dIdxV (i : Nat) (h : De Va) : De Va := fun s => match s.ρ[i]? with
  | some (some _) => (dFrz h s).bind fun b s => ofOpt ((slotD s i).bind fun a => (idxD a b).map Va.dat) s
  | _ => .bad
/-! slices -/
abbrev dO := De (Option Int)
def tOp2 (K : PySem.W.Frag) (mg : Str → Option Value) (W : WX) (f : dO) : TO := fun σ H Q =>
  ∃ g s F, g.K = K ∧ g.mg = mg ∧ Wf g s σ F H ∧ Post g W σ F (f s) fun o _ _ H' => Q o H'
def dNo : dO := fun s => .ok none s
def dSome (f : De Va) : dO := fun s => (dFrz f s).bind fun a s => match a with
  | .int i => .ok (some i) s
  | _ => .bad
def cutL {α : Type} (xs : List α) (lo hi : Option Int) : List α := (xs.drop (HT.sIx xs.length 0 lo)).take (HT.sIx xs.length xs.length hi - HT.sIx xs.length 0 lo)
def cutD : PyData → Option Int → Option Int → Option Va
  | .list xs, lo, hi => some (.own (cutL xs lo hi))
  | .tuple xs, lo, hi => some (.dat (.tuple (cutL xs lo hi)))
  | .str x, lo, hi => some (.dat (.str (cutS x lo hi)))
  | _, _, _ => none
def dCut (f : De Va) (l h : dO) : De Va := fun s => (dFrz f s).bind fun a s => (l s).bind fun lo s => (h s).bind fun hi s => ofOpt (cutD a lo hi) s
def dCutV (i : Nat) (l h : dO) : De Va := fun s => match s.ρ[i]? with
  | some (some _) => (l s).bind fun lo s => (h s).bind fun hi s => ofOpt ((slotD s i).bind fun a => cutD a lo hi) s
  | _ => .bad
theorem okS_cut {x : Str} (h : okS x = true) (lo hi : Option Int) : okS (cutS x lo hi) = true := by
  have hl := cutS_length x lo hi
  unfold okS at *
  simp only [Bool.and_eq_true, decide_eq_true_eq] at *
  refine ⟨?_, by omega⟩
  have h1 := h.1
  unfold PyData.strOk at *
  rw [Array.all_eq_true_iff_forall_mem] at *
  intro c hc
  refine h1 c ?_
  have hc' : c ∈ (cutS x lo hi).cps.toList := Array.mem_toList_iff.mpr hc
  have : c ∈ x.cps.toList := List.mem_of_mem_drop (List.mem_of_mem_take hc')
  exact Array.mem_toList_iff.mp this
theorem RpAll.cut {K : PySem.W.Frag} {F : Hp} {ds : List PyData} {vs : List V} (r : RpAll K F vs ds) (lo hi : Option Int) : RpAll K F (cutV vs lo hi) (cutL ds lo hi) := by
  unfold cutV cutL
  rw [r.length]
  exact (r.drop _).take _
theorem cutL_whole {α : Type} {xs : List α} {lo hi : Option Int} (h : HT.sIx xs.length 0 lo = 0 ∧ HT.sIx xs.length xs.length hi = xs.length) : cutL xs lo hi = xs := by
  unfold cutL
  rw [h.1, h.2, List.drop_zero, Nat.sub_zero, List.take_length]
def rMaxSl (X : Cx) : V → Option Int → Option Int → Hp → VK → Prop := fun x lo hi H Q => ∃ r, SlR X r ∧ r x lo hi H Q
theorem rMaxSl_ok {X : Cx} : SlR X (rMaxSl X) := by
  intro pins s σ H x v vl vu lo hi sl Q I rx hs pl pu ⟨r, ho, q⟩
  exact ho pins s σ H x v vl vu lo hi sl Q I rx hs pl pu q
theorem cutD_ok {X : Cx} {g : Gh} {s : Stt} {σ : L2.St} {F H : Hp} {x : V} {a : PyData} {v : Va} {lo hi : Option Int} {Q : VK} (hK : g.K = X.K) (w : Wf g s σ F H) (rx : CRp g.K F H x a) (e : cutD a lo hi = some v)
    (q : ∀ u F' H', Wf g s σ F' H' → Same F F' → VRep g s σ F' H' u v → Q u H') : rMaxSl X x lo hi H Q := by
  unfold cutD at e
  split at e
  · cases e
    obtain ⟨p, vs, rfl, h, z, ra⟩ := rx
    refine ⟨_, sl_list, p, vs, rfl, .inl (.inl h), fun l hl => ?_⟩
    obtain ⟨w2, r2⟩ := w.own_new hl (Nat.le_trans (cutV_length vs lo hi) z) (ra.cut lo hi)
    exact q _ F _ w2 (Same.refl _) r2
  · cases e
    obtain ⟨p, vs, rfl, h, z, ra⟩ := rx
    have hF := seqT w.sub h
    rw [hK] at hF
    refine ⟨_, sl_tupA, p, vs, rfl, hF, fun hw => ?_, fun _ l hl => ?_⟩
    · rw [ra.length] at hw
      refine q _ F H w (Same.refl _) ?_
      show Rp g.K F (.ref p) (.tuple (cutL _ lo hi))
      rw [cutL_whole hw]
      exact .tup h z ra
    · have hF := w.none_of hl
      exact q _ _ _ (w.alloc hl _) (same_upd hF) (.tup (SqT.of upd_same) (Nat.le_trans (cutV_length vs lo hi) z) ((ra.cut lo hi).mono (same_upd hF)))
  · cases e
    rename_i z
    have rx : Rp g.K F x (.str z) := rx
    cases rx with
    | str h => exact ⟨_, sl_str, z, rfl, okS_len h, q _ F H w (Same.refl _) (.str (okS_cut h lo hi))⟩
  · cases e
section
variable {X : Cx} {mg : Str → Option Value} {W : WX} {i : Nat} {x : Str} {a b : Expr} {f h : De Va} {l u : dO} {pos p2 pos' : Pos} {lo hi : Option Expr}
theorem pe_dIdx (ha : PE X a (tE X.K mg W f)) (hb : PE X b (tE X.K mg W h)) (hs : PlainIx b) : PE X (.Subscript a b pos) (tE X.K mg W (dIdx f h)) := by
  refine PE.by fun pins s₀ σ H Q I q => ⟨_, pe_ix rMaxIx_ok ha hb hs, ?_⟩
  obtain ⟨g, s, F, hK, hm, w, p⟩ := q
  refine tE_frz hK hm w p fun d s1 F1 H1 u w1 m1 r1 p1 => ?_
  refine tE_frz hK hm w1 p1 fun d2 s2 F2 H2 u2 w2 m2 r2 p2 => ?_
  obtain ⟨v, e, q⟩ := ofOpt_post p2
  obtain ⟨d3, e3, rfl⟩ := Option.map_eq_some_iff.mp e
  exact idxD_ok hK w2.sub (CRp.of w2.sub (r1.mono m2)) r2 e3 fun u' r' => q F2 H2 w2 (Same.refl _) u' r'
theorem pe_dIdxV (hN : X.N[i]? = some x) (hv : Vis X.env.scope x) (hd : (x == ("__debug__" : Str)) = false) (hcd : (x == ("__classdict__" : Str)) = false) (hb : PE X b (tE X.K mg W h)) (hs : PlainIx b) : PE X (.Subscript (.Name x pos) b pos') (tE X.K mg W (dIdxV i h)) := by
  refine PE.by fun pins s₀ σ H Q I q => ⟨_, pe_ix rMaxIx_ok (pe_var hN hv hd hcd) hb hs, ?_⟩
  obtain ⟨g, s, F, hK, hm, w, p⟩ := q
  unfold dIdxV at p
  split at p
  · rename_i va e0
    obtain ⟨u0, e1, _⟩ := w.slots i _ e0
    refine ⟨u0, e1, ?_⟩
    refine tE_frz hK hm w p fun d2 s2 F2 H2 u2 w2 m2 r2 p2 => ?_
    obtain ⟨v, e, q⟩ := ofOpt_post p2
    obtain ⟨d1, e2, e3⟩ := Option.bind_eq_some_iff.mp e
    obtain ⟨d3, e5, rfl⟩ := Option.map_eq_some_iff.mp e3
    obtain ⟨u1, e4, r1⟩ := slotD_rp w2 e2
    rw [e1] at e4; cases e4
    exact idxD_ok hK w2.sub r1 r2 e5 fun u' r' => q F2 H2 w2 (Same.refl _) u' r'
  · exact p.elim
theorem po_dNo : PO X none (tOp2 X.K mg W dNo) := by
  refine ⟨fun pins s₀ σ H Q I q => po_none.run pins s₀ σ H Q I ?_⟩
  obtain ⟨g, s, F, hK, hm, w, p⟩ := q
  exact p F H w (Same.refl _)
theorem po_dSome (ha : PE X a (tE X.K mg W f)) : PO X (some a) (tOp2 X.K mg W (dSome f)) := by
  refine ⟨fun pins s₀ σ H Q I q => (po_some ha).run pins s₀ σ H Q I ?_⟩
  obtain ⟨g, s, F, hK, hm, w, p⟩ := q
  refine tE_frz hK hm w p fun d s1 F1 H1 u w1 m1 r1 p1 => ?_
  cases d with
  | int i =>
    cases r1
    exact ⟨i, rfl, p1 F1 H1 w1 (Same.refl _)⟩
  | _ => exact p1.elim
theorem tO_run {K : PySem.W.Frag} {g : Gh} {s : Stt} {σ : L2.St} {F H : Hp} {β : Type} {f : dO} {h : Option Int → De β} {k : β → Stt → Hp → Hp → Prop} {R : Option Int → Hp → Prop} (hK : g.K = K) (hm : g.mg = mg) (w : Wf g s σ F H) (p : Post g W σ F ((f s).bind h) k)
    (c : ∀ b s1 F1 H1, Wf g s1 σ F1 H1 → Same F F1 → Post g W σ F1 (h b s1) k → R b H1) : tOp2 K mg W f σ H R := by
  refine ⟨g, s, F, hK, hm, w, ?_⟩
  exact p.bind.imp fun v s1 F1 H1 w1 m1 q => c v s1 F1 H1 w1 m1 q
theorem pe_dCut (ha : PE X a (tE X.K mg W f)) (hl : PO X lo (tOp2 X.K mg W l)) (hu : PO X hi (tOp2 X.K mg W u)) : PE X (.Subscript a (.Slice lo hi none p2) pos) (tE X.K mg W (dCut f l u)) := by
  refine PE.by fun pins s₀ σ H Q I q => ⟨_, pe_slice rMaxSl_ok ha hl hu, ?_⟩
  obtain ⟨g, s, F, hK, hm, w, p⟩ := q
  refine tE_frz hK hm w p fun d s1 F1 H1 u w1 m1 r1 p1 => ?_
  refine tO_run hK hm w1 p1 fun lo s2 F2 H2 w2 m2 p2 => ?_
  refine tO_run hK hm w2 p2 fun hi s3 F3 H3 w3 m3 p3 => ?_
  obtain ⟨v, e, q⟩ := ofOpt_post p3
  exact cutD_ok hK w3 (CRp.of w3.sub ((r1.mono m2).mono m3)) e fun u' F' H' w' m' r' => q F' H' w' m' u' r'
theorem pe_dCutV (hN : X.N[i]? = some x) (hv : Vis X.env.scope x) (hd : (x == ("__debug__" : Str)) = false) (hcd : (x == ("__classdict__" : Str)) = false) (hl : PO X lo (tOp2 X.K mg W l)) (hu : PO X hi (tOp2 X.K mg W u)) : PE X (.Subscript (.Name x pos') (.Slice lo hi none p2) pos) (tE X.K mg W (dCutV i l u)) := by
  refine PE.by fun pins s₀ σ H Q I q => ⟨_, pe_slice rMaxSl_ok (pe_var hN hv hd hcd) hl hu, ?_⟩
  obtain ⟨g, s, F, hK, hm, w, p⟩ := q
  unfold dCutV at p
  split at p
  · rename_i va e0
    obtain ⟨u0, e1, _⟩ := w.slots i _ e0
    refine ⟨u0, e1, ?_⟩
    refine tO_run hK hm w p fun lo s2 F2 H2 w2 m2 p2 => ?_
    refine tO_run hK hm w2 p2 fun hi s3 F3 H3 w3 m3 p3 => ?_
    obtain ⟨v, e, q⟩ := ofOpt_post p3
    obtain ⟨d1, e2, e3⟩ := Option.bind_eq_some_iff.mp e
    obtain ⟨u1, e4, r1⟩ := slotD_rp w3 e2
    rw [e1] at e4; cases e4
    exact cutD_ok hK w3 r1 e3 fun u' F' H' w' m' r' => q F' H' w' m' u' r'
  · exact p.elim
end
end Ev

namespace Ev
open PySem PySem.Spec PyProof.Rows L2

/-! ## statements -/
inductive SR where
  | nx (s : Stt)
  | rt (v : Va) (s : Stt)
  | bk (s : Stt)
  | ct (s : Stt)
  | exc (x : Exn) (s : Stt)
  | bad
abbrev Ds := Stt → SR
def SR.seq : SR → Ds → SR
  | .nx s, h => h s
  | r, _ => r
def Res.toS {α : Type} : Res α → (α → Stt → SR) → SR
  | .ok a s, h => h a s
  | .exc x s, _ => .exc x s
  | .bad, _ => .bad
def PostS (g : Gh) (W : WX) (F : Hp) (r : SR) (D : Ends) : Prop :=
  match r with
  | .nx s => ∀ σ' F' H', Wf g s σ' F' H' → Same F F' → D.nx σ' H'
  | .rt v s => ∀ σ' F' H' u, Wf g s σ' F' H' → Same F F' → VRep g s σ' F' H' u v → D.rt u H'
  | .bk s => ∀ σ' F' H', Wf g s σ' F' H' → Same F F' → D.bk σ' H'
  | .ct s => ∀ σ' F' H', Wf g s σ' F' H' → Same F F' → D.ct σ' H'
  | .exc x s => ∀ σ' F' H' cls d, Wf g s σ' F' H' → Same F F' → XRep g F' x cls d → W cls d σ' H'
  | .bad => False
def tS (K : PySem.W.Frag) (mg : Str → Option Value) (W : WX) (f : Ds) : TS := fun D σ H => ∃ g s F, g.K = K ∧ g.mg = mg ∧ Wf g s σ F H ∧ PostS g W F (f s) D
section
variable {g : Gh} {W : WX} {F F' : Hp} {r : SR} {D D' : Ends}
theorem PostS.mono (e : Same F F') (p : PostS g W F r D) : PostS g W F' r D := by
  cases r with
  | nx s => exact fun σ' F1 H1 w m => p σ' F1 H1 w (e.trans m)
  | rt v s => exact fun σ' F1 H1 u w m => p σ' F1 H1 u w (e.trans m)
  | bk s => exact fun σ' F1 H1 w m => p σ' F1 H1 w (e.trans m)
  | ct s => exact fun σ' F1 H1 w m => p σ' F1 H1 w (e.trans m)
  | exc x s => exact fun σ' F1 H1 cls d w m => p σ' F1 H1 cls d w (e.trans m)
  | bad => exact p
/-- an expression at the head of a statement -/
theorem Post.toS {α : Type} {x : Res α} {h : α → Stt → SR} {σ : L2.St} (p : PostS g W F (x.toS h) D) : Post g W σ F x fun a s F' _ => PostS g W F' (h a s) D := by
  cases x with
  | ok a s => exact fun F1 H1 w m => PostS.mono m p
  | exc x s => exact fun F1 H1 cls d w m => p σ F1 H1 cls d w m
  | bad => exact p
theorem PostS.seq {h : Ds} (p : PostS g W F (r.seq h) D) (k : ∀ s σ' F' H', r = .nx s → Wf g s σ' F' H' → Same F F' → PostS g W F' (h s) D → D'.nx σ' H') (e1 : D'.rt = D.rt) (e2 : D'.bk = D.bk) (e3 : D'.ct = D.ct) : PostS g W F r D' := by
  cases r with
  | nx s => exact fun σ' F1 H1 w m => k s σ' F1 H1 rfl w m (PostS.mono m p)
  | rt v s => exact fun σ' F1 H1 u w m r => by rw [e1]; exact p σ' F1 H1 u w m r
  | bk s => exact fun σ' F1 H1 w m => by rw [e2]; exact p σ' F1 H1 w m
  | ct s => exact fun σ' F1 H1 w m => by rw [e3]; exact p σ' F1 H1 w m
  | exc x s => exact p
  | bad => exact p
end
def dSkip : Ds := fun s => .nx s
def dSeq (f h : Ds) : Ds := fun s => (f s).seq h
section
variable {X : Cx} {mg : Str → Option Value} {W : WX} {st : Stmt} {rest : List Stmt} {f h : Ds} {e : Expr} {fe : De Va} {pos : Pos}
theorem pss_dNil : PSs X [] (tS X.K mg W dSkip) := by
  refine PSs.by fun pins s₀ σ H D I q => ⟨_, pss_nil, ?_⟩
  obtain ⟨g, s, F, hK, hm, w, p⟩ := q
  exact p σ F H w (Same.refl _)
theorem pss_dCons (h1 : PS X st (tS X.K mg W f)) (h2 : PSs X rest (tS X.K mg W h)) : PSs X (st :: rest) (tS X.K mg W (dSeq f h)) := by
  refine PSs.by fun pins s₀ σ H D I q => ⟨_, pss_cons h1 h2, ?_⟩
  obtain ⟨g, s, F, hK, hm, w, p⟩ := q
  exact ⟨g, s, F, hK, hm, w, PostS.seq p (fun s σ' F' H' _ w' m' p' => ⟨g, s, F', hK, hm, w', p'⟩) rfl rfl rfl⟩
theorem ps_dPass : PS X (.Pass pos) (tS X.K mg W dSkip) := by
  refine PS.by fun pins s₀ σ H D I q => ⟨_, ps_pass, ?_⟩
  obtain ⟨g, s, F, hK, hm, w, p⟩ := q
  exact p σ F H w (Same.refl _)
def dBrk : Ds := fun s => .bk s
def dCont : Ds := fun s => .ct s
theorem ps_dBrk : PS X (.Break pos) (tS X.K mg W dBrk) := by
  refine PS.by fun pins s₀ σ H D I q => ⟨_, ps_break, ?_⟩
  obtain ⟨g, s, F, hK, hm, w, p⟩ := q
  exact p σ F H w (Same.refl _)
theorem ps_dCont : PS X (.Continue pos) (tS X.K mg W dCont) := by
  refine PS.by fun pins s₀ σ H D I q => ⟨_, ps_continue, ?_⟩
  obtain ⟨g, s, F, hK, hm, w, p⟩ := q
  exact p σ F H w (Same.refl _)
def dRet (f : De Va) : Ds := fun s => (f s).toS fun v s => .rt v s
theorem ps_dRet (he : PE X e (tE X.K mg W fe)) : PS X (.Return (some e) pos) (tS X.K mg W (dRet fe)) := by
  refine PS.by fun pins s₀ σ H D I q => ⟨_, ps_ret he, ?_⟩
  obtain ⟨g, s, F, hK, hm, w, p⟩ := q
  refine ⟨g, s, F, hK, hm, w, ?_⟩
  exact (Post.toS p).imp fun v s1 F1 H1 w1 m1 q u r => q σ F1 H1 u w1 (Same.refl _) r
def dRetN : Ds := fun s => .rt (.dat .none) s
theorem ps_dRetN : PS X (.Return none pos) (tS X.K mg W dRetN) := by
  refine PS.by fun pins s₀ σ H D I q => ⟨_, ps_retN, ?_⟩
  obtain ⟨g, s, F, hK, hm, w, p⟩ := q
  exact p σ F H .non w (Same.refl _) .non
/-- a value is dropped -/
def dDrop (f : De Va) : Ds := fun s => (f s).toS fun _ s => .nx s
theorem ps_dDrop (he : PE X e (tE X.K mg W fe)) (hs : swapsWith e none pos.line X.env = pure false) : PS X (.Expr e pos) (tS X.K mg W (dDrop fe)) := by
  refine PS.by fun pins s₀ σ H D I q => ⟨_, ps_expr he hs, ?_⟩
  obtain ⟨g, s, F, hK, hm, w, p⟩ := q
  refine ⟨g, s, F, hK, hm, w, ?_⟩
  exact (Post.toS p).imp fun v s1 F1 H1 w1 m1 q u r => q σ F1 H1 w1 (Same.refl _)
/-- name = value -/
def putV (i : Nat) : Va → Ds := fun v s => match v with
  | .bor _ => .bad
  | v => .nx ⟨s.ρ.set i (some v), s.S⟩
def dSet (i : Nat) (f : De Va) : Ds := fun s => (f s).toS (putV i)
theorem putV_nx {i : Nat} {v : Va} {s : Stt} {g : Gh} {F : Hp} {D : Ends} (p : PostS g W F (putV i v s) D) : (∀ xs, v ≠ .bor xs) ∧ PostS g W F (.nx ⟨s.ρ.set i (some v), s.S⟩) D := by
  cases v with
  | dat d => exact ⟨(fun _ z => nomatch z), p⟩
  | own d => exact ⟨(fun _ z => nomatch z), p⟩
  | pot => exact ⟨(fun _ z => nomatch z), p⟩
  | bor xs => exact p.elim
theorem ps_dSet {i : Nat} {x : Str} {pos' : Pos} (hN : X.N.Nodup) (hi : X.N[i]? = some x) (hx : Loc X.env.scope x) (he : PE X e (tE X.K mg W fe)) (hs : swapsWith e (some (.Name x pos')) pos.line X.env = pure false) (hf : X.fn x = true ∨ X.env.scope.names.lookup x = some .local) :
    PS X (.Assign [.Name x pos'] e pos) (tS X.K mg W (dSet i fe)) := by
  refine PS.by fun pins s₀ σ H D I q => ⟨_, ps_set hN hi hx he hs hf, ?_⟩
  obtain ⟨g, s, F, hK, hm, w, p⟩ := q
  refine ⟨g, s, F, hK, hm, w, ?_⟩
  refine (Post.toS p).imp fun v s1 F1 H1 w1 m1 q u r => ?_
  obtain ⟨nb, q⟩ := putV_nx q
  have hl : i < σ.length := by rw [I.len]; exact (List.getElem?_eq_some_iff.mp hi).1
  exact q _ F1 H1 (w1.store hl r nb) (Same.refl _)
/-- if -/
def dIf (c : De Bool) (f h : Ds) : Ds := fun s => (c s).toS fun b s => if b = true then f s else h s
theorem ps_dIf {c : Expr} {a b : List Stmt} {fc : De Bool} (hc : PT X c (tT X.K mg W fc)) (ha : PSs X a (tS X.K mg W f)) (hb : PSs X b (tS X.K mg W h)) : PS X (.If c a b pos) (tS X.K mg W (dIf fc f h)) := by
  refine PS.by fun pins s₀ σ H D I q => ⟨_, ps_if hc ha hb, ?_⟩
  obtain ⟨g, s, F, hK, hm, w, p⟩ := q
  refine ⟨g, s, F, hK, hm, w, ?_⟩
  refine (Post.toS p).imp fun k s1 F1 H1 w1 m1 q => ?_
  cases k with
  | true => exact ⟨g, s1, F1, hK, hm, w1, q⟩
  | false => exact ⟨g, s1, F1, hK, hm, w1, q⟩
end

/-! ## while -/
def whileD (c : De Bool) (body : Ds) : Nat → Ds
  | 0, _ => .bad
  | n + 1, s => (c s).toS fun b s => if b = true then
      (match body s with
        | .nx s => whileD c body n s
        | .ct s => whileD c body n s
        | .bk s => .nx s
        | r => r)
    else .nx s
section
variable {X : Cx} {mg : Str → Option Value} {W : WX} {pos : Pos}
theorem ps_dWhile {c : Expr} {body : List Stmt} {fc : De Bool} {fb : Ds} {n : Nat} (hp : PassesOwn (model X.prog X.w) X.A X.env X.xe) (hc : PT X c (tT X.K mg W fc)) (hb : PSs X body (tS X.K mg W fb)) : PS X (.While c body [] pos) (tS X.K mg W (whileD fc fb n)) := by
  refine PS.by fun pins s₀ σ H D I q => ⟨_, ps_while hp hc hb, ?_⟩
  obtain ⟨g, s, F, hK, hm, w, p⟩ := q
  refine ⟨fun m σ H => ∃ s F1, Wf g s σ F1 H ∧ Same F F1 ∧ PostS g W F1 (whileD fc fb m s) D, ⟨n, s, F, w, Same.refl _, p⟩, ?_⟩
  rintro m σ H ⟨s, F1, w1, m1, p1⟩
  cases m with
  | zero => exact p1.elim
  | succ m =>
    refine ⟨g, s, F1, hK, hm, w1, ?_⟩
    unfold whileD at p1
    refine (Post.toS p1).imp fun k s2 F2 H2 w2 m2 q => ?_
    cases k with
    | false => exact q σ F2 H2 w2 (Same.refl _)
    | true =>
      refine ⟨fun σ' H' => ∃ s F1, Wf g s σ' F1 H' ∧ Same F F1 ∧ PostS g W F1 (whileD fc fb m s) D, fun σ' H' z => ⟨m, Nat.lt_succ_self m, z⟩, g, s2, F2, hK, hm, w2, ?_⟩
      have q : PostS g W F2 (match fb s2 with
        | .nx s => whileD fc fb m s
        | .ct s => whileD fc fb m s
        | .bk s => .nx s
        | r => r) D := q
      cases e : fb s2 with
      | nx s3 => rw [e] at q; exact fun σ' F' H' w' m' => ⟨s3, F', w', (m1.trans m2).trans m', PostS.mono m' q⟩
      | ct s3 => rw [e] at q; exact fun σ' F' H' w' m' => ⟨s3, F', w', (m1.trans m2).trans m', PostS.mono m' q⟩
      | bk s3 => rw [e] at q; exact q
      | rt v s3 => rw [e] at q; exact q
      | exc x s3 => rw [e] at q; exact q
      | bad => rw [e] at q; exact q.elim
end

/-! ## targets -/
/-- but at the places is, as it was -/
def Off (is : List Nat) (σ σ' : L2.St) : Prop := σ'.length = σ.length ∧ ∀ j, j ∉ is → σ'[j]? = σ[j]?
def tG (K : PySem.W.Frag) (mg : Str → Option Value) (is : List Nat) (h : PyData → Stt → Option Stt) : TG := fun v σ H Q =>
  ∃ g s F d s', g.K = K ∧ g.mg = mg ∧ Wf g s σ F H ∧ Rp g.K F v d ∧ h d s = some s' ∧ ∀ σ', Wf g s' σ' F H → Off is σ σ' → Q σ' H
def tGs (K : PySem.W.Frag) (mg : Str → Option Value) (is : List Nat) (h : List PyData → Stt → Option Stt) : TGs := fun vs σ H Q =>
  ∃ g s F ds s', g.K = K ∧ g.mg = mg ∧ Wf g s σ F H ∧ RpAll g.K F vs ds ∧ h ds s = some s' ∧ ∀ σ', Wf g s' σ' F H → Off is σ σ' → Q σ' H
theorem Off.refl (is : List Nat) (σ : L2.St) : Off is σ σ := ⟨rfl, fun _ _ => rfl⟩
theorem Off.trans {is js : List Nat} {σ σ1 σ2 : L2.St} (a : Off is σ σ1) (b : Off js σ1 σ2) : Off (is ++ js) σ σ2 :=
  ⟨b.1.trans a.1, fun j h => (b.2 j fun z => h (List.mem_append_right _ z)).trans (a.2 j fun z => h (List.mem_append_left _ z))⟩
theorem PG.by {X : Cx} {e : Expr} {t : TG} (h : ∀ pins s v σ H Q, Inv X pins σ H s → t v σ H Q → ∃ t', PG X e t' ∧ t' v σ H Q) : PG X e t :=
  ⟨fun pins s σ H v u Q I r q => by obtain ⟨t', p, q'⟩ := h pins s v σ H Q I q; exact p.run pins s σ H v u Q I r q'⟩
theorem PGs.by {X : Cx} {e : List Expr} {t : TGs} (h : ∀ pins s v σ H Q, Inv X pins σ H s → t v σ H Q → ∃ t', PGs X e t' ∧ t' v σ H Q) : PGs X e t :=
  ⟨fun pins s σ H v u Q I r q => by obtain ⟨t', p, q'⟩ := h pins s v σ H Q I q; exact p.run pins s σ H v u Q I r q'⟩
def gPut (i : Nat) : PyData → Stt → Option Stt := fun d s => some ⟨s.ρ.set i (some (.dat d)), s.S⟩
def gNo : List PyData → Stt → Option Stt := fun ds s => match ds with
  | [] => some s
  | _ => none
def gCo (h : PyData → Stt → Option Stt) (k : List PyData → Stt → Option Stt) : List PyData → Stt → Option Stt := fun ds s => match ds with
  | d :: r => (h d s).bind (k r)
  | [] => none
/-- a tuple (or a list) of n things is unpacked -/
def gUn (n : Nat) (k : List PyData → Stt → Option Stt) : PyData → Stt → Option Stt := fun d s => match d with
  | .tuple ds => if ds.length = n then k ds s else none
  | .list ds => if ds.length = n then k ds s else none
  | _ => none
section
variable {X : Cx} {mg : Str → Option Value} {pos : Pos}
theorem pg_dPut {i : Nat} {x : Str} (hN : X.N.Nodup) (hi : X.N[i]? = some x) (hx : Loc X.env.scope x) (hf : X.fn x = true ∨ X.env.scope.names.lookup x = some .local) : PG X (.Name x pos) (tG X.K mg [i] (gPut i)) := by
  refine PG.by fun pins s₀ v σ H Q I q => ⟨_, pg_name hN hi hx hf, ?_⟩
  obtain ⟨g, s, F, d, s', hK, hm, w, r, e, q⟩ := q
  cases e
  have hl : i < σ.length := by rw [I.len]; exact (List.getElem?_eq_some_iff.mp hi).1
  exact q _ (w.store (v := .dat d) hl r fun _ z => nomatch z) ⟨List.length_set, fun j h => List.getElem?_set_ne (fun z => h (by rw [z]; exact List.mem_singleton.mpr rfl))⟩
theorem pgs_dNo : PGs X [] (tGs X.K mg [] gNo) := by
  refine PGs.by fun pins s₀ v σ H Q I q => ⟨_, pgs_nil, ?_⟩
  obtain ⟨g, s, F, ds, s', hK, hm, w, r, e, q⟩ := q
  cases ds with
  | nil => cases e; cases r; exact ⟨rfl, q σ w (Off.refl _ _)⟩
  | cons _ _ => cases e
theorem pgs_dCo {e : Expr} {es : List Expr} {h : PyData → Stt → Option Stt} {k : List PyData → Stt → Option Stt} {is js : List Nat} (h1 : PG X e (tG X.K mg is h)) (h2 : PGs X es (tGs X.K mg js k))
    (hs : (assignEach (e :: es) X.env).map (·.2) = assign e X.env :: (assignEach es X.env).map (·.2)) : PGs X (e :: es) (tGs X.K mg (is ++ js) (gCo h k)) := by
  refine PGs.by fun pins s₀ v σ H Q I q => ⟨_, pgs_cons h1 h2 hs, ?_⟩
  obtain ⟨g, s, F, ds, s', hK, hm, w, r, e, q⟩ := q
  cases ds with
  | nil => cases e
  | cons d ds =>
    cases r with
    | cons r1 r2 =>
      obtain ⟨s1, e1, e2⟩ := Option.bind_eq_some_iff.mp (show (h d s).bind (k ds) = some s' from e)
      exact ⟨_, _, rfl, g, s, F, d, s1, hK, hm, w, r1, e1, fun σ' w' o' => ⟨g, s1, F, ds, s', hK, hm, w', r2, e2, fun σ2 w2 o2 => q σ2 w2 (o'.trans o2)⟩⟩
theorem pg_dUnT {es : List Expr} {k n : Nat} {h : List PyData → Stt → Option Stt} {is : List Nat} (hc : X.calm = true) (hh : PGs X es (tGs X.K mg is h)) (hn : (assignEach es X.env).length = n) (hst : (assignEach es X.env).findIdx? (·.1) = none) :
    PG X (.Tuple es k pos) (tG X.K mg is (gUn n h)) := by
  refine PG.by fun pins s₀ v σ H Q I q => ?_
  obtain ⟨g, s, F, d, s', hK, hm, w, r, e, q⟩ := q
  cases d with
  | tuple ds =>
    refine ⟨_, pg_tup hc hh hn hst, ?_⟩
    cases r with
    | tup ht z ra =>
      have e : (if ds.length = n then h ds s else none) = some s' := e
      split at e
      · rename_i hl
        exact ⟨_, _, rfl, by rw [← hK]; exact seqT w.sub ht, by rw [ra.length]; exact hl, g, s, F, ds, s', hK, hm, w, ra, e, q⟩
      · cases e
  | list ds =>
    refine ⟨_, pg_lst hc hh hn hst, ?_⟩
    cases r with
    | lst ht z ra =>
      have e : (if ds.length = n then h ds s else none) = some s' := e
      split at e
      · rename_i hl
        exact ⟨_, _, rfl, .inl (.inl (w.sub _ _ ht)), by rw [ra.length]; exact hl, g, s, F, ds, s', hK, hm, w, ra, e, q⟩
      · cases e
  | _ => cases e
end
/-- target = value, the target of any form -/
def dAsg (h : PyData → Stt → Option Stt) (f : De Va) : Ds := fun s => (dFrz f s).toS fun d s => match h d s with
  | some s => .nx s
  | none => .bad
theorem ps_dAsg {X : Cx} {mg : Str → Option Value} {W : WX} {tg e : Expr} {fe : De Va} {h : PyData → Stt → Option Stt} {is : List Nat} {pos : Pos} (he : PE X e (tE X.K mg W fe)) (hg : PG X tg (tG X.K mg is h)) (hs : swapsWithSole [tg] e pos.line X.env = pure false) (hw : swappedStores [tg] e X.env = pure none)
    (h1 : (assignEach [tg] X.env).map (·.2) = [assign tg X.env]) : PS X (.Assign [tg] e pos) (tS X.K mg W (dAsg h fe)) := by
  refine PS.by fun pins s₀ σ H D I q => ⟨_, ps_asg he hg hs hw h1, ?_⟩
  obtain ⟨g, s, F, hK, hm, w, p⟩ := q
  have p' : Post g W σ F (dFrz fe s) _ := Post.toS p
  unfold dFrz at p'
  refine ⟨g, s, F, hK, hm, w, ?_⟩
  refine p'.bind.imp fun v s1 F1 H1 w1 m1 q u r => ?_
  have fin : ∀ (d : PyData) F2, Wf g s1 σ F2 H1 → Rp g.K F2 u d → PostS g W F2 (match h d s1 with | some s => .nx s | none => .bad) D → tG X.K mg is h u σ H1 D.nx := fun d F2 w2 r2 q2 => by
    cases e : h d s1 with
    | none => rw [e] at q2; exact q2.elim
    | some s2 => rw [e] at q2; exact ⟨g, s1, F2, d, s2, hK, hm, w2, r2, e, fun σ' w' _ => q2 σ' F2 H1 w' (Same.refl _)⟩
  cases v with
  | dat d => exact fin d F1 w1 r (q F1 H1 w1 (Same.refl _))
  | own xs =>
    obtain ⟨a, rfl, o, ap⟩ := r
    obtain ⟨F2, w2, m2, r2⟩ := w1.freeze o ap
    exact fin _ F2 w2 r2 (q F2 H1 w2 m2)
  | bor _ => exact q.elim
  | pot => exact q.elim

/-! ## what a for walks -/
/-- J gives the things ds, whatever is laid meanwhile -/
def Gives (K : PySem.W.Frag) (F : Hp) (J : It) (ds : List PyData) : Prop := ∀ (g : Gh) (s : Stt) (σ : L2.St) (F1 H1 : Hp) (i : Nat), g.K = K → Wf g s σ F1 H1 → Same F F1 →
  (i < ds.length → J.go i H1) ∧ (ds.length ≤ i → J.stop i H1) ∧ ∀ x H2 d, ds[i]? = some d → J.yld i H1 x H2 → ∃ F2, Wf g s σ F2 H2 ∧ Same F1 F2 ∧ Rp g.K F2 x d ∧ Same H1 H2 ∧ ∀ a, H1 a ≠ none → F2 a = F1 a
def tI (K : PySem.W.Frag) (mg : Str → Option Value) (W : WX) (f : De (List PyData)) : TI := fun σ H R =>
  ∃ g s F, g.K = K ∧ g.mg = mg ∧ Wf g s σ F H ∧ Post g W σ F (f s) fun ds _ F' H' => ∀ J, Gives K F' J ds → R J H'
theorem PI.by {X : Cx} {tg e : Expr} {t : TI} (h : ∀ pins s σ H R, Inv X pins σ H s → t σ H R → ∃ t', PI X tg e t' ∧ t' σ H R) : PI X tg e t :=
  ⟨fun pins s σ H R I q => by obtain ⟨t', p, q'⟩ := h pins s σ H R I q; exact p.run pins s σ H R I q'⟩
/-- the things of a list, a tuple, a text -/
def itemsD : PyData → Option (List PyData)
  | .list xs => some xs
  | .tuple xs => some xs
  | .str x => some (x.cps.toList.map fun c => .str ⟨#[c]⟩)
  | _ => none
def dItems (f : De Va) : De (List PyData) := fun s => (dFrz f s).bind fun d s => ofOpt (itemsD d) s
theorem okS_of_mem {x : Str} (h : okS x = true) {c : Nat} (hm : c ∈ x.cps) : okS ⟨#[c]⟩ = true := by
  unfold okS at *
  simp only [Bool.and_eq_true, decide_eq_true_eq] at *
  have h1 := h.1
  unfold PyData.strOk at *
  have h2 := (Array.all_eq_true_iff_forall_mem.mp h1) c hm
  refine ⟨?_, ?_⟩
  · simp at h2 ⊢
    exact h2
  · show (1 : Nat) ≤ _
    omega
section
variable {X : Cx} {mg : Str → Option Value} {W : WX} {pos : Pos} {tg e : Expr} {fe : De Va}
theorem pi_dItems (he : PE X e (tE X.K mg W fe)) : PI X tg e (tI X.K mg W (dItems fe)) := by
  refine PI.by fun pins s₀ σ H R I q => ?_
  obtain ⟨g, s, F, hK, hm, w, p⟩ := q
  -- which of the three is known before the run
  have run : ∀ {R' : VK}, (∀ d s1 F1 H1 u, Wf g s1 σ F1 H1 → Same F F1 → Rp g.K F1 u d → Post g W σ F1 (ofOpt (itemsD d) s1) (fun ds _ F' H' => ∀ J, Gives X.K F' J ds → R J H') → R' u H1) → tE X.K mg W fe σ H R' := fun h => tE_frz hK hm w p h
  have key : (∃ xs s1, dFrz fe s = .ok (.list xs) s1) ∨ (∃ xs s1, dFrz fe s = .ok (.tuple xs) s1) ∨ (∃ x s1, dFrz fe s = .ok (.str x) s1) ∨ ∃ x s1, dFrz fe s = .exc x s1 := by
    unfold dItems at p
    cases e : dFrz fe s with
    | ok d s1 =>
      rw [e] at p
      obtain ⟨ds, e2, _⟩ := ofOpt_post (show Post g W σ F (ofOpt (itemsD d) s1) _ from p)
      cases d with
      | list xs => exact .inl ⟨xs, s1, rfl⟩
      | tuple xs => exact .inr (.inl ⟨xs, s1, rfl⟩)
      | str x => exact .inr (.inr (.inl ⟨x, s1, rfl⟩))
      | _ => cases e2
    | exc x s1 => exact .inr (.inr (.inr ⟨x, s1, rfl⟩))
    | bad => rw [e] at p; exact p.elim
  -- the value with its shape
  have runS : ∀ (d : PyData) (s1 : Stt) {R' : VK}, dFrz fe s = .ok d s1 → (∀ F1 H1 u, Wf g s1 σ F1 H1 → Same F F1 → Rp g.K F1 u d → Post g W σ F1 (ofOpt (itemsD d) s1) (fun ds _ F' H' => ∀ J, Gives X.K F' J ds → R J H') → R' u H1) → tE X.K mg W fe σ H R' := fun d s1 R' e1 h => by
    refine ⟨g, s, F, hK, hm, w, ?_⟩
    unfold dItems at p
    rw [e1] at p
    have p : Post g W σ F (ofOpt (itemsD d) s1) (fun ds _ F' H' => ∀ J, Gives X.K F' J ds → R J H') := p
    unfold dFrz at e1
    cases e2 : fe s with
    | ok v s2 =>
      rw [e2] at e1
      have e1 : frz v s2 = .ok d s1 := e1
      show ∀ F' H', Wf g s2 σ F' H' → Same F F' → ∀ u, VRep g s2 σ F' H' u v → R' u H'
      intro F' H' w' m' u r
      cases v with
      | dat d' => cases e1; exact h F' H' u w' m' r (p.mono m')
      | own xs =>
        cases e1
        obtain ⟨a, rfl, o, ap⟩ := r
        obtain ⟨F2, w2, m2, r2⟩ := w'.freeze o ap
        exact h F2 H' _ w2 (m'.trans m2) r2 (p.mono (m'.trans m2))
      | bor _ => cases e1
      | pot => cases e1
    | exc x s2 => rw [e2] at e1; cases e1
    | bad => rw [e2] at e1; cases e1
  rcases key with ⟨xs, s1, e1⟩ | ⟨xs, s1, e1⟩ | ⟨x, s1, e1⟩ | ⟨x, s1, e1⟩
  · refine ⟨_, pi_list he, runS _ s1 e1 fun F1 H1 u w1 m1 r1 p1 => ?_⟩
    cases r1 with
    | lst ha z ra =>
      rename_i a vs
      refine ⟨a, rfl, ⟨vs, .inl (.inl (w1.sub _ _ ha))⟩, p1 F1 H1 w1 (Same.refl _) _ fun g2 s σ F2 H2 i hK2 w2 m2 => ?_⟩
      have hq : SqL X.K H2 a vs := .inl (.inl (w2.sub _ _ (m2 _ _ ha)))
      refine ⟨fun hi => ?_, fun hi => ⟨vs, hq, by rw [ra.length]; exact hi⟩, fun x H3 d hd y => ?_⟩
      · obtain ⟨v, e, _⟩ := ra.get (List.getElem?_eq_getElem hi)
        exact ⟨vs, v, hq, e⟩
      · obtain ⟨rfl, y⟩ := y
        obtain ⟨v, e, r⟩ := ra.get hd
        have := y vs hq
        rw [e] at this; cases this
        exact ⟨F2, w2, Same.refl _, (by rw [hK2, ← hK]; exact r.mono m2), Same.refl _, fun _ _ => rfl⟩
  · refine ⟨_, pi_tup he, runS _ s1 e1 fun F1 H1 u w1 m1 r1 p1 => ?_⟩
    cases r1 with
    | tup ha z ra =>
      rename_i a vs
      rw [hK] at ha
      refine ⟨a, rfl, ⟨vs, seqT w1.sub ha⟩, p1 F1 H1 w1 (Same.refl _) _ fun g2 s σ F2 H2 i hK2 w2 m2 => ?_⟩
      have hq : SqT X.K H2 a vs := seqT w2.sub (seqT m2 ha)
      refine ⟨fun hi => ?_, fun hi => ⟨vs, hq, by rw [ra.length]; exact hi⟩, fun x H3 d hd y => ?_⟩
      · obtain ⟨v, e, _⟩ := ra.get (List.getElem?_eq_getElem hi)
        exact ⟨vs, v, hq, e⟩
      · obtain ⟨rfl, y⟩ := y
        obtain ⟨v, e, r⟩ := ra.get hd
        have := y vs hq
        rw [e] at this; cases this
        exact ⟨F2, w2, Same.refl _, (by rw [hK2, ← hK]; exact r.mono m2), Same.refl _, fun _ _ => rfl⟩
  · refine ⟨_, pi_str he, runS _ s1 e1 fun F1 H1 u w1 m1 r1 p1 => ?_⟩
    cases r1 with
    | str hx =>
      refine ⟨x, rfl, p1 F1 H1 w1 (Same.refl _) _ fun g2 s σ F2 H2 i hK2 w2 m2 => ?_⟩
      refine ⟨fun hi => (by show i < x.cps.size; simpa using hi), fun hi => (by show x.cps.size ≤ i; simpa using hi), fun y H3 d hd z => ?_⟩
      obtain ⟨rfl, c, e, rfl⟩ := z
      rw [List.getElem?_map, Array.getElem?_toList, e] at hd
      cases hd
      exact ⟨F2, w2, Same.refl _, .str (okS_of_mem hx (Array.mem_of_getElem? e)), Same.refl _, fun _ _ => rfl⟩
  · refine ⟨_, pi_list he, g, s, F, hK, hm, w, ?_⟩
    unfold dItems at p
    rw [e1] at p
    unfold dFrz at e1
    cases e2 : fe s with
    | ok v s2 =>
      rw [e2] at e1
      have e1 : frz v s2 = .exc x s1 := e1
      cases v <;> cases e1
    | exc x s2 => rw [e2] at e1; cases e1; exact p
    | bad => rw [e2] at e1; cases e1
end

/-! ## for -/
def forD (h : PyData → Stt → Option Stt) (body : Ds) : List PyData → Ds
  | [], s => .nx s
  | d :: r, s => match h d s with
    | none => .bad
    | some s => match body s with
      | .nx s => forD h body r s
      | .ct s => forD h body r s
      | .bk s => .nx s
      | x => x
def dFor (f : De (List PyData)) (h : PyData → Stt → Option Stt) (body : Ds) : Ds := fun s => (f s).toS fun ds s => forD h body ds s
theorem ps_dFor {X : Cx} {mg : Str → Option Value} {W : WX} {tg iter : Expr} {body : List Stmt} {fi : De (List PyData)} {h : PyData → Stt → Option Stt} {is : List Nat} {fb : Ds} {pos : Pos} (hp : PassesOwn (model X.prog X.w) X.A X.env X.xe) (hc : X.calm = true)
    (hi : PI X tg iter (tI X.K mg W fi)) (hg : PG X tg (tG X.K mg is h)) (hb : PSs X body (tS X.K mg W fb)) (hs : ∀ x, foldedSetIterable iter X.env x = pure x) : PS X (.For tg iter body [] pos) (tS X.K mg W (dFor fi h fb)) := by
  refine PS.by fun pins s₀ σ H D I q => ⟨_, ps_for hp hc hi hg hb hs, ?_⟩
  obtain ⟨g, s, F, hK, hm, w, p⟩ := q
  refine ⟨g, s, F, hK, hm, w, ?_⟩
  refine (Post.toS p).imp fun ds s1 F1 H1 w1 m1 p1 J gv => ?_
  refine ⟨fun i m σ H => m = ds.length - i ∧ i ≤ ds.length ∧ ∃ s F2, Wf g s σ F2 H ∧ Same F1 F2 ∧ PostS g W F2 (forD h fb (ds.drop i) s) D, ⟨ds.length, rfl, Nat.zero_le _, s1, F1, w1, Same.refl _, by rw [List.drop_zero]; exact p1⟩, ?_⟩
  rintro i m σ H ⟨rfl, hi, s2, F2, w2, m2, p2⟩
  obtain ⟨g1, g2, g3⟩ := gv g s2 σ F2 H i hK w2 m2
  by_cases hlt : i < ds.length
  · refine .inr ⟨g1 hlt, fun σ' H' => ∃ s F3, Wf g s σ' F3 H' ∧ Same F1 F3 ∧ PostS g W F3 (forD h fb (ds.drop (i + 1)) s) D, fun σ' H' z => ⟨ds.length - (i + 1), by omega, rfl, hlt, z⟩, fun x H3 y => ?_⟩
    obtain ⟨F3, w3, m3, r3, _⟩ := g3 x H3 ds[i] (List.getElem?_eq_getElem hlt) y
    rw [List.drop_eq_getElem_cons hlt] at p2
    unfold forD at p2
    cases e : h ds[i] s2 with
    | none => rw [e] at p2; exact p2.elim
    | some s3 =>
      rw [e] at p2
      refine ⟨g, s2, F3, ds[i], s3, hK, hm, w3, r3, e, fun σ' w' _ => ⟨g, s3, F3, hK, hm, w', ?_⟩⟩
      have p2 : PostS g W F2 (match fb s3 with
        | .nx s => forD h fb (ds.drop (i + 1)) s
        | .ct s => forD h fb (ds.drop (i + 1)) s
        | .bk s => .nx s
        | x => x) D := p2
      have p2 := p2.mono m3
      cases e2 : fb s3 with
      | nx s4 => rw [e2] at p2; exact fun σ' F' H' w' m' => ⟨s4, F', w', (m2.trans m3).trans m', PostS.mono m' p2⟩
      | ct s4 => rw [e2] at p2; exact fun σ' F' H' w' m' => ⟨s4, F', w', (m2.trans m3).trans m', PostS.mono m' p2⟩
      | bk s4 => rw [e2] at p2; exact p2
      | rt v s4 => rw [e2] at p2; exact p2
      | exc x s4 => rw [e2] at p2; exact p2
      | bad => rw [e2] at p2; exact p2.elim
  · have e : i = ds.length := by omega
    subst e
    rw [List.drop_length] at p2
    exact .inl ⟨g2 (Nat.le_refl _), p2 σ F2 H w2 (Same.refl _)⟩
end Ev

namespace Ev
open PySem PySem.Spec PyProof.Rows L2

/-! ## a nested entry, once more: what is wanted of results -/
section
variable {g : Gh} {s s' : Stt} {σ σ' : L2.St} {F H F' H' : Hp} {W : WX}
theorem Post.sub {α : Type} {r : Res α} {k : α → Stt → Hp → Hp → Prop} (w : Wf g s σ F H) (p : Post g W σ' F r k) : Post (g.sub s σ F H) W σ' F r fun a s1 F1 H1 => Wf (g.sub s σ F H) s1 σ' F1 H1 ∧ k a s1 F1 H1 := by
  cases r with
  | ok a s1 => exact fun F1 H1 w1 m1 => ⟨w1, p F1 H1 (w.unstrip w1) m1⟩
  | exc x s1 => exact fun F1 H1 cls d w1 m1 x => p F1 H1 cls d (w.unstrip w1) m1 x
  | bad => exact p
/-- an owned list outside the slots stays -/
theorem VRep.stays {D : Addr} {acc : List PyData} (w : Wf g s σ F H) (r : VRep g s σ F H (.ref D) (.own acc)) (w' : Wf (g.sub s σ F H) s' σ' F' H') : VRep g s' σ' F' H' (.ref D) (.own acc) := by
  obtain ⟨a, e, o, ap⟩ := r
  cases e
  obtain ⟨vs, e1, z, ra⟩ := o.at_
  have h1 : (g.sub s σ F H).H0 D = some (.lst vs) := by
    show Ev.strip s σ H D = _
    unfold Ev.strip
    rw [if_neg, e1]
    rintro ⟨i, xs, e2, e3⟩
    exact ap i xs e2 e3
  refine ⟨D, rfl, ⟨o.ne, o.new, ?_, vs, w'.base D _ o.ne h1, z, ra.mono w'.ff⟩, fun i xs e2 e3 => ?_⟩
  · rw [w'.new D (by rw [h1]; exact fun z => nomatch z)]
    exact o.hid
  · obtain ⟨u, e4, r4⟩ := w'.slots i _ e2
    rw [e3] at e4; cases e4
    obtain ⟨b, e5, o5⟩ := r4
    cases e5
    have := o5.new
    rw [h1] at this; cases this
/-- the owned list outside the slots is written -/
theorem Wf.poke {D : Addr} {acc acc' : List PyData} {vs : List V} (w : Wf g s σ F H) (r : VRep g s σ F H (.ref D) (.own acc)) (z : vs.length ≤ sizeLine) (ra : RpAll g.K F vs acc') :
    Wf g s σ F (upd H D (.lst vs)) ∧ VRep g s σ F (upd H D (.lst vs)) (.ref D) (.own acc') := by
  obtain ⟨a, e, o, ap⟩ := r
  cases e
  refine ⟨⟨w.len, fun b x h => ?_, w.ff, w.new, fun b x h1 h2 => ?_, w.hpa, ?_, fun i v e1 => ?_, w.sep⟩, D, rfl, ⟨o.ne, o.new, o.hid, vs, upd_same, z, ra⟩, ap⟩
  · have hb : b ≠ D := by rintro rfl; rw [o.hid] at h; cases h
    rw [upd_ne hb]; exact w.sub _ _ h
  · have hb : b ≠ D := by rintro rfl; rw [o.new] at h2; cases h2
    rw [upd_ne hb]; exact w.base b x h1 h2
  · obtain ⟨vs', e', z', r'⟩ := w.pot
    exact ⟨vs', by rw [upd_ne o.ne.symm]; exact e', z', r'⟩
  · obtain ⟨u, e2, r2⟩ := w.slots i v e1
    refine ⟨u, e2, ?_⟩
    cases v with
    | dat d => exact r2
    | pot => exact r2
    | bor _ => exact r2
    | own ys =>
      obtain ⟨b, e3, o2⟩ := r2
      have hb : b ≠ D := by
        rintro rfl
        exact ap i ys e1 (e2.trans (by rw [e3]))
      exact ⟨b, e3, o2.keep (Same.refl _) o2.hid (upd_ne hb)⟩
/-- other slots' values, where the state knows nothing -/
theorem Wf.reslot (w : Wf g s σ F H) (hl : σ'.length = σ.length) (h : ∀ (i : Nat) v, s.ρ[i]? = some (some v) → σ'[i]? = σ[i]?) : Wf g s σ' F H := by
  refine ⟨w.len.trans hl.symm, w.sub, w.ff, w.new, w.base, w.hpa, w.pot, fun i v e => ?_, fun i j xs ys a e1 e2 e3 e4 => ?_⟩
  · obtain ⟨u, e1, r⟩ := w.slots i v e
    exact ⟨u, (h i v e).trans e1, r⟩
  · exact w.sep i j xs ys a e1 e2 ((h i _ e1).symm.trans e3) ((h j _ e2).symm.trans e4)
theorem VRep.reslot {u : V} {v : Va} (r : VRep g s σ F H u v) (h : ∀ (i : Nat) v, s.ρ[i]? = some (some v) → σ'[i]? = σ[i]?) : VRep g s σ' F H u v := by
  cases v with
  | dat d => exact r
  | pot => exact r
  | bor _ => exact r
  | own xs =>
    obtain ⟨a, e, o, ap⟩ := r
    exact ⟨a, e, o, fun i ys e1 e2 => ap i ys e1 ((h i _ e1).symm.trans e2)⟩
end

/-! ## list comprehensions -/
def wipeR (ρ : List (Option Va)) : List Nat → List (Option Va)
  | [] => ρ
  | v :: vs => (wipeR ρ vs).set v none
def wipeS (s : Stt) (vs : List Nat) : Stt := ⟨wipeR s.ρ vs, s.S⟩
theorem wipeR_length (ρ : List (Option Va)) : ∀ vs : List Nat, (wipeR ρ vs).length = ρ.length
  | [] => rfl
  | v :: vs => by unfold wipeR; rw [List.length_set, wipeR_length ρ vs]
theorem wipeR_some {ρ : List (Option Va)} {i : Nat} {x : Va} : ∀ {vs : List Nat}, (wipeR ρ vs)[i]? = some (some x) → ρ[i]? = some (some x) ∧ i ∉ vs
  | [], h => ⟨h, by simp⟩
  | v :: vs, h => by
    unfold wipeR at h
    by_cases hi : v = i
    · subst hi
      by_cases hv : v < (wipeR ρ vs).length
      · rw [List.getElem?_set_self hv] at h; cases h
      · rw [List.getElem?_eq_none (by simpa using hv)] at h; cases h
    · rw [List.getElem?_set_ne hi] at h
      obtain ⟨h1, h2⟩ := wipeR_some h
      exact ⟨h1, by simp only [List.mem_cons, not_or]; exact ⟨fun e => hi e.symm, h2⟩⟩
theorem wipeR_out {ρ : List (Option Va)} {i : Nat} : ∀ {vs : List Nat}, i ∉ vs → (wipeR ρ vs)[i]? = ρ[i]?
  | [], _ => rfl
  | v :: vs, h => by
    have h1 : v ≠ i := fun e => h (by rw [e]; exact List.mem_cons_self)
    have h2 : i ∉ vs := fun m => h (List.mem_cons_of_mem _ m)
    unfold wipeR
    rw [List.getElem?_set_ne h1]
    exact wipeR_out h2
theorem wipe_at {σ : L2.St} {i : Nat} : ∀ {vs : List Nat}, i ∈ vs → i < σ.length → (wipe σ vs)[i]? = some none
  | v :: vs, h, hl => by
    unfold wipe
    by_cases hv : v = i
    · subst hv; rw [List.getElem?_set_self (by rw [wipe_length]; exact hl)]
    · rw [List.getElem?_set_ne hv]
      exact wipe_at ((List.mem_cons.mp h).resolve_left fun e => hv e.symm) hl
theorem wipe_off {σ σ' : L2.St} {is vs : List Nat} (o : Off is (wipe σ vs) σ') (h : ∀ i ∈ is, i ∈ vs) : wipe σ' vs = wipe σ vs := by
  have hl : σ'.length = σ.length := o.1.trans (wipe_length σ vs)
  refine List.ext_getElem? fun j => ?_
  by_cases hj : j ∈ vs
  · by_cases hlt : j < σ.length
    · rw [wipe_at hj (by rw [hl]; exact hlt), wipe_at hj hlt]
    · rw [List.getElem?_eq_none (by rw [wipe_length, hl]; omega), List.getElem?_eq_none (by rw [wipe_length]; omega)]
  · rw [wipe_out hj, o.2 j fun z => hj (h j z)]
section
variable {g : Gh} {s : Stt} {σ σ2 : L2.St} {F H : Hp} {vs : List Nat}
theorem Wf.wipes (w : Wf g s σ F H) (vs : List Nat) : Wf g (wipeS s vs) (wipe σ vs) F H := by
  have w1 : Wf g (wipeS s vs) σ F H := by
    refine ⟨(wipeR_length s.ρ vs).trans w.len, w.sub, w.ff, w.new, w.base, w.hpa, w.pot, fun j v e => w.slots j v (wipeR_some e).1, fun i' j' xs ys a h1 h2 => w.sep i' j' xs ys a (wipeR_some h1).1 (wipeR_some h2).1⟩
  exact w1.reslot (wipe_length σ vs) fun i v e => wipe_out (wipeR_some (vs := vs) e).2
theorem VRep.wipes {D : Addr} {acc : List PyData} (r : VRep g s σ F H (.ref D) (.own acc)) (vs : List Nat) : VRep g (wipeS s vs) (wipe σ vs) F H (.ref D) (.own acc) := by
  obtain ⟨a, e, o, ap⟩ := r
  exact ⟨a, e, o, fun i xs e1 e2 => by
    obtain ⟨e3, e4⟩ := wipeR_some (vs := vs) e1
    rw [wipe_out e4] at e2
    exact ap i xs e3 e2⟩
end
/-- no exception leaves it -/
def noX {α : Type} : Res α → Res α
  | .exc _ _ => .bad
  | r => r
abbrev WF : WX := fun _ _ _ _ => False
theorem Post.noX {α : Type} {g : Gh} {W : WX} {σ : L2.St} {F : Hp} {r : Res α} {k : α → Stt → Hp → Hp → Prop} (p : Post g W σ F (noX r) k) (W' : WX) : Post g W' σ F r k := by
  cases r with
  | ok a s => exact p
  | exc x s => exact p.elim
  | bad => exact p
abbrev Acc := List PyData → De (List PyData)
def accE (f : De Va) : Acc := fun acc s => (noX (dFrz f s)).bind fun y s => if acc.length < 16777216 then .ok (acc ++ [y]) s else .bad
def lcLoop (h : PyData → Stt → Option Stt) (ft : De Bool) (vs : List Nat) (inner : Acc) : List PyData → Acc
  | [], acc, s => .ok acc s
  | d :: r, acc, s => match h d (wipeS s vs) with
    | none => .bad
    | some s => (noX (ft s)).bind fun b s => if b = true then (inner acc s).bind fun acc s => lcLoop h ft vs inner r acc s else lcLoop h ft vs inner r acc s
/-- a further clause -/
def accL (fi : De (List PyData)) (h : PyData → Stt → Option Stt) (ft : De Bool) (vs : List Nat) (inner : Acc) : Acc := fun acc s => (noX (fi s)).bind fun ds s => (lcLoop h ft vs inner ds acc s).bind fun acc s => .ok acc (wipeS s vs)
/-- the slots of the block's own names as they were ahead of it; none of them owned -/
def plainAt (ρ : List (Option Va)) (v : Nat) : Bool := match ρ[v]? with
  | some (some (.own _)) => false
  | some (some (.bor _)) => false
  | _ => true
def back (ρ0 ρ : List (Option Va)) : List Nat → List (Option Va)
  | [] => ρ
  | v :: vs => (back ρ0 ρ vs).set v ((ρ0[v]?).join)
def dLc (fi : De (List PyData)) (h : PyData → Stt → Option Stt) (ft : De Bool) (vs : List Nat) (inner : Acc) : De Va := fun s => (fi s).bind fun ds s0 =>
  if vs.all (plainAt s0.ρ) = true then (noX (lcLoop h ft vs inner ds [] s0)).bind fun acc s => .ok (.own acc) ⟨back s0.ρ s.ρ vs, s.S⟩ else .bad
theorem back_length (ρ0 ρ : List (Option Va)) : ∀ vs : List Nat, (back ρ0 ρ vs).length = ρ.length
  | [] => rfl
  | v :: vs => by unfold back; rw [List.length_set, back_length ρ0 ρ vs]
theorem back_some {ρ0 ρ : List (Option Va)} {i : Nat} {x : Va} : ∀ {vs : List Nat}, (back ρ0 ρ vs)[i]? = some (some x) → (i ∈ vs ∧ ρ0[i]? = some (some x)) ∨ (i ∉ vs ∧ ρ[i]? = some (some x))
  | [], h => .inr ⟨by simp, h⟩
  | v :: vs, h => by
    unfold back at h
    by_cases hi : v = i
    · subst hi
      by_cases hv : v < (back ρ0 ρ vs).length
      · rw [List.getElem?_set_self hv] at h
        have h := Option.some.inj h
        cases e : ρ0[v]? with
        | none => rw [e] at h; cases h
        | some o => rw [e] at h; exact .inl ⟨List.mem_cons_self, congrArg some h⟩
      · rw [List.getElem?_eq_none (by simpa using hv)] at h; cases h
    · rw [List.getElem?_set_ne hi] at h
      rcases back_some h with ⟨h1, h2⟩ | ⟨h1, h2⟩
      · exact .inl ⟨List.mem_cons_of_mem _ h1, h2⟩
      · exact .inr ⟨by simp only [List.mem_cons, not_or]; exact ⟨fun e => hi e.symm, h1⟩, h2⟩
/-- one clause's reading, over the next one's -/
def LoopR (J : It) (gt : TG) (tt : TT) (body : L2.St → Hp → (Hp → Prop) → Prop) (σ : L2.St) (vs : List Nat) (H0 : Hp) (Q : Hp → Prop) : Prop :=
  ∃ W : Nat → Nat → Hp → Prop, (∃ m, W 0 m H0) ∧ ∀ i m H, W i m H → (J.stop i H ∧ Q H) ∨ (J.go i H ∧ ∃ Nx : Hp → Prop, (∀ H', Nx H' → ∃ m', m' < m ∧ W (i + 1) m' H') ∧
    ∀ x H', J.yld i H x H' → gt x (wipe σ vs) H' fun σ2 H2 => wipe σ2 vs = wipe σ vs ∧ tt σ2 H2 fun b H3 => if b = true then body σ2 H3 Nx else Nx H3)
/-- what a clause's inner part is worth: from an owned list at D it goes on to the next turn -/
def InnerOk (K : PySem.W.Frag) (mg : Str → Option Value) (D : Addr) (inner : Acc) (body : L2.St → Hp → (Hp → Prop) → Prop) : Prop :=
  ∀ (g : Gh) (s : Stt) (σ : L2.St) (F H : Hp) (acc acc' : List PyData) (s' : Stt) (Nx : Hp → Prop), g.K = K → g.mg = mg → Wf g s σ F H → VRep g s σ F H (.ref D) (.own acc) → inner acc s = .ok acc' s' →
    (∀ F' H', Wf g s' σ F' H' → Same F F' → VRep g s' σ F' H' (.ref D) (.own acc') → Nx H') → body σ H Nx
theorem noX_ok {α : Type} {r : Res α} {a : α} {s : Stt} (h : noX r = .ok a s) : r = .ok a s := by
  cases r with
  | ok b t => exact h
  | exc x t => cases h
  | bad => cases h
theorem bind_ok {α β : Type} {r : Res α} {f : α → De β} {b : β} {s : Stt} (h : r.bind f = .ok b s) : ∃ a t, r = .ok a t ∧ f a t = .ok b s := by
  cases r with
  | ok a t => exact ⟨a, t, rfl, h⟩
  | exc x t => cases h
  | bad => cases h
section
variable {K : PySem.W.Frag} {mg : Str → Option Value} {D : Addr} {W : WX} {g : Gh} {s s1 : Stt} {σ : L2.St} {F H : Hp}
theorem tE_ok {f : De Va} {v : Va} {R : VK} (hK : g.K = K) (hm : g.mg = mg) (w : Wf g s σ F H) (e : f s = .ok v s1) (c : ∀ F1 H1 u, Wf g s1 σ F1 H1 → Same F F1 → VRep g s1 σ F1 H1 u v → R u H1) : tE K mg W f σ H R := by
  refine ⟨g, s, F, hK, hm, w, ?_⟩
  rw [e]
  exact fun F1 H1 w1 m1 u r => c F1 H1 u w1 m1 r
theorem tE_okF {f : De Va} {d : PyData} {R : VK} (hK : g.K = K) (hm : g.mg = mg) (w : Wf g s σ F H) (e : dFrz f s = .ok d s1) (c : ∀ F1 H1 u, Wf g s1 σ F1 H1 → Same F F1 → Rp g.K F1 u d → R u H1) : tE K mg W f σ H R := by
  obtain ⟨v, t, e1, e2⟩ := bind_ok e
  refine tE_ok hK hm w e1 fun F1 H1 u w1 m1 r => ?_
  cases v with
  | dat d => cases e2; exact c F1 H1 u w1 m1 r
  | own xs =>
    cases e2
    obtain ⟨a, rfl, o, ap⟩ := r
    obtain ⟨F2, w2, m2, r2⟩ := w1.freeze o ap
    exact c F2 H1 _ w2 (m1.trans m2) r2
  | bor _ => cases e2
  | pot => cases e2
theorem tT_ok {f : De Bool} {b : Bool} {R : Bool → Hp → Prop} (hK : g.K = K) (hm : g.mg = mg) (w : Wf g s σ F H) (e : f s = .ok b s1) (c : ∀ F1 H1, Wf g s1 σ F1 H1 → Same F F1 → R b H1) : tT K mg W f σ H R := by
  refine ⟨g, s, F, hK, hm, w, ?_⟩
  rw [e]
  exact fun F1 H1 w1 m1 => c F1 H1 w1 m1
theorem tI_ok {f : De (List PyData)} {ds : List PyData} {R : It → Hp → Prop} (hK : g.K = K) (hm : g.mg = mg) (w : Wf g s σ F H) (e : f s = .ok ds s1) (c : ∀ F1 H1 J, Wf g s1 σ F1 H1 → Same F F1 → Gives K F1 J ds → R J H1) : tI K mg W f σ H R := by
  refine ⟨g, s, F, hK, hm, w, ?_⟩
  rw [e]
  exact fun F1 H1 w1 m1 J gv => c F1 H1 J w1 m1 gv
theorem inner_elt {f : De Va} : InnerOk K mg D (accE f) fun σ H Nx => tE K mg WF f σ H fun y H4 => ∃ acc, H4 D = some (.lst acc) ∧ acc.length < sizeLine ∧ Nx (upd H4 D (.lst (acc ++ [y]))) := by
  intro g s σ F H acc acc' s' Nx hK hm w rD e next
  obtain ⟨d, t, e1, e2⟩ := bind_ok e
  split at e2
  · rename_i hz
    cases e2
    refine tE_okF (g := g.sub s σ F H) hK hm w.strip (noX_ok e1) fun F2 H1 u w2 m2 r2 => ?_
    have rD2 := VRep.stays w rD w2
    have w3 := w.unstrip w2
    obtain ⟨a, e, o, ap⟩ := id rD2
    cases e
    obtain ⟨vs, e1, z, ra⟩ := o.at_
    have hz' : vs.length < sizeLine := by rw [ra.length, sizeLine_eq]; exact hz
    refine ⟨vs, e1, hz', ?_⟩
    obtain ⟨w4, rD4⟩ := w3.poke rD2 (vs := vs ++ [u]) (acc' := acc ++ [d]) (by rw [List.length_append]; exact hz') (ra.append (.cons r2 .nil))
    exact next F2 _ w4 m2 rD4
  · cases e2
theorem loop_ok {h : PyData → Stt → Option Stt} {ft : De Bool} {vs is : List Nat} {inner : Acc} {body : L2.St → Hp → (Hp → Prop) → Prop} (his : ∀ i ∈ is, i ∈ vs) (hin : InnerOk K mg D inner body) {acc acc' : List PyData} {s' : Stt} {ds : List PyData} {Q : Hp → Prop} {J : It}
    (hK : g.K = K) (hm : g.mg = mg) (gv : Gives K F J ds) (w : Wf g s σ F H) (rD : VRep g s σ F H (.ref D) (.own acc)) (e : lcLoop h ft vs inner ds acc s = .ok acc' s')
    (fin : ∀ F' H', Wf g (wipeS s' vs) (wipe σ vs) F' H' → Same F F' → VRep g (wipeS s' vs) (wipe σ vs) F' H' (.ref D) (.own acc') → Q H') :
    LoopR J (tG K mg is h) (tT K mg WF ft) body σ vs H Q := by
  -- the state between two turns: the items left, what is made, what follows
  refine ⟨fun i m H => m = ds.length - i ∧ i ≤ ds.length ∧ ∃ s2 F2 acc2, Wf g (wipeS s2 vs) (wipe σ vs) F2 H ∧ Same F F2 ∧ VRep g (wipeS s2 vs) (wipe σ vs) F2 H (.ref D) (.own acc2) ∧ lcLoop h ft vs inner (ds.drop i) acc2 s2 = .ok acc' s', ⟨ds.length, rfl, Nat.zero_le _, s, F, acc, w.wipes vs, Same.refl _, rD.wipes vs, by rw [List.drop_zero]; exact e⟩, ?_⟩
  rintro i m H ⟨rfl, hi, s2, F2, acc2, w2, m2, rD2, e2⟩
  obtain ⟨g1, g2, g3⟩ := gv g _ _ F2 H i hK w2 m2
  by_cases hlt : i < ds.length
  · refine .inr ⟨g1 hlt, fun H' => ∃ s3 F3 acc3, Wf g (wipeS s3 vs) (wipe σ vs) F3 H' ∧ Same F F3 ∧ VRep g (wipeS s3 vs) (wipe σ vs) F3 H' (.ref D) (.own acc3) ∧ lcLoop h ft vs inner (ds.drop (i + 1)) acc3 s3 = .ok acc' s', fun H' z => ⟨ds.length - (i + 1), by omega, rfl, hlt, z⟩, fun x H3 y => ?_⟩
    rw [List.drop_eq_getElem_cons hlt] at e2
    unfold lcLoop at e2
    cases e3 : h ds[i] (wipeS s2 vs) with
    | none => rw [e3] at e2; cases e2
    | some s3 =>
      rw [e3] at e2
      obtain ⟨b, s4, e4, e5⟩ := bind_ok e2
      obtain ⟨F3, w3, m3, r3, mH, mF⟩ := g3 x H3 ds[i] (List.getElem?_eq_getElem hlt) y
      -- the list is still there behind the item
      have rD3 : VRep g (wipeS s2 vs) (wipe σ vs) F3 H3 (.ref D) (.own acc2) := by
        obtain ⟨a, ea, o, ap⟩ := rD2
        cases ea
        obtain ⟨vl, e1, z, ra⟩ := o.at_
        exact ⟨D, rfl, ⟨o.ne, o.new, (mF D (by rw [e1]; exact fun z => nomatch z)).trans o.hid, vl, mH _ _ e1, z, ra.mono m3⟩, ap⟩
      refine ⟨g.sub (wipeS s2 vs) (wipe σ vs) F3 H3, wipeS s2 vs, F3, ds[i], s3, hK, hm, w3.strip, r3, e3, fun σ2 w4 off => ?_⟩
      have hw := wipe_off off his
      refine ⟨hw, ?_⟩
      have rD4 := VRep.stays w3 rD3 w4
      have w5 := w3.unstrip w4
      have nextW : ∀ {s5 : Stt} {F5 H5 : Hp} {acc5 : List PyData}, Wf g s5 σ2 F5 H5 → Same F3 F5 → VRep g s5 σ2 F5 H5 (.ref D) (.own acc5) → lcLoop h ft vs inner (ds.drop (i + 1)) acc5 s5 = .ok acc' s' → ∃ s3 F3 acc3, Wf g (wipeS s3 vs) (wipe σ vs) F3 H5 ∧ Same F F3 ∧ VRep g (wipeS s3 vs) (wipe σ vs) F3 H5 (.ref D) (.own acc3) ∧ lcLoop h ft vs inner (ds.drop (i + 1)) acc3 s3 = .ok acc' s' := fun {s5 F5 H5 acc5} w6 m6 r6 e6 => by
        have a1 := w6.wipes vs
        have a2 := r6.wipes vs
        rw [hw] at a1 a2
        exact ⟨s5, F5, acc5, a1, (m2.trans m3).trans m6, a2, e6⟩
      refine tT_ok (g := g.sub s3 σ2 F3 H3) hK hm w5.strip (noX_ok e4) fun F5 H5 w6 m6 => ?_
      have rD6 := VRep.stays w5 rD4 w6
      have w7 := w5.unstrip w6
      cases b with
      | false => exact nextW w7 m6 rD6 e5
      | true =>
        obtain ⟨acc7, s7, e7, e8⟩ := bind_ok e5
        exact hin g s4 σ2 F5 H5 acc2 acc7 s7 _ hK hm w7 rD6 e7 fun F8 H8 w8 m8 r8 => nextW w8 (m6.trans m8) r8 e8
  · have e : i = ds.length := by omega
    subst e
    rw [List.drop_length] at e2
    cases e2
    exact .inl ⟨g2 (Nat.le_refl _), fin F2 H w2 m2 rD2⟩
theorem inner_loop {fi : De (List PyData)} {h : PyData → Stt → Option Stt} {ft : De Bool} {vs is : List Nat} {inner : Acc} {body : L2.St → Hp → (Hp → Prop) → Prop} (his : ∀ i ∈ is, i ∈ vs) (hin : InnerOk K mg D inner body) :
    InnerOk K mg D (accL fi h ft vs inner) fun σ H Nx => tI K mg WF fi σ H fun J H1 => LoopR J (tG K mg is h) (tT K mg WF ft) body σ vs H1 Nx := by
  intro g s σ F H acc acc' s' Nx hK hm w rD e next
  obtain ⟨ds, s1, e1, e2⟩ := bind_ok e
  obtain ⟨acc2, s2, e3, e4⟩ := bind_ok e2
  cases e4
  refine tI_ok (g := g.sub s σ F H) hK hm w.strip (noX_ok e1) fun F1 H1 J w1 m1 gv => ?_
  have rD1 := VRep.stays w rD w1
  have w1' := w.unstrip w1
  have hsl : ∀ (i : Nat) v, (wipeS s2 vs).ρ[i]? = some (some v) → σ[i]? = (wipe σ vs)[i]? := fun i v e => (wipe_out (wipeR_some (vs := vs) e).2).symm
  refine loop_ok his hin hK hm gv w1' rD1 e3 fun F2 H2 w2 m2 rD2 => ?_
  exact next F2 H2 (w2.reslot (wipe_length σ vs).symm hsl) (m1.trans m2) (rD2.reslot hsl)
/-- a comprehension's value -/
theorem dLc_core {fi : De (List PyData)} {h : PyData → Stt → Option Stt} {ft : De Bool} {vs is : List Nat} {inner : Acc} {body : Addr → L2.St → Hp → (Hp → Prop) → Prop} {Q : VK} (his : ∀ i ∈ is, i ∈ vs) (hin : ∀ D, InnerOk K mg D inner (body D)) (p : tE K mg W (dLc fi h ft vs inner) σ H Q) :
    tI K mg W fi σ H fun J H1 => ∀ D, H1 D = none → LoopR J (tG K mg is h) (tT K mg WF ft) (body D) σ vs (upd H1 D (.lst [])) fun H' => Q (.ref D) H' := by
  obtain ⟨g, s, F, hK, hm, w, p⟩ := p
  refine ⟨g, s, F, hK, hm, w, ?_⟩
  unfold dLc at p
  refine p.bind.imp fun ds s0 F1 H1 w1 m1 q J gv D hD => ?_
  split at q
  · rename_i hp
    cases e : lcLoop h ft vs inner ds [] s0 with
    | exc x s => rw [e] at q; exact q.elim
    | bad => rw [e] at q; exact q.elim
    | ok acc s1 =>
      rw [e] at q
      obtain ⟨w2, r2⟩ := w1.own_new hD (vs := []) (xs := []) (Nat.zero_le _) .nil
      refine loop_ok his (hin D) hK hm gv w2 r2 e fun F3 H3 w3 m3 r3 => ?_
      -- back in the def's own slots
      have hsl : ∀ (i : Nat) v, (wipeS s1 vs).ρ[i]? = some (some v) → σ[i]? = (wipe σ vs)[i]? := fun i v e => (wipe_out (wipeR_some (vs := vs) e).2).symm
      have w4 : Wf g (wipeS s1 vs) σ F3 H3 := w3.reslot (wipe_length σ vs).symm hsl
      have r4 : VRep g (wipeS s1 vs) σ F3 H3 (.ref D) (.own acc) := r3.reslot hsl
      have key : ∀ (i : Nat) (v : Va), (back s0.ρ s1.ρ vs)[i]? = some (some v) → ((∃ d, v = .dat d ∨ v = .pot) ∧ s0.ρ[i]? = some (some v)) ∨ (wipeS s1 vs).ρ[i]? = some (some v) := fun i v e => by
        rcases back_some e with ⟨h1, h2⟩ | ⟨h1, h2⟩
        · have := List.all_eq_true.mp hp i h1
          unfold plainAt at this
          rw [h2] at this
          cases v with
          | dat d => exact .inl ⟨⟨d, .inl rfl⟩, h2⟩
          | pot => exact .inl ⟨⟨.none, .inr rfl⟩, h2⟩
          | own xs => cases this
          | bor xs => cases this
        · exact .inr (by show (wipeR s1.ρ vs)[i]? = _; rw [wipeR_out h1]; exact h2)
      have w5 : Wf g ⟨back s0.ρ s1.ρ vs, s1.S⟩ σ F3 H3 := by
        refine ⟨(back_length s0.ρ s1.ρ vs).trans ((wipeR_length s1.ρ vs).symm.trans w4.len), w4.sub, w4.ff, w4.new, w4.base, w4.hpa, w4.pot, fun i v e => ?_, fun i j xs ys a e1 e2 e3 e4 => ?_⟩
        · rcases key i v e with ⟨⟨d, hd⟩, e'⟩ | e'
          · obtain ⟨u, e5, r5⟩ := w1.slots i v e'
            refine ⟨u, e5, ?_⟩
            rcases hd with rfl | rfl
            · exact Rp.mono m3 r5
            · exact r5
          · exact w4.slots i v e'
        · have f : ∀ (i : Nat) (xs : List PyData), (back s0.ρ s1.ρ vs)[i]? = some (some (.own xs)) → (wipeS s1 vs).ρ[i]? = some (some (.own xs)) := fun i xs e => by
            rcases key i _ e with ⟨⟨d, hd⟩, e'⟩ | e'
            · rcases hd with hd | hd <;> cases hd
            · exact e'
          exact w4.sep i j xs ys a (f i xs e1) (f j ys e2) e3 e4
      refine q F3 H3 w5 m3 _ ?_
      obtain ⟨a, ea, o, ap⟩ := r4
      refine ⟨a, ea, o, fun i xs e1 e2 => ?_⟩
      rcases key i _ e1 with ⟨⟨d, hd⟩, e'⟩ | e'
      · rcases hd with hd | hd <;> cases hd
      · exact ap i xs e' e2
  · exact q.elim
end

/-! ### the rules -/
def PTsOk (X : Cx) (mg : Str → Option Value) (W : WX) (ifs : List Expr) (ft : De Bool) : Prop := PTs X ifs (tT X.K mg W ft)
def dYes : De Bool := fun s => .ok true s
theorem pts_dNil {X : Cx} {mg : Str → Option Value} {W : WX} : PTs X [] (tT X.K mg W dYes) := ⟨fun pins s₀ σ H Q I q => pts_nil.run pins s₀ σ H Q I (by
  obtain ⟨g, s, F, hK, hm, w, p⟩ := q
  exact p F H w (Same.refl _))⟩
theorem PTs.by {X : Cx} {e : List Expr} {t : TT} (h : ∀ pins s σ H Q, Inv X pins σ H s → t σ H Q → ∃ t', PTs X e t' ∧ t' σ H Q) : PTs X e t :=
  ⟨fun pins s σ H Q I q => by obtain ⟨t', p, q'⟩ := h pins s σ H Q I q; exact p.run pins s σ H Q I q'⟩
theorem pts_dOne {X : Cx} {mg : Str → Option Value} {W : WX} {c : Expr} {ft : De Bool} (h : PT X c (tT X.K mg W ft)) : PTs X [c] (tT X.K mg W ft) := pts_one h
/-- a thing holds in every block of a comprehension -/
abbrev InBlk (X : Cx) (scope : Scope) (P : Cx → Prop) : Prop := ∀ (s : Shared) (H : Hp) (C : Addr) (cl : List (Str × Addr)) (fp : List Addr), P (X.blk s H scope (compEnvC scope cl C X.env) fp)
section
variable {X : Cx} {mg : Str → Option Value} {W : WX} {elt tg iter tg1 iter1 : Expr} {ifs ifs1 : List Expr} {scope : Scope} {own : List (Str × Nat)} {pos spos py : Pos} {fi fi1 : De (List PyData)} {h h1 : PyData → Stt → Option Stt} {ft ft1 : De Bool} {fe : De Va} {is js vs1 : List Nat} {y : Str} {i : Nat}
theorem pe_dLc1 (hc : X.calm = true) (hN : X.N.Nodup) (hi : PI X tg iter (tI X.K mg W fi)) (ok : BlkOk X.N X.env.scope scope own) (his : ∀ i ∈ is, i ∈ own.map (·.2)) (hg : InBlk X scope fun Y => PG Y tg (tG X.K mg is h)) (ht : InBlk X scope fun Y => PTs Y ifs (tT X.K mg WF ft))
    (he : InBlk X scope fun Y => PE Y elt (tE X.K mg WF fe)) (hs : ∀ x, foldedSetIterable iter X.env x = pure x) : PE X (.ListComp elt [⟨tg, iter, ifs, 0⟩] scope pos) (tE X.K mg W (dLc fi h ft (own.map (·.2)) (accE fe))) :=
  PE.by fun pins s₀ σ H Q I q => ⟨_, pe_lc hc hN hi ok hg ht he hs, dLc_core his (fun D => inner_elt) q⟩
theorem ps_dLc1 (hc : X.calm = true) (hN : X.N.Nodup) (hy : X.N[i]? = some y) (hyl : X.env.scope.names.lookup y = some .local) (hsw : swapsWith (.ListComp elt [⟨tg, iter, ifs, 0⟩] scope pos) (some (.Name y py)) spos.line X.env = pure true)
    (hi : PI X tg iter (tI X.K mg W fi)) (ok : BlkOk X.N X.env.scope scope own) (his : ∀ i ∈ is, i ∈ own.map (·.2)) (hg : InBlk X scope fun Y => PG Y tg (tG X.K mg is h)) (ht : InBlk X scope fun Y => PTs Y ifs (tT X.K mg WF ft))
    (he : InBlk X scope fun Y => PE Y elt (tE X.K mg WF fe)) (hs : ∀ x, foldedSetIterable iter X.env x = pure x) : PS X (.Assign [.Name y py] (.ListComp elt [⟨tg, iter, ifs, 0⟩] scope pos) spos) (tS X.K mg W (dSet i (dLc fi h ft (own.map (·.2)) (accE fe)))) := by
  refine PS.by fun pins s₀ σ H D I q => ⟨_, ps_setLc hc hN hy hyl hsw hi ok hg ht he hs, ?_⟩
  obtain ⟨g, s, F, hK, hm, w, p⟩ := q
  refine dLc_core (Q := fun x H1 => gName i x σ H1 D.nx) his (fun D => inner_elt) ⟨g, s, F, hK, hm, w, ?_⟩
  refine (Post.toS p).imp fun v s1 F1 H1 w1 m1 q u r => ?_
  obtain ⟨nb, q⟩ := putV_nx q
  have hl : i < σ.length := by rw [I.len]; exact (List.getElem?_eq_some_iff.mp hy).1
  exact q _ F1 H1 (w1.store hl r nb) (Same.refl _)
theorem pe_dLc2 (hc : X.calm = true) (hN : X.N.Nodup) (hi : PI X tg iter (tI X.K mg W fi)) (ok : BlkOk X.N X.env.scope scope own) (his : ∀ i ∈ is, i ∈ own.map (·.2)) (hjs : ∀ i ∈ js, i ∈ vs1) (hv : ∀ i ∈ vs1, i ∈ own.map (·.2)) (hg : InBlk X scope fun Y => PG Y tg (tG X.K mg is h)) (ht : InBlk X scope fun Y => PTs Y ifs (tT X.K mg WF ft))
    (hi1 : InBlk X scope fun Y => PI Y tg1 iter1 (tI X.K mg WF fi1)) (hg1 : InBlk X scope fun Y => PG Y tg1 (tG X.K mg js h1)) (ht1 : InBlk X scope fun Y => PTs Y ifs1 (tT X.K mg WF ft1))
    (he : InBlk X scope fun Y => PE Y elt (tE X.K mg WF fe)) (hs : ∀ x, foldedSetIterable iter X.env x = pure x) (hs1 : ∀ env x, foldedSetIterable iter1 env x = pure x) :
    PE X (.ListComp elt [⟨tg, iter, ifs, 0⟩, ⟨tg1, iter1, ifs1, 0⟩] scope pos) (tE X.K mg W (dLc fi h ft (own.map (·.2)) (accL fi1 h1 ft1 vs1 (accE fe)))) :=
  PE.by fun pins s₀ σ H Q I q => ⟨_, pe_lc2 hc hN hi ok hv hg ht hi1 hg1 ht1 he hs hs1, dLc_core his (fun D => inner_loop hjs inner_elt) q⟩
theorem ps_dLc2 (hc : X.calm = true) (hN : X.N.Nodup) (hy : X.N[i]? = some y) (hyl : X.env.scope.names.lookup y = some .local) (hsw : swapsWith (.ListComp elt [⟨tg, iter, ifs, 0⟩, ⟨tg1, iter1, ifs1, 0⟩] scope pos) (some (.Name y py)) spos.line X.env = pure true)
    (hi : PI X tg iter (tI X.K mg W fi)) (ok : BlkOk X.N X.env.scope scope own) (his : ∀ i ∈ is, i ∈ own.map (·.2)) (hjs : ∀ i ∈ js, i ∈ vs1) (hv : ∀ i ∈ vs1, i ∈ own.map (·.2)) (hg : InBlk X scope fun Y => PG Y tg (tG X.K mg is h)) (ht : InBlk X scope fun Y => PTs Y ifs (tT X.K mg WF ft))
    (hi1 : InBlk X scope fun Y => PI Y tg1 iter1 (tI X.K mg WF fi1)) (hg1 : InBlk X scope fun Y => PG Y tg1 (tG X.K mg js h1)) (ht1 : InBlk X scope fun Y => PTs Y ifs1 (tT X.K mg WF ft1))
    (he : InBlk X scope fun Y => PE Y elt (tE X.K mg WF fe)) (hs : ∀ x, foldedSetIterable iter X.env x = pure x) (hs1 : ∀ env x, foldedSetIterable iter1 env x = pure x) :
    PS X (.Assign [.Name y py] (.ListComp elt [⟨tg, iter, ifs, 0⟩, ⟨tg1, iter1, ifs1, 0⟩] scope pos) spos) (tS X.K mg W (dSet i (dLc fi h ft (own.map (·.2)) (accL fi1 h1 ft1 vs1 (accE fe))))) := by
  refine PS.by fun pins s₀ σ H D I q => ⟨_, ps_setLc2 hc hN hy hyl hsw hi ok hv hg ht hi1 hg1 ht1 he hs hs1, ?_⟩
  obtain ⟨g, s, F, hK, hm, w, p⟩ := q
  refine dLc_core (Q := fun x H1 => gName i x σ H1 D.nx) his (fun D => inner_loop hjs inner_elt) ⟨g, s, F, hK, hm, w, ?_⟩
  refine (Post.toS p).imp fun v s1 F1 H1 w1 m1 q u r => ?_
  obtain ⟨nb, q⟩ := putV_nx q
  have hl : i < σ.length := by rw [I.len]; exact (List.getElem?_eq_some_iff.mp hy).1
  exact q _ F1 H1 (w1.store hl r nb) (Same.refl _)
end
end Ev

namespace Ev
open PySem PySem.Spec PyProof.Rows L2

/-! ## calls of defs -/
inductive FR where
  | ok (v : Va) (S : List PyData)
  | exc (x : Exn) (S : List PyData)
  | bad
/-- what a def does: of arguments and the pot's content -/
abbrev Fn := List Va → List PyData → FR
/-- from the heaps F, H (the pot at pa) to F', H' -/
structure Step (pa : Addr) (F H F' H' : Hp) : Prop where
  ff : Same F F'
  sub : Same F' H'
  new : ∀ a, H a ≠ none → F' a = F a
  base : ∀ a o, a ≠ pa → H a = some o → H' a = some o
  hpa : F' pa = none
def PotAt (K : PySem.W.Frag) (pa : Addr) (F H : Hp) (S : List PyData) : Prop := ∃ vs, H pa = some (.lst vs) ∧ vs.length ≤ sizeLine ∧ RpAll K F vs S
/-- a def's value: H the heap ahead of the call -/
def RRep (K : PySem.W.Frag) (pa : Addr) (H F' H' : Hp) (u : V) : Va → Prop
  | .dat d => Rp K F' u d
  | .pot => u = .ref pa
  | .own xs => ∃ a vs, u = .ref a ∧ a ≠ pa ∧ H a = none ∧ F' a = none ∧ H' a = some (.lst vs) ∧ vs.length ≤ sizeLine ∧ RpAll K F' vs xs
  | .bor _ => False
def spFn (K : PySem.W.Frag) (mg : Str → Option Value) (np : Nat) (φ : Fn) : Sp := fun vs H Q E => vs.length = np ∧
  ∃ (pa : Addr) (F : Hp) (args : List Va) (S : List PyData), Same F H ∧ F pa = none ∧ PotAt K pa F H S ∧ AReps ⟨K, mg, pa, F, H⟩ F vs args ∧
    match φ args S with
    | .ok v S' => ∀ u F' H', Step pa F H F' H' → PotAt K pa F' H' S' → RRep K pa H F' H' u v → Q u H'
    | .exc x S' => ∀ cls d F' H', Step pa F H F' H' → PotAt K pa F' H' S' → XRep ⟨K, mg, pa, F, H⟩ F' x cls d → E cls d H'
    | .bad => False
section
variable {g : Gh} {s : Stt} {σ : L2.St} {F H F' H' : Hp}
theorem Wf.step (w : Wf g s σ F H) (t : Step g.pa F H F' H') {S' : List PyData} (p : PotAt g.K g.pa F' H' S') : Wf g ⟨s.ρ, S'⟩ σ F' H' := by
  refine ⟨w.len, t.sub, w.ff.trans t.ff, fun a h => ?_, fun a o h1 h2 => t.base a o h1 (w.base a o h1 h2), t.hpa, p, fun i v e => ?_, w.sep⟩
  · by_cases ha : a = g.pa
    · subst ha
      rw [t.hpa]
      exact (w.ff.free w.hpa).symm
    · cases q : g.H0 a with
      | none => exact absurd q h
      | some o => rw [t.new a (by rw [w.base a o ha q]; exact fun z => nomatch z)]; exact w.new a h
  · obtain ⟨u, e1, r⟩ := w.slots i v e
    refine ⟨u, e1, ?_⟩
    cases v with
    | dat d => exact Rp.mono t.ff r
    | pot => exact r
    | bor _ => exact r
    | own xs =>
      obtain ⟨a, e2, o⟩ := r
      obtain ⟨vs, e3, _⟩ := o.at_
      exact ⟨a, e2, o.keep t.ff ((t.new a (by rw [e3]; exact fun z => nomatch z)).trans o.hid) ((t.base a _ o.ne e3).trans e3.symm)⟩
theorem Wf.steps (w : Wf g s σ F H) : Step g.pa g.F0 g.H0 F H := ⟨w.ff, w.sub, w.new, w.base, w.hpa⟩
theorem RRep.v {u : V} {v : Va} (w : Wf g s σ F H) (S' : List PyData) (r : RRep g.K g.pa H F' H' u v) : VRep g ⟨s.ρ, S'⟩ σ F' H' u v := by
  cases v with
  | dat d => exact r
  | pot => exact r
  | bor _ => exact r.elim
  | own xs =>
    obtain ⟨a, vs, rfl, hne, hn, hF, hH, z, ra⟩ := r
    refine ⟨a, rfl, ⟨hne, ?_, hF, vs, hH, z, ra⟩, fun i ys e1 e2 => ?_⟩
    · cases q : g.H0 a with
      | none => rfl
      | some o => rw [w.base a o hne q] at hn; cases hn
    · obtain ⟨u, e3, b, e4, o⟩ := w.slots i _ e1
      rw [e2] at e3; cases e3; cases e4
      obtain ⟨vs', e5, _⟩ := o.at_
      rw [hn] at e5; cases e5
theorem VRep.r {u : V} {v : Va} {s' : Stt} {σ' : L2.St} (r : VRep g s' σ' F' H' u v) (nb : ∀ xs, v ≠ .bor xs) : RRep g.K g.pa g.H0 F' H' u v := by
  cases v with
  | dat d => exact r
  | pot => exact r
  | bor xs => exact absurd rfl (nb xs)
  | own xs =>
    obtain ⟨a, e, o, _⟩ := r
    obtain ⟨vs, e1, z, ra⟩ := o.at_
    exact ⟨a, vs, e, o.ne, o.new, o.hid, e1, z, ra⟩
end
/-- a def by its body -/
def fnOf (np nl : Nat) (body : Ds) : Fn := fun args S => if args.length = np then
    match body ⟨args.map some ++ List.replicate (nl - np) none, S⟩ with
    | .rt (.bor _) _ => .bad
    | .rt v s => .ok v s.S
    | .nx s => .ok (.dat .none) s.S
    | .exc x s => .exc x s.S
    | _ => .bad
  else .bad
/-- the wish of a def's body for exceptions -/
abbrev wOut (E : XK) : WX := fun cls d _ H => E cls d H
section
variable {P : Program} {w : World} {K : PySem.W.Frag} {mg : Str → Option Value} {base : Heap}
theorem slots_args {g : Gh} {F H : Hp} : ∀ {us : List V} {vs : List Va} {i : Nat} {v : Va}, AReps g F us vs → vs[i]? = some v → ∃ u, us[i]? = some u ∧ SlRep g F H u v
  | u :: us, v :: vs, 0, _, ⟨a, b⟩, e => by
    cases e
    refine ⟨u, rfl, ?_⟩
    cases v with
    | dat d => exact a
    | pot => exact a
    | own _ => exact a.elim
    | bor _ => exact a.elim
  | u :: us, v :: vs, i + 1, _, ⟨a, b⟩, e => by
    obtain ⟨u', e1, r⟩ := slots_args (i := i) b (by simpa using e)
    exact ⟨u', by simpa using e1, r⟩
  | [], [], _, _, _, e => by simp at e
  | [], _ :: _, _, _, h, _ => h.elim
  | _ :: _, [], _, _, h, _ => h.elim
theorem wf_start {pa : Addr} {F H : Hp} {vs : List V} {args : List Va} {S : List PyData} {N : List Str} (m : Same F H) (hpa : F pa = none) (p : PotAt K pa F H S) (r : AReps ⟨K, mg, pa, F, H⟩ F vs args) (hl : vs.length ≤ N.length) :
    Wf ⟨K, mg, pa, F, H⟩ ⟨args.map some ++ List.replicate (N.length - vs.length) none, S⟩ (L2.start N vs) F H := by
  have hlen := r.length
  refine ⟨?_, m, Same.refl _, fun _ _ => rfl, fun _ _ _ h => h, hpa, p, fun i v e => ?_, fun i j xs ys a e1 e2 _ _ => ?_⟩
  · show (args.map some ++ List.replicate (N.length - vs.length) none).length = (L2.start N vs).length
    unfold L2.start
    simp [hlen]
  · have e : (args.map some ++ List.replicate (N.length - vs.length) (none : Option Va))[i]? = some (some v) := e
    by_cases hi : i < args.length
    · rw [List.getElem?_append_left (by simpa using hi), List.getElem?_map] at e
      cases q : args[i]? with
      | none => rw [q] at e; cases e
      | some a =>
        rw [q] at e; cases e
        obtain ⟨u, e1, r1⟩ := slots_args (H := H) r q
        refine ⟨u, ?_, r1⟩
        unfold L2.start
        rw [List.getElem?_append_left (by simpa [hlen] using hi), List.getElem?_map, e1]
        rfl
    · rw [List.getElem?_append_right (by simpa using hi), List.getElem?_replicate] at e
      split at e <;> cases e
  · have e1 : (args.map some ++ List.replicate (N.length - vs.length) (none : Option Va))[i]? = some (some (.own xs)) := e1
    by_cases hi : i < args.length
    · rw [List.getElem?_append_left (by simpa using hi), List.getElem?_map] at e1
      cases q : args[i]? with
      | none => rw [q] at e1; cases e1
      | some a =>
        rw [q] at e1; cases e1
        obtain ⟨u, _, r1⟩ := slots_args (H := H) r q
        have : ∀ {us : List V} {vs : List Va} {i : Nat}, AReps ⟨K, mg, pa, F, H⟩ F us vs → vs[i]? = some (.own xs) → False := fun {us vs i} => by
          induction vs generalizing us i with
          | nil => intro _ e; simp at e
          | cons v vs ih =>
            intro h e
            cases us with
            | nil => exact h.elim
            | cons u us =>
              cases i with
              | zero => simp at e; subst e; exact h.1.elim
              | succ i => exact ih h.2 (by simpa using e)
        exact (this r q).elim
    · rw [List.getElem?_append_right (by simpa using hi), List.getElem?_replicate] at e1
      split at e1 <;> cases e1
/-- THE RULE: a def keeps its promise by its body's denotation -/
theorem fn_den {x qual : Str} {st : Stmt} {f : Addr} {fd : FuncData} {N ps : List Str} {k : Nat} {body : Ds} (Fu : Fun K x qual st f fd) (Sc : FnScope N ps (defScope st))
    (hbody : ∀ (cdv : Value) (A : Around) (outer : List PySem.Env) (s : Shared) (H : Hp) (E : XK), Room k (A.deeper (envOfC qual (defScope st) s.heap.objs.size f cdv)) →
      PSs (cxOf (L2.CX P w) P w K mg base N qual (defScope st) f cdv A outer s H E) (defBody st) (tS K mg (wOut E) body)) : FnOk P w K mg base (L2.CX P w) (k + 1) f fd ps (spFn K mg ps.length (fnOf ps.length N.length body)) := by
  refine Fu.okX Sc (fun vs H Q E h => h.1) fun cdv A outer s H vs Q E hr h => ?_
  refine ⟨_, hbody cdv A outer s H E hr, ?_⟩
  obtain ⟨hl, pa, F, args, S, m, hpa, p, r, q⟩ := h
  have hpl : ps.length ≤ N.length := by have := congrArg List.length Sc.pre; rw [List.length_take] at this; omega
  have w0 := wf_start (N := N) m hpa p r (by omega)
  rw [hl] at w0
  have hal : args.length = ps.length := r.length.symm.trans hl
  unfold fnOf at q
  rw [if_pos hal] at q
  refine ⟨_, _, F, rfl, rfl, w0, ?_⟩
  cases e : body ⟨args.map some ++ List.replicate (N.length - ps.length) none, S⟩ with
  | nx s' =>
    rw [e] at q
    exact fun σ' F' H' w' m' => q .non F' H' w'.steps w'.pot .non
  | rt v s' =>
    rw [e] at q
    intro σ' F' H' u w' m' r'
    cases v with
    | dat d => exact q u F' H' w'.steps w'.pot (r'.r fun _ z => nomatch z)
    | own d => exact q u F' H' w'.steps w'.pot (r'.r fun _ z => nomatch z)
    | pot => exact q u F' H' w'.steps w'.pot (r'.r fun _ z => nomatch z)
    | bor d => exact q.elim
  | bk s' => rw [e] at q; exact q.elim
  | ct s' => rw [e] at q; exact q.elim
  | exc x s' =>
    rw [e] at q
    exact fun σ' F' H' cls d w' m' x' => q cls d F' H' w'.steps w'.pot x'
  | bad => rw [e] at q; exact q.elim
end
def dCall (φ : Fn) (fs : De (List Va)) : De Va := fun s => (fs s).bind fun vs s => match φ vs s.S with
  | .ok v S => .ok v ⟨s.ρ, S⟩
  | .exc x S => .exc x ⟨s.ρ, S⟩
  | .bad => .bad
section
variable {X : Cx} {mg : Str → Option Value} {W : WX} {k np : Nat} {f : Addr} {fd : FuncData} {ps : List Str} {x : Str} {p pos : Pos} {e : Expr} {es : List Expr} {fs : De (List Va)} {φ : Fn}
/-- behind the arguments -/
theorem call_core {g : Gh} {s : Stt} {σ : L2.St} {F H : Hp} {Q : VK} {vs : List Va} {us : List V} (hK : g.K = X.K) (hm : g.mg = X.mg) (w : Wf g s σ F H) (r : AReps g F us vs) (hnp : vs.length = np)
    (p : Post g W σ F (match φ vs s.S with
      | .ok v S => Res.ok v ⟨s.ρ, S⟩
      | .exc x S => .exc x ⟨s.ρ, S⟩
      | .bad => .bad) fun v s' F' H' => ∀ u, VRep g s' σ F' H' u v → Q u H') : spFn X.K X.mg np φ us H Q (L2.WE W σ) := by
  have key : ∀ {u : V} {v : Va}, ARep g F u v → ARep ⟨X.K, X.mg, g.pa, F, H⟩ F u v := fun {u v} a => by
    cases v with
    | dat d => exact (show Rp X.K F u d by rw [← hK]; exact a)
    | pot => exact a
    | own _ => exact a
    | bor _ => exact a
  have keys : ∀ {us : List V} {vs : List Va}, AReps g F us vs → AReps ⟨X.K, X.mg, g.pa, F, H⟩ F us vs := fun {us vs} => by
    induction us generalizing vs with
    | nil => intro h; cases vs with
      | nil => trivial
      | cons _ _ => exact h.elim
    | cons u us ih => intro h; cases vs with
      | nil => exact h.elim
      | cons v vs => exact ⟨key h.1, ih h.2⟩
  have hp : PotAt X.K g.pa F H s.S := by rw [← hK]; exact w.pot
  refine ⟨r.length.trans hnp, g.pa, F, vs, s.S, w.sub, w.hpa, hp, keys r, ?_⟩
  cases e : φ vs s.S with
  | ok v S' =>
    rw [e] at p
    intro u F' H' t pt rr
    rw [← hK] at pt rr
    exact p F' H' (w.step t pt) t.ff u (rr.v w S')
  | exc x S' =>
    rw [e] at p
    intro cls d F' H' t pt xr
    rw [← hK] at pt
    refine p F' H' cls d (w.step t pt) t.ff ?_
    obtain ⟨C, h1, h2, h3⟩ := xr
    refine ⟨C, by rw [hm]; exact h1, h2, ?_⟩
    rw [hK]
    exact h3
  | bad => rw [e] at p; exact p.elim
theorem pe_dCall (F : FnOk X.prog X.w X.K X.mg X.base (L2.CX X.prog X.w) k f fd ps (spFn X.K X.mg np φ)) (hr : Room k X.A) (hg : Gl X x) (hmx : X.mg x = some (.ref f)) (hk : PySem.W.keepIn X.K (.ref f) = true) (hb : Binds X.K fd ps []) (tk : Takes X W)
    (ha : PA X (e :: es) (tA X.K X.mg W fs)) (hφ : ∀ vs S, vs.length ≠ np → φ vs S = .bad) (hdb : (x == ("__debug__" : Str)) = false) (he : starEach (e :: es) X.env = (false, eval e X.env) :: starEach es X.env) (hpl : (backTo pos (starEach es X.env)).any (·.1) = false) :
    PE X (.Call (.Name x p) (e :: es) [] pos) (tE X.K X.mg W (dCall φ fs)) := by
  refine PE.by fun pins s₀ σ H Q I q => ⟨_, pe_callS F hr hg hmx hk hb (fun σ => passAt tk σ) ha hdb he hpl, ?_⟩
  obtain ⟨g, s, F, hK, hm, w, p⟩ := q
  refine ⟨g, s, F, hK, hm, w, ?_⟩
  unfold dCall at p
  cases e1 : fs s with
  | ok vs s1 =>
    rw [e1] at p
    refine fun F1 H1 w1 m1 us r1 => ?_
    by_cases hn : vs.length = np
    · exact call_core hK hm w1 r1 hn (p.mono m1)
    · have p := p
      show spFn X.K X.mg np φ us H1 Q (L2.WE W σ)
      have p : Post g W σ F (match φ vs s1.S with
        | .ok v S => Res.ok v ⟨s1.ρ, S⟩
        | .exc x S => .exc x ⟨s1.ρ, S⟩
        | .bad => .bad) _ := p
      rw [hφ vs s1.S hn] at p
      exact p.elim
  | exc x s1 => rw [e1] at p; exact p
  | bad => rw [e1] at p; exact p.elim
/-- a call without arguments -/
theorem pe_dCall0 (F : FnOk X.prog X.w X.K X.mg X.base (L2.CX X.prog X.w) k f fd ps (spFn X.K X.mg 0 φ)) (hr : Room k X.A) (hg : Gl X x) (hmx : X.mg x = some (.ref f)) (hk : PySem.W.keepIn X.K (.ref f) = true) (hb : Binds X.K fd ps []) (tk : Takes X W)
    (hdb : (x == ("__debug__" : Str)) = false) : PE X (.Call (.Name x p) [] [] pos) (tE X.K X.mg W (dCall φ dNil)) := by
  refine ⟨fun pins s₀ σ H Q I q => ?_⟩
  obtain ⟨g, s, F', hK, hm, w, p⟩ := q
  refine wpAny_Call_Name_kw (ld_glob I hg hmx ?_ hdb)
  exact PySem.W.callWith_K0 I.kIn hk (run_fnS (us := []) (vs := []) F hr hb (passAt tk σ) I .nil (call_core (vs := []) hK hm w trivial rfl p))
end
end Ev

namespace Ev
open PySem PySem.Spec PyProof.Rows L2

/-! ## built-in functions and classes, by values -/
def rMaxC (X : Cx) (f : Value) : List V → Hp → VK → Prop := fun xs H Q => ∃ r, CallR X f r ∧ r xs H Q
theorem rMaxC_ok {X : Cx} {f : Value} : CallR X f (rMaxC X f) := fun pins s σ H xs us Q I rs ⟨r, ho, q⟩ => ho pins s σ H xs us Q I rs q
def intsOf : List PyData → Option (List Int)
  | [] => some []
  | .int i :: r => (intsOf r).map (i :: ·)
  | _ :: _ => none
theorem intsOf_ok {K : PySem.W.Frag} {F : Hp} : ∀ {ds : List PyData} {vs : List V} {ns : List Int}, RpAll K F vs ds → intsOf ds = some ns → vs = ns.map V.int ∧ ds = ns.map PyData.int
  | [], _, _, h, e => by cases e; cases h; exact ⟨rfl, rfl⟩
  | .int i :: r, _, ns, h, e => by
    obtain ⟨ns', e1, rfl⟩ := Option.map_eq_some_iff.mp (show (intsOf r).map (i :: ·) = some ns from e)
    cases h with
    | cons a b =>
      cases a
      obtain ⟨h1, h2⟩ := intsOf_ok b e1
      exact ⟨by rw [h1]; rfl, by rw [h2]; rfl⟩
  | .none :: r, _, _, _, e => nomatch (show none = some _ from e)
  | .bool _ :: r, _, _, _, e => nomatch (show none = some _ from e)
  | .str _ :: r, _, _, _, e => nomatch (show none = some _ from e)
  | .list _ :: r, _, _, _, e => nomatch (show none = some _ from e)
  | .tuple _ :: r, _, _, _, e => nomatch (show none = some _ from e)
  | .dict _ :: r, _, _, _, e => nomatch (show none = some _ from e)
def maxL : List Int → Int
  | [] => 0
  | [x] => x
  | x :: y :: r => max x (maxL (y :: r))
def minL : List Int → Int
  | [] => 0
  | [x] => x
  | x :: y :: r => min x (minL (y :: r))
theorem maxL_mem : ∀ {l : List Int}, l ≠ [] → maxL l ∈ l
  | [x], _ => by simp [maxL]
  | x :: y :: r, _ => by
    have := maxL_mem (l := y :: r) (by simp)
    simp only [maxL]
    rcases Int.le_total x (maxL (y :: r)) with h | h
    · rw [Int.max_eq_right h]; exact List.mem_cons_of_mem _ this
    · rw [Int.max_eq_left h]; exact List.mem_cons_self
theorem le_maxL : ∀ {l : List Int} {y : Int}, y ∈ l → y ≤ maxL l
  | [x], y, h => by simp at h; subst h; simp [maxL]
  | x :: z :: r, y, h => by
    simp only [maxL]
    rcases List.mem_cons.mp h with h | h
    · subst h; exact Int.le_max_left _ _
    · exact Int.le_trans (le_maxL h) (Int.le_max_right _ _)
theorem minL_mem : ∀ {l : List Int}, l ≠ [] → minL l ∈ l
  | [x], _ => by simp [minL]
  | x :: y :: r, _ => by
    have := minL_mem (l := y :: r) (by simp)
    simp only [minL]
    rcases Int.le_total x (minL (y :: r)) with h | h
    · rw [Int.min_eq_left h]; exact List.mem_cons_self
    · rw [Int.min_eq_right h]; exact List.mem_cons_of_mem _ this
theorem minL_le : ∀ {l : List Int} {y : Int}, y ∈ l → minL l ≤ y
  | [x], y, h => by simp at h; subst h; simp [minL]
  | x :: z :: r, y, h => by
    simp only [minL]
    rcases List.mem_cons.mp h with h | h
    · subst h; exact Int.min_le_left _ _
    · exact Int.le_trans (Int.min_le_right _ _) (minL_le h)
inductive B1 where
  | len | abs | sum | max | min | int | bool | str | tuple | list
  deriving DecidableEq
def B1.name : B1 → Str
  | .len => "len" | .abs => "abs" | .sum => "sum" | .max => "max" | .min => "min" | .int => "int" | .bool => "bool" | .str => "str" | .tuple => "tuple" | .list => "list"
def B1.val : B1 → Value
  | .len => .builtin "len" | .abs => .builtin "abs" | .sum => .builtin "sum" | .max => .builtin "max" | .min => .builtin "min"
  | .int => .type "int" | .bool => .type "bool" | .str => .type "str" | .tuple => .type "tuple" | .list => .type "list"
def b1D (b : B1) (d : PyData) : Option Va :=
  match b with
  | .len => match d with
    | .str x => some (.dat (.int x.length))
    | .list xs => some (.dat (.int xs.length))
    | .tuple xs => some (.dat (.int xs.length))
    | _ => none
  | .abs => match d with
    | .int i => some (.dat (.int (if i < 0 then -i else i)))
    | _ => none
  | .sum => match d with
    | .list xs => (intsOf xs).map fun ns => .dat (.int ns.sum)
    | _ => none
  | .max => match d with
    | .list xs => (intsOf xs).bind fun ns => if ns.isEmpty then none else some (.dat (.int (maxL ns)))
    | _ => none
  | .min => match d with
    | .list xs => (intsOf xs).bind fun ns => if ns.isEmpty then none else some (.dat (.int (minL ns)))
    | _ => none
  | .int => match d with
    | .int i => some (.dat (.int i))
    | .bool k => some (.dat (.int (if k then 1 else 0)))
    | _ => none
  | .bool => match d with
    | .int i => some (.dat (.bool (i != 0)))
    | .bool k => some (.dat (.bool k))
    | _ => none
  | .str => match d with
    | .int i => if i.natAbs.log2 < 1920 ∧ okS (toString i) = true then some (.dat (.str (toString i))) else none
    | _ => none
  | .tuple => match d with
    | .list xs => some (.dat (.tuple xs))
    | .tuple xs => some (.dat (.tuple xs))
    | _ => none
  | .list => match d with
    | .list xs => some (.own xs)
    | .tuple xs => some (.own xs)
    | .str x => some (.own (x.cps.toList.map fun c => .str ⟨#[c]⟩))
    | _ => none
/-- the signs of a text -/
theorem call_listT {X : Cx} (hc : X.calm = true) : CallR X (.type "list") (fun xs H Q => ∃ z, xs = [.str z] ∧ z.length ≤ sizeLine ∧ ∀ l, H l = none → Q (.ref l) (upd H l (.lst (z.cps.toList.map fun c => V.str ⟨#[c]⟩)))) := by
  intro pins s σ H xs us Q I r h
  obtain ⟨z, rfl, hz, q⟩ := h
  obtain ⟨u, rfl, t, rfl⟩ := vals1 r
  refine call_list_str (I.ok.hd hc) z t (hn := hz) fun h' tk acc' c' hkeep hS hacc => ?_
  refine ⟨.ref s.heap.objs.size, upd H s.heap.objs.size (.lst (z.cps.toList.map fun c => V.str ⟨#[c]⟩)), I.laid hkeep (Nat.le_refl _) (show ObjOk X.prog X.w _ _ _ (.lst (z.cps.toList.map fun c => V.str ⟨#[c]⟩)) from ⟨?_, acc'.toList, c', ?_, ?_⟩), rfl, q _ (I.hok.fresh (Nat.le_refl _))⟩
  · rw [List.length_map, Array.length_toList]; exact hz
  · refine vals_of_at (by rw [List.length_map, Array.length_toList, Array.length_toList, hacc.1]) fun j x w h1 h2 => ?_
    obtain ⟨c, u, e1, e2⟩ := hacc.2 j w (by rw [← Array.getElem?_toList]; exact h2)
    rw [List.getElem?_map, Array.getElem?_toList, e1] at h1
    cases h1
    exact ⟨u, e2⟩
  · rw [Array.toArray_toList]; exact hS
theorem signs_rp {K : PySem.W.Frag} {F : Hp} {x : Str} (h : okS x = true) : RpAll K F (x.cps.toList.map fun c => V.str ⟨#[c]⟩) (x.cps.toList.map fun c => PyData.str ⟨#[c]⟩) := by
  have key : ∀ cs : List Nat, (∀ c ∈ cs, okS ⟨#[c]⟩ = true) → RpAll K F (cs.map fun c => V.str ⟨#[c]⟩) (cs.map fun c => PyData.str ⟨#[c]⟩) := fun cs => by
    induction cs with
    | nil => intro _; exact .nil
    | cons c cs ih => intro hc; exact .cons (.str (hc c (List.mem_cons_self ..))) (ih fun d hd => hc d (List.mem_cons_of_mem _ hd))
  refine key _ fun c hc => ?_
  obtain ⟨i, hi, e⟩ := List.mem_iff_getElem.mp hc
  refine okS_sign h (i := (i : Int)) (c := c) ?_
  exact atI_nat (by rw [List.getElem?_eq_getElem hi, e])
theorem b1D_ok {X : Cx} (hc : X.calm = true) {b : B1} {d : PyData} {v : Va} {g : Gh} {s : Stt} {σ : L2.St} {F H : Hp} {x : V} {Q : VK} (hK : g.K = X.K) (w : Wf g s σ F H) (r : CRp g.K F H x d) (e : b1D b d = some v)
    (q : ∀ u F' H', Wf g s σ F' H' → Same F F' → VRep g s σ F' H' u v → Q u H') : rMaxC X b.val [x] H Q := by
  have q0 : ∀ u, VRep g s σ F H u v → Q u H := fun u r => q u F H w (Same.refl _) r
  cases b with
  | len =>
    unfold b1D at e; dsimp only at e
    split at e
    · cases e
      rename_i z
      have r : Rp g.K F x (.str z) := r
      cases r with
      | str h => exact ⟨_, call_len, _, z.length, rfl, ⟨okS_len h, rfl⟩, q0 _ (.int _)⟩
    · cases e
      obtain ⟨p, vs, rfl, h, z, a⟩ := r
      exact ⟨_, call_len, _, vs.length, rfl, .inl ⟨vs, .inl (.inl h), rfl⟩, q0 _ (by rw [a.length]; exact .int _)⟩
    · cases e
      obtain ⟨p, vs, rfl, h, z, a⟩ := r
      exact ⟨_, call_len, _, vs.length, rfl, .inr ⟨vs, by rw [← hK]; exact seqT w.sub h, rfl⟩, q0 _ (by rw [a.length]; exact .int _)⟩
    · cases e
  | abs =>
    unfold b1D at e; dsimp only at e
    split at e
    · cases e
      rename_i i
      have r : Rp g.K F x (.int i) := r
      cases r
      exact ⟨_, call_abs, i, rfl, q0 _ (.int _)⟩
    · cases e
  | sum =>
    unfold b1D at e; dsimp only at e
    split at e
    · obtain ⟨ns, e1, rfl⟩ := Option.map_eq_some_iff.mp e
      obtain ⟨p, vs, rfl, h, z, a⟩ := r
      obtain ⟨rfl, rfl⟩ := intsOf_ok a e1
      exact ⟨_, cr_sum hc, p, ns, rfl, .inl (.inl h), q0 _ (.int _)⟩
    · cases e
  | max =>
    unfold b1D at e; dsimp only at e
    split at e
    · obtain ⟨ns, e1, e2⟩ := Option.bind_eq_some_iff.mp e
      split at e2
      · cases e2
      · rename_i hne
        cases e2
        obtain ⟨p, vs, rfl, h, z, a⟩ := r
        obtain ⟨rfl, rfl⟩ := intsOf_ok a e1
        have hne' : ns ≠ [] := fun z => hne (by rw [z]; rfl)
        refine ⟨_, cr_max hc, p, ns, rfl, .inl (.inl h), List.length_pos_iff.mpr hne', fun m h1 h2 => ?_⟩
        have : m = maxL ns := Int.le_antisymm (le_maxL h1) (h2 _ (maxL_mem hne'))
        rw [this]
        exact q0 _ (.int _)
    · cases e
  | min =>
    unfold b1D at e; dsimp only at e
    split at e
    · obtain ⟨ns, e1, e2⟩ := Option.bind_eq_some_iff.mp e
      split at e2
      · cases e2
      · rename_i hne
        cases e2
        obtain ⟨p, vs, rfl, h, z, a⟩ := r
        obtain ⟨rfl, rfl⟩ := intsOf_ok a e1
        have hne' : ns ≠ [] := fun z => hne (by rw [z]; rfl)
        refine ⟨_, cr_min hc, p, ns, rfl, .inl (.inl h), List.length_pos_iff.mpr hne', fun m h1 h2 => ?_⟩
        have : m = minL ns := Int.le_antisymm (h2 _ (minL_mem hne')) (minL_le h1)
        rw [this]
        exact q0 _ (.int _)
    · cases e
  | int =>
    unfold b1D at e; dsimp only at e
    split at e
    · cases e
      rename_i i
      have r : Rp g.K F x (.int i) := r
      cases r
      exact ⟨_, call_int1, .inl ⟨i, rfl, q0 _ (.int _)⟩⟩
    · cases e
      rename_i k
      have r : Rp g.K F x (.bool k) := r
      cases r
      exact ⟨_, call_int1, .inr ⟨k, rfl, q0 _ (.int _)⟩⟩
    · cases e
  | bool =>
    unfold b1D at e; dsimp only at e
    split at e
    · cases e
      rename_i i
      have r : Rp g.K F x (.int i) := r
      cases r
      exact ⟨_, call_bool1, .inl ⟨i, rfl, q0 _ (.bl _)⟩⟩
    · cases e
      rename_i k
      have r : Rp g.K F x (.bool k) := r
      cases r
      exact ⟨_, call_bool1, .inr ⟨k, rfl, q0 _ (.bl _)⟩⟩
    · cases e
  | str =>
    unfold b1D at e; dsimp only at e
    split at e
    · split at e
      · rename_i i hb
        cases e
        have r : Rp g.K F x (.int i) := r
        cases r
        exact ⟨_, call_str_int, i, rfl, hb.1, q0 _ (.str hb.2)⟩
      · cases e
    · cases e
  | tuple =>
    unfold b1D at e; dsimp only at e
    split at e
    · cases e
      obtain ⟨p, vs, rfl, h, z, a⟩ := r
      refine ⟨_, call_tuple_of, p, vs, rfl, .inl ⟨.inl (.inl h), fun l hl => ?_⟩⟩
      have hF := w.none_of hl
      exact q _ _ _ (w.alloc hl _) (same_upd hF) (.tup (SqT.of upd_same) z (a.mono (same_upd hF)))
    · cases e
      obtain ⟨p, vs, rfl, h, z, a⟩ := r
      exact ⟨_, call_tuple_of, p, vs, rfl, .inr ⟨by rw [← hK]; exact seqT w.sub h, q0 _ (.tup h z a)⟩⟩
    · cases e
  | list =>
    unfold b1D at e; dsimp only at e
    split at e
    · cases e
      obtain ⟨p, vs, rfl, h, z, a⟩ := r
      refine ⟨_, call_list_of, p, vs, rfl, .inl (.inl (.inl h)), fun l hl => ?_⟩
      obtain ⟨w2, r2⟩ := w.own_new hl z a
      exact q _ F _ w2 (Same.refl _) r2
    · cases e
      obtain ⟨p, vs, rfl, h, z, a⟩ := r
      refine ⟨_, call_list_of, p, vs, rfl, .inr (by rw [← hK]; exact seqT w.sub h), fun l hl => ?_⟩
      obtain ⟨w2, r2⟩ := w.own_new hl z a
      exact q _ F _ w2 (Same.refl _) r2
    · cases e
      rename_i z
      have r : Rp g.K F x (.str z) := r
      cases r with
      | str h =>
        refine ⟨_, call_listT hc, z, rfl, okS_len h, fun l hl => ?_⟩
        obtain ⟨w2, r2⟩ := w.own_new hl (vs := z.cps.toList.map fun c => V.str ⟨#[c]⟩) (by rw [List.length_map, Array.length_toList]; exact okS_len h) (signs_rp h)
        exact q _ F _ w2 (Same.refl _) r2
    · cases e
def dB1 (b : B1) (f : De Va) : De Va := fun s => (f s).bind fun v s => ofOpt ((valD v).bind (b1D b)) s
theorem boot_B1 (b : B1) : bootBuiltins b.name = some b.val ∧ b.name ≠ "__name__" ∧ (b.name == ("__debug__" : Str)) = false := by
  cases b <;> decide +kernel
theorem pe_dB1 {X : Cx} {mg : Str → Option Value} {W : WX} {b : B1} {x : Str} {p pos : Pos} {e : Expr} {f : De Va} (hc : X.calm = true) (hx : x = b.name) (hg : Gl X x) (hm : X.mg x = none) (he : PE X e (tE X.K mg W f)) (hs : starEach [e] X.env = (false, eval e X.env) :: starEach [] X.env) :
    PE X (.Call (.Name x p) [e] [] pos) (tE X.K mg W (dB1 b f)) := by
  subst hx
  obtain ⟨b1, b2, b3⟩ := boot_B1 b
  have core : ∀ {σ H Q}, tE X.K mg W (dB1 b f) σ H Q → tCB (rMaxC X b.val) (tCons (tE X.K mg W f) tNil) σ H Q := fun {σ H Q} ⟨g, s, F, hK, hmg, w, p⟩ => by
    refine tE_run hK hmg w p fun v s1 F1 H1 u w1 m1 r1 p1 => ?_
    obtain ⟨va, e1, q⟩ := ofOpt_post p1
    obtain ⟨d, e2, e3⟩ := Option.bind_eq_some_iff.mp e1
    exact b1D_ok hc hK w1 (r1.con w1 e2) e3 fun u' F' H' w' m' r' => q F' H' w' m' u' r'
  have ha := pa_cons he pa_nil hs
  cases b with
  | len => exact PE.by fun _ _ σ H Q _ q => ⟨_, pe_callB (rMaxC_ok (f := .builtin "len")) hg hm b1 ha b2 b3 hs rfl, core q⟩
  | abs => exact PE.by fun _ _ σ H Q _ q => ⟨_, pe_callB (rMaxC_ok (f := .builtin "abs")) hg hm b1 ha b2 b3 hs rfl, core q⟩
  | sum => exact PE.by fun _ _ σ H Q _ q => ⟨_, pe_callB (rMaxC_ok (f := .builtin "sum")) hg hm b1 ha b2 b3 hs rfl, core q⟩
  | max => exact PE.by fun _ _ σ H Q _ q => ⟨_, pe_callB (rMaxC_ok (f := .builtin "max")) hg hm b1 ha b2 b3 hs rfl, core q⟩
  | min => exact PE.by fun _ _ σ H Q _ q => ⟨_, pe_callB (rMaxC_ok (f := .builtin "min")) hg hm b1 ha b2 b3 hs rfl, core q⟩
  | int => exact PE.by fun _ _ σ H Q _ q => ⟨_, pe_callTy (rMaxC_ok (f := .type "int")) hg hm b1 ha b2 b3 hs rfl, core q⟩
  | bool => exact PE.by fun _ _ σ H Q _ q => ⟨_, pe_callTy (rMaxC_ok (f := .type "bool")) hg hm b1 ha b2 b3 hs rfl, core q⟩
  | str => exact PE.by fun _ _ σ H Q _ q => ⟨_, pe_callTy (rMaxC_ok (f := .type "str")) hg hm b1 ha b2 b3 hs rfl, core q⟩
  | tuple => exact PE.by fun _ _ σ H Q _ q => ⟨_, pe_callTy (rMaxC_ok (f := .type "tuple")) hg hm b1 ha b2 b3 hs rfl, core q⟩
  | list => exact PE.by fun _ _ σ H Q _ q => ⟨_, pe_callTy (rMaxC_ok (f := .type "list")) hg hm b1 ha b2 b3 hs rfl, core q⟩
/-! max, min of two -/
inductive B2 where
  | max | min
  deriving DecidableEq
def B2.name : B2 → Str
  | .max => "max" | .min => "min"
def b2D (b : B2) (d e : PyData) : Option PyData := match d, e with
  | .int i, .int j => some (match b with
    | .max => .int (if j > i then j else i)
    | .min => .int (if j < i then j else i))
  | _, _ => none
def dB2 (b : B2) (f h : De Va) : De Va := fun s => (dFrz f s).bind fun d s => (dFrz h s).bind fun e s => ofOpt ((b2D b d e).map Va.dat) s
theorem pe_dB2 {X : Cx} {mg : Str → Option Value} {W : WX} {b : B2} {x : Str} {p pos : Pos} {e1 e2 : Expr} {f h : De Va} (hc : X.calm = true) (hx : x = b.name) (hg : Gl X x) (hm : X.mg x = none) (h1 : PE X e1 (tE X.K mg W f)) (h2 : PE X e2 (tE X.K mg W h))
    (hs : starEach [e1, e2] X.env = (false, eval e1 X.env) :: starEach [e2] X.env) (hs2 : starEach [e2] X.env = (false, eval e2 X.env) :: starEach [] X.env) : PE X (.Call (.Name x p) [e1, e2] [] pos) (tE X.K mg W (dB2 b f h)) := by
  subst hx
  have hpl : (backTo pos (starEach [e2] X.env)).any (·.1) = false := by rw [hs2]; rfl
  have ha := pa_cons h1 (pa_cons h2 pa_nil hs2) hs
  have core : ∀ {r : List V → Hp → VK → Prop}, (∀ i j H Q, Q (match b with
    | .max => V.int (if j > i then j else i)
    | .min => V.int (if j < i then j else i)) H → r [.int i, .int j] H Q) → ∀ {σ H Q}, tE X.K mg W (dB2 b f h) σ H Q → tCB r (tCons (tE X.K mg W f) (tCons (tE X.K mg W h) tNil)) σ H Q := fun {r} hr {σ H Q} ⟨g, s, F, hK, hmg, w, p⟩ => by
    refine tE_frz hK hmg w p fun d s1 F1 H1 u w1 m1 r1 p1 => ?_
    refine tE_frz hK hmg w1 p1 fun d2 s2 F2 H2 u2 w2 m2 r2 p2 => ?_
    obtain ⟨va, e3, q⟩ := ofOpt_post p2
    obtain ⟨d3, e4, rfl⟩ := Option.map_eq_some_iff.mp e3
    unfold b2D at e4
    split at e4
    · cases e4
      cases r1; cases r2
      refine hr _ _ H2 Q ?_
      cases b with
      | max => exact q F2 H2 w2 (Same.refl _) _ (.int _)
      | min => exact q F2 H2 w2 (Same.refl _) _ (.int _)
    · cases e4
  cases b with
  | max => exact PE.by fun _ _ σ H Q _ q => ⟨_, pe_callB (call_max2 hc) hg hm (by decide +kernel) ha (by decide +kernel) (by decide +kernel) hs hpl, core (fun i j H Q q => ⟨i, j, rfl, q⟩) q⟩
  | min => exact PE.by fun _ _ σ H Q _ q => ⟨_, pe_callB (call_min2 hc) hg hm (by decide +kernel) ha (by decide +kernel) (by decide +kernel) hs hpl, core (fun i j H Q q => ⟨i, j, rfl, q⟩) q⟩

/-! ## isinstance -/
inductive Ty where
  | int | bool | str | tuple | list | dict
  deriving DecidableEq
def Ty.n : Ty → String
  | .int => "int" | .bool => "bool" | .str => "str" | .tuple => "tuple" | .list => "list" | .dict => "dict"
def Ty.name : Ty → Str
  | .int => "int" | .bool => "bool" | .str => "str" | .tuple => "tuple" | .list => "list" | .dict => "dict"
inductive Kd where
  | none | bool | int | str | list | tuple | dict
def kd : PyData → Kd
  | .none => .none | .bool _ => .bool | .int _ => .int | .str _ => .str | .list _ => .list | .tuple _ => .tuple | .dict _ => .dict
def Kd.n : Kd → String
  | .none => "NoneType" | .bool => "bool" | .int => "int" | .str => "str" | .list => "list" | .tuple => "tuple" | .dict => "dict"
def Kd.isi : Kd → Ty → Bool
  | .bool, .bool => true
  | .bool, .int => true
  | .int, .int => true
  | .str, .str => true
  | .list, .list => true
  | .tuple, .tuple => true
  | .dict, .dict => true
  | _, _ => false
def tyN (d : PyData) : String := (kd d).n
def isiD (d : PyData) (t : Ty) : Bool := (kd d).isi t
def Kd.mro : Kd → List Value
  | .none => [.type "NoneType", .type "object"] | .bool => [.type "bool", .type "int", .type "object"] | .int => [.type "int", .type "object"] | .str => [.type "str", .type "object"]
  | .list => [.type "list", .type "object"] | .tuple => [.type "tuple", .type "object"] | .dict => [.type "dict", .type "object"]
theorem mro_ok (k : Kd) : PySem.fastBuiltinMro k.n = some k.mro := by
  cases k <;> decide +kernel
theorem isiK_ok (k : Kd) (t : Ty) : kitB k.n t.n = some (k.isi t) := by
  unfold kitB
  have h : PySem.W.kitMeta t.n = true := by cases t <;> decide +kernel
  rw [mro_ok k, h]
  cases k <;> cases t <;> decide +kernel
theorem isiD_ok (d : PyData) (t : Ty) : kitB (tyN d) t.n = some (isiD d t) := isiK_ok (kd d) t
theorem tyX_of {K : PySem.W.Frag} {F H : Hp} {x : V} {d : PyData} (m : Same F H) (r : CRp K F H x d) : TyX K H x (.type (tyN d)) := by
  cases d with
  | none => have r : Rp K F x .none := r; cases r; exact .base .non
  | bool b => have r : Rp K F x (.bool b) := r; cases r; exact .base (.bl b)
  | int i => have r : Rp K F x (.int i) := r; cases r; exact .base (.int i)
  | str z => have r : Rp K F x (.str z) := r; cases r; exact .base (.str z)
  | list xs => obtain ⟨p, vs, rfl, h, _⟩ := r; exact .base (.lst h)
  | tuple xs =>
    obtain ⟨p, vs, rfl, h, _⟩ := r
    rcases seqT m h with (h | ⟨o, h⟩) | ⟨o, its, n, h, hc, _⟩
    · exact .base (.tup h)
    · exact .fTuple h
    · exact .kTuple h hc
  | dict _ => have r : Rp K F x (.dict _) := r; cases r
def dIsi (f : De Va) (t : Ty) : De Va := fun s => (f s).bind fun v s => ofOpt ((valD v).map fun d => .dat (.bool (isiD d t))) s
theorem boot_Ty (t : Ty) : bootBuiltins t.name = some (.type t.n) ∧ t.name ≠ "__name__" ∧ (t.name == ("__debug__" : Str)) = false := by
  cases t <;> decide +kernel
section
variable {X : Cx} {mg : Str → Option Value} {W : WX} {p p2 pos : Pos} {e : Expr} {f : De Va} {t : Ty} {x y : Str}
theorem pe_ty (hy : y = t.name) (hg2 : Gl X y) (hm2 : X.mg y = none) : PE X (.Name y p2) (tC (.ty t.n)) := by
  subst hy
  obtain ⟨b1, b2, b3⟩ := boot_Ty t
  exact pe_bltn hg2 hm2 b1 rfl b2 b3
theorem pe_dIsi (hx : x = "isinstance") (hy : y = t.name) (hg : Gl X x) (hm : X.mg x = none) (hg2 : Gl X y) (hm2 : X.mg y = none) (he : PE X e (tE X.K mg W f)) (hs : starEach [e, .Name y p2] X.env = (false, eval e X.env) :: starEach [.Name y p2] X.env) :
    PE X (.Call (.Name x p) [e, .Name y p2] [] pos) (tE X.K mg W (dIsi f t)) := by
  subst hx
  refine PE.by fun pins s₀ σ H Q I q => ⟨_, pe_callB call_isi hg hm (by decide +kernel) (pa_cons he (pa_cons (pe_ty hy hg2 hm2) pa_nil rfl) hs) (by decide +kernel) (by decide +kernel) hs rfl, ?_⟩
  obtain ⟨g, s, F, hK, hmg, w, p⟩ := q
  refine tE_run hK hmg w p fun v s1 F1 H1 u w1 m1 r1 p1 => ?_
  obtain ⟨va, e1, q⟩ := ofOpt_post p1
  obtain ⟨d, e2, rfl⟩ := Option.map_eq_some_iff.mp e1
  refine ⟨u, .ty t.n, _, _, isiD d t, rfl, .ty _, ?_, kit_ty (isiD_ok d t), q F1 H1 w1 (Same.refl _) _ (.bl _)⟩
  rw [← hK]
  exact tyX_of w1.sub (r1.con w1 e2)
end

/-! ## range and zip, walked -/
def rangeL (lo : Int) (n : Nat) : List PyData := (List.range n).map fun (k : Nat) => .int (lo + k)
def inR (i : Int) : Bool := decide (-(2 ^ 62) ≤ i ∧ i < 2 ^ 62)
def dRange1 (f : De Va) : De (List PyData) := fun s => (dFrz f s).bind fun d s => match d with
  | .int j => if inR j = true then .ok (rangeL 0 j.toNat) s else .bad
  | _ => .bad
def dRange2 (f h : De Va) : De (List PyData) := fun s => (dFrz f s).bind fun d s => (dFrz h s).bind fun e s => match d, e with
  | .int i, .int j => if (inR i && inR j) = true then .ok (rangeL i (j - i).toNat) s else .bad
  | _, _ => .bad
theorem gives_range {K : PySem.W.Frag} {F : Hp} (lo : Int) (n : Nat) : Gives K F (Itr lo n) (rangeL lo n) := by
  intro g s σ F1 H1 i hK w m
  have hl : (rangeL lo n).length = n := by simp [rangeL]
  rw [hl]
  refine ⟨fun h => h, fun h => h, fun x H2 d hd y => ?_⟩
  obtain ⟨rfl, rfl⟩ := y
  unfold rangeL at hd
  rw [List.getElem?_map] at hd
  by_cases hi : i < n
  · rw [List.getElem?_range hi] at hd
    cases hd
    exact ⟨F1, w, Same.refl _, .int _, Same.refl _, fun _ _ => rfl⟩
  · rw [List.getElem?_eq_none (by simpa using hi)] at hd; cases hd
section
variable {X : Cx} {mg : Str → Option Value} {W : WX} {p pos : Pos} {tg a b : Expr} {f h : De Va} {x : Str}
theorem pi_dRange1 (hx : x = "range") (hg : Gl X x) (hm : X.mg x = none) (ha : PE X a (tE X.K mg W f)) (hs : starEach [a] X.env = [(false, eval a X.env)]) : PI X tg (.Call (.Name x p) [a] [] pos) (tI X.K mg W (dRange1 f)) := by
  subst hx
  refine PI.by fun pins s₀ σ H R I q => ⟨_, pi_range1 hg hm (pa_cons ha pa_nil hs) hs, ?_⟩
  obtain ⟨g, s, F, hK, hmg, w, p⟩ := q
  refine tE_frz hK hmg w p fun d s1 F1 H1 u w1 m1 r1 p1 => ?_
  cases d with
  | int j =>
    cases r1
    have p1 : Post g W σ F1 (if inR j = true then .ok (rangeL 0 j.toNat) s1 else .bad) _ := p1
    split at p1
    · rename_i hj
      have hj := of_decide_eq_true hj
      exact ⟨j, rfl, hj.1, hj.2, p1 F1 H1 w1 (Same.refl _) _ (gives_range 0 _)⟩
    · exact p1.elim
  | _ => exact p1.elim
theorem pi_dRange2 (hx : x = "range") (hg : Gl X x) (hm : X.mg x = none) (ha : PE X a (tE X.K mg W f)) (hb : PE X b (tE X.K mg W h)) (hs : starEach [a, b] X.env = [(false, eval a X.env), (false, eval b X.env)]) (hs2 : starEach [b] X.env = [(false, eval b X.env)]) :
    PI X tg (.Call (.Name x p) [a, b] [] pos) (tI X.K mg W (dRange2 f h)) := by
  subst hx
  refine PI.by fun pins s₀ σ H R I q => ⟨_, pi_range2 hg hm (pa_cons ha (pa_cons hb pa_nil hs2) (by rw [hs, hs2])) hs hs2, ?_⟩
  obtain ⟨g, s, F, hK, hmg, w, p⟩ := q
  refine tE_frz hK hmg w p fun d s1 F1 H1 u w1 m1 r1 p1 => ?_
  refine tE_frz hK hmg w1 p1 fun e s2 F2 H2 u2 w2 m2 r2 p2 => ?_
  cases d with
  | int i =>
    cases e with
    | int j =>
      cases r1; cases r2
      have p2 : Post g W σ F2 (if (inR i && inR j) = true then .ok (rangeL i (j - i).toNat) s2 else .bad) _ := p2
      split at p2
      · rename_i hj
        obtain ⟨h1, h2⟩ := Bool.and_eq_true_iff.mp hj
        have h1 := of_decide_eq_true h1
        have h2 := of_decide_eq_true h2
        exact ⟨i, j, rfl, ⟨h1.1, h1.2, h2.1, h2.2⟩, p2 F2 H2 w2 (Same.refl _) _ (gives_range i _)⟩
      · exact p2.elim
    | _ => exact p2.elim
  | _ => exact p2.elim
end
end Ev

namespace Ev
open PySem PySem.Spec PyProof.Rows L2

/-! ## owned lists changed in place -/
def ownAt (s : Stt) (i : Nat) : Option (List PyData) := match s.ρ[i]? with
  | some (some (.own xs)) => some xs
  | _ => none
theorem ownAt_eq {s : Stt} {i : Nat} {xs : List PyData} (h : ownAt s i = some xs) : s.ρ[i]? = some (some (.own xs)) := by
  unfold ownAt at h
  split at h
  · cases h; assumption
  · cases h
def setOwn (s : Stt) (i : Nat) (xs : List PyData) : Stt := ⟨s.ρ.set i (some (.own xs)), s.S⟩
theorem own_get {g : Gh} {s : Stt} {σ : L2.St} {F H : Hp} {i : Nat} {xs : List PyData} (w : Wf g s σ F H) (h : ownAt s i = some xs) : ∃ a vs, σ[i]? = some (some (.ref a)) ∧ H a = some (.lst vs) ∧ vs.length ≤ sizeLine ∧ RpAll g.K F vs xs := by
  obtain ⟨u, e1, a, rfl, o⟩ := w.slots i _ (ownAt_eq h)
  obtain ⟨vs, e2, z, r⟩ := o.at_
  exact ⟨a, vs, e1, e2, z, r⟩
/-- x.append(e) -/
def dApp (i : Nat) (f : De Va) : De Va := fun s => match ownAt s i with
  | none => .bad
  | some _ => (dFrz f s).bind fun d s => match ownAt s i with
    | none => .bad
    | some xs => if xs.length < 16777216 then .ok (.dat .none) (setOwn s i (xs ++ [d])) else .bad
/-- x.extend(e), e a list -/
def dExt (i : Nat) (f : De Va) : De Va := fun s => match ownAt s i with
  | none => .bad
  | some _ => (dFrz f s).bind fun d s => match ownAt s i, d with
    | some xs, .list ys => if xs.length + ys.length ≤ 16777216 then .ok (.dat .none) (setOwn s i (xs ++ ys)) else .bad
    | _, _ => .bad
/-- x.pop() -/
def dPop (i : Nat) : De Va := fun s => match ownAt s i with
  | none => .bad
  | some xs => match xs[xs.length - 1]? with
    | some d => .ok (.dat d) (setOwn s i xs.dropLast)
    | none => .bad
/-- x.pop(e) -/
def dPopAt (i : Nat) (f : De Va) : De Va := fun s => match ownAt s i with
  | none => .bad
  | some _ => (dFrz f s).bind fun d s => match ownAt s i, d with
    | some xs, .int k => if -(2 ^ 63) ≤ k ∧ k < 2 ^ 63 then (match seqIndex? k xs.length with
      | some j => (match xs[j]? with
        | some d => .ok (.dat d) (setOwn s i (xs.eraseIdx j))
        | none => .bad)
      | none => .bad) else .bad
    | _, _ => .bad
theorem few_one {X : Cx} {e : Expr} {cpos : Pos} (hs : starEach [e] X.env = (false, eval e X.env) :: starEach [] X.env) : ((backTo cpos (starEach [e] X.env)).all (fun x => !x.1) && (backToKw cpos (keywordEach [] X.env)).all (fun x => x.1.isSome)
      && decide ([e].length + ([] : List Keyword).length + (if ([] : List Keyword).isEmpty then 0 else 1) < 30)) = true := by
  rw [hs]; rfl
section
variable {X : Cx} {mg : Str → Option Value} {W : WX} {apos cpos p : Pos} {e : Expr} {f : De Va} {i : Nat} {x : Str}
theorem pe_dApp (hN : X.N[i]? = some x) (hv : Vis X.env.scope x) (hd : (x == ("__debug__" : Str)) = false) (hcd : (x == ("__classdict__" : Str)) = false) (he : PE X e (tE X.K mg W f)) (hs : starEach [e] X.env = (false, eval e X.env) :: starEach [] X.env) (hl : (apos.endLine == cpos.line) = true) :
    PE X (.Call (.Attribute (.Name x p) "append" apos) [e] [] cpos) (tE X.K mg W (dApp i f)) := by
  refine PE.by fun pins s₀ σ H Q I q => ⟨_, pe_bm PySem.F.plainAttrs_list PySem.F.slot_list_append PySem.F.type_list_append mt_append (pe_var hN hv hd hcd) (pa_cons he pa_nil hs) rfl (few_one hs) hl hs rfl, ?_⟩
  obtain ⟨g, s, F, hK, hm, w, p⟩ := q
  unfold dApp at p
  split at p
  · exact p.elim
  · rename_i xs0 e0
    obtain ⟨a, vs0, e1, e2, _⟩ := own_get w e0
    refine ⟨.ref a, e1, .inl ⟨rfl, vs0, .inl (.inl e2)⟩, ?_⟩
    refine tE_frz hK hm w p fun d s1 F1 H1 u w1 m1 r1 p1 => ?_
    split at p1
    · exact p1.elim
    · rename_i xs e3
      split at p1
      · rename_i z
        obtain ⟨a', vs, e4, e5, z5, r5⟩ := own_get w1 e3
        rw [e1] at e4; cases e4
        have z' : vs.length < sizeLine := by rw [r5.length, sizeLine_eq]; exact z
        refine ⟨a, vs, u, rfl, rfl, e5, z', ?_⟩
        have w2 := w1.write (ownAt_eq e3) e1 (vs := vs ++ [u]) (ys := xs ++ [d]) (by rw [List.length_append]; exact z') (r5.append (.cons r1 .nil))
        exact p1 F1 _ w2 (Same.refl _) _ .non
      · exact p1.elim
theorem pe_dExt (hN : X.N[i]? = some x) (hv : Vis X.env.scope x) (hd : (x == ("__debug__" : Str)) = false) (hcd : (x == ("__classdict__" : Str)) = false) (he : PE X e (tE X.K mg W f)) (hs : starEach [e] X.env = (false, eval e X.env) :: starEach [] X.env) (hl : (apos.endLine == cpos.line) = true) :
    PE X (.Call (.Attribute (.Name x p) "extend" apos) [e] [] cpos) (tE X.K mg W (dExt i f)) := by
  refine PE.by fun pins s₀ σ H Q I q => ⟨_, pe_bm PySem.F.plainAttrs_list PySem.F.slot_list_extend PySem.F.type_list_extend mt_extend (pe_var hN hv hd hcd) (pa_cons he pa_nil hs) rfl (few_one hs) hl hs rfl, ?_⟩
  obtain ⟨g, s, F, hK, hm, w, p⟩ := q
  unfold dExt at p
  split at p
  · exact p.elim
  · rename_i xs0 e0
    obtain ⟨a, vs0, e1, e2, _⟩ := own_get w e0
    refine ⟨.ref a, e1, .inl ⟨rfl, vs0, .inl (.inl e2)⟩, ?_⟩
    refine tE_frz hK hm w p fun d s1 F1 H1 u w1 m1 r1 p1 => ?_
    split at p1
    · rename_i xs ys e3
      split at p1
      · rename_i z
        obtain ⟨a', vs, e4, e5, z5, r5⟩ := own_get w1 e3
        rw [e1] at e4; cases e4
        cases r1 with
        | lst hb zb rb =>
          rename_i b ws
          have z' : vs.length + ws.length ≤ sizeLine := by rw [r5.length, rb.length, sizeLine_eq]; exact z
          refine ⟨a, b, vs, ws, rfl, rfl, e5, w1.sub _ _ hb, z', ?_⟩
          have w2 := w1.write (ownAt_eq e3) e1 (vs := vs ++ ws) (ys := xs ++ ys) (by rw [List.length_append]; exact z') (r5.append rb)
          exact p1 F1 _ w2 (Same.refl _) _ .non
      · exact p1.elim
    · exact p1.elim
theorem pe_dPop (hN : X.N[i]? = some x) (hv : Vis X.env.scope x) (hd : (x == ("__debug__" : Str)) = false) (hcd : (x == ("__classdict__" : Str)) = false) (hl : (apos.endLine == cpos.line) = true) :
    PE X (.Call (.Attribute (.Name x p) "pop" apos) [] [] cpos) (tE X.K mg W (dPop i)) := by
  refine PE.by fun pins s₀ σ H Q I q => ⟨_, pe_bm0 PySem.F.plainAttrs_list PySem.F.slot_list_pop PySem.F.type_list_pop mt_pop (pe_var hN hv hd hcd) rfl hl, ?_⟩
  obtain ⟨g, s, F, hK, hm, w, p⟩ := q
  unfold dPop at p
  split at p
  · exact p.elim
  · rename_i xs e0
    split at p
    · rename_i d ed
      obtain ⟨a, vs, e1, e2, z, r⟩ := own_get w e0
      refine ⟨.ref a, e1, .inl ⟨rfl, vs, .inl (.inl e2)⟩, ?_⟩
      obtain ⟨v, ev, rv⟩ := r.get ed
      refine ⟨a, vs, v, rfl, rfl, e2, by rw [r.length]; exact ev, ?_⟩
      have w2 := w.write (ownAt_eq e0) e1 (vs := vs.dropLast) (ys := xs.dropLast) (by rw [List.length_dropLast]; omega) (by rw [List.dropLast_eq_take, List.dropLast_eq_take, r.length]; exact r.take _)
      exact p F _ w2 (Same.refl _) _ rv
    · exact p.elim
theorem pe_dPopAt (hN : X.N[i]? = some x) (hv : Vis X.env.scope x) (hd : (x == ("__debug__" : Str)) = false) (hcd : (x == ("__classdict__" : Str)) = false) (he : PE X e (tE X.K mg W f)) (hs : starEach [e] X.env = (false, eval e X.env) :: starEach [] X.env) (hl : (apos.endLine == cpos.line) = true) :
    PE X (.Call (.Attribute (.Name x p) "pop" apos) [e] [] cpos) (tE X.K mg W (dPopAt i f)) := by
  refine PE.by fun pins s₀ σ H Q I q => ⟨_, pe_bm PySem.F.plainAttrs_list PySem.F.slot_list_pop PySem.F.type_list_pop mt_popAt (pe_var hN hv hd hcd) (pa_cons he pa_nil hs) rfl (few_one hs) hl hs rfl, ?_⟩
  obtain ⟨g, s, F, hK, hm, w, p⟩ := q
  unfold dPopAt at p
  split at p
  · exact p.elim
  · rename_i xs0 e0
    obtain ⟨a, vs0, e1, e2, _⟩ := own_get w e0
    refine ⟨.ref a, e1, .inl ⟨rfl, vs0, .inl (.inl e2)⟩, ?_⟩
    refine tE_frz hK hm w p fun d s1 F1 H1 u w1 m1 r1 p1 => ?_
    split at p1
    · rename_i xs k e3
      split at p1
      · rename_i hk
        split at p1
        · rename_i j ej
          split at p1
          · rename_i d ed
            obtain ⟨a', vs, e4, e5, z5, r5⟩ := own_get w1 e3
            rw [e1] at e4; cases e4
            cases r1
            obtain ⟨v, ev, rv⟩ := r5.get ed
            refine ⟨a, vs, k, j, v, rfl, rfl, e5, hk.1, hk.2, by rw [r5.length]; exact ej, ev, ?_⟩
            have w2 := w1.write (ownAt_eq e3) e1 (vs := vs.eraseIdx j) (ys := xs.eraseIdx j) (Nat.le_trans (len_erase vs j) z5) (r5.erase j)
            exact p1 F1 _ w2 (Same.refl _) _ rv
          · exact p1.elim
        · exact p1.elim
      · exact p1.elim
    · exact p1.elim
end

/-! ## x[e] = v: an owned list, the pot -/
def dSto (i : Nat) (fi f : De Va) : Ds := fun s => match s.ρ[i]? with
  | some (some _) => (dFrz f s).toS fun d s => (dFrz fi s).toS fun k s => match s.ρ[i]?, k with
    | some (some (.own xs)), .int k => (match ixN xs.length k with
      | some j => .nx (setOwn s i (xs.set j d))
      | none => .bad)
    | some (some .pot), .int k => (match ixN s.S.length k with
      | some j => .nx ⟨s.ρ, s.S.set j d⟩
      | none => .bad)
    | _, _ => .bad
  | _ => .bad
theorem toS_frz {g : Gh} {W : WX} {F H : Hp} {σ : L2.St} {s : Stt} {f : De Va} {h : PyData → Ds} {D : Ends} {K : PySem.W.Frag} {mg : Str → Option Value} {R : VK} (hK : g.K = K) (hm : g.mg = mg) (w : Wf g s σ F H) (p : PostS g W F ((dFrz f s).toS h) D)
    (c : ∀ d s1 F1 H1 u, Wf g s1 σ F1 H1 → Same F F1 → Rp g.K F1 u d → PostS g W F1 (h d s1) D → R u H1) : tE K mg W f σ H R := by
  refine ⟨g, s, F, hK, hm, w, ?_⟩
  have p1 : Post g W σ F (dFrz f s) fun a s F' _ => PostS g W F' (h a s) D := Post.toS p
  unfold dFrz at p1
  refine p1.bind.imp fun v s1 F1 H1 w1 m1 q u r => ?_
  cases v with
  | dat d => exact c d s1 F1 H1 u w1 m1 r (q F1 H1 w1 (Same.refl _))
  | own xs =>
    obtain ⟨a, rfl, o, ap⟩ := r
    obtain ⟨F2, w2, m2, r2⟩ := w1.freeze o ap
    exact c _ s1 F2 H1 _ w2 (m1.trans m2) r2 (q F2 H1 w2 m2)
  | bor _ => exact q.elim
  | pot => exact q.elim
section
variable {X : Cx} {mg : Str → Option Value} {W : WX} {pos tpos p : Pos} {e ei : Expr} {f fi : De Va} {i : Nat} {x : Str}
theorem ps_dSto (hN : X.N[i]? = some x) (hv : Vis X.env.scope x) (hd : (x == ("__debug__" : Str)) = false) (hcd : (x == ("__classdict__" : Str)) = false) (hi : PE X ei (tE X.K mg W fi)) (he : PE X e (tE X.K mg W f))
    (ha : ∀ v, assign (.Subscript (.Name x p) ei tpos) X.env v = (do
      let ov ← holding [v] (eval (.Name x p) X.env)
      let iv ← holding [v, ov] (eval ei X.env)
      standAt tpos
      holding [v, ov, iv] (setItem ov iv v)
      release [v, ov, iv] []))
    (hs : swapsWithSole [.Subscript (.Name x p) ei tpos] e pos.line X.env = pure false) (hw : swappedStores [.Subscript (.Name x p) ei tpos] e X.env = pure none) : PS X (.Assign [.Subscript (.Name x p) ei tpos] e pos) (tS X.K mg W (dSto i fi f)) := by
  refine PS.by fun pins s₀ σ H D I q => ⟨_, ps_asg he (pg_sub (pe_var hN hv hd hcd) hi set_list ha) hs hw rfl, ?_⟩
  obtain ⟨g, s, F, hK, hm, w, p⟩ := q
  unfold dSto at p
  split at p
  · rename_i va e0
    obtain ⟨u0, e1, _⟩ := w.slots i _ e0
    refine toS_frz hK hm w p fun d s1 F1 H1 u w1 m1 r1 p1 => ?_
    refine ⟨u0, e1, ?_⟩
    refine toS_frz hK hm w1 p1 fun k s2 F2 H2 u2 w2 m2 r2 p2 => ?_
    split at p2
    · rename_i xs k e3
      split at p2
      · rename_i j ej
        have e3' : ownAt s2 i = some xs := by unfold ownAt; rw [e3]
        obtain ⟨a, vs, e4, e5, z5, r5⟩ := own_get w2 e3'
        rw [e1] at e4; cases e4
        cases r2
        refine ⟨a, vs, k, j, rfl, rfl, e5, by rw [r5.length]; exact ej, ?_⟩
        have w3 := w2.write e3 e1 (vs := vs.set j u) (ys := xs.set j d) (by rw [List.length_set]; exact z5) (r5.set (r1.mono m2) j)
        exact p2 _ F2 _ w3 (Same.refl _)
      · exact p2.elim
    · rename_i k e3
      split at p2
      · rename_i j ej
        obtain ⟨u4, e4, r4⟩ := w2.slots i _ e3
        rw [e1] at e4; cases e4
        cases (show u0 = .ref g.pa from r4)
        obtain ⟨vs, e5, z5, r5⟩ := w2.pot
        cases r2
        refine ⟨g.pa, vs, k, j, rfl, rfl, e5, by rw [r5.length]; exact ej, ?_⟩
        have w3 := w2.potW (vs := vs.set j u) (S' := s2.S.set j d) (by rw [List.length_set]; exact z5) (r5.set (r1.mono m2) j)
        exact p2 _ F2 _ w3 (Same.refl _)
      · exact p2.elim
    · exact p2.elim
  · exact p.elim
/-! name op= e -/
def augI (o : Operator) (i j : Int) : Option Int := match o with
  | .Add => some (i + j)
  | .Sub => some (i - j)
  | _ => none
def dAug (i : Nat) (o : Operator) (f : De Va) : Ds := fun s => match s.ρ[i]? with
  | some (some (.dat (.int k))) => (dFrz f s).toS fun d s => match d with
    | .int j => (match augI o k j with
      | some r => .nx ⟨s.ρ.set i (some (.dat (.int r))), s.S⟩
      | none => .bad)
    | _ => .bad
  | _ => .bad
theorem ps_dAug {o : Operator} (hN : X.N.Nodup) (hi : X.N[i]? = some x) (hx : Loc X.env.scope x) (hf : X.fn x = true ∨ X.env.scope.names.lookup x = some .local) (he : PE X e (tE X.K mg W f)) : PS X (.AugAssign (.Name x p) o e pos) (tS X.K mg W (dAug i o f)) := by
  have core : ∀ {ti : TIp}, (∀ k j r H Q, augI o k j = some r → Q (.int r) H → ti (.int k) (.int j) H Q) → ∀ {D σ H pins s₀}, L2.Inv X pins σ H s₀ → tS X.K mg W (dAug i o f) D σ H → tAug i (tE X.K mg W f) ti D σ H := fun {ti} ht {D σ H pins s₀} I ⟨g, s, F, hK, hm, w, p⟩ => by
    unfold dAug at p
    split at p
    · rename_i k e0
      obtain ⟨u0, e1, r0⟩ := w.slots i _ e0
      have r0 : Rp g.K F u0 (.int k) := r0
      cases r0
      refine ⟨.int k, e1, ?_⟩
      refine toS_frz hK hm w p fun d s1 F1 H1 u w1 m1 r1 p1 => ?_
      split at p1
      · rename_i j
        split at p1
        · rename_i r er
          cases r1
          refine ht k j r H1 _ er ?_
          have hl : i < σ.length := (List.getElem?_eq_some_iff.mp e1).1
          exact p1 _ F1 H1 (w1.store (v := .dat (.int r)) hl (.int r) fun _ z => nomatch z) (Same.refl _)
        · exact p1.elim
      · exact p1.elim
    · exact p.elim
  cases o with
  | Add => exact PS.by fun _ _ σ H D I q => ⟨_, ps_aug hN hi hx he ip_add hf, core (fun k j r H Q e q => ⟨k, j, rfl, rfl, by cases e; exact q⟩) I q⟩
  | Sub => exact PS.by fun _ _ σ H D I q => ⟨_, ps_aug hN hi hx he ip_sub hf, core (fun k j r H Q e q => ⟨k, j, rfl, rfl, by cases e; exact q⟩) I q⟩
  | _ =>
    refine PS.by fun pins s₀ σ H D I q => ?_
    obtain ⟨g, s, F, hK, hm, w, p⟩ := q
    refine ⟨_, ps_aug (ti := fun _ _ _ _ => False) hN hi hx he (fun _ _ _ _ _ _ _ _ _ _ _ _ z => z.elim) hf, core (fun k j r H Q e q => by cases e) I ⟨g, s, F, hK, hm, w, p⟩⟩
end
/-! ## text.startswith(text, place) of a name -/
def dSw (i : Nat) (f h : De Va) : De Va := fun s => match s.ρ[i]? with
  | some (some (.dat (.str x))) => (dFrz f s).bind fun d s => (dFrz h s).bind fun e s => match d, e with
    | .str y, .int k => .ok (.dat (.bool (PySem.Txt.startswith3 x y k))) s
    | _, _ => .bad
  | _ => .bad
theorem pe_dSw {X : Cx} {mg : Str → Option Value} {W : WX} {apos cpos p : Pos} {e1 e2 : Expr} {f h : De Va} {i : Nat} {x : Str} (hN : X.N[i]? = some x) (hv : Vis X.env.scope x) (hd : (x == ("__debug__" : Str)) = false) (hcd : (x == ("__classdict__" : Str)) = false)
    (h1 : PE X e1 (tE X.K mg W f)) (h2 : PE X e2 (tE X.K mg W h)) (hs : starEach [e1, e2] X.env = (false, eval e1 X.env) :: starEach [e2] X.env) (hs2 : starEach [e2] X.env = (false, eval e2 X.env) :: starEach [] X.env) (hl : (apos.endLine == cpos.line) = true) :
    PE X (.Call (.Attribute (.Name x p) "startswith" apos) [e1, e2] [] cpos) (tE X.K mg W (dSw i f h)) := by
  have hpl : (backTo cpos (starEach [e2] X.env)).any (·.1) = false := by rw [hs2]; rfl
  have few : ((backTo cpos (starEach [e1, e2] X.env)).all (fun x => !x.1) && (backToKw cpos (keywordEach [] X.env)).all (fun x => x.1.isSome)
      && decide ([e1, e2].length + ([] : List Keyword).length + (if ([] : List Keyword).isEmpty then 0 else 1) < 30)) = true := by
    rw [hs, hs2]; rfl
  refine PE.by fun pins s₀ σ H Q I q => ⟨_, pe_bm PySem.F.plainAttrs_str PySem.F.slot_str_startswith PySem.F.type_str_startswith mt_startswith3 (pe_var hN hv hd hcd) (pa_cons h1 (pa_cons h2 pa_nil hs2) hs) rfl few hl hs hpl, ?_⟩
  obtain ⟨g, s, F, hK, hm, w, p⟩ := q
  unfold dSw at p
  split at p
  · rename_i x e0
    obtain ⟨u0, e1, r0⟩ := w.slots i _ e0
    have r0 : Rp g.K F u0 (.str x) := r0
    cases r0 with
    | str hx =>
      refine ⟨.str x, e1, rfl, ?_⟩
      refine tE_frz hK hm w p fun d s1 F1 H1 u w1 m1 r1 p1 => ?_
      refine tE_frz hK hm w1 p1 fun d2 s2 F2 H2 u2 w2 m2 r2 p2 => ?_
      split at p2
      · cases r1; cases r2
        exact ⟨_, _, _, rfl, rfl, p2 F2 H2 w2 (Same.refl _) _ (.bl _)⟩
      · exact p2.elim
  · exact p.elim
end Ev

namespace Ev
open PySem PySem.Spec PyProof.Rows L2
/-! # an own error over ValueError whose __init__ says super().__init__(text); self.what = what -/
def bvBody (msg : Str) (p0 p1 p2 p3 p4 p5 p6 p7 p8 p9 : Pos) (j : Nat) : List Stmt :=
  [.Expr (.Call (.Attribute (.Call (.Name "super" p0) [] [] p1) "__init__" p2) [.Constant (.str msg) j p3] [] p4) p5,
    .Assign [.Attribute (.Name "self" p6) "what" p7] (.Name "what" p8) p9]
/-- what the written part says of the class at C, its __init__ at f -/
structure BvAt (P : Program) (K : PySem.W.Frag) (C f cc cda : Addr) (qual msg : Str) (params : Arguments) (scope : Scope) (fd : FuncData) : Prop where
  oex : OexC K C
  fn : ∃ (oc : Value) (od : Option Addr) (kV doc pm ct : Value) (an : Option Addr) (osl : Array (Option Value)) (p0 p1 p2 p3 p4 p5 p6 p7 p8 p9 : Pos) (j : Nat),
    fd = PySem.W.fnX "__init__" qual params (bvBody msg p0 p1 p2 p3 p4 p5 p6 p7 p8 p9 j) scope [("__class__", cc)] .none kV doc pm an (.ref cda) ct ∧ K.lookup f = some ⟨oc, od, .func fd, osl⟩ ∧ PySem.W.codeIn K (.ref cda) qual = true ∧ (p2.endLine == p4.line) = true
  ar : ∃ ar, (params.posonlyargs ++ params.args).head? = some ar ∧ ar.arg = "self"
  code : ∃ (ccl : Value) (cdd : Option Addr) (vs : Array Value) (ccs : Array (Option Value)) (file : Str) (tf : Tok), K.lookup cda = some ⟨ccl, cdd, .fields vs, ccs⟩ ∧ vs[2]? = some (.str file tf) ∧ ((P.main.file : Str) == file) = true
  cell : ∃ (cl : Value) (cld : Option Addr) (csl : Array (Option Value)), K.lookup cc = some ⟨cl, cld, .cell (some (.ref C)), csl⟩
  cls : ∃ cd, PySem.W.clsIn K C = some cd
  sub : PySem.W.mroIn K C (.ref C) = some true
  sve : PySem.W.subIn K (.ref C) (.type "ValueError") = some true
  sup : PySem.W.nsIn K mainGlobals "super" = some none
  nxt : PySem.W.ks_superIn K C C "__init__" = some (some (.builtin "ValueError.__init__"))
  opq : PySem.W.nsIn K cStatics "thirdparty.any" = some none
  noW : PySem.W.findIn K (.ref C) "what" = some none
  scS : scope.names.lookup (Str.ofString "super") = some NameKind.globalImplicit
  scC : scope.names.lookup (Str.ofString "__class__") = some NameKind.free
  scF : scope.names.lookup (Str.ofString "self") = some NameKind.local
  scW : scope.names.lookup (Str.ofString "what") = some NameKind.local
  noc : ∀ x ∈ scope.names, x.2 ≠ .cell
  onF : ∀ x, scope.names.lookup x = some NameKind.free → x = "__class__"
  kind : scope.kind = .function
  co : scope.isCoroutine = false
  gen : scope.isGenerator = false
  top : (P.main.scope.names.lookup (Str.ofString "super")).isSome = false
  msgL : msg.length ≤ 1000
def spInit (C : Addr) : Sp := fun vs H Q _ => ∃ (a : Addr) (y : V), vs = [.ref a, y] ∧ H a = some (exo a C none) ∧ ∀ dx, H dx = none → dx ≠ a → Q .non (upd (upd H dx (exd dx [("what", y)])) a (exo a C (some dx)))
/-- the context of that __init__ -/
def cxBv (P : Program) (w : World) (K : PySem.W.Frag) (mg : Str → Option Value) (base : Heap) (qual : Str) (scope : Scope) (f cc cda : Addr) (A : Around) (outer : List Env) (s : Shared) (H : Hp) (E : XK) : Cx where
  prog := P
  w := w
  K := K
  mg := mg
  base := base
  A := A.deeper (PySem.W.ksEnv qual scope s.heap.objs.size f (.ref cda) cc)
  N := ["self", "what"]
  s_0 := s
  H_0 := H
  env := PySem.W.ksEnv qual scope s.heap.objs.size f (.ref cda) cc
  outer := outer
  stack := PySem.W.ksEnv qual scope s.heap.objs.size f (.ref cda) cc :: outer
  ex := []
  fn := fun _ => false
  calm := true
  pn := []
  xe := fun e s' => wpAny (model P w) (A.deeper (PySem.W.ksEnv qual scope s.heap.objs.size f (.ref cda) cc)) (leaving (PySem.W.ksEnv qual scope s.heap.objs.size f (.ref cda) cc) e) (fun _ s'' => L2.CX P w outer H s E e s'') (fun e' s'' => L2.CX P w outer H s E e' s'') s'
section
variable {P : Program} {w : World} {K : PySem.W.Frag} {mg : Str → Option Value} {base : Heap} {C f cc cda : Addr} {qual msg : Str} {params : Arguments} {scope : Scope} {fd : FuncData}
theorem ne_sw : ((Str.ofString "self") == (Str.ofString "what")) = false := by decide +kernel
theorem lk_self (u0 u1 : Value) : ((["self", "what"] : List Str).zip [u0, u1]).reverse.lookup (Str.ofString "self") = some u0 := by
  have e : ((["self", "what"] : List Str).zip [u0, u1]).reverse = [(Str.ofString "what", u1), (Str.ofString "self", u0)] := rfl
  rw [e, List.lookup_cons, ne_sw]
  simp [List.lookup_cons]
theorem lk_what (u0 u1 : Value) : ((["self", "what"] : List Str).zip [u0, u1]).reverse.lookup (Str.ofString "what") = some u1 := by
  have e : ((["self", "what"] : List Str).zip [u0, u1]).reverse = [(Str.ofString "what", u1), (Str.ofString "self", u0)] := rfl
  rw [e, List.lookup_cons]
  simp
theorem two_vals {us : List Value} {vs : List V} (r : Vals vs us) (hl : vs.length = 2) : ∃ v0 v1 u0 u1, vs = [v0, v1] ∧ us = [u0, u1] ∧ RelV v0 u0 ∧ RelV v1 u1 := by
  cases r with
  | nil => cases hl
  | cons r0 r =>
    cases r with
    | nil => cases hl
    | cons r1 r =>
      cases r with
      | nil => exact ⟨_, _, _, _, rfl, rfl, r0, r1⟩
      | cons _ _ => simp at hl
theorem n_two {i : Nat} {y : Str} (h : (["self", "what"] : List Str)[i]? = some y) : (i = 0 ∧ y = Str.ofString "self") ∨ (i = 1 ∧ y = Str.ofString "what") := by
  rcases i with _ | _ | i
  · exact .inl ⟨rfl, (Option.some.inj h).symm⟩
  · exact .inr ⟨rfl, (Option.some.inj h).symm⟩
  · simp at h
theorem bv_start (B : BvAt P K C f cc cda qual msg params scope fd) {A : Around} {outer : List Env} {s : Shared} {H : Hp} {E : XK} {us : List Value} {vs : List V} {h1 : Heap} {tk : Nat} (hd : A.handled = none) (e0 : Env0 P w K mg base A outer s H) (r : Vals vs us) (hl : vs.length = 2)
    (hns : h1.Ns s.heap.objs.size (fun x => ((["self", "what"] : List Str).zip us).reverse.lookup x)) (hk : ∀ b o, s.heap.get? b = some o → h1.get? b = some o) :
    Inv (cxBv P w K mg base qual scope f cc cda A outer s H E) [] (L2.start ["self", "what"] vs) H { s with heap := h1, toks := tk } := by
  obtain ⟨v0, v1, u0, u1, ev, eu, r0, r1⟩ := two_vals r hl
  subst ev; subst eu
  have noA : ∀ b : Addr, b ∉ (cxBv P w K mg base qual scope f cc cda A outer s H E).ex := fun b z => absurd (show b ∈ ([] : List Addr) from z) (by simp)
  obtain ⟨cl, cld, csl, hcc⟩ := B.cell
  have bcc : base.get? cc = some ⟨cl, cld, .cell (some (.ref C)), csl⟩ := e0.mod.kin _ _ hcc
  have only : ∀ (y : Str) (c : Addr), (cxBv P w K mg base qual scope f cc cda A outer s H E).env.cells.lookup y = some c → y = "__class__" ∧ c = cc := fun y c h => by
    have h : ([("__class__", cc)] : List (Str × Addr)).lookup y = some c := h
    rw [List.lookup_cons] at h
    split at h
    · rename_i q
      cases h
      exact ⟨eq_of_beq q, rfl⟩
    · cases h
  refine ⟨⟨e0.mod, B.kind, rfl, rfl, Nat.le_refl _, fun x y c h1 h2 => ?_, fun x hx => ?_, (fun _ _ h _ => nomatch (show false = true from h)), fun _ => hd, Around.frames_deeper e0.frames, .inr ⟨rfl, rfl⟩, fun b z => absurd z (noA b), e0.bs, e0.bsz, fun b _ _ => noA b, fun b z => absurd z (noA b), e0.funs, e0.frf⟩,
    rfl, e0.bare, Un.kept hk, ⟨_, hns, fun i y v h1 h2 h3 => ?_⟩, fun y c h => ?_, e0.hok.fresh (Nat.le_refl _), fun y c h => ?_, fun p hp => absurd (show p ∈ ([] : List (Addr × Obj)) from hp) (by simp), e0.hok.kept hk, ?_⟩
  · exact (only x c h1).1.trans (only y c h2).1.symm
  · rcases hx with hx | hx
    · have hx : scope.names.lookup x = some NameKind.cell := hx
      exact absurd rfl (B.noc _ (PySem.mem_of_lookup hx))
    · have hx : scope.names.lookup x = some NameKind.free := hx
      have := B.onF x hx
      subst this
      exact ⟨cc, rfl⟩
  · have h2 : (L2.start ["self", "what"] [v0, v1])[i]? = some (some v) := h2
    rcases n_two h1 with ⟨e, e1⟩ | ⟨e, e1⟩
    · rw [e] at h2
      have e2 : v0 = v := Option.some.inj (Option.some.inj h2)
      rw [e1, ← e2]
      exact ⟨u0, r0, .inl ⟨B.scF, lk_self u0 u1⟩⟩
    · rw [e] at h2
      have e2 : v1 = v := Option.some.inj (Option.some.inj h2)
      rw [e1, ← e2]
      exact ⟨u1, r1, .inl ⟨B.scW, lk_what u0 u1⟩⟩
  · obtain ⟨rfl, rfl⟩ := only y c h
    exact ⟨_, _, hk _ _ (e0.bs _ _ bcc).1, rfl⟩
  · obtain ⟨rfl, rfl⟩ := only y c h
    exact (e0.bs _ _ bcc).2
  · rfl
theorem call_sup {p0 p1 p2 p3 p4 : Pos} {j : Nat} {env : PySem.Env} (hline : (p2.endLine == p4.line) = true) : eval (.Call (.Attribute (.Call (.Name "super" p0) [] [] p1) "__init__" p2) [.Constant (.str msg) j p3] [] p4) env = (do
      let ov ← attributeBase (.Call (.Name "super" p0) [] [] p1) "__init__" env (eval (.Call (.Name "super" p0) [] [] p1) env)
      standAt p2.atName
      let (f, first) ← holding [ov] (getMethod ov "__init__" (do return (← importBound (.Call (.Name "super" p0) [] [] p1) env).getD true))
      callWith p4 f first (backTo p4 (starEach [.Constant (.str msg) j p3] env)) []) := by
  have hp : methodCallPos true (.Call (.Name "super" p0) [] [] p1) env p2 p4 = pure p4 := by
    unfold methodCallPos
    rw [hline]
    rfl
  rw [arm_eval_Call]
  have e : ∀ ov, methodCall (.Call (.Name "super" p0) [] [] p1) "__init__" p2 p4 env ov ([Expr.Constant (.str msg) j p3].length + ([] : List Keyword).length) (backTo p4 (starEach [.Constant (.str msg) j p3] env)) (backToKw p4 (keywordEach [] env)) = (do
      let (f, first) ← holding [ov] (getMethod ov "__init__" (do return (← importBound (.Call (.Name "super" p0) [] [] p1) env).getD true))
      let callPos ← methodCallPos true (.Call (.Name "super" p0) [] [] p1) env p2 p4
      callWith callPos f first (backTo p4 (starEach [.Constant (.str msg) j p3] env)) []) := fun ov => rfl
  simp only [e, hp, pure_bind]
theorem bv_init {k : Nat} (B : BvAt P K C f cc cda qual msg params scope fd) : FnOk P w K mg base (L2.CX P w) (k + 1) f fd ["self", "what"] (spInit C) := by
  refine ⟨fun vs H Q E h => by obtain ⟨a, y, rfl, _⟩ := h; rfl, fun A outer s H args us vs Q E hr e0 hb r hsp => ?_⟩
  obtain ⟨oc, od, kV, doc, pm, ct, an, osl, p0, p1, p2, p3, p4, p5, p6, p7, p8, p9, j, hfd, lk, hcd, hline⟩ := B.fn
  have KX : K.In s.heap := e0.mod.kin.keeps fun b o e => (e0.bs b o e).1
  have lim : s.heap.NoLimit := e0.mod.nolimit.keeps fun b o e => (e0.bs b o e).1
  have hl : vs.length = 2 := by obtain ⟨a, y, rfl, _⟩ := hsp; rfl
  have hloc : ∀ x ∈ (["self", "what"] : List Str).zip us, scope.names.lookup x.1 = some .local := fun ⟨n, v⟩ hy => by
    have := (List.of_mem_zip hy).1
    rcases List.mem_cons.mp this with e | e
    · rw [e]; exact B.scF
    · rw [List.mem_singleton.mp e]; exact B.scW
  subst hfd
  refine PySem.ks_codeAny_call_defAt (body := bvBody msg p0 p1 p2 p3 p4 p5 p6 p7 p8 p9 j) (binds := (["self", "what"] : List Str).zip us) hr.depth (KX _ _ lk) rfl lim (PySem.W.codeRec_of KX hcd) rfl hb B.noc hloc (fun h1 hns hk => ?_) B.co B.gen B.kind
  have I := bv_start (tk := s.toks + ((["self", "what"] : List Str).zip us).length) (E := E) B (hd := hr.hd) e0 r hl hns hk
  obtain ⟨a, y, rfl, ha, q⟩ := hsp
  obtain ⟨v0, v1, u0, u1, ev, rfl, r0, r1⟩ := two_vals r hl
  injection ev with e0' ev
  injection ev with e1' _
  subst e0'; subst e1'
  obtain rfl : u0 = Value.ref a := r0
  obtain ⟨ar, har, harn⟩ := B.ar
  obtain ⟨ccl, cdd, cvs, ccs, file, tf, hcode, hvs, hfile⟩ := B.code
  obtain ⟨cl, cld, csl, hcell⟩ := B.cell
  obtain ⟨cd, hcls⟩ := B.cls
  have K1 : K.In h1 := KX.keeps hk
  obtain ⟨t1, hoe⟩ := exo_at I.hok ha
  show _root_.PySem.wpAt (model P w) (A.deeper (PySem.W.ksEnv qual scope s.heap.objs.size f (.ref cda) cc)) (.func _ (PySem.W.ksEnv qual scope s.heap.objs.size f (.ref cda) cc)) (execs (bvBody msg p0 p1 p2 p3 p4 p5 p6 p7 p8 p9 j) (PySem.W.ksEnv qual scope s.heap.objs.size f (.ref cda) cc)) _ _ _
  unfold bvBody
  refine PySem.ks_wpAt_execs_cons (PySem.ks_wpAt_Expr_any (PySem.ks_wpAt_MethodCall ?_ (call_sup hline)) ?hint rfl)
  case hint => unfold interactive; simp [B.kind]
  refine PySem.ks_wpAt_super_base (ar := ar) B.scS B.scC (by decide +kernel) rfl (K1 _ _ lk) rfl har rfl (K1 _ _ hcode) rfl hvs hfile B.top ?_
  have bk1 : ∀ b o, base.get? b = some o → h1.get? b = some o := fun b o e => hk _ _ (e0.bs b o e).1
  obtain ⟨mb, hb1, hb2⟩ := e0.mod.blt
  have msup : mg (Str.ofString "super") = none := PySem.W.mg_none_of e0.mod.kin e0.mod.glob B.sup
  have hgl : h1.Ns mainGlobals mg := e0.mod.glob.keeps bk1
  have hbl : h1.Ns builtinsNs mb := hb1.keeps bk1
  have hbs : mb (Str.ofString "super") = some (.type "super") := (hb2 _ (by decide +kernel)).trans (by decide +kernel)
  refine PySem.W.ks_loadName_global B.kind B.scS (Calls.loadGlobal_builtin hgl msup hbl hbs ⟨rfl, ?_⟩)
  refine wpAny_loadName_free (c := cc) B.kind B.scC rfl ⟨_, K1 _ _ hcell, rfl⟩ ?_
  refine wpAny_loadName_local (v := .ref a) B.kind (by rw [harn]; exact B.scF) hns (by rw [harn]; exact lk_self _ _) ?_
  obtain ⟨oC, hC1, hC2⟩ : ∃ oC, h1.get? C = some oC ∧ oC.data = .cls cd := by
    unfold PySem.W.clsIn at hcls
    split at hcls
    · rename_i c d cd' sl ho
      cases hcls
      exact ⟨_, K1 _ _ ho, rfl⟩
    · cases hcls
  refine ks_wpAny_isType_cls hC1 hC2 ⟨rfl, ?_⟩
  refine ks_wpAny_call_super hC1 hC2 hoe rfl (fun c e => nomatch e) (PySem.W.looks_mroIn K1 B.sub) (fun h2 eso k2 => ?_)
  have K2 : K.In h2 := K1.keeps k2
  have haC : a ≠ C := fun z => by
    rw [z, hC1] at hoe
    cases hoe
    cases hC2
  have nxt : PySem.W.alongIn K "__init__" ((cd.mro.dropWhile (· != .ref C)).drop 1) = some (some (.builtin "ValueError.__init__")) := by
    have := B.nxt
    unfold PySem.W.ks_superIn at this
    rw [hcls] at this
    exact this
  have hI2 : PySem.W.Looks (model P w) h2 (isInstance (.ref a) (.type "ValueError")) true := (show PySem.W.InstAt h2 a _ C none from ⟨k2 _ _ hoe, rfl, rfl, trivial⟩).type.andThen (PySem.W.looks_subIn K2 B.sve)
  refine PySem.W.kxs_getMethod PySem.W.kxs_ValueError eso (PySem.W.looks_opaque K2 B.opq) (l₀ := cd.mro) (fun A Q E s k q => wpAny_bind ((PySem.W.looks_clsIn K2 hcls) A _ E s k (wpAny_pure q))) rfl K2 nxt hI2 haC (by decide +kernel) ?_
  have J : L2.Inv (cxBv P w K mg base qual scope f cc cda A outer s H E) [] (L2.start ["self", "what"] [.ref a, y]) H ⟨h2.push (PySem.W.kxs_mw "ValueError.__init__" a), s.gens, s.drawn, s.toks + ((["self", "what"] : List Str).zip [Value.ref a, u1]).length + 1, s.os⟩ := I.kept fun b o e => Heap.get?_push_of_some _ (k2 _ _ e)
  have hu : (h2.push (PySem.W.kxs_mw "ValueError.__init__" a)).get? h2.objs.size = some (PySem.W.kxs_mw "ValueError.__init__" a) := Heap.get?_push_size _ rfl
  refine PySem.W.kxs_callWith (i := "ValueError.__init__") (x := a) rfl (Calls.evalArgs_plain (Calls.spliced_cons (show wpAny _ _ (eval (.Constant (.str msg) j p3) _) _ _ _ from Calls.Constant_str (Calls.spliced_nil ⟨hu, ?_⟩))))
  obtain ⟨nm, q5, N5, bs, bm, sn, sub, ab, col, dd, k0, k1, k2', k3, k5, hC, hbm⟩ := B.oex.cls
  have K3 : K.In (h2.push (PySem.W.kxs_mw "ValueError.__init__" a)) := K2.keeps fun b o e => Heap.get?_push_of_some _ e
  have ho3 := Heap.get?_push_of_some (PySem.W.kxs_mw "ValueError.__init__" a) (k2 _ _ hoe)
  refine wpAny_call (codeAny_of_tree ?_)
  show wpAny _ _ (callAny (.ref h2.objs.size) ⟨_, []⟩) _ _ _
  simp only [callAny]
  refine wpAny_bind (wpAny_load hu ?_)
  simp only [PySem.W.kxs_mw, show (Value.type "method-wrapper" == Value.type "method" || Value.type "method-wrapper" == Value.type "builtin_function_or_method" || Value.type "method-wrapper" == Value.type "method-wrapper") = true by decide, if_true]
  refine PySem.W.KFB.if_so (by decide) ?_
  refine wpAny_bind (PySem.W.check_bound_init F.excBase_ValueError.toExcCallFacts (K3 _ _ hC) ho3 rfl ?_)
  refine wpAny_bind (wpAny_pure (wpAny_pure ?_))
  refine ⟨plainId_quiet F.excBase_ValueError.init.plain _, codeAny_builtin F.excBase_ValueError.initEntry ?_⟩
  refine PySem.W.exc_init_tree (cls := .ref C) (t0 := t1) (dv := none) (c2 := .none) (c3 := .none) (b4 := .bool false) ho3 (show 1 ≤ sizeLine by decide) fun h4 kp hx ht => ?_
  have J2 : L2.Inv (cxBv P w K mg base qual scope f cc cda A outer s H E) [] (L2.start ["self", "what"] [.ref a, y]) H ⟨h4, s.gens, s.drawn, s.toks + ((["self", "what"] : List Str).zip [Value.ref a, u1]).length + 1 + 1, s.os⟩ := by
    have J1 := J.write (t' := s.toks + ((["self", "what"] : List Str).zip [Value.ref a, u1]).length + 1 + 1) (x := a) (e := a) (o := exo a C none) (h' := h4) (by rw [ha]; exact True.intro) (.inl rfl) (fun b o hb e => kp b o hb e) ⟨_, hx⟩ (exo_ok hx)
    have eu : upd H a (exo a C none) = H := by
      funext b
      by_cases hb : b = a
      · rw [hb, upd_same, ha]
      · rw [upd_ne hb]
    rw [eu] at J1
    exact J1
  refine wpAt_of_wpAny ?_
  have L0 : PE (cxBv P w K mg base qual scope f cc cda A outer s H E) (.Name "self" p6) (tVar 0) := pe_var rfl (.inl B.scF) (by decide +kernel) (by decide +kernel)
  have L1 : PE (cxBv P w K mg base qual scope f cc cda A outer s H E) (.Name "what" p8) (tVar 1) := pe_var rfl (.inl B.scW) (by decide +kernel) (by decide +kernel)
  have S2 := (pss_one (ps_ost (f := "what") (p' := p7) (pos := p9) L0 L1)).run [] _ _ H { nx := fun _ H' => Q .non H', rt := Q } J2 ⟨y, rfl, .ref a, rfl, a, C, rfl, B.oex, B.noW, .inl ⟨ha, fun dx nd ne => q dx nd ne⟩⟩
  refine wpAny_mono S2 (fun fl s' hs => ?_) fun e s' hs => hs
  have fin : ∀ {σ' : L2.St} {H' : Hp} {v : V} {u : Value}, L2.Inv (cxBv P w K mg base qual scope f cc cda A outer s H E) [] σ' H' s' → RelV v u → Q v H' → CE outer P w H s Q u s' :=
    fun {σ' H' v u} J rv q => ⟨v, H', J.os, J.bare, J.base, J.hok, rv, q⟩
  cases fl with
  | ret u =>
    obtain ⟨v, σ', H', J, rv, q⟩ := hs
    exact fin J rv q
  | next =>
    obtain ⟨σ', H', J, q⟩ := hs
    exact fin (v := V.non) (u := Value.none) J rfl q
  | brk => obtain ⟨_, _, _, q⟩ := hs; exact q.elim
  | cont => obtain ⟨_, _, _, q⟩ := hs; exact q.elim
end
end Ev

namespace Ev
open PySem PySem.Spec PyProof.Rows L2
/-! ## x.index(e), x a list's name -/
/-- the first place of an equal one -/
def firstAt (d : PyData) : List PyData → Nat → Option Nat
  | [], _ => none
  | z :: r, i => if PyData.eqv z d = true then some i else firstAt d r (i + 1)
theorem firstAt_ok {d : PyData} : ∀ {ds : List PyData} {i j : Nat}, firstAt d ds i = some j → i ≤ j ∧ ∃ z, ds[j - i]? = some z ∧ PyData.eqv z d = true ∧ ∀ m z', m < j - i → ds[m]? = some z' → PyData.eqv z' d = false
  | [], i, j, h => by cases h
  | z :: r, i, j, h => by
    unfold firstAt at h
    split at h
    · rename_i e
      cases h
      refine ⟨Nat.le_refl _, z, by rw [Nat.sub_self]; rfl, e, fun m z' hm _ => by omega⟩
    · rename_i e
      obtain ⟨h1, y, h2, h3, h4⟩ := firstAt_ok h
      refine ⟨by omega, y, ?_, h3, fun m z' hm hz => ?_⟩
      · rw [show j - i = (j - (i + 1)) + 1 by omega]; exact h2
      · cases m with
        | zero => cases hz; exact Bool.eq_false_iff.mpr e
        | succ m => exact h4 m z' (by omega) (by simpa using hz)
def isLst : Option (Option Va) → Bool
  | some (some (.own _)) => true
  | some (some (.dat (.list _))) => true
  | _ => false
def dIndex (i : Nat) (f : De Va) : De Va := fun s => if isLst s.ρ[i]? = true then (dFrz f s).bind fun d s => match slotD s i with
    | some (.list ds) => if PyData.depthAll ds ≤ 63 ∧ d.depth ≤ 64 then ofOpt ((firstAt d ds 0).map fun (j : Nat) => Va.dat (.int (j : Int))) s else .bad
    | _ => .bad
  else .bad
section
variable {X : Cx} {mg : Str → Option Value} {W : WX} {apos cpos p : Pos} {e : Expr} {f : De Va} {i : Nat} {x : Str}
theorem pe_dIndex (hu : X.A.units + 66 < cLine) (hN : X.N[i]? = some x) (hv : Vis X.env.scope x) (hd : (x == ("__debug__" : Str)) = false) (hcd : (x == ("__classdict__" : Str)) = false) (he : PE X e (tE X.K mg W f)) (hs : starEach [e] X.env = (false, eval e X.env) :: starEach [] X.env) (hl : (apos.endLine == cpos.line) = true) :
    PE X (.Call (.Attribute (.Name x p) "index" apos) [e] [] cpos) (tE X.K mg W (dIndex i f)) := by
  refine PE.by fun pins s₀ σ H Q I q => ⟨_, pe_bm PySem.F.plainAttrs_list PySem.F.slot_list_index PySem.F.type_list_index (mt_indexD (by omega)) (pe_var hN hv hd hcd) (pa_cons he pa_nil hs) rfl (few_one hs) hl hs rfl, ?_⟩
  obtain ⟨g, s, F, hK, hm, w, p⟩ := q
  unfold dIndex at p
  split at p
  · rename_i hL
    have ty : ∃ u0, σ[i]? = some (some u0) ∧ tyV X.K "list" u0 H := by
      unfold isLst at hL
      split at hL
      · rename_i xs e0
        obtain ⟨u0, e1, a, rfl, o⟩ := w.slots i _ e0
        obtain ⟨vs, e2, _⟩ := o.at_
        exact ⟨_, e1, .inl ⟨rfl, vs, .inl (.inl e2)⟩⟩
      · rename_i xs e0
        obtain ⟨u0, e1, r0⟩ := w.slots i _ e0
        have r0 : Rp g.K F u0 (.list xs) := r0
        cases r0 with
        | lst ha z ra => exact ⟨_, e1, .inl ⟨rfl, _, .inl (.inl (w.sub _ _ ha))⟩⟩
      · cases hL
    obtain ⟨u0, e1, ty⟩ := ty
    refine ⟨u0, e1, ty, ?_⟩
    refine tE_frz hK hm w p fun d s1 F1 H1 u w1 m1 r1 p1 => ?_
    split at p1
    · rename_i ds e2
      split at p1
      · rename_i hz
        obtain ⟨v, e3, q⟩ := ofOpt_post p1
        obtain ⟨j, e4, rfl⟩ := Option.map_eq_some_iff.mp e3
        obtain ⟨u1, e5, a, vs, rfl, c1, c2, c3⟩ := slotD_rp w1 e2
        rw [e1] at e5; cases e5
        obtain ⟨_, z, g1, g2, g3⟩ := firstAt_ok e4
        rw [Nat.sub_zero] at g1 g3
        have rl : Rp X.K H1 (.ref a) (.list ds) := .lst c1 c2 (by rw [← hK]; exact c3.mono w1.sub)
        have rd : Rp X.K H1 u d := by rw [← hK]; exact r1.mono w1.sub
        obtain ⟨l1, l2⟩ := rl.dp
        obtain ⟨d1, d2⟩ := rd.dp
        refine ⟨a, u, d, ds, j, z, rfl, rfl, l1, d1, ?_, ?_, g1, g2, g3, q F1 H1 w1 (Same.refl _) _ (.int _)⟩
        · exact Bool.and_eq_true_iff.mpr ⟨l2, decide_eq_true (show PyData.depthAll ds + 1 ≤ 64 by omega)⟩
        · exact Bool.and_eq_true_iff.mpr ⟨d2, decide_eq_true hz.2⟩
      · exact p1.elim
    · exact p1.elim
  · exact p.elim
end
/-! ## zip(a, b), the target a tuple -/
def zipD : List PyData → List PyData → List PyData
  | x :: xs, y :: ys => .tuple [x, y] :: zipD xs ys
  | _, _ => []
theorem zipD_get : ∀ {xs ys : List PyData} {i : Nat} {d : PyData}, (zipD xs ys)[i]? = some d → ∃ x y, xs[i]? = some x ∧ ys[i]? = some y ∧ d = .tuple [x, y]
  | x :: xs, y :: ys, 0, d, h => by cases h; exact ⟨x, y, rfl, rfl, rfl⟩
  | x :: xs, y :: ys, i + 1, d, h => by
    obtain ⟨a, b, h1, h2, h3⟩ := zipD_get (xs := xs) (ys := ys) (i := i) (by simpa [zipD] using h)
    exact ⟨a, b, by simpa using h1, by simpa using h2, h3⟩
  | [], _, i, d, h => by simp [zipD] at h
  | _ :: _, [], i, d, h => by simp [zipD] at h
theorem zipD_len : ∀ (xs ys : List PyData), (zipD xs ys).length = min xs.length ys.length
  | x :: xs, y :: ys => by
    show (zipD xs ys).length + 1 = _
    rw [zipD_len xs ys, List.length_cons, List.length_cons]; omega
  | [], ys => by simp [zipD]
  | _ :: _, [] => by simp [zipD]
def dZip (f h : De Va) : De (List PyData) := fun s => (dFrz f s).bind fun d s => (dFrz h s).bind fun e s => match d, e with
  | .tuple xs, .tuple ys => .ok (zipD xs ys) s
  | .list xs, .list ys => .ok (zipD xs ys) s
  | _, _ => .bad
section
variable {X : Cx} {mg : Str → Option Value} {W : WX} {p pos tpos : Pos} {e e2 : Expr} {f h : De Va} {elts : List Expr} {kk : Nat}
theorem pi_dZip {x : Str} (hx : x = "zip") (hg : Gl X x) (hm : X.mg x = none) (h1 : PE X e (tE X.K mg W f)) (h2 : PE X e2 (tE X.K mg W h)) (hs : starEach [e, e2] X.env = (false, eval e X.env) :: starEach [e2] X.env) (hs2 : starEach [e2] X.env = (false, eval e2 X.env) :: starEach [] X.env) :
    PI X (.Tuple elts kk tpos) (.Call (.Name x p) [e, e2] [] pos) (tI X.K mg W (dZip f h)) := by
  subst hx
  have hpl : (backTo pos (starEach [e2] X.env)).any (·.1) = false := by rw [hs2]; rfl
  refine PI.by fun pins s₀ σ H R I q => ⟨_, RZ.pi_zipA hg hm (pa_cons h1 (pa_cons h2 pa_nil hs2) hs) hs hpl, ?_⟩
  obtain ⟨g, s, F, hK, hmg, w, p⟩ := q
  unfold dZip at p
  refine tE_frz hK hmg w p fun d s1 F1 H1 u w1 m1 r1 p1 => ?_
  refine tE_frz hK hmg w1 p1 fun d2 s2 F2 H2 u2 w2 m2 r2 p2 => ?_
  have fresh : ∀ {g2 : Gh} {s : Stt} {σ : L2.St} {F3 H3 : Hp} {T : Addr} {x y : V} {dx dy : PyData}, Wf g2 s σ F3 H3 → H3 T = none → Rp g2.K F3 x dx → Rp g2.K F3 y dy → ∃ F4, Wf g2 s σ F4 (upd H3 T (.tup [x, y])) ∧ Same F3 F4 ∧ Rp g2.K F4 (.ref T) (.tuple [dx, dy]) ∧ Same H3 (upd H3 T (.tup [x, y])) ∧ ∀ a, H3 a ≠ none → F4 a = F3 a := fun {g2 s σ F3 H3 T x y dx dy} w3 hT rx ry => by
    have hF := w3.none_of hT
    refine ⟨_, w3.alloc hT _, same_upd hF, .tup (SqT.of upd_same) (by show 2 ≤ sizeLine; decide) (.cons (rx.mono (same_upd hF)) (.cons (ry.mono (same_upd hF)) .nil)), same_upd hT, fun a ha => upd_ne fun z => ha (by rw [z]; exact hT)⟩
  split at p2
  · rename_i xs ys
    cases r1 with
    | tup ha z ra =>
      cases r2 with
      | tup hb z2 rb =>
        rename_i a vs b us
        rw [hK] at ha hb
        have qa : SqT X.K F2 a vs := seqT m2 ha
        refine ⟨a, b, vs, us, rfl, .inr ⟨seqT w2.sub qa, seqT w2.sub hb, p2 F2 H2 w2 (Same.refl _) _ fun g2 s σ F3 H3 i hK2 w3 m3 => ?_⟩⟩
        have la : SqT X.K H3 a vs := seqT w3.sub (seqT m3 qa)
        have lb : SqT X.K H3 b us := seqT w3.sub (seqT m3 hb)
        have ra' : RpAll X.K F3 vs xs := by rw [← hK]; exact (ra.mono m2).mono m3
        have rb' : RpAll X.K F3 us ys := by rw [← hK]; exact rb.mono m3
        refine ⟨fun hi => ?_, fun hi => ⟨vs, us, la, lb, ?_⟩, fun x H4 d hd y => ?_⟩
        · obtain ⟨x, y, e1, e2, _⟩ := zipD_get (List.getElem?_eq_getElem hi)
          obtain ⟨v, e3, _⟩ := ra'.get e1
          obtain ⟨v2, e4, _⟩ := rb'.get e2
          exact ⟨vs, us, v, v2, la, lb, e3, e4⟩
        · rw [zipD_len] at hi
          rw [ra'.length, rb'.length]
          omega
        · obtain ⟨T, v, v2, rfl, hT, rfl, y1, y2⟩ := y
          obtain ⟨x, y, e1, e2, rfl⟩ := zipD_get hd
          obtain ⟨v', e3, r3⟩ := ra'.get e1
          obtain ⟨v2', e4, r4⟩ := rb'.get e2
          have f1 := y1 vs la; rw [e3] at f1; cases f1
          have f2 := y2 us lb; rw [e4] at f2; cases f2
          exact fresh w3 hT (by rw [hK2]; exact r3) (by rw [hK2]; exact r4)
  · rename_i xs ys
    cases r1 with
    | lst ha z ra =>
      cases r2 with
      | lst hb z2 rb =>
        rename_i a vs b us
        have qa : F2 a = some (.lst vs) := m2 _ _ ha
        have toL : ∀ {F H : Hp} {a : Addr} {vs : List V}, Same F H → F a = some (.lst vs) → SqL X.K H a vs := fun m e => .inl (.inl (m _ _ e))
        refine ⟨a, b, vs, us, rfl, .inl ⟨toL w2.sub qa, toL w2.sub hb, p2 F2 H2 w2 (Same.refl _) _ fun g2 s σ F3 H3 i hK2 w3 m3 => ?_⟩⟩
        have la : SqL X.K H3 a vs := toL w3.sub (m3 _ _ qa)
        have lb : SqL X.K H3 b us := toL w3.sub (m3 _ _ hb)
        have ra' : RpAll X.K F3 vs xs := by rw [← hK]; exact (ra.mono m2).mono m3
        have rb' : RpAll X.K F3 us ys := by rw [← hK]; exact rb.mono m3
        refine ⟨fun hi => ?_, fun hi => ⟨vs, us, la, lb, ?_⟩, fun x H4 d hd y => ?_⟩
        · obtain ⟨x, y, e1, e2, _⟩ := zipD_get (List.getElem?_eq_getElem hi)
          obtain ⟨v, e3, _⟩ := ra'.get e1
          obtain ⟨v2, e4, _⟩ := rb'.get e2
          exact ⟨vs, us, v, v2, la, lb, e3, e4⟩
        · rw [zipD_len] at hi
          rw [ra'.length, rb'.length]
          omega
        · obtain ⟨T, v, v2, rfl, hT, rfl, y1, y2⟩ := y
          obtain ⟨x, y, e1, e2, rfl⟩ := zipD_get hd
          obtain ⟨v', e3, r3⟩ := ra'.get e1
          obtain ⟨v2', e4, r4⟩ := rb'.get e2
          have f1 := y1 vs la; rw [e3] at f1; cases f1
          have f2 := y2 us lb; rw [e4] at f2; cases f2
          exact fresh w3 hT (by rw [hK2]; exact r3) (by rw [hK2]; exact r4)
  · exact p2.elim
end
end Ev

namespace Ev
open PySem PySem.Spec PyProof.Rows L2
/-! ## sorted -/
def insI (x : Int) : List Int → List Int
  | [] => [x]
  | y :: r => if x ≤ y then x :: y :: r else y :: insI x r
def sortI : List Int → List Int
  | [] => []
  | x :: r => insI x (sortI r)
theorem insI_perm (x : Int) : ∀ l, (insI x l).Perm (x :: l)
  | [] => List.Perm.refl _
  | y :: r => by
    unfold insI
    split
    · exact List.Perm.refl _
    · exact ((insI_perm x r).cons y).trans (List.Perm.swap x y r)
theorem sortI_perm : ∀ l, (sortI l).Perm l
  | [] => List.Perm.refl _
  | x :: r => (insI_perm x _).trans ((sortI_perm r).cons x)
theorem insI_sorted (x : Int) : ∀ l : List Int, l.Pairwise (· ≤ ·) → (insI x l).Pairwise (· ≤ ·)
  | [], _ => List.pairwise_singleton _ _
  | y :: r, h => by
    obtain ⟨h1, h2⟩ := List.pairwise_cons.mp h
    unfold insI
    split
    · rename_i hxy
      refine List.pairwise_cons.mpr ⟨fun z hz => ?_, h⟩
      rcases List.mem_cons.mp hz with rfl | hz
      · exact hxy
      · exact Int.le_trans hxy (h1 z hz)
    · rename_i hxy
      refine List.pairwise_cons.mpr ⟨fun z hz => ?_, insI_sorted x r h2⟩
      rcases List.mem_cons.mp ((insI_perm x r).mem_iff.mp hz) with rfl | hz
      · omega
      · exact h1 z hz
theorem sortI_sorted : ∀ l : List Int, (sortI l).Pairwise (· ≤ ·)
  | [] => List.Pairwise.nil
  | x :: r => insI_sorted x _ (sortI_sorted r)
theorem sortI_uniq {l m : List Int} (h : m.Perm l) (hs : m.Pairwise (· ≤ ·)) : m = sortI l :=
  List.Perm.eq_of_pairwise (le := (· ≤ ·)) (fun a b _ _ h1 h2 => Int.le_antisymm h1 h2) hs (sortI_sorted l) (h.trans (sortI_perm l).symm)
/-- texts -/
def leS (x y : Str) : Bool := !ltCps y.cps.toList x.cps.toList
def insS (x : Str) : List Str → List Str
  | [] => [x]
  | y :: r => if leS x y = true then x :: y :: r else y :: insS x r
def sortS : List Str → List Str
  | [] => []
  | x :: r => insS x (sortS r)
theorem ltCps_lt : ∀ a b : List Nat, ltCps a b = decide (a < b) := by
  intro a
  induction a with
  | nil =>
    intro b
    cases b with
    | nil => first | rfl | simp [ltCps]
    | cons y b => simp [ltCps]
  | cons x a ih =>
    intro b
    cases b with
    | nil => simp [ltCps]
    | cons y b =>
      simp [ltCps, ih, List.cons_lt_cons_iff]
      try (rw [Bool.eq_iff_iff]; simp)
theorem leS_iff (x y : Str) : leS x y = true ↔ x.cps.toList ≤ y.cps.toList := by
  unfold leS
  rw [ltCps_lt]
  simp [List.not_lt]
end Ev

namespace Ev
open PySem PySem.Spec PyProof.Rows L2
theorem leS_total (x y : Str) : leS x y = true ∨ leS y x = true := by
  rw [leS_iff, leS_iff]
  exact List.le_total _ _
theorem leS_trans {x y z : Str} (h1 : leS x y = true) (h2 : leS y z = true) : leS x z = true := by
  rw [leS_iff] at *
  exact List.le_trans h1 h2
theorem leS_anti {x y : Str} (h1 : leS x y = true) (h2 : leS y x = true) : x = y := by
  rw [leS_iff] at *
  have := List.le_antisymm h1 h2
  cases x; cases y
  congr 1
  exact Array.toList_inj.mp this
theorem insS_perm (x : Str) : ∀ l, (insS x l).Perm (x :: l)
  | [] => List.Perm.refl _
  | y :: r => by
    unfold insS
    split
    · exact List.Perm.refl _
    · exact ((insS_perm x r).cons y).trans (List.Perm.swap x y r)
theorem sortS_perm : ∀ l, (sortS l).Perm l
  | [] => List.Perm.refl _
  | x :: r => (insS_perm x _).trans ((sortS_perm r).cons x)
theorem insS_sorted (x : Str) : ∀ l : List Str, l.Pairwise (fun a b => leS a b = true) → (insS x l).Pairwise (fun a b => leS a b = true)
  | [], _ => List.pairwise_singleton _ _
  | y :: r, h => by
    obtain ⟨h1, h2⟩ := List.pairwise_cons.mp h
    unfold insS
    split
    · rename_i hxy
      refine List.pairwise_cons.mpr ⟨fun z hz => ?_, h⟩
      rcases List.mem_cons.mp hz with rfl | hz
      · exact hxy
      · exact leS_trans hxy (h1 z hz)
    · rename_i hxy
      have hyx : leS y x = true := (leS_total x y).resolve_left hxy
      refine List.pairwise_cons.mpr ⟨fun z hz => ?_, insS_sorted x r h2⟩
      rcases List.mem_cons.mp ((insS_perm x r).mem_iff.mp hz) with rfl | hz
      · exact hyx
      · exact h1 z hz
theorem sortS_sorted : ∀ l : List Str, (sortS l).Pairwise (fun a b => leS a b = true)
  | [] => List.Pairwise.nil
  | x :: r => insS_sorted x _ (sortS_sorted r)
theorem rising_pw : ∀ (p : Str) (l : List Str), risingS p l = true → (p :: l).Pairwise (fun a b => leS a b = true)
  | p, [], _ => List.pairwise_singleton _ _
  | p, x :: r, h => by
    have h : (!ltCps x.cps.toList p.cps.toList && risingS x r) = true := h
    obtain ⟨h1, h2⟩ := Bool.and_eq_true_iff.mp h
    have ih := rising_pw x r h2
    have h1 : leS p x = true := h1
    refine List.pairwise_cons.mpr ⟨fun z hz => ?_, ih⟩
    rcases List.mem_cons.mp hz with rfl | hz
    · exact h1
    · exact leS_trans h1 ((List.pairwise_cons.mp ih).1 z hz)
theorem sortS_uniq {l m : List Str} (h : m.Perm l) (hs : sortedS m = true) : m = sortS l := by
  have pw : m.Pairwise (fun a b => leS a b = true) := by
    cases m with
    | nil => exact List.Pairwise.nil
    | cons x r => exact rising_pw x r hs
  exact List.Perm.eq_of_pairwise (le := fun a b => leS a b = true) (fun a b _ _ h1 h2 => leS_anti h1 h2) pw (sortS_sorted l) (h.trans (sortS_perm l).symm)
/-- texts in a list -/
def strsOf : List PyData → Option (List Str)
  | [] => some []
  | .str x :: r => (strsOf r).map (x :: ·)
  | _ => none
theorem strsOf_ok {K : PySem.W.Frag} {F : Hp} : ∀ {ds : List PyData} {vs : List V} {xs : List Str}, RpAll K F vs ds → strsOf ds = some xs → vs = xs.map V.str ∧ ∀ x ∈ xs, okS x = true
  | [], _, _, .nil, h => by cases h; exact ⟨rfl, fun _ z => absurd z (by simp)⟩
  | d :: r, v :: vs, xs, .cons a b, h => by
    cases d with
    | str x =>
      obtain ⟨ys, e, rfl⟩ := Option.map_eq_some_iff.mp (show (strsOf r).map (x :: ·) = some xs from h)
      obtain ⟨h1, h2⟩ := strsOf_ok b e
      cases a with
      | str hx =>
        refine ⟨by rw [h1]; rfl, fun z hz => ?_⟩
        rcases List.mem_cons.mp hz with rfl | hz
        · exact hx
        · exact h2 z hz
    | _ => cases h
theorem rp_strsT {K : PySem.W.Frag} {F : Hp} : ∀ xs : List Str, (∀ x ∈ xs, okS x = true) → RpAll K F (xs.map V.str) (xs.map PyData.str)
  | [], _ => .nil
  | x :: xs, h => .cons (.str (h x (List.mem_cons_self ..))) (rp_strsT xs fun y hy => h y (List.mem_cons_of_mem _ hy))
theorem rp_intsU {K : PySem.W.Frag} {F : Hp} : ∀ ns : List Int, RpAll K F (ns.map V.int) (ns.map PyData.int)
  | [] => .nil
  | n :: ns => .cons (.int n) (rp_intsU ns)
/-- sorted(a list) -/
def sortD : PyData → Option (List PyData)
  | .list xs => match intsOf xs with
    | some ns => some ((sortI ns).map PyData.int)
    | none => match strsOf xs with
      | some ss => if ss.length < 64 then some ((sortS ss).map PyData.str) else none
      | none => none
  | _ => none
def dSorted (f : De Va) : De Va := fun s => (dFrz f s).bind fun d s => ofOpt ((sortD d).map Va.own) s
section
variable {X : Cx} {mg : Str → Option Value} {W : WX} {p pos : Pos} {e : Expr} {f : De Va} {x : Str}
theorem pe_dSorted (hx : x = "sorted") (hg : Gl X x) (hm : X.mg x = none) (he : PE X e (tE X.K mg W f)) (hs : starEach [e] X.env = (false, eval e X.env) :: starEach [] X.env) : PE X (.Call (.Name x p) [e] [] pos) (tE X.K mg W (dSorted f)) := by
  subst hx
  refine PE.by fun pins s₀ σ H Q I q => ⟨_, pe_callB (rMaxC_ok (f := .builtin "sorted")) hg hm (by decide +kernel) (pa_cons he pa_nil hs) (by decide +kernel) (by decide +kernel) hs rfl, ?_⟩
  obtain ⟨g, s, F, hK, hmg, w, p⟩ := q
  unfold dSorted at p
  refine tE_frz hK hmg w p fun d s1 F1 H1 u w1 m1 r1 p1 => ?_
  obtain ⟨v, e1, q⟩ := ofOpt_post p1
  obtain ⟨ds, e2, rfl⟩ := Option.map_eq_some_iff.mp e1
  unfold sortD at e2
  split at e2
  · rename_i xs
    cases r1 with
    | lst ha z ra =>
      rename_i a vs
      split at e2
      · rename_i ns e3
        cases e2
        obtain ⟨rfl, _⟩ := intsOf_ok ra e3
        refine ⟨_, cr_sortedI, a, ns, rfl, .inl (.inl (w1.sub _ _ ha)), fun ns' b pm pw nb => ?_⟩
        have := sortI_uniq pm pw
        subst this
        obtain ⟨w3, r3⟩ := w1.own_new nb (vs := (sortI ns).map V.int) (xs := (sortI ns).map PyData.int) (by rw [List.length_map, (sortI_perm ns).length_eq]; rw [List.length_map] at z; exact z) (rp_intsU _)
        exact q F1 _ w3 (Same.refl _) _ r3
      · split at e2
        · rename_i ss e3
          split at e2
          · rename_i hz
            cases e2
            obtain ⟨rfl, ok⟩ := strsOf_ok ra e3
            refine ⟨_, cr_sortedS, a, ss, rfl, .inl (.inl (w1.sub _ _ ha)), hz, fun ys b pm pw nb => ?_⟩
            have := sortS_uniq pm pw
            subst this
            obtain ⟨w3, r3⟩ := w1.own_new nb (vs := (sortS ss).map V.str) (xs := (sortS ss).map PyData.str) (by rw [List.length_map, (sortS_perm ss).length_eq, sizeLine_eq]; omega) (rp_strsT _ fun y hy => ok y ((sortS_perm ss).mem_iff.mp hy))
            exact q F1 _ w3 (Same.refl _) _ r3
          · cases e2
        · cases e2
  · cases e2
end
/-! ## max(a tuple of ints, default=d) -/
def dMaxD (f h : De Va) : De Va := fun s => (dFrz f s).bind fun d s => (dFrz h s).bind fun e s => match d with
  | .tuple xs => (match intsOf xs with
    | some [] => .ok (.dat e) s
    | some ns => .ok (.dat (.int (maxL ns))) s
    | none => .bad)
  | _ => .bad
section
variable {X : Cx}
theorem holdAll_ints {h : Heap} : ∀ {vs : List Value} {ns : List Int}, IntsAre vs ns → PySem.W.HoldAll h vs ns
  | _, _, .nil => ⟨_, .nil⟩
  | _, _, .cons n t r => by
    obtain ⟨as, r2⟩ := holdAll_ints (h := h) r
    exact ⟨_, .cons (.int n t) r2⟩
theorem maxOf_L : ∀ (xs : List Int) (x : Int), PySem.W.maxOf x xs = maxL (x :: xs)
  | [], x => rfl
  | y :: r, x => by
    have e : PySem.W.maxOf x (y :: r) = PySem.W.maxOf (if PySem.W.DatumOrd.lt x y = true then y else x) r := rfl
    have lt : PySem.W.DatumOrd.lt x y = decide (x < y) := rfl
    have key : ∀ (l : List Int) (a b : Int), maxL ((max a b) :: l) = max a (maxL (b :: l)) := fun l => by
      induction l with
      | nil => intro a b; rfl
      | cons z l ih =>
        intro a b
        show max (max a b) (maxL (z :: l)) = max a (max b (maxL (z :: l)))
        omega
    rw [e, maxOf_L r, lt]
    show _ = max x (maxL (y :: r))
    rw [← key r x y]
    congr 2
    by_cases h : x < y
    · rw [if_pos (decide_eq_true h)]; omega
    · rw [if_neg (by simpa using h)]; omega
theorem holds_int {h : Heap} {v : Value} {n : Int} (H : PySem.W.Holds h v n) : ∃ t, v = .int n t := by
  obtain ⟨as, r⟩ := H
  cases r with
  | int _ t => exact ⟨t, rfl⟩
def rMaxDf (K : PySem.W.Frag) : List V → List V → Hp → VK → Prop := fun xs zs H Q => ∃ (l : Addr) (ns : List Int) (d : V), xs = [.ref l] ∧ zs = [d] ∧ SqT K H l (ns.map V.int) ∧ Q (if ns = [] then d else .int (maxL ns)) H
theorem cr_maxDf (hc : X.calm = true) (hu : X.A.units + 66 < cLine) : CallRK X (.builtin "max") [Str.ofString "default"] (rMaxDf X.K) := by
  intro pins s σ H xs zs us ws Q I rx rz h
  obtain ⟨l, ns, d, rfl, rfl, hq, q⟩ := h
  rw [Vals.ref1 rx]
  obtain ⟨dv, rfl, rd⟩ := rz.one
  obtain ⟨its, rv, pl, hz⟩ := I.tuple hq
  refine PySem.W.max_tuple_datum_default (α := Int) (xs := ns) (I.ok.hd hc) pl (holdAll_ints (by simpa using rv.ints)) (by show X.A.units + 1 + 0 < cLine; omega) (fun e h' tk kp => ?_) fun y ys i v h' tk e hi hv kp => ?_
  · rw [if_pos e] at q
    exact ⟨d, H, I.kept (t' := tk) kp, rd, q⟩
  · rw [if_neg (by rw [e]; simp)] at q
    obtain ⟨t, rfl⟩ := holds_int hv
    rw [maxOf_L, ← e]
    exact ⟨.int (maxL ns), H, I.kept (t' := tk) kp, ⟨t, rfl⟩, q⟩
end
section
variable {X : Cx} {mg : Str → Option Value} {W : WX} {p pos kpos : Pos} {e e2 : Expr} {f h : De Va} {x k : Str}
theorem pe_dMaxD (hc : X.calm = true) (hu : X.A.units + 66 < cLine) (hx : x = "max") (hk : k = "default") (hg : Gl X x) (hm : X.mg x = none) (h1 : PE X e (tE X.K mg W f)) (h2 : PE X e2 (tE X.K mg W h)) (hs : starEach [e] X.env = (false, eval e X.env) :: starEach [] X.env) :
    PE X (.Call (.Name x p) [e] [⟨some k, e2, kpos⟩] pos) (tE X.K mg W (dMaxD f h)) := by
  subst hx; subst hk
  refine PE.by fun pins s₀ σ H Q I q => ⟨_, pe_callBK (cr_maxDf hc hu) hg hm (by decide +kernel) (pa_cons h1 pa_nil hs) (pk_cons h2 pk_nil) (by decide +kernel) (by decide +kernel) (by rw [hs]; rfl) (by rw [hs]; rfl) rfl rfl rfl, ?_⟩
  obtain ⟨g, s, F, hK, hmg, w, p⟩ := q
  unfold dMaxD at p
  refine tE_frz hK hmg w p fun d s1 F1 H1 u w1 m1 r1 p1 => ?_
  refine tE_frz hK hmg w1 p1 fun d2 s2 F2 H2 u2 w2 m2 r2 p2 => ?_
  split at p2
  · rename_i xs
    cases r1 with
    | tup ha z ra =>
      rename_i a vs
      rw [hK] at ha
      have la : SqT X.K H2 a vs := seqT w2.sub (seqT m2 ha)
      split at p2
      · rename_i e1
        obtain ⟨rfl, _⟩ := intsOf_ok ra e1
        exact ⟨a, [], u2, rfl, rfl, la, by rw [if_pos rfl]; exact p2 F2 H2 w2 (Same.refl _) _ r2⟩
      · rename_i ns hne e1
        obtain ⟨rfl, _⟩ := intsOf_ok ra e1
        exact ⟨a, ns, u2, rfl, rfl, la, by rw [if_neg (fun z => hne (by rw [z])) ]; exact p2 F2 H2 w2 (Same.refl _) _ (.int _)⟩
      · exact p2.elim
  · exact p2.elim
end
end Ev

namespace Ev
open PySem PySem.Spec PyProof.Rows L2
/-! ## set(a list of ints) -/
abbrev objSet (w : World) : Obj := { cls := .type "set", dict := none, data := .set #[] 0 (.fresh 0 0 (!w.params.followText "set-order")) }
section
variable {P : Program} {w : World} {A : Around} {E : Value → Shared → Prop} {s : Shared}
theorem set_of_list {l : Addr} {items : Array Value} (ns : List Int) {Q : Value → Shared → Prop} (hh : A.handled = none) (hl : s.heap.IsList l items) (hit : IntsAre items.toList ns) (hb : ns.length + 1 < scanBound)
    (h : ∀ (h' : Heap) (tk c : Nat), SetR w h' s.heap.objs.size (fun j => decide (j ∈ ns)) c → c ≤ ns.length → (∀ b o, s.heap.get? b = some o → h'.get? b = some o) → Q (.ref s.heap.objs.size) { s with heap := h', toks := tk }) :
    wpAny (model P w) A (call (.type "set") [.ref l]) Q E s := by
  have hn : items.size = ns.length := by
    have := IntsAre.length hit; rw [Array.length_toList] at this; exact this
  obtain ⟨_, _, hmro⟩ := F.called_set.mro
  have hmade := F.called_set.made
  have hsub := F.called_set.sub
  refine wpAny_call (codeAny_of_tree ?_)
  show wpAny _ _ (callAny (.type "set") _) _ _ _
  refine wpAny_pure (And.intro (Code.quiet_builtin _ (by decide +kernel)) (codeAny_builtin F.entry_type_call ?_))
  rw [Around.under_plain (weight_type_call_type "set" [.ref l] []) rfl]
  have hnt := F.called_set.notType
  have hcc := F.called_set.canCreate
  have htc := F.typeCall_set_1 (.ref l)
  repeat (any_goals (first | assumption | wp_step))
  refine codeAny_mono (code_set_led1 (.ref l) (E := E) (Q₁ := fun ob t => ob = .ref s.heap.objs.size ∧ t = { s with heap := s.heap.push (objSet w) }) ⟨rfl, rfl⟩) fun r t hr => ?_
  cases r with
  | error e => exact hr
  | ok fl =>
    cases fl with
    | ret ob =>
      obtain ⟨rfl, rfl⟩ := hr
      have gS : (s.heap.push (objSet w)).get? s.heap.objs.size = some (objSet w) := Heap.get?_push_size _ rfl
      have tS : Shared.TypeIs { s with heap := s.heap.push (objSet w) } (.ref s.heap.objs.size) "set" := ⟨_, gS, rfl⟩
      have hil := F.called_set.init.lookup
      have hib := F.called_set.init.bind (.ref s.heap.objs.size)
      repeat (any_goals (first | assumption | wp_step))
      refine codeAny_mono (codeAny_call_builtin (R := wants (fun r t => r = .none ∧ ∃ h' tk c, t = { s with heap := h', toks := tk } ∧ SetR w h' s.heap.objs.size (fun j => decide (j ∈ ns)) c ∧ c ≤ ns.length ∧
          (∀ b o, s.heap.get? b = some o → h'.get? b = some o)) E) F.called_set.init.plain F.entry_set_init (check_set_init_1 tS ?_)) fun r2 t2 hr2 => ?_
      · have hl0 := hl
        obtain ⟨ol, gl, cl, dl⟩ := hl
        obtain ⟨oc, od, oa, os⟩ := ol
        simp only at cl
        subst cl
        have gl' : (s.heap.push (objSet w)).get? l = some { cls := .type "list", dict := od, data := oa, slots := os } := Heap.get?_push_of_some _ gl
        have ns1 := F.sub_list_set
        have ns2 := F.sub_list_frozenset
        have nd : (Value.type "list" == Value.type "dict") = false := by decide
        have l1 : (s.heap.push (objSet w)).IsList l items := hl0.push _
        unfold Builtin.«set.__init__» noKeywords Builtin.Frozenset.updateFrom
        generalize hPI : pyIter = PI
        wp_walk
        subst hPI
        refine wpAny_pyIter_list l1 ?_
        refine wpAny_bind (wpAny_runValue ?_)
        have ll : l < s.heap.objs.size := Heap.lt_size gl
        have zz : (s.heap.push (objSet w)).objs.size = s.heap.objs.size + 1 := Heap.size_push ..
        have ne1 : l ≠ (s.heap.push (objSet w)).objs.size := Nat.ne_of_lt (by rw [zz]; exact Nat.lt_succ_of_lt ll)
        have ne2 : s.heap.objs.size ∉ [(s.heap.push (objSet w)).objs.size, l] := fun z => by
          rcases List.mem_cons.mp z with e | z
          · rw [zz] at e; exact Nat.ne_of_lt (Nat.lt_succ_self _) e
          · exact Nat.ne_of_gt ll (List.mem_singleton.mp z)
        have val : ∀ (i : Nat) (v : Value), items[i]? = some v → ∃ k t, ns[i]? = some k ∧ v = .int k t := fun i v hv => by
          have hi : i < ns.length := by rw [← hn]; exact (Array.getElem?_eq_some_iff.mp hv).1
          obtain ⟨t, e⟩ := IntsAre.int_at hit i v (by rw [Array.getElem?_toList]; exact hv)
          have e1 : ns[i]? = some ns[i] := List.getElem?_eq_getElem hi
          exact ⟨ns[i], t, e1, by rw [e, List.getD_eq_getElem?_getD, e1]; rfl⟩
        refine set_update_ints ((Walks.list (by simp [hh]) _ l ne1 items).toS) s.heap.objs.size ne2 ns hn hb val (items.size - 0) 0 _ (by omega) (Nat.zero_le _) (And.intro ⟨_, Heap.get?_push_size _ rfl, rfl, rfl⟩ (l1.push _)) ?stA ?stB
        case stA => exact ⟨0, Nat.le_refl 0, setR_new_at (Heap.get?_push_of_some _ gS)⟩
        case stB =>
          intro t c mv hc R
          obtain ⟨h', g2, d', tk', os'⟩ := t
          cases (show g2 = s.gens from mv.gens)
          cases (show d' = s.drawn from mv.drawn)
          cases (show os' = s.os from mv.os)
          show wpAny _ _ _ _ _ _
          refine wpAny_pure ?_
          show wpAny _ _ (ret Value.none) _ _ _
          refine wpAny_pure ⟨rfl, h', tk', c, rfl, R, by omega, fun b o e => ?_⟩
          have b0 : b < s.heap.objs.size := Heap.lt_size e
          exact mv.heap b o (fun z => by
            rcases List.mem_cons.mp z with e | z
            · exact Nat.ne_of_lt b0 e
            · exact Nat.ne_of_lt (show b < _ by rw [zz]; exact Nat.lt_succ_of_lt b0) (List.mem_singleton.mp z)) (Heap.get?_push_of_some _ (Heap.get?_push_of_some _ e))
      · cases r2 with
        | error e => exact hr2
        | ok f2 =>
          cases f2 with
          | ret v =>
            obtain ⟨rfl, h', tk, c, rfl, R, hc, kp⟩ := hr2
            have hab := h h' tk c R hc kp
            repeat (any_goals (first | assumption | wp_step))
          | next => exact hr2.elim
          | brk => exact hr2.elim
          | cont => exact hr2.elim
    | next => exact hr.elim
    | brk => exact hr.elim
    | cont => exact hr.elim
end
end Ev

namespace L2
open PySem PySem.Spec PyProof.Rows
/-! # sorted(a set of ints), of any size -/
section
variable {P : Program} {w : World} {A : Around} {E : Value → Shared → Prop} {s : Shared} {a : Addr}
theorem sorted_setL {S : Int → Bool} {n : Nat} {Q : Value → Shared → Prop} (R : SetR w s.heap a S n) (hh : A.handled = none) (hz0 : n ≤ sizeLine)
    (hQ : ∀ s' p (out : Array Value) (c : Nat) (ns : List Int), (∀ b o, s.heap.get? b = some o → s'.heap.get? b = some o) → s'.gens = s.gens → s'.os = s.os → s.heap.objs.size ≤ p →
      s'.heap.get? p = some (seqObj "list" out c) → IntsAre out.toList ns → ns.Pairwise (· < ·) → (∀ k, k ∈ ns ↔ S k = true) → ns.length = n → Q (.ref p) s') :
    wpAny (model P w) A (call (.builtin "sorted") [.ref a]) Q E s := by
  obtain ⟨o, es, ep, t, ho, hex, hd, g, nd, hm, hb, hf, hn, hr, hl⟩ := R
  refine Calls.call_function_entry kind_sorted plain_sorted entry_sorted (args_sorted1 _) ?_
  unfold Builtin.«sorted»
  refine wpAny_bind (m := checkCount "sorted" 1 1 _) (wpAny_pure ?_)
  refine wpAny_bind (collect_set (A := A.in1) hh ⟨o, ho, hex.1, hd⟩ hf hb hr hl fun s1 vs k1 hz g1 o1 pm => ?_)
  have hvl : vs.length = n := by rw [pm.length_eq, List.length_map, Array.length_toList]; exact hn
  have hI : IntsAre vs (vs.map Builtin.Re.reRawOf) := ints_of vs fun v hv => by
    obtain ⟨e, he, q⟩ := List.mem_map.mp (pm.mem_iff.mp hv)
    obtain ⟨k, tk, h1, _⟩ := g e he
    exact ⟨k, tk, by rw [← q]; exact h1⟩
  have pk : (vs.map Builtin.Re.reRawOf).Perm (es.toList.map keyOf) := by
    have q := pm.map Builtin.Re.reRawOf
    rw [List.map_map] at q
    exact q
  refine wpAny_bind (wpAny_newList ?_ (by rw [hvl]; exact hz0))
  have hoL : (s1.heap.push (seqObj "list" vs.toArray 0)).get? s1.heap.objs.size = some (seqObj "list" vs.toArray 0) := Heap.get?_push_size _ rfl
  refine wpAny_bind (wpAny_holding (wpAny_call_entry slot_list_sort ⟨_, hoL, rfl⟩ entry_list_sort (SrtO.list_sort_ord SrtO.swo_int hoL (by rw [hvl]; exact hz0) (fun h2 => SrtO.ints_sortable hI h2) fun out hs hst => ⟨_, rfl, ?_⟩) (args_list_sort _)))
  obtain ⟨a1, a2, a3⟩ := SrtO.ints_out hI hs hst
  obtain ⟨c, hc⟩ := sortedHeap_at (vs := vs) (out := out.toArray) hoL
  have pn : (out.map SrtO.iv).Perm (es.toList.map keyOf) := a2.trans pk
  refine wpAny_pure ⟨_, rfl, hQ _ s1.heap.objs.size out.toArray c (out.map SrtO.iv) (fun b u e => ?_) g1 o1 hz hc a1 (lt_of_le_nodup _ a3 (pn.nodup_iff.mpr nd)) (fun k => by rw [pn.mem_iff, ← hm k]) ?_⟩
  · have q := k1 b u e
    have hlt := Heap.lt_size q
    show (sortedHeap (s1.heap.push (seqObj "list" vs.toArray 0)) s1.heap.objs.size vs out.toArray).get? b = some u
    rw [sortedHeap_old (Nat.ne_of_lt hlt) (by rw [size_push']; exact Nat.lt_succ_of_lt hlt)]
    exact Heap.get?_push_of_some _ q
  · rw [pn.length_eq, List.length_map, Array.length_toList]; exact hn
end
section
variable {X : Cx}
/-- sorted(found), a set of ints -/
def rSortedSetL (w : World) : List V → Hp → VK → Prop := fun vs H Q => ∃ (a : Addr) (S : Int → Bool) (n : Nat), vs = [V.ref a] ∧ H a = some (SetO w a S n) ∧ n ≤ sizeLine ∧
  ∀ (ns : List Int) (p : Addr), ns.Pairwise (· < ·) → (∀ k : Int, k ∈ ns ↔ S k = true) → ns.length = n → H p = none → Q (.ref p) (upd H p (.lst (ns.map V.int)))
theorem cr_sortedSetL (hc : X.calm = true) : CallR X (.builtin "sorted") (rSortedSetL X.w) := by
  intro pins s σ H vs us Q I r h
  obtain ⟨a, S, n, rfl, ha, hz, q⟩ := h
  have R := setO_get I ha
  rw [Vals.ref1 r]
  refine sorted_setL R (I.ok.hd hc) hz fun s' p out c ns k g o hp hg hi hs hm hl => ?_
  have hlen : (ns.map V.int).length ≤ sizeLine := by rw [List.length_map, hl]; exact hz
  have hn : H p = none := I.hok.fresh hp
  have J : Inv X pins σ (upd H p (.lst (ns.map V.int))) { s with heap := s'.heap, gens := s'.gens, drawn := s'.drawn, toks := s'.toks } :=
    I.call (ch := []) (Un.laid k hp hn) (I.hok.laid k hp ⟨hlen, out.toList, c, vals_of_ints hi, hg⟩) (by rw [g]; exact I.bare) (fun _ z => nomatch z)
  have e : s' = { s with heap := s'.heap, gens := s'.gens, drawn := s'.drawn, toks := s'.toks } := by
    cases s'
    cases s
    cases o
    rfl
  rw [e]
  exact ⟨.ref p, _, J, rfl, q ns p hs hm hl hn⟩
end
end L2

namespace Ev
open PySem PySem.Spec PyProof.Rows L2
/-- the distinct ones -/
def dedI : List Int → List Int
  | [] => []
  | x :: r => if x ∈ r then dedI r else x :: dedI r
theorem dedI_mem : ∀ {l : List Int} {k : Int}, k ∈ dedI l ↔ k ∈ l
  | [], _ => Iff.rfl
  | x :: r, k => by
    unfold dedI
    split
    · rename_i h
      rw [dedI_mem, List.mem_cons]
      exact ⟨.inr, fun z => z.elim (fun e => e ▸ h) id⟩
    · rw [List.mem_cons, List.mem_cons, dedI_mem]
theorem dedI_nodup : ∀ l : List Int, (dedI l).Nodup
  | [] => List.nodup_nil
  | x :: r => by
    unfold dedI
    split
    · exact dedI_nodup r
    · rename_i h
      exact List.nodup_cons.mpr ⟨fun z => h (dedI_mem.mp z), dedI_nodup r⟩
theorem dedI_le : ∀ l : List Int, (dedI l).length ≤ l.length
  | [] => Nat.le_refl _
  | x :: r => by
    have := dedI_le r
    unfold dedI
    split
    · rw [List.length_cons]; omega
    · rw [List.length_cons, List.length_cons]; omega
/-! ## sets of ints, made and used at once -/
section
variable {X : Cx}
theorem setR_count {w : World} {h : Heap} {a : Addr} {ns : List Int} {c : Nat} (R : SetR w h a (fun j => decide (j ∈ ns)) c) : c = (dedI ns).length := by
  obtain ⟨o, es, ep, t, ho, hex, hd, g, nd, hm, hb, hf, hn, hr, hl⟩ := R
  have p : (es.toList.map keyOf).Perm (dedI ns) := (List.perm_ext_iff_of_nodup nd (dedI_nodup ns)).mpr fun k => by
    rw [dedI_mem, ← hm k, decide_eq_true_eq]
  have := p.length_eq
  rw [List.length_map, Array.length_toList] at this
  omega
def rSetI (X : Cx) : List V → Hp → VK → Prop := fun xs H Q => ∃ (l : Addr) (ns : List Int), xs = [.ref l] ∧ (SqL X.K H l (ns.map V.int) ∨ SqT X.K H l (ns.map V.int)) ∧ ns.length < 1000 ∧
  ∀ a, H a = none → Q (.ref a) (upd H a (SetO X.w a (fun j => decide (j ∈ ns)) (dedI ns).length))
theorem call_lenSetO : CallR X (.builtin "len") (fun xs H Q => ∃ (a : Addr) (S : Int → Bool) (n : Nat), xs = [.ref a] ∧ H a = some (SetO X.w a S n) ∧ n < 1000 ∧ Q (.int n) H) := by
  intro pins s σ H xs us Q I r h
  obtain ⟨a, S, n, rfl, ha, hn, q⟩ := h
  rw [Vals.ref1 r]
  obtain ⟨o, es, ep, t, ho, hex, hd, _, _, _, hb, hf, he, _⟩ := setO_get I ha
  refine call_len_set ho hex hd hf (by rw [he]; omega) ⟨.int n, H, I.tok _, ⟨_, by rw [he]⟩, q⟩
theorem cr_setI (hc : X.calm = true) : CallR X (.type "set") (rSetI X) := by
  intro pins s σ H xs us Q I r h
  obtain ⟨l, ns, rfl, hq, hn, q⟩ := h
  rw [Vals.ref1 r]
  have fin : ∀ (h' : Heap) (tk c : Nat), SetR X.w h' s.heap.objs.size (fun j => decide (j ∈ ns)) c → (∀ b o, s.heap.get? b = some o → h'.get? b = some o) → EP X pins σ Q (.ref s.heap.objs.size) { s with heap := h', toks := tk } := fun h' tk c R kp => by
    have ec := setR_count R
    subst ec
    exact ⟨.ref s.heap.objs.size, upd H s.heap.objs.size (SetO X.w s.heap.objs.size (fun j => decide (j ∈ ns)) (dedI ns).length), I.laid (t' := tk) kp (Nat.le_refl _) (setO_new R), rfl, q _ (I.hok.fresh (Nat.le_refl _))⟩
  have hb : ns.length + 1 < scanBound := by unfold scanBound; omega
  rcases hq with hq | hq
  · obtain ⟨its, rv, pl, hz⟩ := I.list hq
    exact set_of_list ns (I.ok.hd hc) pl.isList (by simpa using rv.ints) hb fun h' tk c R _ kp => fin h' tk c R kp
  · obtain ⟨its, rv, pl, hz⟩ := I.tuple hq
    exact call_set_tupI ns (I.ok.hd hc) pl (by simpa using rv.ints) hb fun h' tk c R _ kp => fin h' tk c R kp
end
theorem rp_intsT {K : PySem.W.Frag} {F : Hp} : ∀ ns : List Int, RpAll K F (ns.map V.int) (ns.map PyData.int)
  | [] => .nil
  | n :: ns => .cons (.int n) (rp_intsT ns)
/-! the two composite expressions -/
/-- what a set is made of -/
def setOfD : PyData → Option (List Int)
  | .list xs => intsOf xs
  | .tuple xs => intsOf xs
  | _ => none
def dLenSet (f : De Va) : De Va := fun s => (dFrz f s).bind fun d s => match setOfD d with
  | some ns => if ns.length < 1000 then .ok (.dat (.int (dedI ns).length)) s else .bad
  | none => .bad
def dSortSet (f : De Va) : De Va := fun s => (dFrz f s).bind fun d s => match setOfD d with
  | some ns => if ns.length < 1000 then .ok (.own ((sortI (dedI ns)).map PyData.int)) s else .bad
  | none => .bad
section
variable {X : Cx} {mg : Str → Option Value} {W : WX} {p p2 q2 pos : Pos} {e : Expr} {f : De Va} {x y : Str}
theorem setOf_at {g : Gh} {F H : Hp} {u : V} {d : PyData} {ns : List Int} (r : Rp g.K F u d) (m : Same F H) (e : setOfD d = some ns) : ∃ l, u = .ref l ∧ (SqL g.K H l (ns.map V.int) ∨ SqT g.K H l (ns.map V.int)) := by
  cases r with
  | lst ha z ra =>
    obtain ⟨e1, _⟩ := intsOf_ok ra e
    subst e1
    exact ⟨_, rfl, .inl (.inl (.inl (m _ _ ha)))⟩
  | tup ha z ra =>
    obtain ⟨e1, _⟩ := intsOf_ok ra e
    subst e1
    exact ⟨_, rfl, .inr (seqT m ha)⟩
  | _ => cases e
theorem pe_set {t : TE} (hc : X.calm = true) (hy : y = "set") (hg2 : Gl X y) (hm2 : X.mg y = none) (he : PE X e t) (hs : starEach [e] X.env = (false, eval e X.env) :: starEach [] X.env) : PE X (.Call (.Name y p2) [e] [] q2) (tCB (rSetI X) (tCons t tNil)) := by
  subst hy
  exact pe_callTy (cr_setI hc) hg2 hm2 PyProof.Rows.boot_set (pa_cons he pa_nil hs) (by decide +kernel) (by decide +kernel) hs rfl
theorem pe_dLenSet (hc : X.calm = true) (hx : x = "len") (hy : y = "set") (hg : Gl X x) (hm : X.mg x = none) (hg2 : Gl X y) (hm2 : X.mg y = none) (he : PE X e (tE X.K mg W f)) (hs : starEach [e] X.env = (false, eval e X.env) :: starEach [] X.env) :
    PE X (.Call (.Name x p) [.Call (.Name y p2) [e] [] q2] [] pos) (tE X.K mg W (dLenSet f)) := by
  subst hx
  refine PE.by fun pins s₀ σ H Q I q => ⟨_, pe_callB call_lenSetO hg hm PySem.boot_len (pa_cons (pe_set hc hy hg2 hm2 he hs) pa_nil rfl), ?_⟩
  obtain ⟨g, s, F, hK, hmg, w, p⟩ := q
  unfold dLenSet at p
  refine tE_frz hK hmg w p fun d s1 F1 H1 u w1 m1 r1 p1 => ?_
  split at p1
  · rename_i ns e1
    split at p1
    · rename_i hz
      obtain ⟨l, rfl, hq⟩ := setOf_at r1 w1.sub e1
      rw [hK] at hq
      have hd := dedI_le ns
      refine ⟨l, ns, rfl, hq, hz, fun a na => ?_⟩
      exact ⟨a, _, _, rfl, upd_same, by omega, p1 F1 _ (w1.hide na _) (Same.refl _) _ (.int _)⟩
    · exact p1.elim
  · exact p1.elim
theorem pe_dSortSet (hc : X.calm = true) (hx : x = "sorted") (hy : y = "set") (hg : Gl X x) (hm : X.mg x = none) (hg2 : Gl X y) (hm2 : X.mg y = none) (he : PE X e (tE X.K mg W f)) (hs : starEach [e] X.env = (false, eval e X.env) :: starEach [] X.env) :
    PE X (.Call (.Name x p) [.Call (.Name y p2) [e] [] q2] [] pos) (tE X.K mg W (dSortSet f)) := by
  subst hx
  refine PE.by fun pins s₀ σ H Q I q => ⟨_, pe_callB (cr_sortedSetL hc) hg hm (by decide +kernel) (pa_cons (pe_set hc hy hg2 hm2 he hs) pa_nil rfl) (by decide +kernel) (by decide +kernel), ?_⟩
  obtain ⟨g, s, F, hK, hmg, w, p⟩ := q
  unfold dSortSet at p
  refine tE_frz hK hmg w p fun d s1 F1 H1 u w1 m1 r1 p1 => ?_
  split at p1
  · rename_i ns e1
    split at p1
    · rename_i hz
      obtain ⟨l, rfl, hq⟩ := setOf_at r1 w1.sub e1
      rw [hK] at hq
      have hd := dedI_le ns
      refine ⟨l, ns, rfl, hq, by omega, fun a na => ⟨a, _, _, rfl, upd_same, by rw [sizeLine_eq]; omega, fun ns' b hp hmem hlen nb => ?_⟩⟩
      have pw : ns'.Pairwise (· ≤ ·) := hp.imp fun h => Int.le_of_lt h
      have nd : ns'.Nodup := hp.imp fun h => Int.ne_of_lt h
      have pm : ns'.Perm (dedI ns) := (List.perm_ext_iff_of_nodup nd (dedI_nodup ns)).mpr fun k => by
        rw [dedI_mem, hmem k, decide_eq_true_eq]
      have es := sortI_uniq pm pw
      subst es
      have w2 := w1.hide na (SetO X.w a (fun j => decide (j ∈ ns)) (dedI ns).length)
      obtain ⟨w3, r3⟩ := w2.own_new nb (vs := (sortI (dedI ns)).map V.int) (xs := (sortI (dedI ns)).map PyData.int) (by rw [List.length_map, hlen, sizeLine_eq]; omega) (rp_intsT _)
      exact p1 F1 _ w3 (Same.refl _) _ r3
    · exact p1.elim
  · exact p1.elim
end
end Ev

namespace Ev
open PySem PySem.Spec PyProof.Rows L2
/-! ## raise C(e) -/
def dRaise (x : Str) (f : De Va) : Ds := fun s => (dFrz f s).toS fun d s => .exc ⟨x, [("what", d)]⟩ s
section
variable {X : Cx} {mg : Str → Option Value} {W : WX} {x : Str} {C fI : Addr} {k : Nat} {fd : FuncData} {e : Expr} {f : De Va} {p cpos pos : Pos}
theorem upd_mix {H : Hp} {a d : Addr} {o o1 o2 o3 : HO} (ha : H a = none) (hd : d ≠ a) : upd (del (upd (upd (upd H a o) d o1) a o2) a) d o3 = upd H d o3 := by
  funext b
  by_cases hb : b = d
  · rw [hb, upd_same, upd_same]
  · rw [upd_ne hb, upd_ne hb]
    by_cases hba : b = a
    · rw [hba, del_same, ha]
    · rw [del_ne hba, upd_ne hba, upd_ne hb, upd_ne hba]
theorem ps_dRaise (hc : X.calm = true) (tk : Takes X W) (T : OexC X.K C) (iC : PySem.W.findIn X.K (.ref C) "__init__" = some (some (.ref fI))) (tI : PySem.W.typeIn X.K (.ref fI) = some (.type "function"))
    (F1 : FnOk X.prog X.w X.K X.mg X.base (L2.CX X.prog X.w) k fI fd ["self", "what"] (spInit C)) (hr : Room (k + 1) X.A) (hb : Binds X.K fd ["self", "what"] []) (hx : Passes (L2.CX X.prog X.w) X (fun _ _ _ => False)) (hg : Gl X x) (hm : X.mg x = some (.ref C))
    (he : PE X e (tE X.K X.mg W f)) (hdb : (x == ("__debug__" : Str)) = false) (hs : starEach [e] X.env = (false, eval e X.env) :: starEach [] X.env) :
    PS X (.Raise (some (.Call (.Name x p) [e] [] cpos)) none pos) (tS X.K X.mg W (dRaise x f)) := by
  refine PS.by fun pins s₀ σ H D I q => ⟨_, ps_raise hc tk (pmk_oex T iC tI F1 hr hb .nil hx hg hm (pa_cons he pa_nil hs) hdb hs rfl), ?_⟩
  obtain ⟨g, s, F, hK, hmg, w, p⟩ := q
  unfold dRaise at p
  refine toS_frz hK hmg w p fun d s1 F1 H1 u w1 m1 r1 p1 => ?_
  refine ⟨by show 1 ≤ 1000; omega, fun a na => ⟨a, u, rfl, upd_same, fun dx nd ne => ?_⟩⟩
  have nd' : H1 dx = none := by rw [upd_ne ne] at nd; exact nd
  refine ⟨rfl, dx, [("what", u)], upd_same, ?_, nd', ?_⟩
  · rw [upd_ne ne, upd_same]
  · rw [upd_mix na ne]
    have hF := w1.none_of nd'
    refine p1 σ _ _ (.ref C) (some dx) (w1.alloc nd' _) (same_upd hF) ⟨C, by rw [hmg]; exact hm, rfl, .inr ⟨dx, _, rfl, upd_same, rfl, .cons (r1.mono (same_upd hF)) .nil⟩⟩
end
end Ev

namespace Ev
open PySem PySem.Spec PyProof.Rows L2
/-- the __init__ in a class's text -/
def clsInit (st : Stmt) : Stmt := match st with
  | .ClassDef _ _ _ (s :: _) _ _ _ _ _ _ _ => s
  | s => s
/-- what is wanted of an own error that is raised -/
def ExcAt (P : Program) (K : PySem.W.Frag) (mg : Str → Option Value) (x : Str) : Prop := ∃ (C fI : Addr) (fd : FuncData), OexC K C ∧ PySem.W.findIn K (.ref C) "__init__" = some (some (.ref fI)) ∧ PySem.W.typeIn K (.ref fI) = some (.type "function") ∧
  Binds K fd ["self", "what"] [] ∧ mg x = some (.ref C) ∧ ∀ (w : World) (base : Heap) (k : Nat), FnOk P w K mg base (L2.CX P w) (k + 1) fI fd ["self", "what"] (spInit C)
theorem exc_mk {P : Program} {K : PySem.W.Frag} {h : Heap} {mg : Str → Option Value} (X : K.In h) (G : h.Ns mainGlobals mg) {x qual msg : Str} {sI : Stmt} {C fI cc cda : Addr}
    (a : PySem.W.nsIn K mainGlobals x = some (some (.ref C)))
    {nm q : Str} {N : Addr} {bs bm : List Value} {sn : List Str} {sub : List Value} {ab : Bool} {col : Option Bool} {dd : Option Addr} {k0 k1 k2 k3 k5 : Option Value}
    (l : K.lookup C = some (excClassObj nm q C N bs bm true sn sub ab col dd k0 k1 k2 k3 k5 "ValueError.__new__")) (r : PySem.HandSPX.refsVE bm = true)
    (sa : PySem.W.findIn K (.ref C) "__setattr__" = some (some (.builtin "object.__setattr__"))) (ex : PySem.W.subIn K (.ref C) (.type "BaseException") = some true) (ty : PySem.W.typeIn K (.ref C) = some (.type "type")) (kp : PySem.W.keepIn K (.ref C) = true)
    (i : PySem.W.findIn K (.ref C) "__init__" = some (some (.ref fI))) (ti : PySem.W.typeIn K (.ref fI) = some (.type "function"))
    {oc : Value} {od : Option Addr} {kV doc pm ct : Value} {an : Option Addr} {osl : Array (Option Value)}
    (f : K.lookup fI = some ⟨oc, od, .func (PySem.W.fnX "__init__" qual (defArgs sI) (defBody sI) (defScope sI) [("__class__", cc)] .none kV doc pm an (.ref cda) ct), osl⟩) (ci : PySem.W.codeIn K (.ref cda) qual = true)
    {ccl : Value} {cdd : Option Addr} {vs : Array Value} {ccs : Array (Option Value)} {file : Str} {tf : Tok}
    (cd : K.lookup cda = some ⟨ccl, cdd, .fields vs, ccs⟩) (v2 : vs[2]? = some (.str file tf)) (fl : ((P.main.file : Str) == file) = true)
    {cl : Value} {cld : Option Addr} {csl : Array (Option Value)} (ce : K.lookup cc = some ⟨cl, cld, .cell (some (.ref C)), csl⟩)
    (mr : PySem.W.mroIn K C (.ref C) = some true) (ve : PySem.W.subIn K (.ref C) (.type "ValueError") = some true) (su : PySem.W.nsIn K mainGlobals "super" = some none)
    (nx : PySem.W.ks_superIn K C C "__init__" = some (some (.builtin "ValueError.__init__"))) (op : PySem.W.nsIn K cStatics "thirdparty.any" = some none) (nw : PySem.W.findIn K (.ref C) "what" = some none)
    (hb : ∃ p0 p1 p2 p3 p4 p5 p6 p7 p8 p9 j, defBody sI = bvBody msg p0 p1 p2 p3 p4 p5 p6 p7 p8 p9 j ∧ ((p2 : Pos).endLine == (p4 : Pos).line) = true) (ar : ∃ ar, ((defArgs sI).posonlyargs ++ (defArgs sI).args).head? = some ar ∧ ar.arg = "self")
    (s1 : (defScope sI).names.lookup (Str.ofString "super") = some NameKind.globalImplicit) (s2 : (defScope sI).names.lookup (Str.ofString "__class__") = some NameKind.free) (s3 : (defScope sI).names.lookup (Str.ofString "self") = some NameKind.local)
    (s4 : (defScope sI).names.lookup (Str.ofString "what") = some NameKind.local) (s5 : (defScope sI).names.all (fun y => decide (y.2 ≠ .cell)) = true) (s6 : (defScope sI).names.all (fun y => decide (y.2 ≠ .free) || decide (y.1 = "__class__")) = true)
    (s7 : (defScope sI).kind = .function) (s8 : (defScope sI).isCoroutine = false) (s9 : (defScope sI).isGenerator = false) (tp : (P.main.scope.names.lookup (Str.ofString "super")).isSome = false) (ml : msg.length ≤ 1000)
    (bd : ∀ (kV doc pm : Value) (an : Option Addr) (cdv ct : Value) (us : List Value), us.length = 2 → bindArgs (PySem.W.fnX "__init__" qual (defArgs sI) (defBody sI) (defScope sI) [("__class__", cc)] .none kV doc pm an cdv ct) ⟨us, []⟩ = pure ((["self", "what"] : List Str).zip us)) :
    ExcAt P K mg x := by
  have oex : OexC K C := ⟨⟨_, _, _, _, _, _, _, _, _, _, _, _, _, _, _, l, r⟩, sa, ex, ty, kp⟩
  have hcls : ∃ cd, PySem.W.clsIn K C = some cd := by
    unfold PySem.W.clsIn
    rw [l]
    exact ⟨_, rfl⟩
  obtain ⟨p0, p1, p2, p3, p4, p5, p6, p7, p8, p9, j, hb, hl⟩ := hb
  rw [hb] at f bd
  have B : BvAt P K C fI cc cda qual msg (defArgs sI) (defScope sI) _ := ⟨oex, ⟨_, _, _, _, _, _, _, _, p0, p1, p2, p3, p4, p5, p6, p7, p8, p9, j, rfl, f, ci, hl⟩, ar, ⟨_, _, _, _, _, _, cd, v2, fl⟩, ⟨_, _, _, ce⟩, hcls, mr, ve, su, nx, op, nw, s1, s2, s3, s4,
    fun y hy => of_decide_eq_true (List.all_eq_true.mp s5 y hy), fun y hy => ?_, s7, s8, s9, tp, ml⟩
  · refine ⟨C, fI, _, oex, i, ti, .all (bd kV doc pm an _ ct), PySem.W.mg_of X G a, fun w base k => bv_init B⟩
  · have := List.all_eq_true.mp s6 _ (PySem.mem_of_lookup hy)
    simpa using this
end Ev

namespace Ev
open PySem PySem.Spec PyProof.Rows L2

/-! ## what an except suite says of the error -/
inductive Hx where
  | c (d : PyData) | var (i : Nat) | what | isi (c : Str) | isis (cs : List Str)
  | and (a b : Hx) | or (a b : Hx) | not (a : Hx) | cmp (o : CmpOp) (a b : Hx) | same (a b : Hx)
inductive Hs where
  | ret (e : Hx) | retL (es : List Hx) | set (i : Nat) (e : Hx) | setL (i : Nat) (es : List Hx) | ifs (c : Hx) (a b : List Hs)
/-- is the class x below c -/
def isSub (par : List (Str × List Str)) (x c : Str) : Option Bool := match par.lookup x with
  | some l => if c = "ValueError" then some true else match par.lookup c with
    | some _ => some (decide (c ∈ l))
    | none => none
  | none => none
def isAny (par : List (Str × List Str)) (x : Str) : List Str → Option Bool
  | [] => some false
  | c :: r => match isSub par x c with
    | some true => some true
    | some false => isAny par x r
    | none => none
/-- _law_same of texts -/
def sameD : PyData → PyData → Option PyData
  | .str a, .str b => some (.bool (PyData.eqv (.str a) (.str b)))
  | _, _ => none
def hden (par : List (Str × List Str)) (x : Exn) : Hx → Stt → Option PyData
  | .c d, _ => some d
  | .var i, s => match s.ρ[i]? with
    | some (some (.dat d)) => some d
    | _ => none
  | .what, _ => if (par.lookup x.cls).isSome = true then x.fs.lookup (Str.ofString "what") else none
  | .isi c, _ => (isSub par x.cls c).map .bool
  | .isis cs, _ => (isAny par x.cls cs).map .bool
  | .and a b, s => (hden par x a s).bind fun v => (truD v).bind fun k => if k = true then hden par x b s else some v
  | .or a b, s => (hden par x a s).bind fun v => (truD v).bind fun k => if k = true then some v else hden par x b s
  | .not a, s => (hden par x a s).bind fun v => (truD v).map fun k => .bool (!k)
  | .cmp o a b, s => (hden par x a s).bind fun v => (hden par x b s).bind fun w => (cmpD o v w).map .bool
  | .same a b, s => (hden par x a s).bind fun v => (hden par x b s).bind fun w => sameD v w
def hdens (par : List (Str × List Str)) (x : Exn) : List Hx → Stt → Option (List PyData)
  | [], _ => some []
  | e :: r, s => (hden par x e s).bind fun v => (hdens par x r s).map (v :: ·)
/-! ### the classes -/
structure ClsF (K : PySem.W.Frag) (mg : Str → Option Value) (x : Str) (C : Addr) : Prop where
  at_ : mg x = some (.ref C)
  xf : XfC K C
  noW : PySem.W.findIn K (.ref C) "what" = some none
  hcl : (PySem.W.clsIn K C).isSome = true
  ha : PySem.W.findIn K (.ref C) "__class__" = some (some (.builtin "object.__class__"))
  hn : PySem.W.specialIn K (.builtin "object.__class__") "__get__" = some (some (.builtin "getset_descriptor.__get__"))
  ht : PySem.W.takesIn K (.builtin "object.__class__") = some true
  hm : PySem.W.mroIn K C (.type "object") = some true
  ty : PySem.W.typeIn K (.ref C) = some (.type "type")
  ve : PySem.W.subIn K (.ref C) (.type "ValueError") = some true
  slf : PySem.W.subIn K (.ref C) (.ref C) = some true
structure ExcW (K : PySem.W.Frag) (mg : Str → Option Value) (par : List (Str × List Str)) : Prop where
  cls : ∀ x l, par.lookup x = some l → ∃ C, ClsF K mg x C
  sub : ∀ x c l l' C C', par.lookup x = some l → par.lookup c = some l' → mg x = some (.ref C) → mg c = some (.ref C') → PySem.W.subIn K (.ref C) (.ref C') = some (decide (c ∈ l))
  blt : mg "ValueError" = none
  noV : par.lookup (Str.ofString "ValueError") = none
/-- the value that names a class -/
def clsV (mg : Str → Option Value) (c : Str) : Option Value := if c = "ValueError" then some (.type "ValueError") else mg c
section
variable {K : PySem.W.Frag} {mg : Str → Option Value} {par : List (Str × List Str)}
theorem sub_one (E : ExcW K mg par) {x c : Str} {C : Addr} {b : Bool} (hm : mg x = some (.ref C)) (h : isSub par x c = some b) : ∃ cv v, clsV mg c = some cv ∧ ClsV v cv ∧ PySem.W.kitOne K (.ref C) cv = some b := by
  unfold isSub at h
  split at h
  · rename_i l hl
    obtain ⟨C1, F1⟩ := E.cls x l hl
    have e := F1.at_.symm.trans hm
    cases e
    split at h
    · rename_i hc
      cases h
      refine ⟨.type "ValueError", .ty "ValueError", if_pos hc, .ty _, ?_⟩
      show (if (Value.ref C == Value.type "ValueError") = true then some true else PySem.W.kitCls K (.ref C) (.type "ValueError")) = some true
      rw [if_neg (by intro z; cases eq_of_beq z)]
      show (if PySem.W.kitMeta "ValueError" = true then PySem.W.subIn K (.ref C) (.type "ValueError") else none) = some true
      rw [if_pos (by decide +kernel)]
      exact F1.ve
    · rename_i hc
      split at h
      · rename_i l' hl'
        cases h
        obtain ⟨C2, F2⟩ := E.cls c l' hl'
        have hs := E.sub x c l l' C C2 hl hl' hm F2.at_
        refine ⟨.ref C2, .ref C2, (if_neg hc).trans F2.at_, .own _, ?_⟩
        show (if (Value.ref C == Value.ref C2) = true then some true else PySem.W.kitCls K (.ref C) (.ref C2)) = some _
        by_cases hx : (Value.ref C == Value.ref C2) = true
        · rw [if_pos hx]
          cases eq_of_beq hx
          rw [← hs]
          exact F2.slf.symm
        · rw [if_neg hx]
          show (if ((PySem.W.clsIn K C2).isSome && PySem.W.typeIn K (.ref C2) == some (.type "type")) = true then PySem.W.subIn K (.ref C) (.ref C2) else none) = some _
          rw [if_pos (by rw [F2.hcl, F2.ty]; rfl)]
          exact hs
      · cases h
  · cases h
inductive ClsAll (mg : Str → Option Value) : List Str → List V → List Value → Prop
  | nil : ClsAll mg [] [] []
  | cons {c : Str} {cv : Value} {v : V} {cs : List Str} {vs : List V} {us : List Value} (e : clsV mg c = some cv) (k : ClsV v cv) (r : ClsAll mg cs vs us) : ClsAll mg (c :: cs) (v :: vs) (cv :: us)
theorem ClsAll.pair {cs : List Str} {vs : List V} {us : List Value} (h : ClsAll mg cs vs us) : Paired ClsV vs us := by
  induction h with
  | nil => exact .nil
  | cons _ k _ ih => exact .cons k ih
theorem ClsAll.len {cs : List Str} {vs : List V} {us : List Value} (h : ClsAll mg cs vs us) : vs.length = cs.length := by
  induction h with
  | nil => rfl
  | cons _ _ _ ih => simp [ih]
/-- every name of a row names a class -/
theorem cls_all {cs : List Str} (h : ∀ c ∈ cs, ∃ cv v, clsV mg c = some cv ∧ ClsV v cv) : ∃ vs us, ClsAll mg cs vs us := by
  induction cs with
  | nil => exact ⟨[], [], .nil⟩
  | cons c cs ih =>
    obtain ⟨cv, v, e, k⟩ := h c (List.mem_cons_self ..)
    obtain ⟨vs, us, r⟩ := ih fun c hc => h c (List.mem_cons_of_mem _ hc)
    exact ⟨_, _, .cons e k r⟩
theorem any_one (E : ExcW K mg par) {x : Str} {C : Addr} (hm : mg x = some (.ref C)) : ∀ {cs : List Str} {b : Bool} {vs : List V} {us : List Value}, isAny par x cs = some b → ClsAll mg cs vs us → PySem.W.kitAny K (.ref C) us = some b
  | [], b, _, _, h, .nil => h
  | c :: cs, b, _, _, h, .cons (cv := cv) e k r => by
    have h : (match isSub par x c with
      | some true => some true
      | some false => isAny par x cs
      | none => none) = some b := h
    cases e1 : isSub par x c with
    | none => rw [e1] at h; cases h
    | some k1 =>
      rw [e1] at h
      obtain ⟨cv', v', h1, _, h3⟩ := sub_one E hm e1
      rw [e] at h1
      cases h1
      cases k1 with
      | true => cases h; exact kitAny_cons h3 (fun z => nomatch z) fun _ => rfl
      | false => exact kitAny_cons h3 (fun _ => any_one E hm h r) fun z => nomatch z
end
/-! ### isinstance of the error, its field -/
def DictAt (H : Hp) (d : Option Addr) : Prop := d = none ∨ ∃ dd fs, d = some dd ∧ H dd = some (.xd fs)
def rIsX (K : PySem.W.Frag) (D a : Addr) (d : Option Addr) : List V → Hp → VK → Prop := fun xs H Q => ∃ (c : V) (cv : Value) (b : Bool), xs = [.ref a, c] ∧ ClsV c cv ∧ PySem.W.kitOne K (.ref D) cv = some b ∧ DictAt H d ∧ Q (.bl b) H
def rIsXT (K : PySem.W.Frag) (D a : Addr) (d : Option Addr) : List V → Hp → VK → Prop := fun xs H Q => ∃ (tp : Addr) (cs : List V) (us : List Value) (b : Bool), xs = [.ref a, .ref tp] ∧ H tp = some (.tup cs) ∧ Paired ClsV cs us ∧ PySem.W.kitAny K (.ref D) us = some b ∧ DictAt H d ∧ Q (.bl b) H
section
variable {X : Cx} {mg : Str → Option Value} {a D : Addr} {oe : Obj} {d : Option Addr} {pn : List (Addr × Obj)} {x : Str}
theorem inst_x {pins : List (Addr × Obj)} {s : Shared} {σ : L2.St} {H : Hp} (hz : Zc (.ref D) d oe) (hf : ∃ vs, oe.data = .fields vs) (I : Inv (X.suite a ((a, oe) :: pn)) pins σ H s) (hd : DictAt H d) : ∃ od, PySem.W.InstAt s.heap a oe D od := by
  obtain ⟨hget, _⟩ := I.pin (a, oe) (List.mem_append.mpr (.inl List.mem_cons_self))
  obtain ⟨vs, hv⟩ := hf
  have hn : PySem.W.notCls oe = true := by unfold PySem.W.notCls; rw [hv]
  rcases hd with rfl | ⟨dd, fs, rfl, e⟩
  · exact ⟨none, hget, hz.1, hn, by rw [hz.2]; trivial⟩
  · have hx : ObjOk X.prog X.w H s.heap dd (.xd fs) := I.hok dd _ e
    obtain ⟨mA, hns, hr⟩ := hx
    obtain ⟨od, ho, hl⟩ := lookIn_ns hns
    exact ⟨some od, hget, hz.1, hn, by rw [hz.2]; exact ho⟩
theorem call_isX (T : ClsF X.K mg x D) (hz : Zc (.ref D) d oe) (hf : ∃ vs, oe.data = .fields vs) : CallR (X.suite a ((a, oe) :: pn)) (.builtin "isinstance") (rIsX X.K D a d) := by
  intro pins s σ H xs us Q I r h
  obtain ⟨c, cv, b, rfl, hcv, e, hd, q⟩ := h
  obtain ⟨u1, u2, rfl, r1, r2⟩ := vals2 r
  cases (show u1 = Value.ref a from r1)
  cases hcv.eq r2
  obtain ⟨od, J⟩ := inst_x hz hf I hd
  exact PySem.W.kia_one (PySem.W.kitx_exc T.hcl T.xf.ga T.xf.gg T.xf.exC T.ha T.hn T.ht T.hm) I.kIn J e (fun z => nomatch z) fun tk => ⟨.bl b, H, I.tok tk, rfl, q⟩
theorem call_isXT (T : ClsF X.K mg x D) (hz : Zc (.ref D) d oe) (hf : ∃ vs, oe.data = .fields vs) : CallR (X.suite a ((a, oe) :: pn)) (.builtin "isinstance") (rIsXT X.K D a d) := by
  intro pins s σ H xs us Q I r h
  obtain ⟨tp, cs, ws, b, rfl, hT, k, e, hd, q⟩ := h
  obtain ⟨u1, u2, rfl, r1, r2⟩ := vals2 r
  cases (show u1 = Value.ref a from r1)
  cases (show u2 = Value.ref tp from r2)
  obtain ⟨od, J⟩ := inst_x hz hf I hd
  obtain ⟨_, its, rv, o, h1, h2, n, h3⟩ := (show ObjOk X.prog X.w H s.heap tp (.tup cs) from I.hok tp _ hT)
  have e3 := ClsV.all k rv
  subst e3
  obtain ⟨oc, od', dt, sl⟩ := o
  simp only at h2 h3
  subst h2 h3
  exact PySem.W.kia_tup (PySem.W.kitx_exc T.hcl T.xf.ga T.xf.gg T.xf.exC T.ha T.hn T.ht T.hm) I.kIn J h1 e (fun z => nomatch z) fun tk => ⟨.bl b, H, I.tok tk, rfl, q⟩
end
end Ev

namespace Ev
open PySem PySem.Spec PyProof.Rows L2
/-! # a def that may be called within an except suite: it neither raises nor walks -/
structure FnC (P : Program) (w : World) (K : PySem.W.Frag) (mg : Str → Option Value) (base : Heap) (CX : CXT) (k : Nat) (f : Addr) (fd : FuncData) (ps : List Str) (sp : Sp) : Prop where
  len : ∀ vs H Q E, sp vs H Q E → vs.length = ps.length
  run : ∀ (A : Around) (outer : List PySem.Env) (s : Shared) (H : Hp) (args : Args) (us : List Value) (vs : List V) (Q : VK) (E : XK), L2H.RoomH k A → Env0 P w K mg base A outer s H → BindsTo s fd args (ps.zip us) → Vals vs us → sp vs H Q E →
    codeAny (model P w) A (.call (.ref f) args) (CR CX outer P w H s Q E) s
/-- its body's context -/
def cxC (CX : CXT) (P : Program) (w : World) (K : PySem.W.Frag) (mg : Str → Option Value) (base : Heap) (N : List Str) (qual : Str) (scope : Scope) (f : Addr) (cd : Value) (A : Around) (outer : List PySem.Env) (s : Shared) (H : Hp) (E : XK) : Cx :=
  { cxOf CX P w K mg base N qual scope f cd A outer s H E with calm := false }
section
variable {CX : CXT} {P : Program} {w : World} {K : PySem.W.Frag} {mg : Str → Option Value} {base : Heap}
theorem inv_startC {N ps : List Str} {qual : Str} {scope : Scope} {f : Addr} {cd : Value} {A : Around} {outer : List PySem.Env} {s s1 : Shared} {H : Hp} {E : XK} {us : List Value} {vs : List V}
    (S : FnScope N ps scope) (e0 : Env0 P w K mg base A outer s H) (hl : vs.length = ps.length) (r : Vals vs us)
    (x : InCallC s s.heap.objs.size (bindL (envOfC qual scope s.heap.objs.size f cd).kindOf (ps.zip us) fun _ => none) (cellsFrom (s.heap.objs.size + 1) scope.names []) (bindC (envOfC qual scope s.heap.objs.size f cd).kindOf (ps.zip us) fun _ => none) s1) :
    Inv (cxC CX P w K mg base N qual scope f cd A outer s H E) [] (L2.start N vs) H s1 := by
  have I := inv_start (CX := CX) (E := E) (qual := qual) (f := f) (cd := cd) (A := { A with handled := none }) S rfl ⟨e0.frames, e0.mod, e0.bs, e0.bsz, e0.funs, e0.frf, e0.hok, e0.bare⟩ hl r x
  exact ⟨⟨I.ok.mod, I.ok.kind, I.ok.glob, I.ok.blt, I.ok.above, I.ok.inj, I.ok.has, I.ok.cab, (fun z => Bool.noConfusion (show false = true from z)), I.ok.frames, I.ok.stk, I.ok.exf, I.ok.bs, I.ok.bsz, I.ok.noex, I.ok.exfs, I.ok.funs, I.ok.frf⟩, I.os, I.bare, I.base, I.loc, I.cell, I.free, I.freeC, I.pin, I.hok, I.len⟩
theorem fun_okC {x qual : Str} {st : Stmt} {f : Addr} {fd : FuncData} {N ps : List Str} {k : Nat} {sp : Sp} (F : Fun K x qual st f fd) (S : FnScope N ps (defScope st)) (len : ∀ vs H Q E, sp vs H Q E → vs.length = ps.length)
    (hbody : ∀ (cdv : Value) (A : Around) (outer : List PySem.Env) (s : Shared) (H : Hp) (vs : List V) (Q : VK) (E : XK), L2H.RoomH k (A.deeper (envOfC qual (defScope st) s.heap.objs.size f cdv)) → sp vs H Q E →
      ∃ t, PSs (cxC CX P w K mg base N qual (defScope st) f cdv A outer s H E) (defBody st) t ∧ t { nx := fun _ H' => Q .non H', rt := Q } (L2.start N vs) H) : FnC P w K mg base CX (k + 1) f fd ps sp := by
  obtain ⟨oc, od, kV, doc, pm, an, cdv, ct, osl, rfl, lk, hcd⟩ := F.ex
  refine ⟨len, fun A outer s H args us vs Q E hr e0 hb r hsp => ?_⟩
  have hl := len _ _ _ _ hsp
  have KX : K.In s.heap := e0.mod.kin.keeps fun b o e => (e0.bs b o e).1
  have lim : s.heap.NoLimit := e0.mod.nolimit.keeps fun b o e => (e0.bs b o e).1
  refine codeAny_call_function hr.depth (KX _ _ lk) rfl S.co S.gen rfl (PySem.W.codeRec_of KX hcd) (hb _ _ _ _ ?_)
  refine wpAny_newFunctionEnv_cells S.kind (fun ⟨n, v⟩ hy => (S.par n (List.of_mem_zip hy).1).elim .inl fun q => .inr ⟨q, PySem.W.cellsFrom_some _ _ _ (.inl q)⟩) fun env he s1 x => ?_
  subst he
  refine ⟨lim.keeps x.toInCall.keep, codeAny_func ?_⟩
  obtain ⟨t, ht, hq⟩ := hbody cdv A outer s H vs Q E (hr.deeper _) hsp
  have I : Inv (cxC CX P w K mg base N qual (defScope st) f cdv A outer s H E) [] (L2.start N vs) H s1 := inv_startC S e0 hl r x
  refine wpAny_mono (ht.run [] s1 (L2.start N vs) H _ I hq) (fun fl s' hs => ?_) fun e s' hs => hs
  cases fl with
  | ret u =>
    obtain ⟨v, σ', H', J, rv, q⟩ := hs
    exact ⟨v, H', J.os, J.bare, J.base, J.hok, rv, q⟩
  | next =>
    obtain ⟨σ', H', J, q⟩ := hs
    exact ⟨V.non, H', J.os, J.bare, J.base, J.hok, rfl, q⟩
  | brk =>
    obtain ⟨_, _, _, q⟩ := hs
    exact q.elim
  | cont =>
    obtain ⟨_, _, _, q⟩ := hs
    exact q.elim
end
section
variable {X : Cx} {CX : CXT} {k : Nat} {f : Addr} {fd : FuncData} {ps : List Str} {sp : Sp} {E : L2.St → XK} {x : Str} {p pos : Pos} {e : Expr} {es : List Expr} {t : TA}
theorem pe_callC (F : FnC X.prog X.w X.K X.mg X.base CX k f fd ps sp) (hr : L2H.RoomH k X.A) (hg : Gl X x) (hm : X.mg x = some (.ref f)) (hk : PySem.W.keepIn X.K (.ref f) = true) (hb : Binds X.K fd ps []) (hx : ∀ σ, PassesAt CX X σ (E σ))
    (ha : PA X (e :: es) t) (hdb : (x == ("__debug__" : Str)) = false := by decide) (he : starEach (e :: es) X.env = (false, eval e X.env) :: starEach es X.env := by rfl) (hpl : (backTo pos (starEach es X.env)).any (·.1) = false := by rfl) :
    PE X (.Call (.Name x p) (e :: es) [] pos) (tCallS sp E t) := by
  refine ⟨fun pins s σ H Q I h => ?_⟩
  refine wpAny_Call_Name_kw (ld_glob I hg hm ?_ hdb)
  refine PySem.W.callWith_K (h₀ := X.base) I.ok.mod.kin hk (thn (ha.run pos pins s σ H _ I h) fun us s1 ⟨vs, H1, I1, r, q⟩ => ⟨I1.kIn, ?_⟩) he hpl
  have hl : us.length = ps.length := by rw [← r.length]; exact F.len _ _ _ _ q
  have b := hb s1 us I1.kIn (by rw [List.append_nil]; exact hl)
  rw [List.append_nil] at b
  refine wpAny_call (codeAny_mono (F.run X.A X.stack s1 H1 ⟨us, []⟩ us vs Q (E σ) hr I1.env0 b r q) fun r s' hq => ?_)
  cases r with
  | error e => exact hx σ pins H1 s1 e s' I1 hq
  | ok fl =>
    cases fl with
    | ret u => exact I1.after hq
    | next => exact hq.elim
    | brk => exact hq.elim
    | cont => exact hq.elim
end
/-! ## _law_same, of texts -/
def spSame : Sp := fun vs H Q E => ∃ x y : Str, vs = [.str x, .str y] ∧ okS x = true ∧ okS y = true ∧ Q (.bl (PyData.eqv (.str x) (.str y))) H
/-- a variable that is a text -/
def tTxt (i : Nat) : TE := fun σ H Q => ∃ x : Str, okS x = true ∧ σ[i]? = some (some (.str x)) ∧ Q (.str x) H
section
variable {X : Cx} {i j : Nat} {v a b : Str} {t : Ty} {p p1 p2 pos : Pos}
theorem pe_isiT (hm : ∀ y : Str, y ∈ (["isinstance", "tuple", "bool", "int", "str"] : List Str) → X.mg y = none) (ht : t.name ∈ (["isinstance", "tuple", "bool", "int", "str"] : List Str)) (hg : Gl X "isinstance") (hg2 : Gl X t.name) (hi : X.N[i]? = some v) (hv : Vis X.env.scope v) (h1 : (v == ("__debug__" : Str)) = false) (h2 : (v == ("__classdict__" : Str)) = false) :
    PE X (.Call (.Name "isinstance" p) [.Name v p1, .Name t.name p2] [] pos) (fun σ H Q => ∃ x : Str, σ[i]? = some (some (.str x)) ∧ Q (.bl (decide (t = .str))) H) := by
  refine PE.by fun pins s₀ σ H Q I q => ⟨_, pe_callB call_isi hg (hm _ (by decide)) (by decide +kernel) (pa_cons (pe_var hi hv h1 h2) (pa_cons (pe_ty rfl hg2 (hm _ ht)) pa_nil rfl) rfl) (by decide +kernel) (by decide +kernel) rfl rfl, ?_⟩
  obtain ⟨x, e, q⟩ := q
  have hd : isiD (.str x) t = decide (t = .str) := by cases t <;> rfl
  refine ⟨.str x, e, .str x, .ty t.n, _, _, isiD (.str x) t, rfl, .ty _, .base (.str x), kit_ty (isiD_ok (.str x) t), ?_⟩
  rw [hd]
  exact q
theorem pt_isiT (hm : ∀ y : Str, y ∈ (["isinstance", "tuple", "bool", "int", "str"] : List Str) → X.mg y = none) (ht : t.name ∈ (["isinstance", "tuple", "bool", "int", "str"] : List Str)) (hg : Gl X "isinstance") (hg2 : Gl X t.name) (hi : X.N[i]? = some v) (hv : Vis X.env.scope v) (h1 : (v == ("__debug__" : Str)) = false) (h2 : (v == ("__classdict__" : Str)) = false) :
    PT X (.Call (.Name "isinstance" p) [.Name v p1, .Name t.name p2] [] pos) (fun σ H Q => ∃ x : Str, σ[i]? = some (some (.str x)) ∧ Q (decide (t = .str)) H) := by
  refine PT.by fun pins s₀ σ H Q I q => ⟨_, pt_truth (pe_isiT hm ht hg hg2 hi hv h1 h2) (fun _ => rfl), ?_⟩
  obtain ⟨x, e, q⟩ := q
  exact ⟨x, e, _, truD_ok (d := .bool (decide (t = .str))) (.bl _) rfl, q⟩
theorem pss_false {b : List Stmt} : PSs X b (fun _ _ _ => False) := ⟨fun _ _ _ _ _ _ h => h.elim⟩
/-- due is None, where it is a text -/
theorem pt_isNone {c : Const} {jc : Nat} {pc : Pos} (hc : c = .none) (hu : X.A.units + 66 < cLine) (hi : X.N[i]? = some v) (hv : Vis X.env.scope v) (h1 : (v == ("__debug__" : Str)) = false) (h2 : (v == ("__classdict__" : Str)) = false) :
    PT X (.Compare (.Name v p1) [.Is] [.Constant c jc pc] pos) (fun σ H Q => ∃ x : Str, okS x = true ∧ σ[i]? = some (some (.str x)) ∧ Q false H) := by
  subst hc
  refine PT.by fun pins s₀ σ H Q I q => ⟨_, pt_cmpR rMax2_ok (pe_var hi hv h1 h2) pe_non rfl, ?_⟩
  obtain ⟨x, hx, e, q⟩ := q
  refine ⟨.str x, e, ?_⟩
  exact cmpD_ok hu (o := .Is) (a := .str x) (b := .none) (k := false) rfl _ _ _ _ (Rp.str (K := X.K) (F := H) hx).dp.1 (Rp.non (K := X.K) (F := H)).dp.1 (Rp.str (K := X.K) (F := H) hx).dp.2 (Rp.non (K := X.K) (F := H)).dp.2 ⟨_, rfl, q⟩
/-- a test that a text does not pass -/
inductive LeadT : Expr → Prop
  | isi (t : Ty) (p p1 p2 pos : Pos) (h : t = .tuple ∨ t = .bool ∨ t = .int) : LeadT (.Call (.Name "isinstance" p) [.Name "due" p1, .Name t.name p2] [] pos)
  | none (p1 pos pc : Pos) (jc : Nat) : LeadT (.Compare (.Name "due" p1) [.Is] [.Constant .none jc pc] pos)
inductive Leads : List Stmt → List Stmt → Prop
  | nil (r : List Stmt) : Leads r r
  | cons {c : Expr} {b l r : List Stmt} {q : Pos} (h : LeadT c) (k : Leads l r) : Leads (.If c b [] q :: l) r
theorem lead_ok (hm : ∀ y : Str, y ∈ (["isinstance", "tuple", "bool", "int", "str"] : List Str) → X.mg y = none) (hgl : ∀ y : Str, y ∈ (["isinstance", "tuple", "bool", "int", "str"] : List Str) → Gl X y) (hu : X.A.units + 66 < cLine) (hi : X.N[1]? = some (Str.ofString "due")) (hv : Vis X.env.scope (Str.ofString "due")) {c : Expr} (h : LeadT c) :
    PT X c (fun σ H Q => ∃ x : Str, okS x = true ∧ σ[1]? = some (some (.str x)) ∧ Q false H) := by
  cases h with
  | isi t p p1 p2 pos ht =>
    have hm2 : t.name ∈ (["isinstance", "tuple", "bool", "int", "str"] : List Str) := by rcases ht with rfl | rfl | rfl <;> decide +kernel
    refine PT.by fun pins s₀ σ H Q I q => ⟨_, pt_isiT (i := 1) hm hm2 (hgl _ (by decide)) (hgl _ hm2) hi hv (by decide +kernel) (by decide +kernel), ?_⟩
    obtain ⟨x, hx, e, q⟩ := q
    refine ⟨x, e, ?_⟩
    have : decide (t = Ty.str) = false := by rcases ht with rfl | rfl | rfl <;> rfl
    rw [this]
    exact q
  | none p1 pos pc jc => exact pt_isNone (i := 1) rfl hu hi hv (by decide +kernel) (by decide +kernel)
theorem leads_ok (hm : ∀ y : Str, y ∈ (["isinstance", "tuple", "bool", "int", "str"] : List Str) → X.mg y = none) (hgl : ∀ y : Str, y ∈ (["isinstance", "tuple", "bool", "int", "str"] : List Str) → Gl X y) (hu : X.A.units + 66 < cLine) (hi : X.N[1]? = some (Str.ofString "due")) (hv : Vis X.env.scope (Str.ofString "due")) {r : List Stmt} {t : TS} (hr : PSs X r t) :
    ∀ {l : List Stmt}, Leads l r → PSs X l (fun D σ H => ∃ x : Str, okS x = true ∧ σ[1]? = some (some (.str x)) ∧ t D σ H)
  | _, .nil _ => PSs.by fun pins s₀ σ H D I ⟨x, hx, e, q⟩ => ⟨_, hr, q⟩
  | _, .cons h k => PSs.by fun pins s₀ σ H D I ⟨x, hx, e, q⟩ => ⟨_, pss_cons (ps_if (lead_ok hm hgl hu hi hv h) pss_false pss_nil) (leads_ok hm hgl hu hi hv hr k), x, hx, e, x, hx, e, q⟩
end
section
variable {P : Program} {w : World} {K : PySem.W.Frag} {mg : Str → Option Value} {base : Heap}
def sameRet (p1 p2 p3 p4 p5 p6 p7 p8 p9 : Pos) : Stmt := .Return (some (.BoolOp .And [.Call (.Name "isinstance" p1) [.Name "told" p2, .Name (Ty.str.name) p3] [] p4, .Compare (.Name "told" p5) [.Eq] [.Name "due" p6] p7] p8)) p9
theorem same_ok {x : Str} {st : Stmt} {N : List Str} {f : Addr} {fd : FuncData} {k : Nat} {p1 p2 p3 p4 p5 p6 p7 p8 p9 : Pos} (Fu : Fun K x x st f fd) (Sc : FnScope N ["told", "due"] (defScope st)) (hb : Leads (defBody st) [sameRet p1 p2 p3 p4 p5 p6 p7 p8 p9])
    (h0 : N[0]? = some (Str.ofString "told")) (h1 : N[1]? = some (Str.ofString "due")) (hv0 : Vis (defScope st) (Str.ofString "told")) (hv1 : Vis (defScope st) (Str.ofString "due"))
    (hm : ∀ y : Str, y ∈ (["isinstance", "tuple", "bool", "int", "str"] : List Str) → mg y = none) (hgl : ∀ y : Str, y ∈ (["isinstance", "tuple", "bool", "int", "str"] : List Str) → (defScope st).names.lookup y = some NameKind.globalImplicit) :
    FnC P w K mg base (L2.CX P w) (k + 1) f fd ["told", "due"] spSame := by
  refine fun_okC Fu Sc (fun vs H Q E h => by obtain ⟨x, y, rfl, _⟩ := h; rfl) fun cdv A outer s H vs Q E hr h => ?_
  have hu : (A.deeper (envOfC x (defScope st) s.heap.objs.size f cdv)).units + 66 < cLine := by have := hr.un; omega
  obtain ⟨a, b, rfl, ha, hb', q⟩ := h
  refine ⟨_, leads_ok (X := cxC (L2.CX P w) P w K mg base N x (defScope st) f cdv A outer s H E) hm (fun y hy => hgl y hy) hu h1 hv1 (pss_one (ps_ret (pe_andT (pe_isiT (i := 0) (t := .str) hm (by decide +kernel) (hgl _ (by decide)) (hgl _ (by decide +kernel)) h0 hv0 (by decide +kernel) (by decide +kernel))
    (pe_one (pe_cmpR rMax2_ok (pe_var (i := 0) h0 hv0 (by decide +kernel) (by decide +kernel)) (pe_var (i := 1) h1 hv1 (by decide +kernel) (by decide +kernel)) rfl))))) hb, ?_⟩
  have e0 : (L2.start N [V.str a, V.str b])[0]? = some (some (.str a)) := rfl
  have e1 : (L2.start N [V.str a, V.str b])[1]? = some (some (.str b)) := rfl
  refine ⟨b, hb', e1, a, e0, true, truD_ok (d := .bool true) (.bl _) rfl, ?_⟩
  rw [if_pos rfl]
  refine ⟨.str a, e0, .str b, e1, ?_⟩
  refine cmpD_ok hu (o := .Eq) (a := .str a) (b := .str b) (k := PyData.eqv (.str a) (.str b)) ?_ _ _ _ _ (Rp.str (K := K) (F := H) ha).dp.1 (Rp.str (K := K) (F := H) hb').dp.1 (Rp.str (K := K) (F := H) ha).dp.2 (Rp.str (K := K) (F := H) hb').dp.2 q
  rfl
end
end Ev

namespace L2
open PySem PySem.Spec PyProof.Rows RT
/-! # tuple(reversed(t)), t a tuple -/
theorem nolen_rt : typeLookup (.type "reversed") "__len__" = pure none := by rw [typeLookup_type, builtinLookup_eq_fast]; kernel_rfl
theorem slot_rt_hint : Slot "reversed" "__length_hint__" "reversed.__length_hint__" :=
  .of (owner := "reversed") (n := "__length_hint__") (by rw [typeLookup_type, builtinLookup_eq_fast]; kernel_rfl) (by decide +kernel) (by decide +kernel) (by decide +kernel)
    (by first | exact .inl (by decide +kernel) | exact .inr (by decide +kernel)) (by rw [isSubtype_type]; kernel_rfl)
theorem entry_rt_hint : entryFor table "reversed.__length_hint__" = some Builtin.«reversed.__length_hint__» := entryFor_of_tree (by kernel_rfl)
theorem args_rt_hint (a : Value) : argsOk "reversed.__length_hint__" ⟨[a], []⟩ := by
  unfold argsOk; rw [signature?_of (id := "reversed.__length_hint__") (n := ['_', '_', 't', 'n', 'i', 'h', '_', 'h', 't', 'g', 'n', 'e', 'l', '_', '_']) (o := ['d', 'e', 's', 'r', 'e', 'v', 'e', 'r']) (by kernel_rfl) owner_rt]; kernel_rfl
theorem walks_rt {prog : Program} {w : World} {A : Around} (hh : A.handled = none) (I t : Addr) (hne : t ≠ I) (items : Array Value) (hsz : items.size ≤ sizeLine) :
    Walks prog w A I [I, t] [I] items.size (fun i v => items[items.size - 1 - i]? = some v) (fun i h => i ≤ items.size ∧ IsRt h I t ((items.size : Int) - 1 - (i : Int)) ∧ IsTup h t items) where
  sub := fun b hb => by simp at hb; simp [hb]
  frame := fun _ _ _ x hk => ⟨x.1, x.2.1.at fun o e => hk I (by simp) o e, let ⟨o, ho, r⟩ := x.2.2; ⟨o, hk t (by simp) o ho, r⟩⟩
  item := fun i s Q E hi x hQ => by
    have e : (items.size : Int) - 1 - (i : Int) = ((items.size - 1 - i : Nat) : Int) := by omega
    have hit := x.2.1
    rw [e] at hit
    have hx : items[items.size - 1 - i]? = some (items[items.size - 1 - i]'(by omega)) := Array.getElem?_eq_getElem (by omega)
    refine next_rt_item hit x.2.2 hx hsz fun h' hit' hs' => ?_
    have e2 : ((items.size - 1 - i : Nat) : Int) - 1 = (items.size : Int) - 1 - ((i + 1 : Nat) : Int) := by omega
    rw [e2] at hit'
    exact hQ _ h' _ hx ⟨hi, hit', let ⟨o, ho, r⟩ := x.2.2; ⟨o, (hs'.2 t hne).trans ho, r⟩⟩ fun b o hb eo => hs'.extBut b o (fun h => hb (by simp [h])) eo
  done := fun s Q E x hQ => by
    have e : (items.size : Int) - 1 - (items.size : Int) = -1 := by omega
    have hit := x.2.1
    rw [e] at hit
    exact next_rt_end hh hit fun h' he' => hQ h' s.toks fun b o hb eo => he' b o (fun h => hb (by simp [h])) eo
  self := fun _ _ _ _ x hQ => iter_rt x.2.1 hQ
theorem hint_rt : typeLookup (.type "reversed") "__length_hint__" = pure (some (.builtin "reversed.__length_hint__")) := by rw [typeLookup_type, builtinLookup_eq_fast]; kernel_rfl
section
variable {prog : Program} {w : World} {A : Around} {E : Value → Shared → Prop} {s : Shared}
theorem call_rt_hint {it t : Addr} {items : Array Value} {Q : Value → Shared → Prop} (hit : IsRt s.heap it t ((items.size : Int) - 1)) (ht : IsTup s.heap t items) (hsz : items.size ≤ sizeLine)
    (hQ : ∀ tk, Q (.int (items.size : Int) (s.toks + 2)) { s with toks := tk }) : wpAny (model prog w) A (call (.builtin "reversed.__length_hint__") [.ref it]) Q E s := by
  obtain ⟨o, ho, hc, hd⟩ := id hit
  rw [sizeLine_eq] at hsz
  refine wpAny_call_entry slot_rt_hint hit.typeIs entry_rt_hint ?_ (args_rt_hint _)
  unfold Builtin.«reversed.__length_hint__»
  refine wpAny_bind (wpAny_of_eq (a := Value.ref it) rfl ?_)
  try dsimp only
  refine wpAny_bind (wpAny_field ho hd (x := .ref t) rfl ?_)
  try dsimp only
  rw [if_neg (by simp)]
  refine wpAny_bind (len_tuple ht (by omega) ?_)
  refine wpAny_bind (wpAny_of_eq (a := some ((items.size : Nat) : Int)) rfl ?_)
  try dsimp only
  refine wpAny_bind (wpAny_field (s := { s with toks := s.toks + 1 + 1 }) ho hd (x := rawInt ((items.size : Int) - 1)) rfl ?_)
  show wpAny _ _ (if ((items.size : Nat) : Int) < (items.size : Int) - 1 + 1 then _ else _) _ _ _
  rw [if_neg (by omega)]
  rw [show (items.size : Int) - 1 + 1 = (items.size : Int) by omega]
  unfold retInt
  refine wpAny_bind (wpAny_mkInt ?_)
  exact wpAny_pure ⟨_, rfl, hQ _⟩

theorem fits_nat (n : Nat) (h : n ≤ 16777216) : Builtin.List.listFitsIndex (n : Int) = true := by
  unfold Builtin.List.listFitsIndex
  rw [Bool.and_eq_true]
  exact ⟨decide_eq_true (by omega), decide_eq_true (by omega)⟩
theorem long_nat (n : Nat) (h : n ≤ sizeLine) : Builtin.List.listTooLong ((n : Int).toNat) = false := by
  unfold Builtin.List.listTooLong
  exact decide_eq_false (by rw [Int.toNat_natCast]; omega)
theorem collect_rt {it t : Addr} {items : Array Value} {Q : List Value → Shared → Prop} (hh : A.handled = none) (hit : IsRt s.heap it t ((items.size : Int) - 1)) (ht : IsTup s.heap t items) (hne : t ≠ it) (hn : items.size ≤ sizeLine)
    (hQ : ∀ (h' : Heap) (tk : Nat) (acc : Array Value), (∀ b o, b ≠ it → s.heap.get? b = some o → h'.get? b = some o) → ItemsOf (fun i v => items[items.size - 1 - i]? = some v) acc items.size → Q acc.toList { s with heap := h', toks := tk }) :
    wpAny (model prog w) A (collect (.ref it)) Q E s := by
  have W := (walks_rt (prog := prog) (w := w) (A := A.in1) hh it t hne items hn).toS
  obtain ⟨oi, hoi, _⟩ := id hit
  obtain ⟨ol, hol, _⟩ := id ht
  have hSi : s.heap.objs.size ≠ it := Nat.ne_of_gt (Heap.lt_size hoi)
  have hSl : s.heap.objs.size ≠ t := Nat.ne_of_gt (Heap.lt_size hol)
  have hSf : s.heap.objs.size ∉ [it, t] := by simp only [List.mem_cons, List.not_mem_nil, or_false, not_or]; exact ⟨hSi, hSl⟩
  unfold collect
  refine wpAny_bind (wpAny_runValue (codeAny_builtin F.entry_proto_collect ?_))
  rw [Around.under_plainId F.plain_proto_collect _]
  show wpAny _ A.in1 (newList [] >>= fun l' => again (.builtin "list.__iadd__" ⟨[l', .ref it], []⟩)) _ _ s
  refine wpAny_bind (wpAny_newObj_type ?_)
  refine wpAny_pure ⟨plainId_quiet F.plain_list_iadd _, codeAny_builtin F.entry_list_iadd ?_⟩
  rw [Around.under_plainId F.plain_list_iadd _]
  have hS₁ : (s.heap.push { cls := .type "list", data := .seq ([] : List Value).toArray }).get? s.heap.objs.size = some { cls := .type "list", data := .seq ([] : List Value).toArray } := Heap.get?_push_size _ rfl
  have hit1 : IsRt (s.heap.push { cls := .type "list", data := .seq ([] : List Value).toArray }) it t ((items.size : Int) - 1) := hit.at fun o e => Heap.get?_push_of_some _ e
  have hl1 : IsTup (s.heap.push { cls := .type "list", data := .seq ([] : List Value).toArray }) t items := let ⟨o, ho, r⟩ := ht; ⟨o, Heap.get?_push_of_some _ ho, r⟩
  have hT : ({ s with heap := s.heap.push { cls := .type "list", data := .seq ([] : List Value).toArray } } : Shared).TypeIs (.ref it) "reversed" := IsRt.typeIs (s := { s with heap := s.heap.push { cls := .type "list", data := .seq ([] : List Value).toArray } }) hit1
  have h1 : Builtin.List.listSameRef (.ref s.heap.objs.size) (.ref it) = false := by simp [Builtin.List.listSameRef, hSi]
  show wpAny _ A.in1 (Builtin.List.listExtendWith (.ref s.heap.objs.size) (.ref it) (.ref s.heap.objs.size)) _ _ _
  unfold Builtin.List.listExtendWith
  refine wpAny_bind (wpAny_typeOf hT ?_)
  rw [if_neg (by rw [h1]; decide)]
  refine wpAny_bind (iter_rt (s := { s with heap := s.heap.push { cls := .type "list", data := .seq ([] : List Value).toArray } }) hit1 ?_)
  refine wpAny_bind (wpAny_holding ?_)
  unfold Builtin.List.listLengthHint
  refine wpAny_bind (wpAny_specialOf hT nolen_rt ?_)
  show wpAny _ A.in1 (specialOf (Value.ref it) (Str.ofString "__length_hint__") >>= _) _ _ _
  refine wpAny_bind (wpAny_specialOf hT hint_rt ?_)
  generalize hid : ("reversed.__length_hint__" : String) = id0
  wp_delta
  rw [show splitId id0 = some ("reversed", "__length_hint__") from by subst hid; decide +kernel]
  subst hid
  refine wpAny_bind (wpAny_isInstance (b := true) hT (by rw [isSubtype_type]; kernel_rfl) ?_)
  show wpAny _ A.in1 (rule "list.length-hint.hint" >>= fun _ => bindSpecial (.builtin "reversed.__length_hint__") (.ref it) >>= _) _ _ _
  refine wpAny_bind (wpAny_rule ?_)
  refine wpAny_bind (wpAny_of_eq (slot_rt_hint.bind _) ?_)
  try dsimp only
  refine wpAny_bind (wpAny_attempt ?_)
  refine call_rt_hint hit1 hl1 hn fun tk => ?_
  try dsimp only
  refine wpAny_bind ?_
  refine wpAny_pure ?_
  dsimp only
  rw [if_neg (by rw [fits_nat _ (by rw [sizeLine_eq] at hn; exact hn)]; decide)]
  rw [if_neg (by omega)]
  rw [if_neg (by rw [long_nat _ hn]; decide)]
  refine wpAny_pure ?_
  have e0 : ((items.size : Nat) : Int) - 1 - ((0 : Nat) : Int) = (items.size : Int) - 1 := by omega
  have fin : ∀ h2 : Heap, ∀ c0, h2.get? s.heap.objs.size = some { cls := .type "list", data := .seq ([] : List Value).toArray c0 } →
      (∀ b o, b ≠ s.heap.objs.size → (s.heap.push { cls := .type "list", data := .seq ([] : List Value).toArray }).get? b = some o → h2.get? b = some o) →
      ∀ R : Except Value Flow → Shared → Prop, (∀ s', wpAny (model prog w) A (do match (← load s.heap.objs.size).data with | .seq xs _ => pure xs.toList | _ => unsupported "internal:collect") Q E s' → R (.ok (.ret (.ref s.heap.objs.size))) s') →
      codeAny (model prog w) A (.builtin "list.extend.loop" ⟨[.ref s.heap.objs.size, .ref it, .ref s.heap.objs.size], []⟩) R { s with heap := h2, toks := tk } := by
    intro h2 c0 hS2 oth R hR
    refine codeAny_extend_loopS W hn _ hSf _ items.size 0 _ _ _ rfl (Nat.zero_le _) ⟨Nat.zero_le _, by rw [e0]; exact hit1.at fun o e => oth _ _ (fun hb => hSi hb.symm) e, (let ⟨o, ho, r⟩ := hl1; ⟨o, oth _ _ (fun hb => hSl hb.symm) ho, r⟩)⟩ hS2 (ItemsOf.nil _) fun s' acc' c' hm hS' hacc => hR _ ?_
    refine wpAny_bind (wpAny_load hS' ?_)
    refine wpAny_pure ?_
    rw [Moved.eq_with hm]
    refine hQ s'.heap s'.toks acc' (fun b o hb e => hm.heap b o (fun hmem => ?_) (oth b o (fun e' => absurd (Heap.lt_size e) (by rw [e']; exact Nat.lt_irrefl _)) (Heap.get?_push_of_some _ e))) hacc
    rcases List.mem_cons.mp hmem with e' | hmem
    · exact absurd (Heap.lt_size e) (by rw [e']; exact Nat.lt_irrefl _)
    · exact hb (List.mem_singleton.mp hmem)
  cases hb : (((items.size : Nat) : Int) != 0)
  · rw [if_neg (by decide)]
    exact wpAny_pure ⟨plainId_quiet F.plain_extend_loop _, fin _ _ hS₁ (fun b o _ e => e) _ fun s' h => h⟩
  · rw [if_pos (by decide)]
    refine wpAny_bind (wpAny_rule ?_)
    refine wpAny_bind ?_
    show wpAny _ A.in1 (updateSeq s.heap.objs.size (·.push .none) >>= fun _ => updateSeq s.heap.objs.size (·.pop)) _ _ _
    refine wpAny_bind (wpAny_updateSeq hS₁ rfl ?_)
    have hS₂ := Heap.get?_update_self (Obj.mapSeq (·.push Value.none)) hS₁ rfl
    refine wpAny_updateSeq hS₂ rfl ?_
    have hS₃ := Heap.get?_update_self (Obj.mapSeq (·.pop)) hS₂ rfl
    exact wpAny_pure ⟨plainId_quiet F.plain_extend_loop _, fin _ _ hS₃ (fun b o hb e => (Heap.get?_update_other _ _ (Ne.symm hb)).trans ((Heap.get?_update_other _ _ (Ne.symm hb)).trans e)) _ fun s' h => h⟩
theorem code_tuple_new_rt {it l : Addr} {items : Array Value} {Q₁ : Value → Shared → Prop} (hh : A.handled = none) (hit : IsRt s.heap it l ((items.size : Int) - 1)) (hl : IsTup s.heap l items) (hne : l ≠ it) (hn : items.size ≤ sizeLine)
    (h : ∀ (h' : Heap) (tk : Nat) (acc : Array Value), (∀ b o, b ≠ it → s.heap.get? b = some o → h'.get? b = some o) → ItemsOf (fun i v => items[items.size - 1 - i]? = some v) acc items.size →
      Q₁ (.ref h'.objs.size) { s with heap := h'.push { cls := .type "tuple", data := .seq acc }, toks := tk }) :
    codeAny (model prog w) A (.call (.builtin "tuple.__new__") ⟨[.type "tuple", .ref it], []⟩) (wants Q₁ E) s := by
  refine codeAny_of_tree ?_
  show wpAny _ A.in1 (do checkBuiltinCall "tuple.__new__" ⟨[.type "tuple", .ref it], []⟩; again (.builtin "tuple.__new__" ⟨[.type "tuple", .ref it], []⟩)) _ _ s
  refine wpAny_bind (wpAny_of_eq (F.newCall_tuple_1 _) (wpAny_pure ⟨plainId_quiet F.plain_tuple_new _, codeAny_builtin F.entry_tuple_new ?_⟩))
  rw [Around.under_plainId F.plain_tuple_new _]
  have hsub := sub_tuple_self
  have hinit := init_tuple_lookup
  have hmh := madeHere_tuple
  have hTI : s.TypeIs (.ref it) "reversed" := hit.typeIs
  have hh1 : A.in1.handled = none := hh
  wp_walk using wpAny_typeOf hTI, collect_rt (A := A.in1) hh1 hit hl hne hn
  intro h' tk acc hk hacc
  show wpAny _ _ (Builtin.Tuple.tupleExact acc.toList.toArray >>= fun v => ret v) _ _ _
  unfold Builtin.Tuple.tupleExact
  refine wpAny_bind (wpAny_newObj_type ?_ (by show acc.toList.toArray.size ≤ sizeLine; simp only [Array.toArray_toList]; rw [hacc.1]; exact hn))
  refine wpAny_pure ?_
  have e : acc.toList.toArray = acc := by simp
  rw [e]
  exact h h' tk acc hk hacc
theorem call_tuple_rt {it l : Addr} {items : Array Value} {Q : Value → Shared → Prop} (hh : A.handled = none) (hit : IsRt s.heap it l ((items.size : Int) - 1)) (hl : IsTup s.heap l items) (hne : l ≠ it) (hn : items.size ≤ sizeLine)
    (hQ : ∀ (h' : Heap) (tk : Nat) (acc : Array Value), (∀ b o, b ≠ it → s.heap.get? b = some o → h'.get? b = some o) → ItemsOf (fun i v => items[items.size - 1 - i]? = some v) acc items.size →
      Q (.ref h'.objs.size) { s with heap := h'.push { cls := .type "tuple", data := .seq acc }, toks := tk }) :
    wpAny (model prog w) A (call (.type "tuple") [.ref it]) Q E s := by
  refine callType_codes (Q₁ := fun obj s₁ => s₁.TypeIs obj "tuple" ∧ Q obj s₁) F.called_tuple (F.typeCall_tuple_1 _) F.entry_object_init
    (code_tuple_new_rt (A := A.in1) hh hit hl hne hn fun h' tk acc hk hacc => ⟨⟨_, Heap.get?_push_size _ rfl, rfl⟩, hQ h' tk acc hk hacc⟩) fun obj s₁ h₁ => ?_
  exact ⟨h₁.1, F.args_object_init_2 obj _, object_init_meets F.called_tuple.init.lookup F.called_tuple.made (by decide) prog w A.in1 _ s₁ ⟨h₁.1, rfl, h₁.2⟩⟩
end

section
variable {X : Cx}
/-- tuple(reversed(x)), x a tuple: a new tuple -/
def tTupRevT (K : PySem.W.Frag) (te : TE) : TE := fun σ H Q => te σ H fun v H1 => ∃ (a : Addr) (xs : List V), v = .ref a ∧ SqT K H1 a xs ∧ ∀ q, H1 q = none → Q (.ref q) (upd H1 q (.tup xs.reverse))
theorem pe_tupRevT {e : Expr} {te : TE} {p p2 pos pos2 : Pos} (hc : X.calm = true) (hg : Gl X "tuple") (hm : X.mg "tuple" = none) (hg2 : Gl X "reversed") (hm2 : X.mg "reversed" = none) (he : PE X e te)
    (hs : starEach [e] X.env = (false, eval e X.env) :: starEach [] X.env := by rfl)
    (hs2 : starEach [.Call (.Name "reversed" p2) [e] [] pos2] X.env = (false, eval (.Call (.Name "reversed" p2) [e] [] pos2) X.env) :: starEach [] X.env := by rfl) :
    PE X (.Call (.Name "tuple" p) [.Call (.Name "reversed" p2) [e] [] pos2] [] pos) (tTupRevT X.K te) := by
  refine ⟨fun pins s σ H Q I h => ?_⟩
  refine Call_ (ld_blt I hg hm boot_tuple (PyProof.Rows.callWith_type1 (args_cons (Call_ (ld_blt I hg2 hm2 PyProof.Rows.boot_reversed (PyProof.Rows.callWith_type1 (args_cons (thn (he.run pins s σ H _ I h) fun u s1 ⟨v, H1, I1, r1, q1⟩ => args_nil ?_) hs) hs rfl))) hs2) hs2 rfl))
  obtain ⟨a, xs, ev, hq, q⟩ := q1
  subst ev
  obtain rfl : u = Value.ref a := r1
  obtain ⟨its, rv, p', hz⟩ := I1.tuple hq
  have hl := rv.length
  have hn63 := line63
  have hn : its.toArray.size ≤ sizeLine := by rw [List.size_toArray, ← rv.length]; exact hz
  refine call_reversed_tup p' (fun A E Q k => len_tuple p' (by simp only [List.size_toArray] <;> omega) k) (args_nil ?_)
  have k0 : ∀ b o, s1.heap.get? b = some o → (s1.heap.push (rtObj a ((its.toArray.size : Int) - 1))).get? b = some o := fun b o e => Heap.get?_push_of_some _ e
  have I2 : Inv X pins σ H1 { s1 with heap := s1.heap.push (rtObj a ((its.toArray.size : Int) - 1)), toks := s1.toks + 1 + 1 } := I1.kept (t' := s1.toks + 1 + 1) k0
  obtain ⟨f0, f1, f2, f3, f4, f5⟩ := I1.fpOk (H' := H1) (b := s1.heap.objs.size) (Nat.le_refl _) (I1.hok.fresh (Nat.le_refl _))
  obtain ⟨ol, hol, hcl⟩ := id p'
  have hne : a ≠ s1.heap.objs.size := Nat.ne_of_lt (Heap.lt_size hol)
  refine call_tuple_rt (s := { s1 with heap := s1.heap.push (rtObj a ((its.toArray.size : Int) - 1)), toks := s1.toks + 1 + 1 }) (I1.ok.hd hc) ⟨_, Heap.get?_push_size _ rfl, rfl, rfl⟩ ⟨ol, Heap.get?_push_of_some _ hol, hcl⟩ hne hn fun h' tk acc hk hi => ?_
  have I3 : Inv X pins σ H1 { s1 with heap := h', toks := tk } := I2.turned (t' := tk) (fun b o hb e => hk b o hb e) f0 f1 f3 f4 f5
  refine ⟨.ref h'.objs.size, upd H1 h'.objs.size (.tup xs.reverse), I3.laid (t' := tk) (fun c o e => Heap.get?_push_of_some _ e) (Nat.le_refl _) (show ObjOk X.prog X.w _ _ _ (.tup xs.reverse) from ⟨by rw [List.length_reverse]; exact hz, acc.toList, vals_rev rv hi, ?_⟩), rfl, q _ (I3.hok.fresh (Nat.le_refl _))⟩
  rw [Array.toArray_toList]
  exact IsTup.new _ _
end
end L2

namespace Ev
open PySem PySem.Spec PyProof.Rows L2
/-! # list(range(..)), tuple(range(..)), tuple(reversed(a tuple)) -/
def convV (tup : Bool) (lo : Int) (n : Nat) : Option Va := if n ≤ 16777216 then some (match tup with
  | true => .dat (.tuple (rangeL lo n))
  | false => .own (rangeL lo n)) else none
def dConv1 (tup : Bool) (f : De Va) : De Va := fun s => (dFrz f s).bind fun d s => match d with
  | .int j => if inR j = true then ofOpt (convV tup 0 j.toNat) s else .bad
  | _ => .bad
def dConv2 (tup : Bool) (f h : De Va) : De Va := fun s => (dFrz f s).bind fun d s => (dFrz h s).bind fun e s => match d, e with
  | .int i, .int j => if (inR i && inR j) = true then ofOpt (convV tup i (j - i).toNat) s else .bad
  | _, _ => .bad
def dRevT (f : De Va) : De Va := fun s => (dFrz f s).bind fun d s => match d with
  | .tuple xs => .ok (.dat (.tuple xs.reverse)) s
  | _ => .bad
def convO : Bool → List V → HO
  | true, xs => .tup xs
  | false, xs => .lst xs
def convN : Bool → Str
  | true => "tuple"
  | false => "list"
section
variable {X : Cx} {mg : Str → Option Value} {W : WX} {p pos p2 q2 : Pos} {e a b : Expr} {f h : De Va} {x y : Str}
theorem rp_rg {K : PySem.W.Frag} {F : Hp} (a b : Int) : RpAll K F (rgV a b) (rangeL a (b - a).toNat) := by
  have h := rp_intsT (K := K) (F := F) ((List.range (b - a).toNat).map fun (k : Nat) => a + (k : Int))
  rw [List.map_map, List.map_map] at h
  exact h
theorem conv_fin {g : Gh} {s : Stt} {σ : L2.St} {F H : Hp} {Q : VK} {tup : Bool} {lo hi : Int} {s1 : Stt} (w : Wf g s1 σ F H)
    (p : Post g W σ F (ofOpt (convV tup lo (hi - lo).toNat) s1) fun v s' F' H' => ∀ u, VRep g s' σ F' H' u v → Q u H') :
    (hi - lo).toNat ≤ 2 ^ 24 ∧ ∀ q, H q = none → Q (.ref q) (upd H q (convO tup (rgV lo hi))) := by
  obtain ⟨v, e, q⟩ := ofOpt_post p
  unfold convV at e
  split at e
  · rename_i hz
    have hz' : (rgV lo hi).length ≤ sizeLine := by rw [rgV_length, sizeLine_eq]; exact hz
    refine ⟨hz, fun b hb => ?_⟩
    cases tup with
    | true =>
      cases e
      have hF := w.none_of hb
      exact q _ _ (w.alloc hb _) (same_upd hF) _ (.tup (SqT.of upd_same) hz' ((rp_rg lo hi).mono (same_upd hF)))
    | false =>
      cases e
      obtain ⟨w2, r3⟩ := w.own_new hb hz' (rp_rg lo hi)
      exact q _ _ w2 (Same.refl _) _ r3
  · cases e
theorem pe_conv {tup : Bool} {te : L2.St → Hp → (Int → Int → Hp → Prop) → Prop} (hc : X.calm = true) (hx : x = convN tup) (hg : Gl X x) (hm : X.mg x = none) (he : PRg X e te)
    (na : starEach [e] X.env = (false, eval e X.env) :: starEach [] X.env) :
    PE X (.Call (.Name x p) [e] [] pos) fun σ H Q => te σ H fun a b H1 => RgOk a b ∧ ∀ q, H1 q = none → Q (.ref q) (upd H1 q (convO tup (rgV a b))) := by
  subst hx
  cases tup with
  | true => exact pe_tupRg hc hg hm he na
  | false => exact pe_listRg hc hg hm he na
theorem pe_dConv1 {tup : Bool} (hc : X.calm = true) (hx : x = convN tup) (hg : Gl X x) (hm : X.mg x = none) (hy : y = "range") (hg2 : Gl X y) (hm2 : X.mg y = none) (ha : PE X a (tE X.K mg W f))
    (hs : starEach [a] X.env = (false, eval a X.env) :: starEach [] X.env) (hs2 : starEach [.Call (.Name y p2) [a] [] q2] X.env = (false, eval (.Call (.Name y p2) [a] [] q2) X.env) :: starEach [] X.env) :
    PE X (.Call (.Name x p) [.Call (.Name y p2) [a] [] q2] [] pos) (tE X.K mg W (dConv1 tup f)) := by
  subst hy
  refine PE.by fun pins s₀ σ H Q I q => ⟨_, pe_conv (tup := tup) hc hx hg hm (prg_1 hg2 hm2 ha hs) hs2, ?_⟩
  obtain ⟨g, s, F, hK, hmg, w, p⟩ := q
  unfold dConv1 at p
  refine tE_frz hK hmg w p fun d s1 F1 H1 u w1 m1 r1 p1 => ?_
  cases d with
  | int j =>
    cases r1
    have p1 : Post g W σ F1 (if inR j = true then ofOpt (convV tup 0 j.toNat) s1 else .bad) _ := p1
    split at p1
    · rename_i hj
      have hj := of_decide_eq_true hj
      have e0 : (j - 0).toNat = j.toNat := by rw [Int.sub_zero]
      rw [← e0] at p1
      obtain ⟨h1, h2⟩ := conv_fin (s := s1) w1 p1
      exact ⟨j, rfl, ⟨by decide, by decide, hj.1, hj.2, h1⟩, h2⟩
    · exact p1.elim
  | _ => exact p1.elim
theorem pe_dConv2 {tup : Bool} (hc : X.calm = true) (hx : x = convN tup) (hg : Gl X x) (hm : X.mg x = none) (hy : y = "range") (hg2 : Gl X y) (hm2 : X.mg y = none) (ha : PE X a (tE X.K mg W f)) (hb : PE X b (tE X.K mg W h))
    (hs : starEach [a, b] X.env = (false, eval a X.env) :: starEach [b] X.env) (hs1 : starEach [b] X.env = (false, eval b X.env) :: starEach [] X.env) (hs2 : starEach [.Call (.Name y p2) [a, b] [] q2] X.env = (false, eval (.Call (.Name y p2) [a, b] [] q2) X.env) :: starEach [] X.env) :
    PE X (.Call (.Name x p) [.Call (.Name y p2) [a, b] [] q2] [] pos) (tE X.K mg W (dConv2 tup f h)) := by
  subst hy
  refine PE.by fun pins s₀ σ H Q I q => ⟨_, pe_conv (tup := tup) hc hx hg hm (prg_2 hg2 hm2 ha hb hs hs1 (by rw [hs1]; rfl)) hs2, ?_⟩
  obtain ⟨g, s, F, hK, hmg, w, p⟩ := q
  unfold dConv2 at p
  refine tE_frz hK hmg w p fun d s1 F1 H1 u w1 m1 r1 p1 => ?_
  refine tE_frz hK hmg w1 p1 fun d2 s2 F2 H2 u2 w2 m2 r2 p2 => ?_
  cases d with
  | int i =>
    cases d2 with
    | int j =>
      cases r1; cases r2
      have p2 : Post g W σ F2 (if (inR i && inR j) = true then ofOpt (convV tup i (j - i).toNat) s2 else .bad) _ := p2
      split at p2
      · rename_i hj
        obtain ⟨h1, h2⟩ := Bool.and_eq_true_iff.mp hj
        have h1 := of_decide_eq_true h1
        have h2 := of_decide_eq_true h2
        obtain ⟨h3, h4⟩ := conv_fin (s := s2) w2 p2
        exact ⟨i, j, rfl, rfl, ⟨h1.1, h1.2, h2.1, h2.2, h3⟩, h4⟩
      · exact p2.elim
    | _ => exact p2.elim
  | _ => exact p2.elim
theorem pe_dRevT (hc : X.calm = true) (hx : x = "tuple") (hg : Gl X x) (hm : X.mg x = none) (hy : y = "reversed") (hg2 : Gl X y) (hm2 : X.mg y = none) (ha : PE X a (tE X.K mg W f))
    (hs : starEach [a] X.env = (false, eval a X.env) :: starEach [] X.env) (hs2 : starEach [.Call (.Name y p2) [a] [] q2] X.env = (false, eval (.Call (.Name y p2) [a] [] q2) X.env) :: starEach [] X.env) :
    PE X (.Call (.Name x p) [.Call (.Name y p2) [a] [] q2] [] pos) (tE X.K mg W (dRevT f)) := by
  subst hy; subst hx
  refine PE.by fun pins s₀ σ H Q I q => ⟨_, pe_tupRevT hc hg hm hg2 hm2 ha hs hs2, ?_⟩
  obtain ⟨g, s, F, hK, hmg, w, p⟩ := q
  unfold dRevT at p
  refine tE_frz hK hmg w p fun d s1 F1 H1 u w1 m1 r1 p1 => ?_
  cases d with
  | tuple xs =>
    cases r1 with
    | tup ha hz ra =>
      rename_i q0 vs
      refine ⟨_, vs, rfl, ?_, fun b hb => ?_⟩
      · rw [← hK]; exact seqT w1.sub ha
      · have hF := w1.none_of hb
        exact p1 _ _ (w1.alloc hb _) (same_upd hF) _ (.tup (SqT.of upd_same) (by rw [List.length_reverse]; exact hz) ((ra.reverse).mono (same_upd hF)))
  | _ => exact p1.elim
end
end Ev

namespace Ev
open PySem PySem.Spec PyProof.Rows L2
/-! # max and min of three ints, list.insert, a text's join -/
def pick3 (b : B2) (i j : Int) : Int := match b with
  | .max => if j > i then j else i
  | .min => if j < i then j else i
def b3D (b : B2) (d e g : PyData) : Option PyData := match d, e, g with
  | .int i, .int j, .int k => some (.int (pick3 b (pick3 b i j) k))
  | _, _, _ => none
def dB3 (b : B2) (f h k : De Va) : De Va := fun s => (dFrz f s).bind fun d s => (dFrz h s).bind fun e s => (dFrz k s).bind fun g s => ofOpt ((b3D b d e g).map Va.dat) s
def dIns (i : Nat) (f h : De Va) : De Va := fun s => match ownAt s i with
  | none => .bad
  | some _ => (dFrz f s).bind fun d s => (dFrz h s).bind fun e s => match d, ownAt s i with
    | .int k, some xs => if (decide (0 ≤ k ∧ k < 1073741824) && decide (xs.length < 16777216)) = true then .ok (.dat .none) (setOwn s i (xs.take k.toNat ++ [e] ++ xs.drop k.toNat)) else .bad
    | _, _ => .bad
def dJoin (z : Str) (f : De Va) : De Va := fun s => (dFrz f s).bind fun d s => match d with
  | .list ds => (match strsOf ds with
    | some ys => if ((ys.map (·.length)).sum + ys.length * z.length ≤ 16777216) ∧ okS (Txt.join z ys) = true then .ok (.dat (.str (Txt.join z ys))) s else .bad
    | none => .bad)
  | _ => .bad
section
variable {X : Cx} {mg : Str → Option Value} {W : WX} {x : Str} {p pos apos cpos : Pos} {e1 e2 e3 e : Expr} {f h k : De Va} {i : Nat} {b : B2}
theorem nu3 (b : B2) (i j l : Int) : (match b with | .max => nuMax3 (.int i) (.int j) (.int l) | .min => nuMin3 (.int i) (.int j) (.int l)) = some (.int (pick3 b (pick3 b i j) l)) := by
  have m2 : ∀ i j : Int, nuMax2 (.int i) (.int j) = some (.int (pick3 .max i j)) := fun i j => by
    show some (if decide (i < j) = true then V.int j else V.int i) = some (.int (if j > i then j else i))
    by_cases h : i < j
    · rw [decide_eq_true h, if_pos rfl, if_pos h]
    · rw [decide_eq_false h, if_neg Bool.false_ne_true, if_neg h]
  have n2 : ∀ i j : Int, nuMin2 (.int i) (.int j) = some (.int (pick3 .min i j)) := fun i j => by
    show some (if decide (j < i) = true then V.int j else V.int i) = some (.int (if j < i then j else i))
    by_cases h : j < i
    · rw [decide_eq_true h, if_pos rfl, if_pos h]
    · rw [decide_eq_false h, if_neg Bool.false_ne_true, if_neg h]
  cases b with
  | max =>
    show (nuMax2 (.int i) (.int j)).bind (fun m => nuMax2 m (.int l)) = _
    rw [m2]
    exact m2 _ _
  | min =>
    show (nuMin2 (.int i) (.int j)).bind (fun m => nuMin2 m (.int l)) = _
    rw [n2]
    exact n2 _ _
theorem pe_dB3 (hc : X.calm = true) (hx : x = b.name) (hg : Gl X x) (hm : X.mg x = none) (h1 : PE X e1 (tE X.K mg W f)) (h2 : PE X e2 (tE X.K mg W h)) (h3 : PE X e3 (tE X.K mg W k))
    (hs : starEach [e1, e2, e3] X.env = (false, eval e1 X.env) :: starEach [e2, e3] X.env) (hs2 : starEach [e2, e3] X.env = (false, eval e2 X.env) :: starEach [e3] X.env) (hs3 : starEach [e3] X.env = (false, eval e3 X.env) :: starEach [] X.env) :
    PE X (.Call (.Name x p) [e1, e2, e3] [] pos) (tE X.K mg W (dB3 b f h k)) := by
  subst hx
  have hpl : (backTo pos (starEach [e2, e3] X.env)).any (·.1) = false := by rw [hs2, hs3]; rfl
  have ha := pa_cons h1 (pa_cons h2 (pa_cons h3 pa_nil hs3) hs2) hs
  have core : ∀ {r : List V → Hp → VK → Prop}, (∀ i j l H Q, Q (.int (pick3 b (pick3 b i j) l)) H → r [.int i, .int j, .int l] H Q) → ∀ {σ H Q}, tE X.K mg W (dB3 b f h k) σ H Q → tCB r (tCons (tE X.K mg W f) (tCons (tE X.K mg W h) (tCons (tE X.K mg W k) tNil))) σ H Q := fun {r} hr {σ H Q} ⟨g, s, F, hK, hmg, w, p⟩ => by
    refine tE_frz hK hmg w p fun d s1 F1 H1 u w1 m1 r1 p1 => ?_
    refine tE_frz hK hmg w1 p1 fun d2 s2 F2 H2 u2 w2 m2 r2 p2 => ?_
    refine tE_frz hK hmg w2 p2 fun d3 s3 F3 H3 u3 w3 m3 r3 p3 => ?_
    obtain ⟨va, e3, q⟩ := ofOpt_post p3
    obtain ⟨d4, e4, rfl⟩ := Option.map_eq_some_iff.mp e3
    unfold b3D at e4
    split at e4
    · cases e4
      cases r1; cases r2; cases r3
      exact hr _ _ _ H3 Q (q F3 H3 w3 (Same.refl _) _ (.int _))
    · cases e4
  cases b with
  | max => exact PE.by fun _ _ σ H Q _ q => ⟨_, pe_callB (call_max3Nu hc) hg hm (by decide +kernel) ha (by decide +kernel) (by decide +kernel) hs hpl, core (fun i j l H Q q => ⟨_, _, _, _, rfl, nu3 .max i j l, q⟩) q⟩
  | min => exact PE.by fun _ _ σ H Q _ q => ⟨_, pe_callB (call_min3Nu hc) hg hm (by decide +kernel) ha (by decide +kernel) (by decide +kernel) hs hpl, core (fun i j l H Q q => ⟨_, _, _, _, rfl, nu3 .min i j l, q⟩) q⟩
theorem pe_dIns (hN : X.N[i]? = some x) (hv : Vis X.env.scope x) (hd : (x == ("__debug__" : Str)) = false) (hcd : (x == ("__classdict__" : Str)) = false) (h1 : PE X e1 (tE X.K mg W f)) (h2 : PE X e2 (tE X.K mg W h))
    (hs : starEach [e1, e2] X.env = (false, eval e1 X.env) :: starEach [e2] X.env) (hs2 : starEach [e2] X.env = (false, eval e2 X.env) :: starEach [] X.env) (hl : (apos.endLine == cpos.line) = true) :
    PE X (.Call (.Attribute (.Name x p) "insert" apos) [e1, e2] [] cpos) (tE X.K mg W (dIns i f h)) := by
  have hpl : (backTo cpos (starEach [e2] X.env)).any (·.1) = false := by rw [hs2]; rfl
  have few : ((backTo cpos (starEach [e1, e2] X.env)).all (fun x => !x.1) && (backToKw cpos (keywordEach [] X.env)).all (fun x => x.1.isSome)
      && decide ([e1, e2].length + ([] : List Keyword).length + (if ([] : List Keyword).isEmpty then 0 else 1) < 30)) = true := by
    rw [hs, hs2]; rfl
  refine PE.by fun pins s₀ σ H Q I q => ⟨_, pe_bm PySem.F.plainAttrs_list PySem.F.slot_list_insert PySem.F.type_list_insert mt_insert (pe_var hN hv hd hcd) (pa_cons h1 (pa_cons h2 pa_nil hs2) hs) rfl few hl hs hpl, ?_⟩
  obtain ⟨g, s, F, hK, hm, w, p⟩ := q
  unfold dIns at p
  split at p
  · exact p.elim
  · rename_i xs0 e0
    obtain ⟨a, vs0, g1, g2, _⟩ := own_get w e0
    refine ⟨.ref a, g1, .inl ⟨rfl, vs0, .inl (.inl g2)⟩, ?_⟩
    refine tE_frz hK hm w p fun d s1 F1 H1 u w1 m1 r1 p1 => ?_
    refine tE_frz hK hm w1 p1 fun d2 s2 F2 H2 u2 w2 m2 r2 p2 => ?_
    split at p2
    · rename_i kk xs g3
      cases r1
      split at p2
      · rename_i hz
        obtain ⟨hz1, hz2⟩ := Bool.and_eq_true_iff.mp hz
        have hz1 := of_decide_eq_true hz1
        have hz2 := of_decide_eq_true hz2
        obtain ⟨a', vs, g4, g5, z5, r5⟩ := own_get w2 g3
        rw [g1] at g4; cases g4
        have z' : vs.length < sizeLine := by rw [r5.length, sizeLine_eq]; exact hz2
        refine ⟨a, vs, kk, u2, rfl, rfl, g5, z', hz1.1, by omega, ?_⟩
        have hlen : (vs.take kk.toNat ++ [u2] ++ vs.drop kk.toNat).length ≤ sizeLine := by
          rw [List.length_append, List.length_append, List.length_take, List.length_drop, List.length_singleton]; omega
        have w3 := w2.write (ownAt_eq g3) g1 (vs := vs.take kk.toNat ++ [u2] ++ vs.drop kk.toNat) (ys := xs.take kk.toNat ++ [d2] ++ xs.drop kk.toNat) hlen (((r5.take kk.toNat).append (.cons r2 .nil)).append (r5.drop kk.toNat))
        exact p2 F2 _ w3 (Same.refl _) _ .non
      · exact p2.elim
    · exact p2.elim
theorem pe_dJoin {z : Str} {j : Nat} (hz : okS z = true) (h1 : PE X e (tE X.K mg W f)) (hs : starEach [e] X.env = (false, eval e X.env) :: starEach [] X.env) (hl : (apos.endLine == cpos.line) = true) :
    PE X (.Call (.Attribute (.Constant (.str z) j p) "join" apos) [e] [] cpos) (tE X.K mg W (dJoin z f)) := by
  refine PE.by fun pins s₀ σ H Q I q => ⟨_, pe_bm PySem.F.plainAttrs_str PySem.F.slot_str_join PySem.F.type_str_join mt_join pe_str (pa_cons h1 pa_nil hs) rfl (few_one hs) hl hs rfl, ?_⟩
  obtain ⟨g, s, F, hK, hm, w, p⟩ := q
  unfold dJoin at p
  refine ⟨rfl, ?_⟩
  refine tE_frz hK hm w p fun d s1 F1 H1 u w1 m1 r1 p1 => ?_
  split at p1
  · rename_i ds
    split at p1
    · rename_i ys g1
      split at p1
      · rename_i hc
        cases r1 with
        | lst ha zl ra =>
          obtain ⟨rfl, _⟩ := strsOf_ok ra g1
          exact ⟨z, _, ys, rfl, rfl, .inl (.inl (.inl (w1.sub _ _ ha))), hc.1, p1 F1 H1 w1 (Same.refl _) _ (.str hc.2)⟩
      · exact p1.elim
    · exact p1.elim
  · exact p1.elim
end
end Ev

namespace Ev
open PySem PySem.Spec PyProof.Rows L2

/-! ## the small language: what the evaluator reads -/
inductive Tg where
  | n (i : Nat)
  | t (ts : List Tg)
mutual
inductive Ex where
  | var (i : Nat) | peek (i : Nat) | mv (i : Nat) | c (d : PyData)
  | bin (o : Operator) (a b : Ex) | neg (a : Ex)
  | cmp (o : CmpOp) (a b : Ex) | chain (o o' : CmpOp) (a b c : Ex)
  | and (a b : Ex) | or (a b : Ex) | not (a : Ex) | ite (c a b : Ex)
  | tup (es : List Ex) | lst (es : List Ex)
  | idx (a b : Ex) | idxV (i : Nat) (b : Ex)
  | cut (a : Ex) (lo hi : Option Ex) | cutV (i : Nat) (lo hi : Option Ex)
  | call (f : Nat) (es : List Ex)
  | b1 (b : B1) (a : Ex) | b2 (b : B2) (a a' : Ex)
  | isi (a : Ex) (t : Ty)
  | app (i : Nat) (a : Ex) | ext (i : Nat) (a : Ex) | pop (i : Nat) | popAt (i : Nat) (a : Ex)
  | sw (i : Nat) (a b : Ex) | index (i : Nat) (a : Ex) | lenSet (a : Ex) | sortSet (a : Ex) | sorted (a : Ex) | maxD (a b : Ex)
  | b3 (b : B2) (a a' a'' : Ex) | ins (i : Nat) (a b : Ex) | join (z : Str) (a : Ex)
  | conv1 (tup : Bool) (a : Ex) | conv2 (tup : Bool) (a b : Ex) | revT (a : Ex)
  | lc (it : Itx) (tg : Tg) (ft : Option Ex) (vs : List Nat) (elt : Ex)
  | lc2 (it : Itx) (tg : Tg) (ft : Option Ex) (vs : List Nat) (it1 : Itx) (tg1 : Tg) (ft1 : Option Ex) (vs1 : List Nat) (elt : Ex)
inductive Itx where
  | of (e : Ex) | rng1 (a : Ex) | rng2 (a b : Ex) | zip (a b : Ex)
end
inductive Sx where
  | expr (e : Ex) | set (i : Nat) (e : Ex) | asg (tg : Tg) (e : Ex) | sto (i : Nat) (ei e : Ex) | aug (i : Nat) (o : Operator) (e : Ex)
  | ifs (c : Ex) (a b : List Sx) | whl (c : Ex) (b : List Sx) | fr (it : Itx) (tg : Tg) (b : List Sx)
  | ret (e : Ex) | retN | brk | cont | pass | fail
  | raise (x : Str) (e : Ex) | tri (p : List (Str × List Str)) (b : List Sx) (c : Str) (i : Nat) (h : List Hs)
mutual
def Tg.put : Tg → PyData → Stt → Option Stt
  | Tg.n i => gPut i
  | Tg.t ts => gUn ts.length (Tg.puts ts)
def Tg.puts : List Tg → List PyData → Stt → Option Stt
  | [] => gNo
  | h :: ts => gCo (Tg.put h) (Tg.puts ts)
end
mutual
def Tg.at : Tg → List Nat
  | Tg.n i => [i]
  | Tg.t ts => Tg.ats ts
def Tg.ats : List Tg → List Nat
  | [] => []
  | h :: ts => Tg.at h ++ Tg.ats ts
end
structure Dn where
  v : De Va
  t : De Bool
def Dn.ofV (f : De Va) : Dn := ⟨f, dTru f⟩
def Dn.ofB (f : De Bool) : Dn := ⟨toV f, f⟩
def dIteB (c f h : De Bool) : De Bool := fun s => (c s).bind fun b s => if b = true then f s else h s
mutual
def den (C : Nat → Fn) : Ex → Dn
  | .var i => .ofV (dVar i)
  | .peek i => .ofV (dPeek i)
  | .mv i => .ofV (dMv i)
  | .c d => .ofV (dC d)
  | .bin o a b => .ofV (dBin o (den C a).v (den C b).v)
  | .neg a => .ofV (dNeg (den C a).v)
  | .cmp o a b => .ofB (dCmpB o (den C a).v (den C b).v)
  | .chain o o' a b c => .ofB (dChainB o o' (den C a).v (den C b).v (den C c).v)
  | .and a b => ⟨dAnd (den C a).v (den C b).v, dAndB (den C a).t (den C b).t⟩
  | .or a b => ⟨dOr (den C a).v (den C b).v, dOrB (den C a).t (den C b).t⟩
  | .not a => ⟨dNot (den C a).v, dNotB (den C a).t⟩
  | .ite c a b => ⟨dIte (den C c).t (den C a).v (den C b).v, dIteB (den C c).t (den C a).t (den C b).t⟩
  | .tup es => .ofV (dTup (denL C es))
  | .lst es => .ofV (dLst (denL C es))
  | .idx a b => .ofV (dIdx (den C a).v (den C b).v)
  | .idxV i b => .ofV (dIdxV i (den C b).v)
  | .cut a lo hi => .ofV (dCut (den C a).v (denO C lo) (denO C hi))
  | .cutV i lo hi => .ofV (dCutV i (denO C lo) (denO C hi))
  | .call f es => .ofV (dCall (C f) (denL C es))
  | .b1 b a => .ofV (dB1 b (den C a).v)
  | .b2 b a a' => .ofV (dB2 b (den C a).v (den C a').v)
  | .isi a t => .ofV (dIsi (den C a).v t)
  | .app i a => .ofV (dApp i (den C a).v)
  | .ext i a => .ofV (dExt i (den C a).v)
  | .pop i => .ofV (dPop i)
  | .popAt i a => .ofV (dPopAt i (den C a).v)
  | .sw i a b => .ofV (dSw i (den C a).v (den C b).v)
  | .index i a => .ofV (dIndex i (den C a).v)
  | .lenSet a => .ofV (dLenSet (den C a).v)
  | .sortSet a => .ofV (dSortSet (den C a).v)
  | .sorted a => .ofV (dSorted (den C a).v)
  | .maxD a b => .ofV (dMaxD (den C a).v (den C b).v)
  | .b3 b a a' a'' => .ofV (dB3 b (den C a).v (den C a').v (den C a'').v)
  | .ins i a b => .ofV (dIns i (den C a).v (den C b).v)
  | .join z a => .ofV (dJoin z (den C a).v)
  | .conv1 t a => .ofV (dConv1 t (den C a).v)
  | .conv2 t a b => .ofV (dConv2 t (den C a).v (den C b).v)
  | .revT a => .ofV (dRevT (den C a).v)
  | .lc it tg ft vs elt => .ofV (dLc (denI C it) tg.put (denT C ft) vs (accE (den C elt).v))
  | .lc2 it tg ft vs it1 tg1 ft1 vs1 elt => .ofV (dLc (denI C it) tg.put (denT C ft) vs (accL (denI C it1) tg1.put (denT C ft1) vs1 (accE (den C elt).v)))
def denL (C : Nat → Fn) : List Ex → De (List Va)
  | [] => dNil
  | e :: es => dCons (den C e).v (denL C es)
def denO (C : Nat → Fn) : Option Ex → dO
  | none => dNo
  | some e => dSome (den C e).v
def denI (C : Nat → Fn) : Itx → De (List PyData)
  | .of e => dItems (den C e).v
  | .rng1 a => dRange1 (den C a).v
  | .rng2 a b => dRange2 (den C a).v (den C b).v
  | .zip a b => dZip (den C a).v (den C b).v
def denT (C : Nat → Fn) : Option Ex → De Bool
  | none => dYes
  | some e => (den C e).t
end
/-! an except suite -/
mutual
def denHs (par : List (Str × List Str)) (x : Exn) : Hs → Ds
  | .ret e => fun s => match hden par x e s with
    | some v => .rt (.dat v) s
    | none => .bad
  | .retL es => fun s => match hdens par x es s with
    | some ds => if ds.length ≤ 16777216 then .rt (.own ds) s else .bad
    | none => .bad
  | .set i e => fun s => match hden par x e s with
    | some v => .nx ⟨s.ρ.set i (some (.dat v)), s.S⟩
    | none => .bad
  | .setL i es => fun s => match hdens par x es s with
    | some ds => if ds.length ≤ 16777216 then .nx ⟨s.ρ.set i (some (.own ds)), s.S⟩ else .bad
    | none => .bad
  | .ifs c a b => fun s => match (hden par x c s).bind truD with
    | some k => if k = true then denHb par x a s else denHb par x b s
    | none => .bad
def denHb (par : List (Str × List Str)) (x : Exn) : List Hs → Ds
  | [] => dSkip
  | s :: r => dSeq (denHs par x s) (denHb par x r)
end
/-- behind the suite its name goes -/
def SR.gone (i : Nat) : SR → SR
  | .nx s => .nx ⟨s.ρ.set i none, s.S⟩
  | .rt v s => .rt v s
  | _ => .bad
def dTri (par : List (Str × List Str)) (f : Ds) (c : Str) (i : Nat) (h : List Hs) : Ds := fun s => match f s with
  | .exc x s1 => (match isSub par x.cls c with
    | some true => if i < s1.ρ.length then (denHb par x h ⟨s1.ρ.set i none, s1.S⟩).gone i else .bad
    | some false => .exc x s1
    | none => .bad)
  | r => r
/-- how many turns a while is followed at most -/
def turns : Nat := 1000000
mutual
def denS (C : Nat → Fn) : Sx → Ds
  | .expr e => dDrop (den C e).v
  | .set i e => dSet i (den C e).v
  | .asg tg e => dAsg tg.put (den C e).v
  | .sto i ei e => dSto i (den C ei).v (den C e).v
  | .aug i o e => dAug i o (den C e).v
  | .ifs c a b => dIf (den C c).t (denB C a) (denB C b)
  | .whl c b => whileD (den C c).t (denB C b) turns
  | .fr it tg b => dFor (denI C it) tg.put (denB C b)
  | .ret e => dRet (den C e).v
  | .retN => dRetN
  | .brk => dBrk
  | .cont => dCont
  | .pass => dSkip
  | .fail => fun _ => .bad
  | .raise x e => dRaise x (den C e).v
  | .tri p b c i h => dTri p (denB C b) c i h
def denB (C : Nat → Fn) : List Sx → Ds
  | [] => dSkip
  | s :: r => dSeq (denS C s) (denB C r)
end
/-- a def: its parameters, its slots, its body -/
structure FDef where
  np : Nat
  nl : Nat
  body : List Sx
/-- the defs up to a depth of calls -/
abbrev Dt := List (Nat × FDef)
def run (T : Dt) : Nat → Nat → Fn
  | 0, _ => fun _ _ => .bad
  | n + 1, j => match T.lookup j with
    | some d => fnOf d.np d.nl (denB (run T n) d.body)
    | none => fun _ _ => .bad

/-! ## from the text -/
inductive Md where
  | frz | peek | mv
def Md.ex (i : Nat) : Md → Ex
  | .frz => .var i
  | .peek => .peek i
  | .mv => .mv i
def boEx (a b : Ex) : BoolOp → Ex
  | .And => .and a b
  | .Or => .or a b
structure Tb where
  fns : List (Str × Nat)
  cst : List (Str × PyData)
  excs : List Str
  par : List (Str × List Str)
  same : Bool
def ixOf : List Str → Str → Option Nat
  | [], _ => none
  | y :: r, x => if y = x then some 0 else (ixOf r x).map (· + 1)
theorem ixOf_get : ∀ {N : List Str} {x : Str} {i : Nat}, ixOf N x = some i → N[i]? = some x
  | y :: r, x, i, h => by
    unfold ixOf at h
    split at h
    · rename_i e; cases h; rw [e]; rfl
    · obtain ⟨j, e, rfl⟩ := Option.map_eq_some_iff.mp h
      simpa using ixOf_get e
def seen (sc : Scope) (x : Str) : Bool := match sc.names.lookup x with
  | some .local => true
  | some .cell => true
  | some .free => true
  | _ => false
def stored (sc : Scope) (x : Str) : Bool := match sc.names.lookup x with
  | some .local => true
  | some .cell => true
  | _ => false
/-- a name that may be stored: a local, or a cell of this very block -/
def storedF (sc : Scope) (fc : Str → Bool) (x : Str) : Bool := match sc.names.lookup x with
  | some .local => true
  | some .cell => fc x
  | _ => false
def isGl (sc : Scope) (x : Str) : Bool := match sc.names.lookup x with
  | some .globalImplicit => true
  | _ => false
def plainN (x : Str) : Bool := !(x == ("__debug__" : Str)) && !(x == ("__classdict__" : Str)) && !(x == ("__name__" : Str))
def slotOf (N : List Str) (sc : Scope) (x : Str) : Option Nat := if (seen sc x && plainN x) = true then ixOf N x else none
def trC : Const → Option PyData
  | .none => some .none
  | .bool b => some (.bool b)
  | .int i => some (.int i)
  | .str x => if okS x = true then some (.str x) else none
  | _ => none
def noSlice : Expr → Bool
  | .Slice .. => false
  | _ => true
def noStar : Expr → Bool
  | .Starred .. => false
  | _ => true
def noSet : Expr → Bool
  | .Set .. => false
  | _ => true
def b1Of (x : Str) : Option B1 := [B1.len, .abs, .sum, .max, .min, .int, .bool, .str, .tuple, .list].find? fun b => decide (b.name = x)
def b2Of (x : Str) : Option B2 := [B2.max, .min].find? fun b => decide (b.name = x)
def tyOf (x : Str) : Option Ty := [Ty.int, .bool, .str, .tuple, .list, .dict].find? fun b => decide (b.name = x)
def ownOf (N : List Str) (scope : Scope) : List (Str × Nat) := scope.names.filterMap fun y => match y.2 with
  | .local => (ixOf N y.1).map fun i => (y.1, i)
  | .cell => (ixOf N y.1).map fun i => (y.1, i)
  | _ => none
mutual
def trTg (N : List Str) (sc : Scope) (fc : Str → Bool) : Nat → Expr → Option Tg
  | 0, _ => none
  | n + 1, .Name x _ => if (storedF sc fc x && plainN x) = true then (ixOf N x).map .n else none
  | n + 1, .Tuple es _ _ => (trTgs N sc fc n es).map .t
  | _, _ => none
def trTgs (N : List Str) (sc : Scope) (fc : Str → Bool) : Nat → List Expr → Option (List Tg)
  | 0, _ => none
  | _, [] => some []
  | n + 1, e :: es => if noStar e = true then (trTg N sc fc n e).bind fun t => (trTgs N sc fc n es).map (t :: ·) else none
end
/-- the argument of set(e) -/
def setArg (T : Tb) (sc : Scope) : Expr → Option Expr
  | .Call (.Name y _) [e] [] _ => if y = "set" ∧ (isGl sc y && (T.fns.lookup y).isNone && noStar e) = true then some e else none
  | _ => none
/-- the arguments of zip(a, b) -/
def zipArgs (T : Tb) (sc : Scope) : Expr → Option (Expr × Expr)
  | .Call (.Name x _) [a, b] [] _ => if x = "zip" ∧ (isGl sc x && (T.fns.lookup x).isNone && noStar a && noStar b) = true then some (a, b) else none
  | _ => none
def isTup : Expr → Bool
  | .Tuple .. => true
  | _ => false
def rngArgs (T : Tb) (sc : Scope) : Expr → Option (List Expr)
  | .Call (.Name x _) es [] _ => if x = "range" ∧ (isGl sc x && (T.fns.lookup x).isNone) = true then some es else none
  | _ => none
/-- the argument of reversed(e) -/
def revArg (T : Tb) (sc : Scope) : Expr → Option Expr
  | .Call (.Name y _) [e] [] _ => if y = "reversed" ∧ (isGl sc y && (T.fns.lookup y).isNone && noStar e) = true then some e else none
  | _ => none
def cvOf (x : Str) : Option Bool := if x = "list" then some false else if x = "tuple" then some true else none
mutual
def trE (T : Tb) (N : List Str) : Nat → Scope → Md → Expr → Option Ex
  | 0, _, _, _ => none
  | _ + 1, sc, _, .Constant c _ _ => (trC c).map .c
  | _ + 1, sc, m, .Name x _ => match slotOf N sc x with
    | some i => some (m.ex i)
    | none => if (isGl sc x && plainN x) = true then (T.cst.lookup x).map .c else none
  | n + 1, sc, _, .BinOp a o b _ => (trE T N n sc .frz a).bind fun a => (trE T N n sc .frz b).map fun b => .bin o a b
  | n + 1, sc, _, .UnaryOp .USub a _ => (trE T N n sc .frz a).map .neg
  | n + 1, sc, _, .UnaryOp .Not a _ => (trE T N n sc .peek a).map .not
  | n + 1, sc, _, .Compare a [o] [b] _ => if behindInMarks o b = false then (trE T N n sc .frz a).bind fun a => (trE T N n sc .peek b).map fun b => .cmp o a b else none
  | n + 1, sc, _, .Compare a [o, o'] [b, c] _ => if lastMarks [o, o'] [b, c] = false then (trE T N n sc .frz a).bind fun a => (trE T N n sc .frz b).bind fun b => (trE T N n sc .peek c).map fun c => .chain o o' a b c else none
  | n + 1, sc, _, .BoolOp o es _ => trBo T N n sc o es
  | n + 1, sc, m, .IfExp c a b _ => (trE T N n sc .peek c).bind fun c => (trE T N n sc m a).bind fun a => (trE T N n sc m b).map fun b => .ite c a b
  | n + 1, sc, _, .Tuple es _ _ => (trL T N n sc es).map .tup
  | n + 1, sc, _, .List es _ => (trL T N n sc es).map .lst
  | n + 1, sc, _, .Subscript a (.Slice lo hi none _) _ => (trO T N n sc lo).bind fun lo => (trO T N n sc hi).bind fun hi => match a with
    | .Name x _ => (slotOf N sc x).map fun i => .cutV i lo hi
    | a => (trE T N n sc .frz a).map fun a => .cut a lo hi
  | n + 1, sc, _, .Subscript a b _ => if noSlice b = true then (trE T N n sc .frz b).bind fun b => match a with
    | .Name x _ => (match slotOf N sc x with
      | some i => some (.idxV i b)
      | none => if (isGl sc x && plainN x) = true then (T.cst.lookup x).map fun d => .idx (.c d) b else none)
    | a => (trE T N n sc .frz a).map fun a => .idx a b
    else none
  | n + 1, sc, _, .Call (.Name x _) es [] _ => if (isGl sc x && plainN x) = true then trCall T N n sc x es else none
  | n + 1, sc, _, .Call (.Name x _) [a] [⟨some k, b, _⟩] _ => if x = "max" ∧ k = "default" ∧ (isGl sc x && (T.fns.lookup x).isNone && noStar a) = true then (trE T N n sc .frz a).bind fun a => (trE T N n sc .frz b).map fun b => .maxD a b else none
  | n + 1, sc, _, .Call (.Attribute (.Name x _) mname apos) es [] cpos => if (apos.endLine == cpos.line) = true then (slotOf N sc x).bind fun i => trMt T N n sc i mname es else none
  | n + 1, sc, _, .Call (.Attribute (.Constant (.str z) _ _) mname apos) [a] [] cpos => if mname = "join" ∧ (apos.endLine == cpos.line && noStar a && okS z) = true then (trE T N n sc .frz a).map (.join z) else none
  | n + 1, sc, _, .ListComp elt gens scope _ => let own := ownOf N scope
    if blkC N sc scope own = true then (match gens with
      | g :: _ => (trI T N n sc (isTup g.target) g.iter).bind fun it => trLc T N n (relS scope sc) (fun x => scope.names.lookup x == some .cell) (own.map (·.2)) it elt gens
      | [] => none) else none
  | _, _, _, _ => none
def trBo (T : Tb) (N : List Str) : Nat → Scope → BoolOp → List Expr → Option Ex
  | 0, _, _, _ => none
  | n + 1, sc, _, [a] => trE T N n sc .peek a
  | n + 1, sc, o, a :: b :: r => (trE T N n sc .peek a).bind fun a => (trBo T N n sc o (b :: r)).map fun b => boEx a b o
  | _, _, _, [] => none
def trL (T : Tb) (N : List Str) : Nat → Scope → List Expr → Option (List Ex)
  | 0, _, _ => none
  | _ + 1, sc, [] => some []
  | n + 1, sc, e :: es => if noStar e = true then (trE T N n sc .frz e).bind fun a => (trL T N n sc es).map (a :: ·) else none
def trO (T : Tb) (N : List Str) : Nat → Scope → Option Expr → Option (Option Ex)
  | 0, _, _ => none
  | _ + 1, sc, none => some none
  | n + 1, sc, some e => (trE T N n sc .frz e).map some
def trCall (T : Tb) (N : List Str) : Nat → Scope → Str → List Expr → Option Ex
  | 0, _, _, _ => none
  | n + 1, sc, x, es => match T.fns.lookup x with
    | some j => (trL T N n sc es).map (.call j)
    | none => match es with
      | [a] => if noStar a = true then
          (match rngArgs T sc a with
          | some es1 => (cvOf x).bind fun tup => (match es1 with
            | [u] => if noStar u = true then (trE T N n sc .frz u).map (.conv1 tup) else none
            | [u, v] => if (noStar u && noStar v) = true then (trE T N n sc .frz u).bind fun u => (trE T N n sc .frz v).map fun v => .conv2 tup u v else none
            | _ => none)
          | none => match revArg T sc a with
          | some e => if x = "tuple" then (trE T N n sc .frz e).map .revT else none
          | none => match setArg T sc a with
          | some e => if x = "len" then (trE T N n sc .frz e).map .lenSet else if x = "sorted" then (trE T N n sc .frz e).map .sortSet else none
          | none => if x = "sorted" then (trE T N n sc .frz a).map .sorted else (b1Of x).bind fun b => (trE T N n sc .peek a).map (.b1 b))
        else none
      | [a, b] => if (noStar a && noStar b) = true then
          (match b2Of x with
          | some k => (trE T N n sc .frz a).bind fun a => (trE T N n sc .frz b).map fun b => .b2 k a b
          | none => if x = "isinstance" then (match b with
            | .Name y _ => if (isGl sc y && (T.fns.lookup y).isNone) = true then (tyOf y).bind fun t => (trE T N n sc .peek a).map fun a => .isi a t else none
            | _ => none) else none)
        else none
      | [a, b, c] => if (noStar a && noStar b && noStar c) = true then (b2Of x).bind fun k => (trE T N n sc .frz a).bind fun a => (trE T N n sc .frz b).bind fun b => (trE T N n sc .frz c).map fun c => .b3 k a b c else none
      | _ => none
def trMt (T : Tb) (N : List Str) : Nat → Scope → Nat → Str → List Expr → Option Ex
  | 0, _, _, _, _ => none
  | n + 1, sc, i, m, es => match es with
    | [] => if m = "pop" then some (.pop i) else none
    | [a] => if noStar a = true then (if m = "append" then (trE T N n sc .frz a).map (.app i) else if m = "extend" then (trE T N n sc .frz a).map (.ext i) else if m = "pop" then (trE T N n sc .frz a).map (.popAt i) else if m = "index" then (trE T N n sc .frz a).map (.index i) else none) else none
    | [a, b] => if (noStar a && noStar b) = true then (if m = "startswith" then (trE T N n sc .frz a).bind fun a => (trE T N n sc .frz b).map fun b => .sw i a b else if m = "insert" then (trE T N n sc .frz a).bind fun a => (trE T N n sc .frz b).map fun b => .ins i a b else none) else none
    | _ => none
def trI (T : Tb) (N : List Str) : Nat → Scope → Bool → Expr → Option Itx
  | 0, _, _, _ => none
  | n + 1, sc, tup, e => match zipArgs T sc e with
    | some (a, b) => if tup = true then (trE T N n sc .frz a).bind fun a => (trE T N n sc .frz b).map fun b => .zip a b else none
    | none => match rngArgs T sc e with
    | some [a] => if noStar a = true then (trE T N n sc .frz a).map .rng1 else none
    | some [a, b] => if (noStar a && noStar b) = true then (trE T N n sc .frz a).bind fun a => (trE T N n sc .frz b).map fun b => .rng2 a b else none
    | some _ => none
    | none => if noSet e = true then (trE T N n sc .frz e).map .of else none
def trIfs (T : Tb) (N : List Str) : Nat → Scope → List Expr → Option (Option Ex)
  | 0, _, _ => none
  | _ + 1, sc, [] => some none
  | n + 1, sc, [e] => (trE T N n sc .peek e).map some
  | _, _, _ => none
def trLc (T : Tb) (N : List Str) : Nat → Scope → (Str → Bool) → List Nat → Itx → Expr → List Comprehension → Option Ex
  | 0, _, _, _, _, _, _ => none
  | n + 1, sc, fc, vs, it, elt, [g] => if g.is_async = 0 then (trTg N sc fc n g.target).bind fun tg => (trIfs T N n sc g.ifs).bind fun ft => (trE T N n sc .frz elt).bind fun e =>
      if tg.at.all (fun i => decide (i ∈ vs)) = true then some (.lc it tg ft vs e) else none
    else none
  | n + 1, sc, fc, vs, it, elt, [g, k] => if g.is_async = 0 ∧ k.is_async = 0 then (trTg N sc fc n g.target).bind fun tg => (trIfs T N n sc g.ifs).bind fun ft => (trI T N n sc (isTup k.target) k.iter).bind fun it1 => (trTg N sc fc n k.target).bind fun tg1 =>
      (trIfs T N n sc k.ifs).bind fun ft1 => (trE T N n sc .frz elt).bind fun e =>
      if (tg.at.all (fun i => decide (i ∈ vs)) && tg1.at.all (fun i => decide (i ∈ vs))) = true then some (.lc2 it tg ft vs it1 tg1 ft1 tg1.at e) else none
    else none
  | _, _, _, _, _, _, _ => none
end

/-! ## except suites, from the text -/
def clsNm (T : Tb) (sc : Scope) : Expr → Option Str
  | .Name c _ => if (isGl sc c && plainN c && (decide (c = "ValueError") || (T.par.lookup c).isSome)) = true then some c else none
  | _ => none
def clsNms (T : Tb) (sc : Scope) : List Expr → Option (List Str)
  | [] => some []
  | e :: r => (clsNm T sc e).bind fun c => (clsNms T sc r).map (c :: ·)
/-- isinstance(e, ..) -/
def trIsx (T : Tb) (sc : Scope) : Expr → Option Hx
  | .Tuple es _ _ => (clsNms T sc es).bind fun cs => if cs ≠ [] ∧ cs.length ≤ 100 then some (.isis cs) else none
  | b => (clsNm T sc b).map .isi
def hboEx (a b : Hx) : BoolOp → Hx
  | .And => .and a b
  | .Or => .or a b
mutual
def trHx (T : Tb) (N : List Str) (sc : Scope) (n : Str) : Nat → Expr → Option Hx
  | 0, _ => none
  | _ + 1, .Constant c _ _ => (trC c).map .c
  | _ + 1, .Name x _ => (slotOf N sc x).map .var
  | _ + 1, .Attribute (.Name x _) f _ => if x = n ∧ f = "what" then some .what else none
  | k + 1, .Call (.Name y _) [a, b] [] _ => if y = "isinstance" then (match a with
    | .Name x _ => if x = n ∧ (isGl sc y && (T.fns.lookup y).isNone) = true then trIsx T sc b else none
    | _ => none)
    else if y = "_law_same" ∧ (T.same && isGl sc y && noStar a && noStar b) = true then (trHx T N sc n k a).bind fun a => (trHx T N sc n k b).map fun b => .same a b else none
  | k + 1, .UnaryOp .Not a _ => (trHx T N sc n k a).map .not
  | k + 1, .Compare a [o] [b] _ => if behindInMarks o b = false then (trHx T N sc n k a).bind fun a => (trHx T N sc n k b).map fun b => .cmp o a b else none
  | k + 1, .BoolOp o es _ => trHo T N sc n k o es
  | _, _ => none
def trHo (T : Tb) (N : List Str) (sc : Scope) (n : Str) : Nat → BoolOp → List Expr → Option Hx
  | 0, _, _ => none
  | k + 1, _, [a] => trHx T N sc n k a
  | k + 1, o, a :: b :: r => (trHx T N sc n k a).bind fun a => (trHo T N sc n k o (b :: r)).map fun b => hboEx a b o
  | _, _, [] => none
end
def trHl (T : Tb) (N : List Str) (sc : Scope) (n : Str) (k : Nat) : List Expr → Option (List Hx)
  | [] => some []
  | e :: r => if noStar e = true then (trHx T N sc n k e).bind fun a => (trHl T N sc n k r).map (a :: ·) else none
mutual
def trHs (T : Tb) (N : List Str) (sc : Scope) (n : Str) : Nat → Stmt → Option Hs
  | 0, _ => none
  | k + 1, .Return (some (.List es _)) _ => (trHl T N sc n k es).map .retL
  | k + 1, .Return (some e) _ => (trHx T N sc n k e).map .ret
  | k + 1, .Assign [.Name x _] (.List es _) _ => if (storedF sc (fun _ => true) x && plainN x && decide (x ≠ n)) = true then (ixOf N x).bind fun i => (trHl T N sc n k es).map fun es => .setL i es else none
  | k + 1, .Assign [.Name x _] e _ => if (storedF sc (fun _ => true) x && plainN x && decide (x ≠ n)) = true then (ixOf N x).bind fun i => (trHx T N sc n k e).map fun e => .set i e else none
  | k + 1, .If c a b _ => (trHx T N sc n k c).bind fun c => (trHb T N sc n k a).bind fun a => (trHb T N sc n k b).map fun b => .ifs c a b
  | _, _ => none
def trHb (T : Tb) (N : List Str) (sc : Scope) (n : Str) : Nat → List Stmt → Option (List Hs)
  | 0, _ => none
  | _ + 1, [] => some []
  | k + 1, s :: r => (trHs T N sc n k s).bind fun a => (trHb T N sc n k r).map (a :: ·)
end
def isLoc (sc : Scope) (x : Str) : Bool := match sc.names.lookup x with
  | some .local => true
  | _ => false
end Ev

namespace Ev
open PySem PySem.Spec PyProof.Rows L2

/-- the names of what is built in, as far as the reader knows it -/
def bNames : List Str := ["len", "abs", "sum", "max", "min", "int", "bool", "str", "tuple", "list", "dict", "range", "isinstance", "set", "sorted", "zip", "reversed"]
/-- a def as it is called here -/
def FnHere (X : Cx) (x : Str) (φ : Fn) : Prop := ∃ f fd ps k np, X.mg x = some (.ref f) ∧ PySem.W.keepIn X.K (.ref f) = true ∧ Binds X.K fd ps [] ∧ Room k X.A ∧
  FnOk X.prog X.w X.K X.mg X.base (L2.CX X.prog X.w) k f fd ps (spFn X.K X.mg np φ) ∧ ∀ vs S, vs.length ≠ np → φ vs S = .bad
/-- _law_same, as it is seen here -/
def SameG (X : Cx) : Prop := ∃ f fd k, X.mg "_law_same" = some (.ref f) ∧ PySem.W.keepIn X.K (.ref f) = true ∧ Binds X.K fd ["told", "due"] [] ∧ FnC X.prog X.w X.K X.mg X.base (L2.CX X.prog X.w) k f fd ["told", "due"] spSame ∧ L2H.RoomH k X.A
structure Good (T : Tb) (C : Nat → Fn) (N : List Str) (sc : Scope) (fc : Str → Bool) (W : WX) (X : Cx) : Prop where
  hN : X.N = N
  nd : N.Nodup
  hsc : X.env.scope = sc
  hfc : ∀ x, fc x = true → X.fn x = true
  calm : X.calm = true
  hu : X.A.units + 66 < cLine
  tk : Takes X W
  fns : ∀ j x, T.fns.lookup x = some j → FnHere X x (C j)
  blt : ∀ x, x ∈ bNames → T.fns.lookup x = none → X.mg x = none
  cst : ∀ x d, T.cst.lookup x = some d → ∃ u v, X.mg x = some u ∧ RelV v u ∧ ∀ F, Rp X.K F v d
  exw : ExcW X.K X.mg T.par
  exc : ∀ x ∈ T.excs, ExcAt X.prog X.K X.mg x
  rm : Room 2 X.A
  same : T.same = true → SameG X
section
variable {T : Tb} {C : Nat → Fn} {N : List Str} {sc : Scope} {fc : Str → Bool} {W : WX} {X : Cx}
theorem Good.blk (G : Good T C N sc fc W X) (scope : Scope) : InBlk X scope fun Y => Good T C N (relS scope sc) (fun x => scope.names.lookup x == some .cell) WF Y := fun s H Cc cl fp =>
  ⟨G.hN, G.nd, by rw [← G.hsc]; rfl, fun x h => h, G.calm, G.hu, takes0, G.fns, G.blt, G.cst, G.exw, G.exc, G.rm, G.same⟩
theorem slotOf_ok {x : Str} {i : Nat} (G : Good T C N sc fc W X) (h : slotOf N sc x = some i) : X.N[i]? = some x ∧ Vis X.env.scope x ∧ (x == ("__debug__" : Str)) = false ∧ (x == ("__classdict__" : Str)) = false := by
  unfold slotOf at h
  split at h
  · rename_i hc
    obtain ⟨h1, h2⟩ := Bool.and_eq_true_iff.mp hc
    refine ⟨by rw [G.hN]; exact ixOf_get h, ?_, ?_, ?_⟩
    · rw [G.hsc]
      unfold seen at h1
      unfold Vis
      split at h1
      · exact .inl (by assumption)
      · exact .inr (.inl (by assumption))
      · exact .inr (.inr (by assumption))
      · cases h1
    · unfold plainN at h2
      simp only [Bool.and_eq_true, Bool.not_eq_true'] at h2
      exact h2.1.1
    · unfold plainN at h2
      simp only [Bool.and_eq_true, Bool.not_eq_true'] at h2
      exact h2.1.2
  · cases h
theorem gl_ok {x : Str} (G : Good T C N sc fc W X) (h : isGl sc x = true) : Gl X x := by
  show X.env.scope.names.lookup x = _
  rw [G.hsc]
  unfold isGl at h
  split at h
  · assumption
  · cases h
theorem plain_dbg {x : Str} (h : plainN x = true) : (x == ("__debug__" : Str)) = false := by
  unfold plainN at h
  simp only [Bool.and_eq_true, Bool.not_eq_true'] at h
  exact h.1.1
theorem star1 {e : Expr} {es : List Expr} {env : PySem.Env} (h : noStar e = true) : starEach (e :: es) env = (false, eval e env) :: starEach es env := by
  cases e <;> first | rfl | cases h
theorem trC_ok {c : Const} {d : PyData} {j : Nat} {pos : Pos} (h : trC c = some d) : PE X (.Constant c j pos) (tE X.K X.mg W (dC d)) := by
  unfold trC at h
  split at h
  · cases h; exact pe_dNon
  · cases h; exact pe_dBl
  · cases h; exact pe_dInt
  · split at h
    · cases h; exact pe_dStr (by assumption)
    · cases h
  · cases h
theorem storedF_ok {x : Str} (G : Good T C N sc fc W X) (h : storedF sc fc x = true) : L2.Loc X.env.scope x ∧ (X.fn x = true ∨ X.env.scope.names.lookup x = some .local) := by
  rw [G.hsc]
  unfold storedF at h
  unfold L2.Loc
  split at h
  · rename_i e; exact ⟨.inl e, .inr e⟩
  · rename_i e; exact ⟨.inr e, .inl (G.hfc x h)⟩
  · cases h
mutual
theorem trTg_ok (G : Good T C N sc fc W X) : ∀ (n : Nat) (e : Expr) (t : Tg), trTg N sc fc n e = some t → PG X e (tG X.K X.mg t.at t.put)
  | 0, _, _, h => by cases h
  | n + 1, e, t, h => by
    cases e with
    | Name x p =>
      have h : (if (storedF sc fc x && plainN x) = true then (ixOf N x).map Tg.n else none) = some t := h
      split at h
      · rename_i hc
        obtain ⟨h1, h2⟩ := Bool.and_eq_true_iff.mp hc
        obtain ⟨i, e1, rfl⟩ := Option.map_eq_some_iff.mp h
        obtain ⟨h3, h4⟩ := storedF_ok G h1
        exact pg_dPut (by rw [G.hN]; exact G.nd) (by rw [G.hN]; exact ixOf_get e1) h3 h4
      · cases h
    | Tuple es k p =>
      obtain ⟨ts, e1, rfl⟩ := Option.map_eq_some_iff.mp (show (trTgs N sc fc n es).map Tg.t = some t from h)
      obtain ⟨h1, h2, h3⟩ := trTgs_ok G n es ts e1
      exact pg_dUnT G.calm h1 h2 h3
    | _ => cases h
theorem trTgs_ok (G : Good T C N sc fc W X) : ∀ (n : Nat) (es : List Expr) (ts : List Tg), trTgs N sc fc n es = some ts → PGs X es (tGs X.K X.mg (Tg.ats ts) (Tg.puts ts)) ∧ (assignEach es X.env).length = ts.length ∧ (assignEach es X.env).findIdx? (·.1) = none
  | 0, _, _, h => by cases h
  | n + 1, [], ts, h => by cases h; exact ⟨pgs_dNo, rfl, rfl⟩
  | n + 1, e :: es, ts, h => by
    have h : (if noStar e = true then (trTg N sc fc n e).bind fun t => (trTgs N sc fc n es).map (t :: ·) else none) = some ts := h
    split at h
    · rename_i hs
      obtain ⟨t, e1, h⟩ := Option.bind_eq_some_iff.mp h
      obtain ⟨ts', e2, rfl⟩ := Option.map_eq_some_iff.mp h
      obtain ⟨h1, h2, h3⟩ := trTgs_ok G n es ts' e2
      have ha : assignEach (e :: es) X.env = (false, assign e X.env) :: assignEach es X.env := by
        cases e <;> first | rfl | cases hs
      refine ⟨pgs_dCo (trTg_ok G n e t e1) h1 (by rw [ha]; rfl), by rw [ha]; simp [h2], ?_⟩
      rw [ha, List.findIdx?_cons]
      simp [h3]
    · cases h
end
end
/-! ### expressions -/
section
variable (T : Tb) (C : Nat → Fn) (N : List Str)
def OkE (n : Nat) : Prop := ∀ sc m e ir fc W X, trE T N n sc m e = some ir → Good T C N sc fc W X → PE X e (tE X.K X.mg W (den C ir).v) ∧ PT X e (tT X.K X.mg W (den C ir).t)
def OkBo (n : Nat) : Prop := ∀ sc o es ir pos fc W X, trBo T N n sc o es = some ir → Good T C N sc fc W X → PE X (.BoolOp o es pos) (tE X.K X.mg W (den C ir).v) ∧ PW X (.BoolOp o es pos) (tT X.K X.mg W (den C ir).t)
def OkL (n : Nat) : Prop := ∀ sc es irs fc W X, trL T N n sc es = some irs → Good T C N sc fc W X → PA X es (tA X.K X.mg W (denL C irs)) ∧ es.all noStar = true
def OkO (n : Nat) : Prop := ∀ sc e o fc W X, trO T N n sc e = some o → Good T C N sc fc W X → PO X e (tOp2 X.K X.mg W (denO C o))
def OkCall (n : Nat) : Prop := ∀ sc x es ir p pos fc W X, trCall T N n sc x es = some ir → isGl sc x = true → plainN x = true → Good T C N sc fc W X → ∃ f, den C ir = Dn.ofV f ∧ PE X (.Call (.Name x p) es [] pos) (tE X.K X.mg W f)
def OkMt (n : Nat) : Prop := ∀ sc i m es ir x p apos cpos fc W X, trMt T N n sc i m es = some ir → slotOf N sc x = some i → (apos.endLine == cpos.line) = true → Good T C N sc fc W X → ∃ f, den C ir = Dn.ofV f ∧ PE X (.Call (.Attribute (.Name x p) m apos) es [] cpos) (tE X.K X.mg W f)
def OkI (n : Nat) : Prop := ∀ sc tup e ir fc W X tg, trI T N n sc tup e = some ir → (tup = true → isTup tg = true) → Good T C N sc fc W X → PI X tg e (tI X.K X.mg W (denI C ir)) ∧ ∀ env x, foldedSetIterable e env x = pure x
def OkIfs (n : Nat) : Prop := ∀ sc es o fc W X, trIfs T N n sc es = some o → Good T C N sc fc W X → PTs X es (tT X.K X.mg W (denT C o))
end
section
variable {T : Tb} {C : Nat → Fn} {N : List Str} {sc : Scope} {fc : Str → Bool} {W : WX} {X : Cx} {n : Nat}
theorem folded_of {e : Expr} (h : noSet e = true) : ∀ env x, foldedSetIterable e env x = pure x := by
  intro env x
  cases e <;> first | rfl | cases h
theorem plain_ix {b : Expr} (h : noSlice b = true) : PlainIx b := by
  intro o i
  cases b <;> first | rfl | cases h
theorem star_all {env : PySem.Env} : ∀ {es : List Expr}, es.all noStar = true → starEach es env = es.map fun e => (false, eval e env)
  | [], _ => rfl
  | e :: es, h => by
    rw [List.all_cons, Bool.and_eq_true] at h
    rw [star1 h.1, star_all h.2]
    rfl
theorem star_plain {env : PySem.Env} {pos : Pos} {es : List Expr} (h : es.all noStar = true) : (backTo pos (starEach es env)).any (·.1) = false := by
  rw [star_all h]
  unfold backTo
  rw [List.map_map, List.any_map]
  simp
theorem blt_ok {x : Str} (G : Good T C N sc fc W X) (hx : x ∈ bNames) (h : T.fns.lookup x = none) : X.mg x = none := G.blt x hx h
theorem b1Of_ok {x : Str} {b : B1} (h : b1Of x = some b) : x = b.name ∧ x ∈ bNames := by
  have := List.find?_some h
  have e : b.name = x := of_decide_eq_true this
  subst e
  refine ⟨rfl, ?_⟩
  cases b <;> decide +kernel
theorem b2Of_ok {x : Str} {b : B2} (h : b2Of x = some b) : x = b.name ∧ x ∈ bNames := by
  have := List.find?_some h
  have e : b.name = x := of_decide_eq_true this
  subst e
  refine ⟨rfl, ?_⟩
  cases b <;> decide +kernel
theorem tyOf_ok {x : Str} {b : Ty} (h : tyOf x = some b) : x = b.name ∧ x ∈ bNames := by
  have := List.find?_some h
  have e : b.name = x := of_decide_eq_true this
  subst e
  refine ⟨rfl, ?_⟩
  cases b <;> decide +kernel
theorem cst_ok {x : Str} {d : PyData} {pos : Pos} (G : Good T C N sc fc W X) (hg : isGl sc x = true) (hp : plainN x = true) (h : T.cst.lookup x = some d) : PE X (.Name x pos) (tE X.K X.mg W (dC d)) := by
  obtain ⟨u, v, h1, h2, h3⟩ := G.cst x d h
  exact pe_dC (pe_glob (gl_ok G hg) h1 h2 (plain_dbg hp)) h3
theorem name_ok {x : Str} {m : Md} {ir : Ex} {pos : Pos} (G : Good T C N sc fc W X) (h : trE T N (n + 1) sc m (.Name x pos) = some ir) : PE X (.Name x pos) (tE X.K X.mg W (den C ir).v) ∧ (den C ir) = Dn.ofV (den C ir).v := by
  have h : (match slotOf N sc x with
    | some i => some (m.ex i)
    | none => if (isGl sc x && plainN x) = true then (T.cst.lookup x).map Ex.c else none) = some ir := h
  split at h
  · rename_i i e
    obtain ⟨h1, h2, h3, h4⟩ := slotOf_ok G e
    cases h
    cases m with
    | frz => exact ⟨pe_dVar h1 h2 h3 h4, rfl⟩
    | peek => exact ⟨pe_dPeek h1 h2 h3 h4, rfl⟩
    | mv => exact ⟨pe_dMv h1 h2 h3 h4, rfl⟩
  · split at h
    · rename_i hc
      obtain ⟨h1, h2⟩ := Bool.and_eq_true_iff.mp hc
      obtain ⟨d, e, rfl⟩ := Option.map_eq_some_iff.mp h
      exact ⟨cst_ok G h1 h2 e, rfl⟩
    · cases h
/-- of a value's denotation the test's -/
theorem ofV_pt {e : Expr} {f : De Va} (h : PE X e (tE X.K X.mg W f)) (he : ∀ whole, isTrue e X.env whole = (do let v ← whole; standAt e.pos; holding [v] (truthy v))) : PE X e (tE X.K X.mg W (Dn.ofV f).v) ∧ PT X e (tT X.K X.mg W (Dn.ofV f).t) := ⟨h, pt_dTru h he⟩
theorem stepL (hE : OkE T C N n) (hL : OkL T C N n) : OkL T C N (n + 1) := by
  intro sc es irs fc W X h G
  cases es with
  | nil => cases h; exact ⟨pa_dNil, rfl⟩
  | cons e es =>
    have h : (if noStar e = true then (trE T N n sc .frz e).bind fun a => (trL T N n sc es).map (a :: ·) else none) = some irs := h
    split at h
    · rename_i hs
      obtain ⟨a, e1, h⟩ := Option.bind_eq_some_iff.mp h
      obtain ⟨r, e2, rfl⟩ := Option.map_eq_some_iff.mp h
      obtain ⟨h1, h2⟩ := hL sc es r fc W X e2 G
      exact ⟨pa_dCons (hE sc .frz e a fc W X e1 G).1 h1 (star1 hs), by rw [List.all_cons, hs, h2]; rfl⟩
    · cases h
theorem stepO (hE : OkE T C N n) : OkO T C N (n + 1) := by
  intro sc e o fc W X h G
  cases e with
  | none => cases h; exact po_dNo
  | some e =>
    obtain ⟨a, e1, rfl⟩ := Option.map_eq_some_iff.mp (show (trE T N n sc .frz e).map some = some o from h)
    exact po_dSome (hE sc .frz e a fc W X e1 G).1
theorem rng_of (T : Tb) (N : List Str) {n : Nat} {sc : Scope} {tup : Bool} {e : Expr} {ir : Itx} (h : trI T N (n + 1) sc tup e = some ir) : (∃ a b, zipArgs T sc e = some (a, b) ∧ tup = true ∧ ((trE T N n sc .frz a).bind fun a => (trE T N n sc .frz b).map fun b => Itx.zip a b) = some ir) ∨ (zipArgs T sc e = none ∧ (match rngArgs T sc e with
    | some [a] => if noStar a = true then (trE T N n sc .frz a).map Itx.rng1 else none
    | some [a, b] => if (noStar a && noStar b) = true then (trE T N n sc .frz a).bind fun a => (trE T N n sc .frz b).map fun b => Itx.rng2 a b else none
    | some _ => none
    | none => if noSet e = true then (trE T N n sc .frz e).map Itx.of else none) = some ir) := by
  have h : (match zipArgs T sc e with
    | some (a, b) => if tup = true then (trE T N n sc .frz a).bind fun a => (trE T N n sc .frz b).map fun b => Itx.zip a b else none
    | none => match rngArgs T sc e with
    | some [a] => if noStar a = true then (trE T N n sc .frz a).map Itx.rng1 else none
    | some [a, b] => if (noStar a && noStar b) = true then (trE T N n sc .frz a).bind fun a => (trE T N n sc .frz b).map fun b => Itx.rng2 a b else none
    | some _ => none
    | none => if noSet e = true then (trE T N n sc .frz e).map Itx.of else none) = some ir := h
  cases hz : zipArgs T sc e with
  | none => rw [hz] at h; exact .inr ⟨rfl, h⟩
  | some ab =>
    rw [hz] at h
    obtain ⟨a, b⟩ := ab
    have h : (if tup = true then (trE T N n sc .frz a).bind fun a => (trE T N n sc .frz b).map fun b => Itx.zip a b else none) = some ir := h
    split at h
    · exact .inl ⟨a, b, rfl, by assumption, h⟩
    · cases h
theorem zipArgs_ok {e a b : Expr} (h : zipArgs T sc e = some (a, b)) : ∃ x p q, e = .Call (.Name x p) [a, b] [] q ∧ x = "zip" ∧ isGl sc x = true ∧ T.fns.lookup x = none ∧ noStar a = true ∧ noStar b = true := by
  unfold zipArgs at h
  split at h
  · split at h
    · rename_i hx
      obtain ⟨hx, hg⟩ := hx
      simp only [Bool.and_eq_true] at hg
      cases h
      exact ⟨_, _, _, rfl, hx, hg.1.1.1, Option.isNone_iff_eq_none.mp hg.1.1.2, hg.1.2, hg.2⟩
    · cases h
  · cases h
theorem stepI (hE : OkE T C N n) : OkI T C N (n + 1) := by
  intro sc tup e ir fc W X tg h htup G
  rcases rng_of T N h with ⟨a, b, hz, ht, h2⟩ | ⟨hz, h2⟩
  · clear h
    obtain ⟨x, p, q, rfl, hx, hg, hf, s1, s2⟩ := zipArgs_ok hz
    obtain ⟨a', e1, h3⟩ := Option.bind_eq_some_iff.mp h2
    obtain ⟨b', e2, rfl⟩ := Option.map_eq_some_iff.mp h3
    have ht := htup ht
    cases tg with
    | Tuple es k pt => exact ⟨pi_dZip hx (gl_ok G hg) (blt_ok G (by rw [hx]; decide +kernel) hf) (hE sc .frz a a' fc W X e1 G).1 (hE sc .frz b b' fc W X e2 G).1 (by rw [star1 s1, star1 s2]) (by rw [star1 s2]), fun _ _ => rfl⟩
    | _ => cases ht
  clear h
  have h := h2
  clear h2
  have gen : ∀ {e : Expr} {ir : Itx}, noSet e = true → (trE T N n sc .frz e).map Itx.of = some ir → PI X tg e (tI X.K X.mg W (denI C ir)) ∧ ∀ env x, foldedSetIterable e env x = pure x := fun {e ir} hs h => by
    obtain ⟨a, e1, rfl⟩ := Option.map_eq_some_iff.mp h
    exact ⟨pi_dItems (hE sc .frz e a fc W X e1 G).1, folded_of hs⟩
  have key : ∀ {es : List Expr}, rngArgs T sc e = some es → ∃ x p q, e = .Call (.Name x p) es [] q ∧ x = "range" ∧ isGl sc x = true ∧ X.mg x = none := fun {es} hr => by
    unfold rngArgs at hr
    split at hr
    · split at hr
      · rename_i hx
        obtain ⟨hx, hg⟩ := hx
        obtain ⟨hg1, hg2⟩ := Bool.and_eq_true_iff.mp hg
        cases hr
        exact ⟨_, _, _, rfl, hx, hg1, blt_ok G (by rw [hx]; decide +kernel) (Option.isNone_iff_eq_none.mp hg2)⟩
      · cases hr
    · cases hr
  cases hr : rngArgs T sc e with
  | none =>
    rw [hr] at h
    have h : (if noSet e = true then (trE T N n sc .frz e).map Itx.of else none) = some ir := h
    split at h
    · exact gen (by assumption) h
    · cases h
  | some es =>
    obtain ⟨x, p, q, rfl, hx, hg1, hm⟩ := key hr
    rw [hr] at h
    refine ⟨?_, fun _ _ => rfl⟩
    match es, h with
    | [], h => cases h
    | [a], h =>
      have h : (if noStar a = true then (trE T N n sc .frz a).map Itx.rng1 else none) = some ir := h
      split at h
      · rename_i hs
        obtain ⟨a', e1, rfl⟩ := Option.map_eq_some_iff.mp h
        exact pi_dRange1 hx (gl_ok G hg1) hm (hE sc .frz a a' fc W X e1 G).1 (star1 hs)
      · cases h
    | [a, b], h =>
      have h : (if (noStar a && noStar b) = true then (trE T N n sc .frz a).bind fun a => (trE T N n sc .frz b).map fun b => Itx.rng2 a b else none) = some ir := h
      split at h
      · rename_i hs
        obtain ⟨hs1, hs2⟩ := Bool.and_eq_true_iff.mp hs
        obtain ⟨a', e1, h⟩ := Option.bind_eq_some_iff.mp h
        obtain ⟨b', e2, rfl⟩ := Option.map_eq_some_iff.mp h
        exact pi_dRange2 hx (gl_ok G hg1) hm (hE sc .frz a a' fc W X e1 G).1 (hE sc .frz b b' fc W X e2 G).1 (by rw [star1 hs1, star1 hs2]; rfl) (by rw [star1 hs2]; rfl)
      · cases h
    | _ :: _ :: _ :: _, h => cases h
theorem trI_folded : ∀ {n : Nat} {sc : Scope} {tup : Bool} {e : Expr} {ir : Itx}, trI T N n sc tup e = some ir → ∀ env x, foldedSetIterable e env x = pure x := by
  intro n sc tup e ir h
  cases n with
  | zero => cases h
  | succ n =>
    rcases rng_of T N h with ⟨a, b, hz, ht, h⟩ | ⟨hz, h⟩
    · obtain ⟨x, p, q, rfl, _⟩ := zipArgs_ok hz
      exact fun _ _ => rfl
    · cases hr : rngArgs T sc e with
      | none =>
        rw [hr] at h
        have h : (if noSet e = true then (trE T N n sc .frz e).map Itx.of else none) = some ir := h
        split at h
        · exact folded_of (by assumption)
        · cases h
      | some es =>
        unfold rngArgs at hr
        split at hr
        · exact fun _ _ => rfl
        · cases hr
/-- a comprehension, as a value and as what a name gets -/
def OkLc (T : Tb) (C : Nat → Fn) (N : List Str) (n : Nat) : Prop := ∀ sc m elt gens scope pos ir fc W X, trE T N n sc m (.ListComp elt gens scope pos) = some ir → Good T C N sc fc W X → ∃ f, den C ir = Dn.ofV f ∧ PE X (.ListComp elt gens scope pos) (tE X.K X.mg W f) ∧
  ∀ y py spos i, X.N[i]? = some y → X.env.scope.names.lookup y = some .local → swapsWith (.ListComp elt gens scope pos) (some (Expr.Name y py)) spos.line X.env = pure true → PS X (.Assign [.Name y py] (.ListComp elt gens scope pos) spos) (tS X.K X.mg W (dSet i f))
theorem stepLc (hE : OkE T C N n) (hI : OkI T C N n) (hF : OkIfs T C N n) (hI' : ∀ k, k < n → OkE T C N k ∧ OkI T C N k ∧ OkIfs T C N k) : OkLc T C N (n + 1) := by
  intro sc m elt gens scope pos ir fc W X h G
  have h : (if blkC N sc scope (ownOf N scope) = true then (match gens with
      | g :: _ => (trI T N n sc (isTup g.target) g.iter).bind fun it => trLc T N n (relS scope sc) (fun x => scope.names.lookup x == some .cell) ((ownOf N scope).map (·.2)) it elt gens
      | [] => none) else none) = some ir := h
  split at h
  · rename_i hb
    have ok : BlkOk X.N X.env.scope scope (ownOf N scope) := by
      rw [G.hN, G.hsc]; exact blkOk_by hb
    have hnd : X.N.Nodup := by rw [G.hN]; exact G.nd
    cases gens with
    | nil => cases h
    | cons g0 rest =>
      obtain ⟨it, e0, h⟩ := Option.bind_eq_some_iff.mp h
      cases n with
      | zero => cases h
      | succ n =>
        obtain ⟨hE', hI'', hF'⟩ := hI' n (Nat.lt_succ_self n)
        match rest, h with
        | [], h =>
          have h : (if g0.is_async = 0 then (trTg N (relS scope sc) (fun x => scope.names.lookup x == some .cell) n g0.target).bind fun tg => (trIfs T N n (relS scope sc) g0.ifs).bind fun ft => (trE T N n (relS scope sc) .frz elt).bind fun e =>
            if tg.at.all (fun i => decide (i ∈ (ownOf N scope).map (·.2))) = true then some (Ex.lc it tg ft ((ownOf N scope).map (·.2)) e) else none else none) = some ir := h
          split at h
          · rename_i ha
            obtain ⟨tg, e1, h⟩ := Option.bind_eq_some_iff.mp h
            obtain ⟨ft, e2, h⟩ := Option.bind_eq_some_iff.mp h
            obtain ⟨e, e3, h⟩ := Option.bind_eq_some_iff.mp h
            split at h
            · rename_i hv
              cases h
              obtain ⟨gt, gi, gf, ga⟩ := g0
              cases ha
              obtain ⟨i1, i2⟩ := hI sc _ gi it fc W X gt e0 id G
              have his : ∀ i ∈ tg.at, i ∈ (ownOf N scope).map (·.2) := fun i hi => of_decide_eq_true (List.all_eq_true.mp hv i hi)
              have hg : InBlk X scope fun Y => PG Y gt (tG X.K X.mg tg.at tg.put) := fun s H Cc cl fp => trTg_ok (G.blk scope s H Cc cl fp) n gt tg e1
              have ht : InBlk X scope fun Y => PTs Y gf (tT X.K X.mg WF (denT C ft)) := fun s H Cc cl fp => hF' _ gf ft _ _ _ e2 (G.blk scope s H Cc cl fp)
              have hel : InBlk X scope fun Y => PE Y elt (tE X.K X.mg WF (den C e).v) := fun s H Cc cl fp => (hE' _ .frz elt e _ _ _ e3 (G.blk scope s H Cc cl fp)).1
              exact ⟨_, rfl, pe_dLc1 G.calm hnd i1 ok his hg ht hel (i2 _), fun y py spos i hy hyl hsw => ps_dLc1 G.calm hnd hy hyl hsw i1 ok his hg ht hel (i2 _)⟩
            · cases h
          · cases h
        | [k0], h =>
          have h : (if g0.is_async = 0 ∧ k0.is_async = 0 then (trTg N (relS scope sc) (fun x => scope.names.lookup x == some .cell) n g0.target).bind fun tg => (trIfs T N n (relS scope sc) g0.ifs).bind fun ft => (trI T N n (relS scope sc) (isTup k0.target) k0.iter).bind fun it1 => (trTg N (relS scope sc) (fun x => scope.names.lookup x == some .cell) n k0.target).bind fun tg1 =>
            (trIfs T N n (relS scope sc) k0.ifs).bind fun ft1 => (trE T N n (relS scope sc) .frz elt).bind fun e =>
            if (tg.at.all (fun i => decide (i ∈ (ownOf N scope).map (·.2))) && tg1.at.all (fun i => decide (i ∈ (ownOf N scope).map (·.2)))) = true then some (Ex.lc2 it tg ft ((ownOf N scope).map (·.2)) it1 tg1 ft1 tg1.at e) else none else none) = some ir := h
          split at h
          · rename_i ha
            obtain ⟨ha, hk⟩ := ha
            obtain ⟨tg, e1, h⟩ := Option.bind_eq_some_iff.mp h
            obtain ⟨ft, e2, h⟩ := Option.bind_eq_some_iff.mp h
            obtain ⟨it1, e4, h⟩ := Option.bind_eq_some_iff.mp h
            obtain ⟨tg1, e5, h⟩ := Option.bind_eq_some_iff.mp h
            obtain ⟨ft1, e6, h⟩ := Option.bind_eq_some_iff.mp h
            obtain ⟨e, e3, h⟩ := Option.bind_eq_some_iff.mp h
            split at h
            · rename_i hv
              cases h
              obtain ⟨hv, hv1⟩ := Bool.and_eq_true_iff.mp hv
              obtain ⟨gt, gi, gf, ga⟩ := g0
              obtain ⟨kt, ki, kf, ka⟩ := k0
              cases ha; cases hk
              obtain ⟨i1, i2⟩ := hI sc _ gi it fc W X gt e0 id G
              have his : ∀ i ∈ tg.at, i ∈ (ownOf N scope).map (·.2) := fun i hi => of_decide_eq_true (List.all_eq_true.mp hv i hi)
              have hjs : ∀ i ∈ tg1.at, i ∈ (ownOf N scope).map (·.2) := fun i hi => of_decide_eq_true (List.all_eq_true.mp hv1 i hi)
              have hg : InBlk X scope fun Y => PG Y gt (tG X.K X.mg tg.at tg.put) := fun s H Cc cl fp => trTg_ok (G.blk scope s H Cc cl fp) n gt tg e1
              have hg1 : InBlk X scope fun Y => PG Y kt (tG X.K X.mg tg1.at tg1.put) := fun s H Cc cl fp => trTg_ok (G.blk scope s H Cc cl fp) n kt tg1 e5
              have ht : InBlk X scope fun Y => PTs Y gf (tT X.K X.mg WF (denT C ft)) := fun s H Cc cl fp => hF' _ gf ft _ _ _ e2 (G.blk scope s H Cc cl fp)
              have ht1 : InBlk X scope fun Y => PTs Y kf (tT X.K X.mg WF (denT C ft1)) := fun s H Cc cl fp => hF' _ kf ft1 _ _ _ e6 (G.blk scope s H Cc cl fp)
              have hi1 : InBlk X scope fun Y => PI Y kt ki (tI X.K X.mg WF (denI C it1)) := fun s H Cc cl fp => (hI'' _ _ ki it1 _ _ _ kt e4 id (G.blk scope s H Cc cl fp)).1
              have hs1 : ∀ env x, foldedSetIterable ki env x = pure x := trI_folded e4
              have hel : InBlk X scope fun Y => PE Y elt (tE X.K X.mg WF (den C e).v) := fun s H Cc cl fp => (hE' _ .frz elt e _ _ _ e3 (G.blk scope s H Cc cl fp)).1
              exact ⟨_, rfl, pe_dLc2 G.calm hnd i1 ok his (fun _ h => h) hjs hg ht hi1 hg1 ht1 hel (i2 _) hs1, fun y py spos i hy hyl hsw => ps_dLc2 G.calm hnd hy hyl hsw i1 ok his (fun _ h => h) hjs hg ht hi1 hg1 ht1 hel (i2 _) hs1⟩
            · cases h
          · cases h
        | _ :: _ :: _, h => cases h
  · cases h
end
end Ev

namespace Ev
open PySem PySem.Spec PyProof.Rows L2
/-! ## except suites are sound -/
def tH (K : PySem.W.Frag) (mg : Str → Option Value) (i : Nat) (a : Addr) (cls : Value) (d : Option Addr) (x : Exn) (f : Stt → Option PyData) : TE := fun σ H Q =>
  ∃ g s F v, g.K = K ∧ g.mg = mg ∧ Wf g s σ F H ∧ σ[i]? = some (some (.ref a)) ∧ XRep g F x cls d ∧ f s = some v ∧ ∀ F' H' u, Wf g s σ F' H' → Same F F' → Rp g.K F' u v → Q u H'
def tHT (K : PySem.W.Frag) (mg : Str → Option Value) (i : Nat) (a : Addr) (cls : Value) (d : Option Addr) (x : Exn) (f : Stt → Option PyData) : TT := fun σ H Q =>
  ∃ g s F v k, g.K = K ∧ g.mg = mg ∧ Wf g s σ F H ∧ σ[i]? = some (some (.ref a)) ∧ XRep g F x cls d ∧ f s = some v ∧ truD v = some k ∧ ∀ F' H', Wf g s σ F' H' → Same F F' → Q k H'
def tHL (K : PySem.W.Frag) (mg : Str → Option Value) (i : Nat) (a : Addr) (cls : Value) (d : Option Addr) (x : Exn) (f : Stt → Option (List PyData)) : TA := fun σ H Q =>
  ∃ g s F vs, g.K = K ∧ g.mg = mg ∧ Wf g s σ F H ∧ σ[i]? = some (some (.ref a)) ∧ XRep g F x cls d ∧ f s = some vs ∧ ∀ F' H' us, Wf g s σ F' H' → Same F F' → RpAll g.K F' us vs → Q us H'
theorem XRep.mono {g : Gh} {F F' : Hp} {x : Exn} {cls : Value} {d : Option Addr} (e : Same F F') (h : XRep g F x cls d) : XRep g F' x cls d := by
  obtain ⟨C, h1, h2, h3⟩ := h
  refine ⟨C, h1, h2, ?_⟩
  rcases h3 with h3 | ⟨dd, vs, h4, h5, h6, h7⟩
  · exact .inl h3
  · exact .inr ⟨dd, vs, h4, e _ _ h5, h6, h7.mono e⟩
theorem XRep.dict {g : Gh} {F H : Hp} {x : Exn} {cls : Value} {d : Option Addr} (e : Same F H) (h : XRep g F x cls d) : DictAt H d := by
  obtain ⟨C, h1, h2, h3⟩ := h
  rcases h3 with h3 | ⟨dd, vs, h4, h5, _⟩
  · exact .inl h3.2
  · exact .inr ⟨dd, vs, h4, e _ _ h5⟩
theorem XRep.cls {g : Gh} {F : Hp} {x : Exn} {cls : Value} {d : Option Addr} {C : Addr} (h : XRep g F x cls d) (hm : g.mg x.cls = some (.ref C)) : cls = .ref C := by
  obtain ⟨C', h1, h2, _⟩ := h
  rw [hm] at h1
  cases h1
  exact h2
theorem lookup_zip {K : PySem.W.Frag} {F : Hp} {f : Str} : ∀ {fs : List (Str × PyData)} {vs : List (Str × V)} {v : PyData}, vs.map (·.1) = fs.map (·.1) → RpAll K F (vs.map (·.2)) (fs.map (·.2)) → fs.lookup f = some v → ∃ u, vs.lookup f = some u ∧ Rp K F u v
  | [], _, v, _, _, h => by cases h
  | (n, d) :: fs, [], v, e, _, _ => by cases e
  | (n, d) :: fs, (n', u) :: vs, v, e, r, h => by
    have e1 : n' = n := by injection e
    have e2 : vs.map (·.1) = fs.map (·.1) := by injection e
    subst e1
    cases r with
    | cons r1 r2 =>
      rw [List.lookup_cons] at h ⊢
      split at h
      · rename_i q
        cases h
        exact ⟨u, rfl, r1⟩
      · exact lookup_zip e2 r2 h
section
variable {T : Tb} {C : Nat → Fn} {N : List Str} {sc : Scope} {fc : Str → Bool} {W : WX} {X : Cx} {i : Nat} {a : Addr} {oe : Obj} {cls : Value} {d : Option Addr} {pn : List (Addr × Obj)} {x : Exn} {n : Str}

theorem glS_ok {x : Str} (G : Good T C N sc fc W X) (h : isGl sc x = true) : Gl (X.suite a ((a, oe) :: pn)) x := by
  show Gl X x
  exact gl_ok G h
theorem pe_cls (G : Good T C N sc fc W X) {e : Expr} {c : Str} (h : clsNm T sc e = some c) : noStar e = true ∧ ∃ cv v, clsV X.mg c = some cv ∧ ClsV v cv ∧ PE (X.suite a ((a, oe) :: pn)) e (tC v) := by
  cases e with
  | Name c' p =>
    have h : (if (isGl sc c' && plainN c' && (decide (c' = "ValueError") || (T.par.lookup c').isSome)) = true then some c' else none) = some c := h
    split at h
    · rename_i hc
      cases h
      simp only [Bool.and_eq_true, Bool.or_eq_true, decide_eq_true_eq] at hc
      obtain ⟨⟨h1, h2⟩, h3⟩ := hc
      refine ⟨rfl, ?_⟩
      by_cases hv : c = "ValueError"
      · subst hv
        exact ⟨.type "ValueError", .ty "ValueError", if_pos rfl, .ty _, pe_bltn (glS_ok G h1) G.exw.blt (by decide +kernel) rfl (by decide +kernel) (by decide +kernel)⟩
      · rcases h3 with h3 | h3
        · exact absurd h3 hv
        · obtain ⟨l, hl⟩ := Option.isSome_iff_exists.mp h3
          obtain ⟨D, F⟩ := G.exw.cls c l hl
          exact ⟨.ref D, .ref D, (if_neg hv).trans F.at_, .own _, pe_glob (glS_ok G h1) F.at_ rfl (plain_dbg h2)⟩
    · cases h
  | _ => cases h
theorem pa_cls (G : Good T C N sc fc W X) : ∀ {es : List Expr} {cs : List Str}, clsNms T sc es = some cs → ∃ vs us, ClsAll X.mg cs vs us ∧ es.length = vs.length ∧ PA (X.suite a ((a, oe) :: pn)) es (fun σ H Q => Q vs H)
  | [], cs, h => by cases h; exact ⟨[], [], .nil, rfl, pa_nil⟩
  | e :: es, cs, h => by
    obtain ⟨c, e1, h⟩ := Option.bind_eq_some_iff.mp (show ((clsNm T sc e).bind fun c => (clsNms T sc es).map (c :: ·)) = some cs from h)
    obtain ⟨r, e2, rfl⟩ := Option.map_eq_some_iff.mp h
    obtain ⟨hs, cv, v, h1, h2, h3⟩ := pe_cls (a := a) (oe := oe) (pn := pn) G e1
    obtain ⟨vs, us, h4, h5, h6⟩ := pa_cls G e2
    exact ⟨v :: vs, cv :: us, .cons h1 h2 h4, by simp [h5], pa_cons h3 h6 (star1 hs)⟩
theorem par_cls (G : Good T C N sc fc W X) {c : Str} {b : Bool} (h : isSub T.par x.cls c = some b) : ∃ l, T.par.lookup x.cls = some l := by
  unfold isSub at h
  split at h
  · exact ⟨_, by assumption⟩
  · cases h
theorem hx_isi (G : Good T C N sc fc W X) {b : Expr} {ir : Hx} {p pq pos : Pos} (hz : Zc cls d oe) (hf : ∃ vs, oe.data = .fields vs) (hi : X.N[i]? = some n) (hv : Vis X.env.scope n) (h1 : (n == ("__debug__" : Str)) = false) (h2 : (n == ("__classdict__" : Str)) = false)
    (hg : isGl sc "isinstance" = true) (hb : T.fns.lookup (Str.ofString "isinstance") = none) (h : trIsx T sc b = some ir) : PE (X.suite a ((a, oe) :: pn)) (.Call (.Name "isinstance" p) [.Name n pq, b] [] pos) (tH X.K X.mg i a cls d x (hden T.par x ir)) := by
  have hm : X.mg "isinstance" = none := blt_ok G (by decide) hb
  have pv : PE (X.suite a ((a, oe) :: pn)) (.Name n pq) (tVar i) := pe_var hi hv h1 h2
  refine PE.by fun pins s₀ σ H Q I q => ?_
  obtain ⟨g, s, F, v, hK, hmg, w, hs, xr, hd, q⟩ := q
  have one : ∀ {b : Expr} {c : Str}, clsNm T sc b = some c → hden T.par x (.isi c) s = some v → ∃ t', PE (X.suite a ((a, oe) :: pn)) (.Call (.Name "isinstance" p) [.Name n pq, b] [] pos) t' ∧ t' σ H Q := fun {b c} e hd => by
    obtain ⟨k, e1, rfl⟩ := Option.map_eq_some_iff.mp (show (isSub T.par x.cls c).map PyData.bool = some v from hd)
    obtain ⟨l, hl⟩ := par_cls G e1
    obtain ⟨D, FD⟩ := G.exw.cls _ l hl
    have ec := xr.cls (by rw [hmg]; exact FD.at_)
    subst ec
    obtain ⟨cv, cV, h3, h4, h5⟩ := sub_one G.exw FD.at_ e1
    obtain ⟨hs2, cv', cV', h6, h7, h8⟩ := pe_cls (a := a) (oe := oe) (pn := pn) G e
    rw [h3] at h6
    cases h6
    refine ⟨_, pe_callB (call_isX FD hz hf) (glS_ok G hg) hm (by decide +kernel) (pa_cons pv (pa_cons h8 pa_nil (star1 hs2)) rfl) (by decide +kernel) (by decide +kernel) rfl (by
      rw [star1 hs2]; rfl), ?_⟩
    exact ⟨.ref a, hs, cV', cv, k, rfl, h7, h5, xr.dict w.sub, q F H _ w (Same.refl _) (.bl _)⟩
  cases b with
  | Tuple es kt pt =>
    obtain ⟨cs, e1, h⟩ := Option.bind_eq_some_iff.mp (show ((clsNms T sc es).bind fun cs => if cs ≠ [] ∧ cs.length ≤ 100 then some (Hx.isis cs) else none) = some ir from h)
    split at h
    case isFalse => cases h
    rename_i hcs
    cases h
    have e9 := e1
    obtain ⟨k, e2, rfl⟩ := Option.map_eq_some_iff.mp (show (isAny T.par x.cls cs).map PyData.bool = some v from hd)
    obtain ⟨vs, us, h4, h5, h6⟩ := pa_cls (a := a) (oe := oe) (pn := pn) G e1
    have hc := hcs.1
    · have : ∃ c b, isSub T.par x.cls c = some b := by
        cases cs with
        | nil => exact absurd rfl hc
        | cons c cs =>
          have e2 : (match isSub T.par x.cls c with
            | some true => some true
            | some false => isAny T.par x.cls cs
            | none => none) = some k := e2
          cases e3 : isSub T.par x.cls c with
          | none => rw [e3] at e2; cases e2
          | some b => exact ⟨c, b, e3⟩
      obtain ⟨c, b, e3⟩ := this
      obtain ⟨l, hl⟩ := par_cls G e3
      obtain ⟨D, FD⟩ := G.exw.cls _ l hl
      have ec := xr.cls (by rw [hmg]; exact FD.at_)
      subst ec
      refine ⟨_, pe_callB (call_isXT FD hz hf) (glS_ok G hg) hm (by decide +kernel) (pa_cons pv (pa_cons (pe_tup h6) pa_nil rfl) rfl) (by decide +kernel) (by decide +kernel) rfl rfl, ?_⟩
      refine ⟨.ref a, hs, ?_, fun t nt => ?_⟩
      · have hl : vs.length = cs.length := h4.len
        rw [hl, sizeLine_eq]
        exact Nat.le_trans hcs.2 (by decide)
      · have w2 := w.hide nt (.tup vs)
        refine ⟨t, vs, us, k, rfl, upd_same, h4.pair, any_one G.exw FD.at_ e2 h4, ?_, q F _ _ w2 (Same.refl _) (.bl _)⟩
        exact (xr.dict w.sub).elim .inl fun ⟨dd, fs, e, ed⟩ => .inr ⟨dd, fs, e, by rw [upd_ne (ne_of_none ed nt)]; exact ed⟩
  | Name c' pc =>
    obtain ⟨c, e1, rfl⟩ := Option.map_eq_some_iff.mp (show (clsNm T sc (.Name c' pc)).map Hx.isi = some ir from h)
    exact one e1 hd
  | _ => cases h

/-- what the suite's head knows -/
structure SuC (N : List Str) (X : Cx) (i : Nat) (n : Str) (cls : Value) (d : Option Addr) (oe : Obj) : Prop where
  hz : Zc cls d oe
  hf : ∃ vs, oe.data = .fields vs
  hi : X.N[i]? = some n
  hv : Vis X.env.scope n
  h1 : (n == ("__debug__" : Str)) = false
  h2 : (n == ("__classdict__" : Str)) = false
theorem cmpH {Y : Cx} (hu : Y.A.units + 66 < cLine) {o : CmpOp} {u u2 : V} {v w : PyData} {k : Bool} {H : Hp} {Q : VK} (e : cmpD o v w = some k) (r : Rp Y.K H u v) (r2 : Rp Y.K H u2 w) (q : Q (.bl k) H) : rMax2 Y (compareOp o) u u2 H Q :=
  cmpD_ok hu e u u2 H Q r.dp.1 r2.dp.1 r.dp.2 r2.dp.2 q
theorem what_ok (G : Good T C N sc fc W X) (S : SuC N X i n cls d oe) {p pos : Pos} : PE (X.suite a ((a, oe) :: pn)) (.Attribute (.Name n p) "what" pos) (tH X.K X.mg i a cls d x (hden T.par x .what)) := by
  refine PE.by fun pins s₀ σ H Q I q => ?_
  obtain ⟨g, s, F, v, hK, hmg, w, hs, xr, hd, q⟩ := q
  have hd : (if (T.par.lookup x.cls).isSome = true then x.fs.lookup (Str.ofString "what") else none) = some v := hd
  split at hd
  · rename_i hp
    obtain ⟨l, hl⟩ := Option.isSome_iff_exists.mp hp
    obtain ⟨D, FD⟩ := G.exw.cls _ l hl
    have ec := xr.cls (by rw [hmg]; exact FD.at_)
    obtain ⟨C', h1, h2, h3⟩ := xr
    rcases h3 with h3 | ⟨dd, vs, h4, h5, h6, h7⟩
    · rw [h3.1] at hd; cases hd
    · obtain ⟨u, e1, r1⟩ := lookup_zip h6 h7 hd
      exact ⟨_, pe_xf FD.xf FD.noW S.hz S.hf (pe_var S.hi S.hv S.h1 S.h2), .ref a, hs, rfl, ec, dd, vs, u, h4, w.sub _ _ h5, e1, q F H u w (Same.refl _) r1⟩
  · cases hd
def OkX (T : Tb) (N : List Str) (sc : Scope) (X : Cx) (i : Nat) (n : Str) (a : Addr) (cls : Value) (d : Option Addr) (oe : Obj) (pn : List (Addr × Obj)) (x : Exn) (k : Nat) : Prop :=
  ∀ e ir, trHx T N sc n k e = some ir → PE (X.suite a ((a, oe) :: pn)) e (tH X.K X.mg i a cls d x (hden T.par x ir)) ∧ PT (X.suite a ((a, oe) :: pn)) e (tHT X.K X.mg i a cls d x (hden T.par x ir))
def OkO2 (T : Tb) (N : List Str) (sc : Scope) (X : Cx) (i : Nat) (n : Str) (a : Addr) (cls : Value) (d : Option Addr) (oe : Obj) (pn : List (Addr × Obj)) (x : Exn) (k : Nat) : Prop :=
  ∀ o es ir pos, trHo T N sc n k o es = some ir → PE (X.suite a ((a, oe) :: pn)) (.BoolOp o es pos) (tH X.K X.mg i a cls d x (hden T.par x ir)) ∧ PW (X.suite a ((a, oe) :: pn)) (.BoolOp o es pos) (tHT X.K X.mg i a cls d x (hden T.par x ir))
theorem hpt {Y : Cx} {e : Expr} {f : Stt → Option PyData} (hY : Y.K = X.K) (h : PE Y e (tH X.K X.mg i a cls d x f)) (he : ∀ whole, isTrue e Y.env whole = (do let v ← whole; standAt e.pos; holding [v] (truthy v))) : PT Y e (tHT X.K X.mg i a cls d x f) := by
  refine PT.by fun pins s₀ σ H Q I q => ⟨_, pt_truth h he, ?_⟩
  obtain ⟨g, s, F, v, k, hK, hmg, w, hs, xr, hd, ht, q⟩ := q
  exact ⟨g, s, F, v, hK, hmg, w, hs, xr, hd, fun F' H' u w' m' r' => ⟨k, truD_ok (by rw [hY, ← hK]; exact r'.mono w'.sub) ht, q F' H' w' m'⟩⟩
theorem passesAt_no {Y : Cx} {σ : L2.St} : PassesAt (L2.CX Y.prog Y.w) Y σ (fun _ _ _ => False) := fun pins H s e s' I h => by
  obtain ⟨_, _, _, _, _, _, _, _, _, _, _, _, f⟩ := h
  exact f.elim
theorem hx_same (G : Good T C N sc fc W X) (hs : T.same = true) (hg : isGl sc "_law_same" = true) {a0 b0 : Expr} (s1 : noStar a0 = true) (s2 : noStar b0 = true) {a' b' : Hx} {p pos : Pos} (h1 : PE (X.suite a ((a, oe) :: pn)) a0 (tH X.K X.mg i a cls d x (hden T.par x a'))) (h2 : PE (X.suite a ((a, oe) :: pn)) b0 (tH X.K X.mg i a cls d x (hden T.par x b'))) :
    PE (X.suite a ((a, oe) :: pn)) (.Call (.Name "_law_same" p) [a0, b0] [] pos) (tH X.K X.mg i a cls d x (hden T.par x (.same a' b'))) := by
  obtain ⟨f, fd, k, m1, m2, m3, m4, m5⟩ := G.same hs
  have hst : starEach [a0, b0] (X.suite a ((a, oe) :: pn)).env = (false, eval a0 (X.suite a ((a, oe) :: pn)).env) :: starEach [b0] (X.suite a ((a, oe) :: pn)).env := star1 s1
  refine PE.by fun pins s₀ σ H Q I q => ⟨_, pe_callC (X := X.suite a ((a, oe) :: pn)) (E := fun _ _ _ _ => False) m4 ⟨m5.dp, m5.un⟩ (glS_ok G hg) m1 m2 m3 (fun σ => passesAt_no) (pa_cons h1 (pa_cons h2 pa_nil (star1 s2)) hst) (by decide +kernel) hst (by rw [star1 s2]; rfl), ?_⟩
  obtain ⟨g, s, F, v, hK, hmg, w, hs, xr, hd, q⟩ := q
  obtain ⟨v1, e1, hd⟩ := Option.bind_eq_some_iff.mp (show ((hden T.par x a' s).bind fun v => (hden T.par x b' s).bind fun w => sameD v w) = some v from hd)
  obtain ⟨v2, e2, hd⟩ := Option.bind_eq_some_iff.mp hd
  refine ⟨g, s, F, v1, hK, hmg, w, hs, xr, e1, fun F1 H1 u1 w1 n1 r1 => ⟨g, s, F1, v2, hK, hmg, w1, hs, xr.mono n1, e2, fun F2 H2 u2 w2 n2 r2 => ?_⟩⟩
  unfold sameD at hd
  split at hd
  · cases hd
    cases r1 with
    | str o1 =>
      cases r2 with
      | str o2 => exact ⟨_, _, rfl, o1, o2, q F2 H2 _ w2 (n1.trans n2) (.bl _)⟩
  · cases hd
theorem hx_step (G : Good T C N sc fc W X) (S : SuC N X i n cls d oe) {k : Nat} (hX : OkX T N sc X i n a cls d oe pn x k) (hO : OkO2 T N sc X i n a cls d oe pn x k) : OkX T N sc X i n a cls d oe pn x (k + 1) := by
  intro e ir h
  have fin : ∀ {f : Stt → Option PyData}, PE (X.suite a ((a, oe) :: pn)) e (tH X.K X.mg i a cls d x f) → (∀ whole, isTrue e X.env whole = (do let v ← whole; standAt e.pos; holding [v] (truthy v))) → PE (X.suite a ((a, oe) :: pn)) e (tH X.K X.mg i a cls d x f) ∧ PT (X.suite a ((a, oe) :: pn)) e (tHT X.K X.mg i a cls d x f) := fun p he => ⟨p, hpt rfl p he⟩
  cases e with
  | Constant c j pos =>
    obtain ⟨v, e1, rfl⟩ := Option.map_eq_some_iff.mp (show (trC c).map Hx.c = some ir from h)
    refine fin ?_ fun _ => rfl
    refine PE.by fun pins s₀ σ H Q I q => ?_
    obtain ⟨g, s, F, v', hK, hmg, w, hs, xr, hd, q⟩ := q
    cases hd
    refine ⟨_, trC_ok (W := fun _ _ _ _ => False) e1, g, s, F, hK, hmg, w, ?_⟩
    exact fun F' H' w' m' u r' => q F' H' u w' m' r'
  | Name y pos =>
    obtain ⟨j, e1, rfl⟩ := Option.map_eq_some_iff.mp (show (slotOf N sc y).map Hx.var = some ir from h)
    refine fin ?_ fun _ => rfl
    obtain ⟨h1, h2, h3, h4⟩ := slotOf_ok G e1
    refine PE.by fun pins s₀ σ H Q I q => ⟨_, pe_var (X := X.suite a ((a, oe) :: pn)) (i := j) h1 h2 h3 h4, ?_⟩
    obtain ⟨g, s, F, v', hK, hmg, w, hs, xr, hd, q⟩ := q
    have hd : (match s.ρ[j]? with
      | some (some (.dat d)) => some d
      | _ => none) = some v' := hd
    split at hd
    · rename_i e2
      cases hd
      obtain ⟨u, e3, r⟩ := w.slots j _ e2
      exact ⟨u, e3, q F H u w (Same.refl _) r⟩
    · cases hd
  | Attribute e f pos =>
    cases e with
    | Name y p =>
      have h : (if y = n ∧ f = "what" then some Hx.what else none) = some ir := h
      split at h
      · rename_i hc
        cases h
        obtain ⟨rfl, rfl⟩ := hc
        exact fin (what_ok G S) fun _ => rfl
      · cases h
    | _ => cases h
  | Call f es kws pos =>
    match f, es, kws, h with
    | .Name y p, [a0, b], [], h =>
      have h' : (if y = "isinstance" then (match (generalizing := false) a0 with
        | .Name x _ => if x = n ∧ (isGl sc y && (T.fns.lookup y).isNone) = true then trIsx T sc b else none
        | _ => none)
        else if y = "_law_same" ∧ (T.same && isGl sc y && noStar a0 && noStar b) = true then (trHx T N sc n k a0).bind fun a => (trHx T N sc n k b).map fun b => Hx.same a b else none) = some ir := h
      split at h'
      · rename_i hy
        subst hy
        split at h'
        · rename_i z pz
          split at h'
          · rename_i hc
            obtain ⟨rfl, hg⟩ := hc
            simp only [Bool.and_eq_true, Option.isNone_iff_eq_none] at hg
            exact fin (hx_isi G S.hz S.hf S.hi S.hv S.h1 S.h2 hg.1 hg.2 h') fun _ => rfl
          · cases h'
        · cases h'
      · split at h'
        · rename_i hc
          obtain ⟨rfl, hc⟩ := hc
          simp only [Bool.and_eq_true] at hc
          obtain ⟨⟨⟨c1, c2⟩, c3⟩, c4⟩ := hc
          obtain ⟨a', e1, h'⟩ := Option.bind_eq_some_iff.mp h'
          obtain ⟨b', e2, rfl⟩ := Option.map_eq_some_iff.mp h'
          exact fin (hx_same G c1 c2 c3 c4 (hX a0 a' e1).1 (hX b b' e2).1) fun _ => rfl
        · cases h'
  | UnaryOp o e pos =>
    cases o with
    | Not =>
      obtain ⟨b, e1, rfl⟩ := Option.map_eq_some_iff.mp (show (trHx T N sc n k e).map Hx.not = some ir from h)
      obtain ⟨h1, h2⟩ := hX e b e1
      constructor
      · refine PE.by fun pins s₀ σ H Q I q => ⟨_, pe_notT h1, ?_⟩
        obtain ⟨g, s, F, v', hK, hmg, w, hs, xr, hd, q⟩ := q
        obtain ⟨v, e2, hd⟩ := Option.bind_eq_some_iff.mp (show ((hden T.par x b s).bind fun v => (truD v).map fun k => PyData.bool (!k)) = some v' from hd)
        obtain ⟨k', e3, rfl⟩ := Option.map_eq_some_iff.mp hd
        exact ⟨g, s, F, v, hK, hmg, w, hs, xr, e2, fun F' H' u w' m' r' => ⟨k', truD_ok (by show Rp X.K H' u v; rw [← hK]; exact r'.mono w'.sub) e3, q F' H' _ w' m' (.bl _)⟩⟩
      · refine PT.by fun pins s₀ σ H Q I q => ⟨_, pt_not h2, ?_⟩
        obtain ⟨g, s, F, v', k', hK, hmg, w, hs, xr, hd, ht, q⟩ := q
        obtain ⟨v, e2, hd⟩ := Option.bind_eq_some_iff.mp (show ((hden T.par x b s).bind fun v => (truD v).map fun k => PyData.bool (!k)) = some v' from hd)
        obtain ⟨k2, e3, rfl⟩ := Option.map_eq_some_iff.mp hd
        cases ht
        exact ⟨g, s, F, v, k2, hK, hmg, w, hs, xr, e2, e3, fun F' H' w' m' => q F' H' w' m'⟩
    | _ => cases h
  | Compare a0 os bs pos =>
    match os, bs, h with
    | [o], [b0], h =>
      have h : (if behindInMarks o b0 = false then (trHx T N sc n k a0).bind fun a => (trHx T N sc n k b0).map fun b => Hx.cmp o a b else none) = some ir := h
      split at h
      · rename_i hm
        obtain ⟨a', e1, h⟩ := Option.bind_eq_some_iff.mp h
        obtain ⟨b', e2, rfl⟩ := Option.map_eq_some_iff.mp h
        obtain ⟨h1, _⟩ := hX a0 a' e1
        obtain ⟨h3, _⟩ := hX b0 b' e2
        have run : ∀ {g : Gh} {s : Stt} {F : Hp} {σ : L2.St} {H : Hp} {Q : VK} {k' : Bool} {v w0 : PyData}, g.K = X.K → g.mg = X.mg → Wf g s σ F H → σ[i]? = some (some (.ref a)) → XRep g F x cls d → hden T.par x a' s = some v → hden T.par x b' s = some w0 → cmpD o v w0 = some k' →
            (∀ F' H', Wf g s σ F' H' → Same F F' → Q (.bl k') H') → tOp (rMax2 (X.suite a ((a, oe) :: pn)) (compareOp o)) (tH X.K X.mg i a cls d x (hden T.par x a')) (tH X.K X.mg i a cls d x (hden T.par x b')) σ H Q := fun {g s F σ H Q k' v w0} hK hmg w hs xr e3 e4 e5 q =>
          ⟨g, s, F, v, hK, hmg, w, hs, xr, e3, fun F1 H1 u1 w1 m1 r1 => ⟨g, s, F1, w0, hK, hmg, w1, hs, xr.mono m1, e4, fun F2 H2 u2 w2 m2 r2 => by
            refine cmpH (Y := X.suite a ((a, oe) :: pn)) G.hu e5 ?_ ?_ (q F2 H2 w2 (m1.trans m2))
            · show Rp X.K H2 u1 v
              rw [← hK]; exact (r1.mono m2).mono w2.sub
            · show Rp X.K H2 u2 w0
              rw [← hK]; exact r2.mono w2.sub⟩⟩
        constructor
        · refine PE.by fun pins s₀ σ H Q I q => ⟨_, pe_cmpR rMax2_ok h1 h3 hm, ?_⟩
          obtain ⟨g, s, F, v', hK, hmg, w, hs, xr, hd, q⟩ := q
          obtain ⟨v, e3, hd⟩ := Option.bind_eq_some_iff.mp (show ((hden T.par x a' s).bind fun v => (hden T.par x b' s).bind fun w => (cmpD o v w).map .bool) = some v' from hd)
          obtain ⟨w0, e4, hd⟩ := Option.bind_eq_some_iff.mp hd
          obtain ⟨k', e5, rfl⟩ := Option.map_eq_some_iff.mp hd
          exact run hK hmg w hs xr e3 e4 e5 fun F' H' w' m' => q F' H' _ w' m' (.bl _)
        · refine PT.by fun pins s₀ σ H Q I q => ⟨_, pt_cmpR rMax2_ok h1 h3 hm, ?_⟩
          obtain ⟨g, s, F, v', kk, hK, hmg, w, hs, xr, hd, ht, q⟩ := q
          obtain ⟨v, e3, hd⟩ := Option.bind_eq_some_iff.mp (show ((hden T.par x a' s).bind fun v => (hden T.par x b' s).bind fun w => (cmpD o v w).map .bool) = some v' from hd)
          obtain ⟨w0, e4, hd⟩ := Option.bind_eq_some_iff.mp hd
          obtain ⟨k', e5, rfl⟩ := Option.map_eq_some_iff.mp hd
          cases ht
          exact run hK hmg w hs xr e3 e4 e5 fun F' H' w' m' => ⟨_, rfl, q F' H' w' m'⟩
      · cases h
  | BoolOp o es pos =>
    obtain ⟨h1, h2⟩ := hO o es ir pos h
    exact ⟨h1, h2.pt⟩
  | _ => cases h
theorem ho_step (G : Good T C N sc fc W X) (S : SuC N X i n cls d oe) {k : Nat} (hX : OkX T N sc X i n a cls d oe pn x k) (hO : OkO2 T N sc X i n a cls d oe pn x k) : OkO2 T N sc X i n a cls d oe pn x (k + 1) := by
  intro o es ir pos h
  match es, h with
  | [], h => cases h
  | [e], h =>
    obtain ⟨h1, h2⟩ := hX e ir h
    refine ⟨pe_one h1, ?_⟩
    cases o with
    | And => exact pw_and1 h2
    | Or => exact pw_or1 h2
  | e :: e2 :: r, h =>
    obtain ⟨a', e1, h⟩ := Option.bind_eq_some_iff.mp (show ((trHx T N sc n k e).bind fun a => (trHo T N sc n k o (e2 :: r)).map fun b => hboEx a b o) = some ir from h)
    obtain ⟨b', e3, rfl⟩ := Option.map_eq_some_iff.mp h
    obtain ⟨h1, h2⟩ := hX e a' e1
    obtain ⟨h3, h4⟩ := hO o (e2 :: r) b' pos e3
    cases o with
    | And =>
      constructor
      · refine PE.by fun pins s₀ σ H Q I q => ⟨_, pe_andT h1 h3, ?_⟩
        obtain ⟨g, s, F, v', hK, hmg, w, hs, xr, hd, q⟩ := q
        obtain ⟨v, e4, hd⟩ := Option.bind_eq_some_iff.mp (show ((hden T.par x a' s).bind fun v => (truD v).bind fun k => if k = true then hden T.par x b' s else some v) = some v' from hd)
        obtain ⟨k', e5, hd⟩ := Option.bind_eq_some_iff.mp hd
        refine ⟨g, s, F, v, hK, hmg, w, hs, xr, e4, fun F1 H1 u1 w1 m1 r1 => ⟨k', truD_ok (by show Rp X.K H1 u1 v; rw [← hK]; exact r1.mono w1.sub) e5, ?_⟩⟩
        cases k' with
        | true => exact ⟨g, s, F1, v', hK, hmg, w1, hs, xr.mono m1, hd, fun F2 H2 u2 w2 m2 r2 => q F2 H2 u2 w2 (m1.trans m2) r2⟩
        | false => cases hd; exact q F1 H1 u1 w1 m1 r1
      · refine PW.by fun pins s₀ σ H Q I q => ⟨_, pw_and h2 h4, ?_⟩
        obtain ⟨g, s, F, v', kk, hK, hmg, w, hs, xr, hd, ht, q⟩ := q
        obtain ⟨v, e4, hd⟩ := Option.bind_eq_some_iff.mp (show ((hden T.par x a' s).bind fun v => (truD v).bind fun k => if k = true then hden T.par x b' s else some v) = some v' from hd)
        obtain ⟨k', e5, hd⟩ := Option.bind_eq_some_iff.mp hd
        refine ⟨g, s, F, v, k', hK, hmg, w, hs, xr, e4, e5, fun F1 H1 w1 m1 => ?_⟩
        cases k' with
        | true => exact ⟨g, s, F1, v', kk, hK, hmg, w1, hs, xr.mono m1, hd, ht, fun F2 H2 w2 m2 => q F2 H2 w2 (m1.trans m2)⟩
        | false =>
          cases hd
          rw [e5] at ht
          cases ht
          exact q F1 H1 w1 m1
    | Or =>
      constructor
      · refine PE.by fun pins s₀ σ H Q I q => ⟨_, pe_orT h1 h3, ?_⟩
        obtain ⟨g, s, F, v', hK, hmg, w, hs, xr, hd, q⟩ := q
        obtain ⟨v, e4, hd⟩ := Option.bind_eq_some_iff.mp (show ((hden T.par x a' s).bind fun v => (truD v).bind fun k => if k = true then some v else hden T.par x b' s) = some v' from hd)
        obtain ⟨k', e5, hd⟩ := Option.bind_eq_some_iff.mp hd
        refine ⟨g, s, F, v, hK, hmg, w, hs, xr, e4, fun F1 H1 u1 w1 m1 r1 => ⟨k', truD_ok (by show Rp X.K H1 u1 v; rw [← hK]; exact r1.mono w1.sub) e5, ?_⟩⟩
        cases k' with
        | false => exact ⟨g, s, F1, v', hK, hmg, w1, hs, xr.mono m1, hd, fun F2 H2 u2 w2 m2 r2 => q F2 H2 u2 w2 (m1.trans m2) r2⟩
        | true => cases hd; exact q F1 H1 u1 w1 m1 r1
      · refine PW.by fun pins s₀ σ H Q I q => ⟨_, pw_or h2 h4, ?_⟩
        obtain ⟨g, s, F, v', kk, hK, hmg, w, hs, xr, hd, ht, q⟩ := q
        obtain ⟨v, e4, hd⟩ := Option.bind_eq_some_iff.mp (show ((hden T.par x a' s).bind fun v => (truD v).bind fun k => if k = true then some v else hden T.par x b' s) = some v' from hd)
        obtain ⟨k', e5, hd⟩ := Option.bind_eq_some_iff.mp hd
        refine ⟨g, s, F, v, k', hK, hmg, w, hs, xr, e4, e5, fun F1 H1 w1 m1 => ?_⟩
        cases k' with
        | false => exact ⟨g, s, F1, v', kk, hK, hmg, w1, hs, xr.mono m1, hd, ht, fun F2 H2 w2 m2 => q F2 H2 w2 (m1.trans m2)⟩
        | true =>
          cases hd
          rw [e5] at ht
          cases ht
          exact q F1 H1 w1 m1
theorem hx_all (G : Good T C N sc fc W X) (S : SuC N X i n cls d oe) : ∀ k, OkX T N sc X i n a cls d oe pn x k ∧ OkO2 T N sc X i n a cls d oe pn x k
  | 0 => ⟨(fun _ _ h => by cases h), (fun _ _ _ _ h => by cases h)⟩
  | k + 1 => ⟨hx_step G S (hx_all G S k).1 (hx_all G S k).2, ho_step G S (hx_all G S k).1 (hx_all G S k).2⟩
theorem hl_ok (G : Good T C N sc fc W X) (S : SuC N X i n cls d oe) (k : Nat) : ∀ {es : List Expr} {irs : List Hx}, trHl T N sc n k es = some irs → PA (X.suite a ((a, oe) :: pn)) es (tHL X.K X.mg i a cls d x (hdens T.par x irs))
  | [], irs, h => by
    cases h
    refine PA.by fun pins s₀ σ H Q I q => ⟨_, pa_nil, ?_⟩
    obtain ⟨g, s, F, vs, hK, hmg, w, hs, xr, hd, q⟩ := q
    cases hd
    exact q F H [] w (Same.refl _) .nil
  | e :: es, irs, h => by
    have h : (if noStar e = true then (trHx T N sc n k e).bind fun a => (trHl T N sc n k es).map (a :: ·) else none) = some irs := h
    split at h
    · rename_i hs
      obtain ⟨a', e1, h⟩ := Option.bind_eq_some_iff.mp h
      obtain ⟨b', e2, rfl⟩ := Option.map_eq_some_iff.mp h
      have h1 := ((hx_all (a := a) (pn := pn) (x := x) G S k).1 e a' e1).1
      have h2 := hl_ok G S k e2
      refine PA.by fun pins s₀ σ H Q I q => ⟨_, pa_cons h1 h2 (star1 hs), ?_⟩
      obtain ⟨g, s, F, vs, hK, hmg, w, hs, xr, hd, q⟩ := q
      obtain ⟨v, e3, hd⟩ := Option.bind_eq_some_iff.mp (show ((hden T.par x a' s).bind fun v => (hdens T.par x b' s).map (v :: ·)) = some vs from hd)
      obtain ⟨ws, e4, rfl⟩ := Option.map_eq_some_iff.mp hd
      exact ⟨g, s, F, v, hK, hmg, w, hs, xr, e3, fun F1 H1 u1 w1 m1 r1 => ⟨g, s, F1, ws, hK, hmg, w1, hs, xr.mono m1, e4, fun F2 H2 us w2 m2 r2 => q F2 H2 _ w2 (m1.trans m2) (.cons (r1.mono m2) r2)⟩⟩
    · cases h
end
end Ev

namespace Ev
open PySem PySem.Spec PyProof.Rows L2
def noComp : Expr → Bool
  | .ListComp .. => false
  | .SetComp .. => false
  | .DictComp .. => false
  | _ => true
def noTup : Expr → Bool
  | .Tuple .. => false
  | _ => true
theorem swaps_no {e : Expr} (h : noComp e = true) (t : Option Expr) (l : Nat) (env : PySem.Env) : swapsWith e t l env = pure false := by
  cases e <;> first | rfl | cases h
def PostH (g : Gh) (F : Hp) (i : Nat) (a : Addr) (r : SR) (D : Ends) : Prop :=
  match r with
  | .nx s => ∀ σ' F' H', Wf g s σ' F' H' → Same F F' → σ'[i]? = some (some (.ref a)) → D.nx σ' H'
  | .rt v s => ∀ σ' F' H' u, Wf g s σ' F' H' → Same F F' → VRep g s σ' F' H' u v → D.rt u H'
  | _ => False
def tHS (K : PySem.W.Frag) (mg : Str → Option Value) (i : Nat) (a : Addr) (cls : Value) (d : Option Addr) (x : Exn) (f : Ds) : TS := fun D σ H => ∃ g s F, g.K = K ∧ g.mg = mg ∧ Wf g s σ F H ∧ σ[i]? = some (some (.ref a)) ∧ XRep g F x cls d ∧ PostH g F i a (f s) D
theorem PostH.mono {g : Gh} {F F' : Hp} {i : Nat} {a : Addr} {r : SR} {D : Ends} (e : Same F F') (p : PostH g F i a r D) : PostH g F' i a r D := by
  cases r with
  | nx s => exact fun σ' F1 H1 w m => p σ' F1 H1 w (e.trans m)
  | rt v s => exact fun σ' F1 H1 u w m => p σ' F1 H1 u w (e.trans m)
  | bk s => exact p
  | ct s => exact p
  | exc x s => exact p
  | bad => exact p
theorem hx_noComp {T : Tb} {N : List Str} {sc : Scope} {n : Str} {k : Nat} {e : Expr} {ir : Hx} (h : trHx T N sc n k e = some ir) : noComp e = true := by
  cases k with
  | zero => cases h
  | succ k => cases e <;> first | rfl | cases h
section
variable {T : Tb} {C : Nat → Fn} {N : List Str} {sc : Scope} {W : WX} {X : Cx} {i : Nat} {a : Addr} {oe : Obj} {cls : Value} {d : Option Addr} {pn : List (Addr × Obj)} {x : Exn} {n : Str}
def OkHs (T : Tb) (N : List Str) (sc : Scope) (X : Cx) (i : Nat) (n : Str) (a : Addr) (cls : Value) (d : Option Addr) (oe : Obj) (pn : List (Addr × Obj)) (x : Exn) (k : Nat) : Prop :=
  ∀ st ir, trHs T N sc n k st = some ir → PS (X.suite a ((a, oe) :: pn)) st (tHS X.K X.mg i a cls d x (denHs T.par x ir))
def OkHb (T : Tb) (N : List Str) (sc : Scope) (X : Cx) (i : Nat) (n : Str) (a : Addr) (cls : Value) (d : Option Addr) (oe : Obj) (pn : List (Addr × Obj)) (x : Exn) (k : Nat) : Prop :=
  ∀ b ir, trHb T N sc n k b = some ir → PSs (X.suite a ((a, oe) :: pn)) b (tHS X.K X.mg i a cls d x (denHb T.par x ir))
theorem hs_loc {y : Str} {j : Nat} (G : Good T C N sc (fun _ => true) W X) (S : SuC N X i n cls d oe) (hc : (storedF sc (fun _ => true) y && plainN y && decide (y ≠ n)) = true) (h : ixOf N y = some j) : X.N.Nodup ∧ X.N[j]? = some y ∧ L2.Loc X.env.scope y ∧ (X.fn y = true ∨ X.env.scope.names.lookup y = some .local) ∧ j ≠ i := by
  simp only [Bool.and_eq_true, decide_eq_true_eq] at hc
  obtain ⟨⟨h1, h2⟩, h3⟩ := hc
  obtain ⟨h4, h5⟩ := storedF_ok G h1
  have h6 : X.N[j]? = some y := by rw [G.hN]; exact ixOf_get h
  refine ⟨by rw [G.hN]; exact G.nd, h6, h4, h5, ?_⟩
  rintro rfl
  have := S.hi
  rw [h6] at this
  exact h3 (Option.some.inj this)
theorem keep_i {j : Nat} {σ : L2.St} {u : V} (hj : j ≠ i) (h : σ[i]? = some (some (V.ref a))) : (σ.set j (some u))[i]? = some (some (.ref a)) := by
  rw [List.getElem?_set_ne hj]; exact h
theorem hs_step (G : Good T C N sc (fun _ => true) W X) (S : SuC N X i n cls d oe) {k : Nat} (hB : OkHb T N sc X i n a cls d oe pn x k) : OkHs T N sc X i n a cls d oe pn x (k + 1) := by
  intro st ir h
  have A := fun e ir h => (hx_all (a := a) (pn := pn) (x := x) G S k).1 e ir h
  have setE : ∀ {e : Expr} {e' : Hx} {y : Str} {py pos : Pos} {j : Nat}, (storedF sc (fun _ => true) y && plainN y && decide (y ≠ n)) = true → ixOf N y = some j → trHx T N sc n k e = some e' → PS (X.suite a ((a, oe) :: pn)) (.Assign [.Name y py] e pos) (tHS X.K X.mg i a cls d x (denHs T.par x (.set j e'))) := fun {e e' y py pos j} hc e0 e1 => by
    obtain ⟨h1, h2, h3, h4, h5⟩ := hs_loc G S hc e0
    refine PS.by fun pins s₀ σ H D I q => ⟨_, ps_set (X := X.suite a ((a, oe) :: pn)) (i := j) h1 h2 h3 (A e e' e1).1 (swaps_no (hx_noComp e1) _ _ _) h4, ?_⟩
    obtain ⟨g, s, F, hK, hmg, w, hs, xr, p⟩ := q
    have hl : j < σ.length := by rw [I.len]; exact (List.getElem?_eq_some_iff.mp h2).1
    have p : PostH g F i a (match hden T.par x e' s with
      | some v => .nx ⟨s.ρ.set j (some (.dat v)), s.S⟩
      | none => .bad) D := p
    split at p
    · rename_i v e2
      exact ⟨g, s, F, v, hK, hmg, w, hs, xr, e2, fun F1 H1 u1 w1 m1 r1 => p _ F1 H1 (w1.store (v := .dat v) hl r1 fun _ z => nomatch z) m1 (keep_i h5 hs)⟩
    · exact p.elim
  have retE : ∀ {e : Expr} {e' : Hx} {pos : Pos}, trHx T N sc n k e = some e' → PS (X.suite a ((a, oe) :: pn)) (.Return (some e) pos) (tHS X.K X.mg i a cls d x (denHs T.par x (.ret e'))) := fun {e e' pos} e1 => by
    refine PS.by fun pins s₀ σ H D I q => ⟨_, ps_ret (A e e' e1).1, ?_⟩
    obtain ⟨g, s, F, hK, hmg, w, hs, xr, p⟩ := q
    have p : PostH g F i a (match hden T.par x e' s with
      | some v => .rt (.dat v) s
      | none => .bad) D := p
    split at p
    · rename_i v e2
      exact ⟨g, s, F, v, hK, hmg, w, hs, xr, e2, fun F1 H1 u1 w1 m1 r1 => p σ F1 H1 u1 w1 m1 r1⟩
    · exact p.elim
  cases st with
  | Return e pos =>
    cases e with
    | none => cases h
    | some e =>
      by_cases hl : ∃ es p, e = .List es p
      · obtain ⟨es, pl, rfl⟩ := hl
        obtain ⟨es', e1, rfl⟩ := Option.map_eq_some_iff.mp (show (trHl T N sc n k es).map Hs.retL = some ir from h)
        refine PS.by fun pins s₀ σ H D I q => ⟨_, ps_ret (pe_lst (hl_ok (a := a) (oe := oe) (pn := pn) (x := x) G S k e1)), ?_⟩
        obtain ⟨g, s, F, hK, hmg, w, hs, xr, p⟩ := q
        have p : PostH g F i a (match hdens T.par x es' s with
          | some ds => if ds.length ≤ 16777216 then .rt (.own ds) s else .bad
          | none => .bad) D := p
        split at p
        · rename_i ds e2
          split at p
          · rename_i hz
            refine ⟨g, s, F, ds, hK, hmg, w, hs, xr, e2, fun F1 H1 us w1 m1 r1 => ⟨by rw [r1.length, sizeLine_eq]; exact hz, fun q nq => ?_⟩⟩
            obtain ⟨w2, r2⟩ := w1.own_new nq (by rw [r1.length, sizeLine_eq]; exact hz) r1
            exact p σ F1 _ _ w2 m1 r2
          · exact p.elim
        · exact p.elim
      · have h : (trHx T N sc n k e).map Hs.ret = some ir := by
          cases e <;> first | exact h | exact absurd ⟨_, _, rfl⟩ hl
        obtain ⟨e', e1, rfl⟩ := Option.map_eq_some_iff.mp h
        exact retE e1
  | Assign ts e pos =>
    match ts, h with
    | [.Name y py], h =>
      by_cases hl : ∃ es p, e = .List es p
      · obtain ⟨es, pl, rfl⟩ := hl
        have h' : (if (storedF sc (fun _ => true) y && plainN y && decide (y ≠ n)) = true then (ixOf N y).bind fun i => (trHl T N sc n k es).map fun es => Hs.setL i es else none) = some ir := h
        split at h'
        · rename_i hc
          obtain ⟨j, e0, h'⟩ := Option.bind_eq_some_iff.mp h'
          obtain ⟨es', e1, rfl⟩ := Option.map_eq_some_iff.mp h'
          obtain ⟨h1, h2, h3, h4, h5⟩ := hs_loc G S hc e0
          refine PS.by fun pins s₀ σ H D I q => ⟨_, ps_set (X := X.suite a ((a, oe) :: pn)) (i := j) h1 h2 h3 (pe_lst (hl_ok (a := a) (oe := oe) (pn := pn) (x := x) G S k e1)) rfl h4, ?_⟩
          obtain ⟨g, s, F, hK, hmg, w, hs, xr, p⟩ := q
          have hl : j < σ.length := by rw [I.len]; exact (List.getElem?_eq_some_iff.mp h2).1
          have p : PostH g F i a (match hdens T.par x es' s with
            | some ds => if ds.length ≤ 16777216 then .nx ⟨s.ρ.set j (some (.own ds)), s.S⟩ else .bad
            | none => .bad) D := p
          split at p
          · rename_i ds e2
            split at p
            · rename_i hz
              refine ⟨g, s, F, ds, hK, hmg, w, hs, xr, e2, fun F1 H1 us w1 m1 r1 => ⟨by rw [r1.length, sizeLine_eq]; exact hz, fun q nq => ?_⟩⟩
              obtain ⟨w2, r2⟩ := w1.own_new nq (by rw [r1.length, sizeLine_eq]; exact hz) r1
              exact p _ F1 _ (w2.store hl r2 fun _ z => nomatch z) m1 (keep_i h5 hs)
            · exact p.elim
          · exact p.elim
        · cases h'
      · have h' : (if (storedF sc (fun _ => true) y && plainN y && decide (y ≠ n)) = true then (ixOf N y).bind fun i => (trHx T N sc n k e).map fun e => Hs.set i e else none) = some ir := by
          cases e <;> first | exact h | exact absurd ⟨_, _, rfl⟩ hl
        split at h'
        · rename_i hc
          obtain ⟨j, e0, h'⟩ := Option.bind_eq_some_iff.mp h'
          obtain ⟨e', e1, rfl⟩ := Option.map_eq_some_iff.mp h'
          exact setE hc e0 e1
        · cases h'
  | If c a0 b0 pos =>
    obtain ⟨c', e1, h⟩ := Option.bind_eq_some_iff.mp (show ((trHx T N sc n k c).bind fun c => (trHb T N sc n k a0).bind fun a => (trHb T N sc n k b0).map fun b => Hs.ifs c a b) = some ir from h)
    obtain ⟨a', e2, h⟩ := Option.bind_eq_some_iff.mp h
    obtain ⟨b', e3, rfl⟩ := Option.map_eq_some_iff.mp h
    refine PS.by fun pins s₀ σ H D I q => ⟨_, ps_if (A c c' e1).2 (hB a0 a' e2) (hB b0 b' e3), ?_⟩
    obtain ⟨g, s, F, hK, hmg, w, hs, xr, p⟩ := q
    have p : PostH g F i a ((match (hden T.par x c' s).bind truD with
      | some k => if k = true then denHb T.par x a' else denHb T.par x b'
      | none => fun _ => .bad) s) D := by
      have p : PostH g F i a (match (hden T.par x c' s).bind truD with
        | some k => if k = true then denHb T.par x a' s else denHb T.par x b' s
        | none => .bad) D := by
        have e : denHs T.par x (.ifs c' a' b') s = (match (hden T.par x c' s).bind truD with
          | some k => if k = true then denHb T.par x a' s else denHb T.par x b' s
          | none => .bad) := by rw [denHs]; try rfl
        rw [e] at p
        exact p
      cases e4 : (hden T.par x c' s).bind truD with
      | none => rw [e4] at p; exact p
      | some k' =>
        rw [e4] at p
        cases k' <;> exact p
    cases e4 : (hden T.par x c' s).bind truD with
    | none => rw [e4] at p; exact p.elim
    | some k' =>
      rw [e4] at p
      obtain ⟨v, e5, e6⟩ := Option.bind_eq_some_iff.mp e4
      refine ⟨g, s, F, v, k', hK, hmg, w, hs, xr, e5, e6, fun F1 H1 w1 m1 => ?_⟩
      cases k' with
      | true => exact ⟨g, s, F1, hK, hmg, w1, hs, xr.mono m1, PostH.mono m1 p⟩
      | false => exact ⟨g, s, F1, hK, hmg, w1, hs, xr.mono m1, PostH.mono m1 p⟩
  | _ => cases h
theorem hb_step {k : Nat} (hS : OkHs T N sc X i n a cls d oe pn x k) (hB : OkHb T N sc X i n a cls d oe pn x k) : OkHb T N sc X i n a cls d oe pn x (k + 1) := by
  intro b ir h
  cases b with
  | nil =>
    cases h
    refine PSs.by fun pins s₀ σ H D I q => ⟨_, pss_nil, ?_⟩
    obtain ⟨g, s, F, hK, hmg, w, hs, xr, p⟩ := q
    exact p σ F H w (Same.refl _) hs
  | cons st r =>
    obtain ⟨a', e1, h⟩ := Option.bind_eq_some_iff.mp (show ((trHs T N sc n k st).bind fun a => (trHb T N sc n k r).map (a :: ·)) = some ir from h)
    obtain ⟨b', e2, rfl⟩ := Option.map_eq_some_iff.mp h
    refine PSs.by fun pins s₀ σ H D I q => ⟨_, pss_cons (hS st a' e1) (hB r b' e2), ?_⟩
    obtain ⟨g, s, F, hK, hmg, w, hs, xr, p⟩ := q
    have p : PostH g F i a ((denHs T.par x a' s).seq (denHb T.par x b')) D := by
      have e : denHb T.par x (a' :: b') s = (denHs T.par x a' s).seq (denHb T.par x b') := by rw [denHb]; rfl
      rw [e] at p
      exact p
    refine ⟨g, s, F, hK, hmg, w, hs, xr, ?_⟩
    cases e3 : denHs T.par x a' s with
    | nx s1 =>
      rw [e3] at p
      exact fun σ' F' H' w' m' hs' => ⟨g, s1, F', hK, hmg, w', hs', xr.mono m', PostH.mono m' p⟩
    | rt v s1 => rw [e3] at p; exact p
    | bk s1 => rw [e3] at p; exact p.elim
    | ct s1 => rw [e3] at p; exact p.elim
    | exc y s1 => rw [e3] at p; exact p.elim
    | bad => rw [e3] at p; exact p.elim
theorem hb_all (G : Good T C N sc (fun _ => true) W X) (S : SuC N X i n cls d oe) : ∀ k, OkHs T N sc X i n a cls d oe pn x k ∧ OkHb T N sc X i n a cls d oe pn x k
  | 0 => ⟨(fun _ _ h => by cases h), (fun _ _ h => by cases h)⟩
  | k + 1 => ⟨hs_step G S (hb_all G S k).2, hb_step (hb_all G S k).1 (hb_all G S k).2⟩

end
theorem passes_no {X : Cx} : Passes (L2.CX X.prog X.w) X (fun _ _ _ => False) := fun pins σ H s e s' I h => by
  obtain ⟨_, _, _, _, _, _, _, _, _, _, _, _, f⟩ := h
  exact f.elim
/-! ## try: b, except c as n: h -/
theorem Wf.stash {g : Gh} {s : Stt} {σ : L2.St} {F H : Hp} (E : Wf g s σ F H) (i : Nat) (u : Option V) : Wf g ⟨s.ρ.set i none, s.S⟩ (σ.set i u) F H := by
  have key : ∀ (j : Nat) (v : Va), (s.ρ.set i none)[j]? = some (some v) → s.ρ[j]? = some (some v) ∧ j ≠ i := fun j v e => by
    by_cases hj : i = j
    · subst hj
      by_cases hl : i < s.ρ.length
      · rw [List.getElem?_set_self hl] at e; cases e
      · rw [List.getElem?_eq_none (by simpa using hl)] at e; cases e
    · rw [List.getElem?_set_ne hj] at e
      exact ⟨e, fun h => hj h.symm⟩
  have keyσ : ∀ (j : Nat), j ≠ i → (σ.set i u)[j]? = σ[j]? := fun j h => List.getElem?_set_ne h.symm
  refine ⟨by simpa using E.len, E.sub, E.ff, E.new, E.base, E.hpa, E.pot, fun j v e => ?_, fun i' j' xs ys a h1 h2 h3 h4 => ?_⟩
  · obtain ⟨e1, e2⟩ := key j v e
    rw [keyσ j e2]
    exact E.slots j v e1
  · obtain ⟨e1, e2⟩ := key _ _ h1
    obtain ⟨e3, e4⟩ := key _ _ h2
    rw [keyσ _ e2] at h3
    rw [keyσ _ e4] at h4
    exact E.sep i' j' xs ys a e1 e3 h3 h4
section
variable {T : Tb} {C : Nat → Fn} {N : List Str} {sc : Scope} {W : WX} {X : Cx} {n c : Str} {i : Nat}
structure GoodS (T : Tb) (C : Nat → Fn) (N : List Str) (sc : Scope) (W : WX) (X : Cx) : Prop where
  g : Good T C N sc (fun _ => true) W X
  hp : PassesOwn (model X.prog X.w) X.A X.env X.xe
  hs : X.stack = X.env :: X.outer
  hf : X.env.frame = some X.env.locals
theorem GoodS.tr (G : GoodS T C N sc W X) {W' : WX} {pn : List (Addr × Obj)} {xe : Value → Shared → Prop} (tk : Takes (X.tr pn xe) W') (hp : PassesOwn (model X.prog X.w) X.A X.env xe) : GoodS T C N sc W' (X.tr pn xe) :=
  ⟨⟨G.g.hN, G.g.nd, G.g.hsc, G.g.hfc, G.g.calm, G.g.hu, tk, G.g.fns, G.g.blt, G.g.cst, G.g.exw, G.g.exc, G.g.rm, G.g.same⟩, hp, G.hs, G.hf⟩
theorem ps_tri (G : GoodS T C N sc W X) {b : List Stmt} {bi : List Sx} {h0 : Stmt} {hs : List Stmt} {hi : List Hs} {k : Nat} {np pos' pos : Pos} (hb : ∀ (W' : WX) (pn : List (Addr × Obj)) (xe : Value → Shared → Prop), GoodS T C N sc W' (X.tr pn xe) → PSs (X.tr pn xe) b (tS X.K X.mg W' (denB C bi)))
    (hh : trHb T N sc n k (h0 :: hs) = some hi) (h1 : (isLoc sc n && plainN n && isGl sc c && plainN c && (T.par.lookup c).isSome) = true) (h2 : ixOf N n = some i) : PS X (.Try b [.ExceptHandler (some (.Name c np)) (some n) (h0 :: hs) pos'] [] [] pos) (tS X.K X.mg W (dTri T.par (denB C bi) c i hi)) := by
  simp only [Bool.and_eq_true] at h1
  obtain ⟨⟨⟨⟨h1, h3⟩, h4⟩, h5⟩, h6⟩ := h1
  obtain ⟨l, hl⟩ := Option.isSome_iff_exists.mp h6
  obtain ⟨D, FD⟩ := G.g.exw.cls c l hl
  have hN : X.N[i]? = some n := by rw [G.g.hN]; exact ixOf_get h2
  have hloc : X.env.scope.names.lookup n = some .local := by
    rw [G.g.hsc]
    unfold isLoc at h1
    split at h1
    · assumption
    · cases h1
  have hcd : (n == ("__classdict__" : Str)) = false := by
    unfold plainN at h3
    simp only [Bool.and_eq_true, Bool.not_eq_true'] at h3
    exact h3.1.2
  refine PS.by fun pins s₀ σ H D' I q => ⟨_, ps_try_as (i := i) (c := .ref D) (tb := fun W' => tS X.K X.mg W' (denB C bi)) (ts := fun a cls d D σ H => ∃ x, tHS X.K X.mg i a cls d x (denHb T.par x hi) D σ H) (Wout := W) G.hs G.hf (by rw [G.g.hN]; exact G.g.nd) hN hloc ⟨gl_ok G.g h4, plain_dbg h5, .inl FD.at_⟩ G.g.tk
    (fun W' pn xe tk hp => hb W' pn xe (G.tr tk hp)) (fun a oe cls d pn hz hf => PSs.by fun pins s σ H D I q => ?_), ?_⟩
  · obtain ⟨x, q⟩ := q
    exact ⟨_, (hb_all (a := a) (pn := pn) (x := x) G.g ⟨hz, hf, hN, .inl hloc, plain_dbg h3, hcd⟩ k).2 _ _ hh, q⟩
  · obtain ⟨g, s, F, hK, hmg, w, p⟩ := q
    refine ⟨g, s, F, hK, hmg, w, ?_⟩
    have p : PostS g W F (match denB C bi s with
      | .exc x s1 => (match isSub T.par x.cls c with
        | some true => if i < s1.ρ.length then (denHb T.par x hi ⟨s1.ρ.set i none, s1.S⟩).gone i else .bad
        | some false => .exc x s1
        | none => .bad)
      | r => r) D' := p
    cases e : denB C bi s with
    | nx s1 => rw [e] at p; exact p
    | rt v s1 => rw [e] at p; exact p
    | bk s1 => rw [e] at p; exact p
    | ct s1 => rw [e] at p; exact p
    | bad => rw [e] at p; exact p.elim
    | exc x s1 =>
      rw [e] at p
      have p : PostS g W F (match isSub T.par x.cls c with
        | some true => if i < s1.ρ.length then (denHb T.par x hi ⟨s1.ρ.set i none, s1.S⟩).gone i else .bad
        | some false => .exc x s1
        | none => .bad) D' := p
      cases e1 : isSub T.par x.cls c with
      | none => rw [e1] at p; exact p.elim
      | some k' =>
        rw [e1] at p
        intro σ' F' H' cls d w' m' xr
        have ec : ∃ C1, X.mg x.cls = some (.ref C1) ∧ cls = .ref C1 := by
          obtain ⟨C1, z1, z2, _⟩ := xr
          exact ⟨C1, by rw [← hmg]; exact z1, z2⟩
        obtain ⟨C1, z1, rfl⟩ := ec
        have hex : PySem.W.exmOne X.K (.ref C1) (.ref D) = some k' := by
          refine PySem.W.exm_ref FD.xf.exC FD.xf.hdC FD.ty ?_
          have hcv : c ≠ "ValueError" := by
            rintro rfl
            rw [G.g.exw.noV] at hl
            cases hl
          unfold isSub at e1
          split at e1
          · rename_i l1 hl1
            rw [if_neg hcv, hl] at e1
            cases e1
            exact G.g.exw.sub _ _ _ _ _ _ hl1 hl z1 FD.at_
          · cases e1
        refine ⟨k', hex, fun hk a ha => ?_, fun hk => ?_⟩
        · subst hk
          have p : PostS g W F (if i < s1.ρ.length then (denHb T.par x hi ⟨s1.ρ.set i none, s1.S⟩).gone i else .bad) D' := p
          split at p
          case isFalse => exact p.elim
          rename_i hlt
          rw [w'.len] at hlt
          refine ⟨x, g, ⟨s1.ρ.set i none, s1.S⟩, F', hK, hmg, w'.stash i _, List.getElem?_set_self hlt, xr, ?_⟩
          cases e2 : denHb T.par x hi ⟨s1.ρ.set i none, s1.S⟩ with
          | nx s2 =>
            rw [e2] at p
            exact fun σ2 F2 H2 w2 m2 _ => p _ F2 H2 (w2.stash i none) (m'.trans m2)
          | rt v s2 =>
            rw [e2] at p
            exact fun σ2 F2 H2 u w2 m2 r2 => p σ2 F2 H2 u w2 (m'.trans m2) r2
          | bk s2 => rw [e2] at p; exact p.elim
          | ct s2 => rw [e2] at p; exact p.elim
          | exc y s2 => rw [e2] at p; exact p.elim
          | bad => rw [e2] at p; exact p.elim
        · subst hk
          exact p σ' F' H' _ d w' m' xr
end
end Ev

namespace Ev
open PySem PySem.Spec PyProof.Rows L2
section
variable {T : Tb} {C : Nat → Fn} {N : List Str} {sc : Scope} {fc : Str → Bool} {W : WX} {X : Cx} {n : Nat}
theorem stepIfs (hE : OkE T C N n) : OkIfs T C N (n + 1) := by
  intro sc es o fc W X h G
  match es, h with
  | [], h => cases h; exact pts_dNil
  | [e], h =>
    obtain ⟨a, e1, rfl⟩ := Option.map_eq_some_iff.mp (show (trE T N n sc .peek e).map some = some o from h)
    exact pts_dOne (hE sc .peek e a fc W X e1 G).2
  | _ :: _ :: _, h => cases h
theorem stepBo (hE : OkE T C N n) (hB : OkBo T C N n) : OkBo T C N (n + 1) := by
  intro sc o es ir pos fc W X h G
  match es, h with
  | [], h => cases h
  | [a], h =>
    have h : trE T N n sc .peek a = some ir := h
    obtain ⟨h1, h2⟩ := hE sc .peek a ir fc W X h G
    cases o with
    | And => exact ⟨pe_dOne h1, pw_dAnd1 h2⟩
    | Or => exact ⟨pe_dOne h1, pw_dOr1 h2⟩
  | a :: b :: r, h =>
    obtain ⟨a', e1, h⟩ := Option.bind_eq_some_iff.mp (show ((trE T N n sc .peek a).bind fun a => (trBo T N n sc o (b :: r)).map fun b => boEx a b o) = some ir from h)
    obtain ⟨r', e2, rfl⟩ := Option.map_eq_some_iff.mp h
    obtain ⟨h1, h2⟩ := hE sc .peek a a' fc W X e1 G
    obtain ⟨h3, h4⟩ := hB sc o (b :: r) r' pos fc W X e2 G
    cases o with
    | And => exact ⟨pe_dAnd h1 h3, pw_dAnd h2 h4⟩
    | Or => exact ⟨pe_dOr h1 h3, pw_dOr h2 h4⟩
theorem star_one {a : Expr} {env : PySem.Env} (h : noStar a = true) : starEach [a] env = (false, eval a env) :: starEach [] env := star1 h
theorem setArg_ok {a e : Expr} (h : setArg T sc a = some e) : ∃ y p q, a = .Call (.Name y p) [e] [] q ∧ y = "set" ∧ isGl sc y = true ∧ T.fns.lookup y = none ∧ noStar e = true := by
  unfold setArg at h
  split at h
  · split at h
    · rename_i hy
      obtain ⟨hy, hg⟩ := hy
      simp only [Bool.and_eq_true] at hg
      cases h
      exact ⟨_, _, _, rfl, hy, hg.1.1, Option.isNone_iff_eq_none.mp hg.1.2, hg.2⟩
    · cases h
  · cases h
theorem revArg_ok {a e : Expr} (h : revArg T sc a = some e) : ∃ y p q, a = .Call (.Name y p) [e] [] q ∧ y = "reversed" ∧ isGl sc y = true ∧ T.fns.lookup y = none ∧ noStar e = true := by
  unfold revArg at h
  split at h
  · split at h
    · rename_i hy
      obtain ⟨hy, hg⟩ := hy
      simp only [Bool.and_eq_true] at hg
      cases h
      exact ⟨_, _, _, rfl, hy, hg.1.1, Option.isNone_iff_eq_none.mp hg.1.2, hg.2⟩
    · cases h
  · cases h
theorem rngArgs_ok {a : Expr} {es : List Expr} (h : rngArgs T sc a = some es) : ∃ y p q, a = .Call (.Name y p) es [] q ∧ y = "range" ∧ isGl sc y = true ∧ T.fns.lookup y = none := by
  unfold rngArgs at h
  split at h
  · split at h
    · rename_i hy
      obtain ⟨hy, hg⟩ := hy
      simp only [Bool.and_eq_true] at hg
      cases h
      exact ⟨_, _, _, rfl, hy, hg.1, Option.isNone_iff_eq_none.mp hg.2⟩
    · cases h
  · cases h
theorem cvOf_ok {x : Str} {tup : Bool} (h : cvOf x = some tup) : x = convN tup ∧ x ∈ bNames := by
  unfold cvOf at h
  split at h
  · rename_i hx; cases h; exact ⟨hx, by rw [hx]; decide +kernel⟩
  · split at h
    · rename_i hx; cases h; exact ⟨hx, by rw [hx]; decide +kernel⟩
    · cases h
theorem stepCall (hE : OkE T C N n) (hL : OkL T C N n) : OkCall T C N (n + 1) := by
  intro sc x es ir p pos fc W X h hg hpn G
  have h : (match T.fns.lookup x with
    | some j => (trL T N n sc es).map (Ex.call j)
    | none => match (generalizing := false) es with
      | [a] => if noStar a = true then
          (match (generalizing := false) rngArgs T sc a with
          | some es1 => (cvOf x).bind fun tup => (match (generalizing := false) es1 with
            | [u] => if noStar u = true then (trE T N n sc .frz u).map (Ex.conv1 tup) else none
            | [u, v] => if (noStar u && noStar v) = true then (trE T N n sc .frz u).bind fun u => (trE T N n sc .frz v).map fun v => Ex.conv2 tup u v else none
            | _ => none)
          | none => match (generalizing := false) revArg T sc a with
          | some e => if x = "tuple" then (trE T N n sc .frz e).map Ex.revT else none
          | none => match (generalizing := false) setArg T sc a with
          | some e => if x = "len" then (trE T N n sc .frz e).map Ex.lenSet else if x = "sorted" then (trE T N n sc .frz e).map Ex.sortSet else none
          | none => if x = "sorted" then (trE T N n sc .frz a).map Ex.sorted else (b1Of x).bind fun b => (trE T N n sc .peek a).map (Ex.b1 b))
        else none
      | [a, b] => if (noStar a && noStar b) = true then
          (match (generalizing := false) b2Of x with
          | some k => (trE T N n sc .frz a).bind fun a => (trE T N n sc .frz b).map fun b => Ex.b2 k a b
          | none => if x = "isinstance" then (match (generalizing := false) b with
            | .Name y _ => if (isGl sc y && (T.fns.lookup y).isNone) = true then (tyOf y).bind fun t => (trE T N n sc .peek a).map fun a => Ex.isi a t else none
            | _ => none) else none)
        else none
      | [a, b, c] => if (noStar a && noStar b && noStar c) = true then (b2Of x).bind fun k => (trE T N n sc .frz a).bind fun a => (trE T N n sc .frz b).bind fun b => (trE T N n sc .frz c).map fun c => Ex.b3 k a b c else none
      | _ => none) = some ir := h
  split at h
  · rename_i j hj
    obtain ⟨as, e1, rfl⟩ := Option.map_eq_some_iff.mp h
    refine ⟨_, rfl, ?_⟩
    obtain ⟨f, fd, ps, k, np, a1, a2, a3, a4, a5, a6⟩ := G.fns j x hj
    obtain ⟨h1, h2⟩ := hL sc es as fc W X e1 G
    cases es with
    | nil =>
      cases n with
      | zero => cases e1
      | succ n =>
        cases e1
        cases np with
        | zero => exact pe_dCall0 a5 a4 (gl_ok G hg) a1 a2 a3 G.tk (plain_dbg hpn)
        | succ np =>
          refine ⟨fun pins s₀ σ H Q I q => ?_⟩
          obtain ⟨g, s, F, hK, hm, w, p⟩ := q
          have := a6 [] s.S (by simp)
          simp only [den, Dn.ofV, dCall, denL, dNil, Res.bind] at p
          rw [this] at p
          exact p.elim
    | cons e es =>
      rw [List.all_cons, Bool.and_eq_true] at h2
      exact pe_dCall a5 a4 (gl_ok G hg) a1 a2 a3 G.tk h1 a6 (plain_dbg hpn) (star1 h2.1) (star_plain h2.2)
  · rename_i hj
    match es, h with
    | [], h => cases h
    | [a], h =>
      have h2 : (if noStar a = true then
          (match (generalizing := false) rngArgs T sc a with
          | some es1 => (cvOf x).bind fun tup => (match (generalizing := false) es1 with
            | [u] => if noStar u = true then (trE T N n sc .frz u).map (Ex.conv1 tup) else none
            | [u, v] => if (noStar u && noStar v) = true then (trE T N n sc .frz u).bind fun u => (trE T N n sc .frz v).map fun v => Ex.conv2 tup u v else none
            | _ => none)
          | none => match (generalizing := false) revArg T sc a with
          | some e => if x = "tuple" then (trE T N n sc .frz e).map Ex.revT else none
          | none => match (generalizing := false) setArg T sc a with
          | some e => if x = "len" then (trE T N n sc .frz e).map Ex.lenSet else if x = "sorted" then (trE T N n sc .frz e).map Ex.sortSet else none
          | none => if x = "sorted" then (trE T N n sc .frz a).map Ex.sorted else (b1Of x).bind fun b => (trE T N n sc .peek a).map (Ex.b1 b))
        else none) = some ir := h
      clear h
      split at h2
      · rename_i hs
        split at h2
        · rename_i es1 hrg
          obtain ⟨y, p2, q2, rfl, hy, hgy, hfy⟩ := rngArgs_ok hrg
          have hmy := blt_ok G (by rw [hy]; decide +kernel) hfy
          obtain ⟨tup, hcv, h2⟩ := Option.bind_eq_some_iff.mp h2
          obtain ⟨hx, hbn⟩ := cvOf_ok hcv
          match es1, h2 with
          | [u], h2 =>
            have h2 : (if noStar u = true then (trE T N n sc .frz u).map (Ex.conv1 tup) else none) = some ir := h2
            split at h2
            · rename_i hu
              obtain ⟨u', e1, rfl⟩ := Option.map_eq_some_iff.mp h2
              exact ⟨_, rfl, pe_dConv1 G.calm hx (gl_ok G hg) (blt_ok G hbn hj) hy (gl_ok G hgy) hmy (hE sc .frz u u' fc W X e1 G).1 (star1 hu) (star1 hs)⟩
            · cases h2
          | [u, v], h2 =>
            have h2 : (if (noStar u && noStar v) = true then (trE T N n sc .frz u).bind fun u => (trE T N n sc .frz v).map fun v => Ex.conv2 tup u v else none) = some ir := h2
            split at h2
            · rename_i hu
              obtain ⟨hu1, hu2⟩ := Bool.and_eq_true_iff.mp hu
              obtain ⟨u', e1, h2⟩ := Option.bind_eq_some_iff.mp h2
              obtain ⟨v', e2, rfl⟩ := Option.map_eq_some_iff.mp h2
              exact ⟨_, rfl, pe_dConv2 G.calm hx (gl_ok G hg) (blt_ok G hbn hj) hy (gl_ok G hgy) hmy (hE sc .frz u u' fc W X e1 G).1 (hE sc .frz v v' fc W X e2 G).1 (star1 hu1) (star1 hu2) (star1 hs)⟩
            · cases h2
          | [], h2 => cases h2
          | _ :: _ :: _ :: _, h2 => cases h2
        split at h2
        · rename_i e hrv
          obtain ⟨y, p2, q2, rfl, hy, hgy, hfy, hse1⟩ := revArg_ok hrv
          have hmy := blt_ok G (by rw [hy]; decide +kernel) hfy
          split at h2
          · rename_i hx
            obtain ⟨e', e1, rfl⟩ := Option.map_eq_some_iff.mp h2
            exact ⟨_, rfl, pe_dRevT G.calm hx (gl_ok G hg) (blt_ok G (by rw [hx]; decide +kernel) hj) hy (gl_ok G hgy) hmy (hE sc .frz e e' fc W X e1 G).1 (star1 hse1) (star1 hs)⟩
          · cases h2
        split at h2
        · rename_i e hse
          obtain ⟨y, p2, q2, rfl, hy, hgy, hfy, hse1⟩ := setArg_ok hse
          have hmy := blt_ok G (by rw [hy]; decide +kernel) hfy
          split at h2
          · rename_i hx
            obtain ⟨e', e1, rfl⟩ := Option.map_eq_some_iff.mp h2
            exact ⟨_, rfl, pe_dLenSet G.calm hx hy (gl_ok G hg) (blt_ok G (by rw [hx]; decide +kernel) hj) (gl_ok G hgy) hmy (hE sc .frz e e' fc W X e1 G).1 (star1 hse1)⟩
          · split at h2
            · rename_i hx
              obtain ⟨e', e1, rfl⟩ := Option.map_eq_some_iff.mp h2
              exact ⟨_, rfl, pe_dSortSet G.calm hx hy (gl_ok G hg) (blt_ok G (by rw [hx]; decide +kernel) hj) (gl_ok G hgy) hmy (hE sc .frz e e' fc W X e1 G).1 (star1 hse1)⟩
            · cases h2
        · split at h2
          · rename_i hx
            obtain ⟨e', e1, rfl⟩ := Option.map_eq_some_iff.mp h2
            exact ⟨_, rfl, pe_dSorted hx (gl_ok G hg) (blt_ok G (by rw [hx]; decide +kernel) hj) (hE sc .frz a e' fc W X e1 G).1 (star1 hs)⟩
          · obtain ⟨b, e1, h3⟩ := Option.bind_eq_some_iff.mp h2
            obtain ⟨a', e2, rfl⟩ := Option.map_eq_some_iff.mp h3
            obtain ⟨hx, hn⟩ := b1Of_ok e1
            exact ⟨_, rfl, pe_dB1 G.calm hx (gl_ok G hg) (blt_ok G hn hj) (hE sc .peek a a' fc W X e2 G).1 (star1 hs)⟩
      · cases h2
    | [a, b], h =>
      have h : (if (noStar a && noStar b) = true then
          (match (generalizing := false) b2Of x with
          | some k => (trE T N n sc .frz a).bind fun a => (trE T N n sc .frz b).map fun b => Ex.b2 k a b
          | none => if x = "isinstance" then (match (generalizing := false) b with
            | .Name y _ => if (isGl sc y && (T.fns.lookup y).isNone) = true then (tyOf y).bind fun t => (trE T N n sc .peek a).map fun a => Ex.isi a t else none
            | _ => none) else none)
        else none) = some ir := h
      split at h
      · rename_i hs
        obtain ⟨hs1, hs2⟩ := Bool.and_eq_true_iff.mp hs
        split at h
        · rename_i k hk
          obtain ⟨a', e1, h⟩ := Option.bind_eq_some_iff.mp h
          obtain ⟨b', e2, rfl⟩ := Option.map_eq_some_iff.mp h
          obtain ⟨hx, hn⟩ := b2Of_ok hk
          exact ⟨_, rfl, pe_dB2 G.calm hx (gl_ok G hg) (blt_ok G hn hj) (hE sc .frz a a' fc W X e1 G).1 (hE sc .frz b b' fc W X e2 G).1 (star1 hs1) (star1 hs2)⟩
        · split at h
          · rename_i hx
            split at h
            · rename_i y p2 
              split at h
              · rename_i hc
                obtain ⟨hc1, hc2⟩ := Bool.and_eq_true_iff.mp hc
                obtain ⟨t, e1, h⟩ := Option.bind_eq_some_iff.mp h
                obtain ⟨a', e2, rfl⟩ := Option.map_eq_some_iff.mp h
                obtain ⟨hy, hn⟩ := tyOf_ok e1
                exact ⟨_, rfl, pe_dIsi hx hy (gl_ok G hg) (blt_ok G (by rw [hx]; decide +kernel) hj) (gl_ok G hc1) (blt_ok G hn (Option.isNone_iff_eq_none.mp hc2)) (hE sc .peek a a' fc W X e2 G).1 (star1 hs1)⟩
              · cases h
            · cases h
          · cases h
      · cases h
    | [a, b, c], h =>
      have h : (if (noStar a && noStar b && noStar c) = true then (b2Of x).bind fun k => (trE T N n sc .frz a).bind fun a => (trE T N n sc .frz b).bind fun b => (trE T N n sc .frz c).map fun c => Ex.b3 k a b c else none) = some ir := h
      split at h
      · rename_i hs
        obtain ⟨hs12, hs3⟩ := Bool.and_eq_true_iff.mp hs
        obtain ⟨hs1, hs2⟩ := Bool.and_eq_true_iff.mp hs12
        obtain ⟨k, hk, h⟩ := Option.bind_eq_some_iff.mp h
        obtain ⟨a', e1, h⟩ := Option.bind_eq_some_iff.mp h
        obtain ⟨b', e2, h⟩ := Option.bind_eq_some_iff.mp h
        obtain ⟨c', e3, rfl⟩ := Option.map_eq_some_iff.mp h
        obtain ⟨hx, hn⟩ := b2Of_ok hk
        exact ⟨_, rfl, pe_dB3 G.calm hx (gl_ok G hg) (blt_ok G hn hj) (hE sc .frz a a' fc W X e1 G).1 (hE sc .frz b b' fc W X e2 G).1 (hE sc .frz c c' fc W X e3 G).1 (star1 hs1) (star1 hs2) (star1 hs3)⟩
      · cases h
    | _ :: _ :: _ :: _ :: _, h => cases h
theorem stepMt (hE : OkE T C N n) : OkMt T C N (n + 1) := by
  intro sc i m es ir x p apos cpos fc W X h hx hl G
  obtain ⟨h1, h2, h3, h4⟩ := slotOf_ok G hx
  match es, h with
  | [], h =>
    have h : (if m = "pop" then some (Ex.pop i) else none) = some ir := h
    split at h
    · rename_i hm
      cases h
      subst hm
      exact ⟨_, rfl, pe_dPop h1 h2 h3 h4 hl⟩
    · cases h
  | [a], h =>
    have h2' : (if noStar a = true then (if m = "append" then (trE T N n sc .frz a).map (Ex.app i) else if m = "extend" then (trE T N n sc .frz a).map (Ex.ext i) else if m = "pop" then (trE T N n sc .frz a).map (Ex.popAt i) else if m = "index" then (trE T N n sc .frz a).map (Ex.index i) else none) else none) = some ir := h
    clear h
    split at h2'
    · rename_i hs
      split at h2'
      · rename_i hm
        subst hm
        obtain ⟨a', e, rfl⟩ := Option.map_eq_some_iff.mp h2'
        exact ⟨_, rfl, pe_dApp h1 h2 h3 h4 (hE sc .frz a a' fc W X e G).1 (star1 hs) hl⟩
      · split at h2'
        · rename_i hm
          subst hm
          obtain ⟨a', e, rfl⟩ := Option.map_eq_some_iff.mp h2'
          exact ⟨_, rfl, pe_dExt h1 h2 h3 h4 (hE sc .frz a a' fc W X e G).1 (star1 hs) hl⟩
        · split at h2'
          · rename_i hm
            subst hm
            obtain ⟨a', e, rfl⟩ := Option.map_eq_some_iff.mp h2'
            exact ⟨_, rfl, pe_dPopAt h1 h2 h3 h4 (hE sc .frz a a' fc W X e G).1 (star1 hs) hl⟩
          · split at h2'
            · rename_i hm
              subst hm
              obtain ⟨a', e, rfl⟩ := Option.map_eq_some_iff.mp h2'
              exact ⟨_, rfl, pe_dIndex G.hu h1 h2 h3 h4 (hE sc .frz a a' fc W X e G).1 (star1 hs) hl⟩
            · cases h2'
    · cases h2'
  | [a, b], h =>
    have h2' : (if (noStar a && noStar b) = true then (if m = "startswith" then (trE T N n sc .frz a).bind fun a => (trE T N n sc .frz b).map fun b => Ex.sw i a b else if m = "insert" then (trE T N n sc .frz a).bind fun a => (trE T N n sc .frz b).map fun b => Ex.ins i a b else none) else none) = some ir := h
    clear h
    split at h2'
    · rename_i hs
      obtain ⟨hs1, hs2⟩ := Bool.and_eq_true_iff.mp hs
      split at h2'
      · rename_i hm
        subst hm
        obtain ⟨a', e1, h2'⟩ := Option.bind_eq_some_iff.mp h2'
        obtain ⟨b', e2, rfl⟩ := Option.map_eq_some_iff.mp h2'
        exact ⟨_, rfl, pe_dSw h1 h2 h3 h4 (hE sc .frz a a' fc W X e1 G).1 (hE sc .frz b b' fc W X e2 G).1 (star1 hs1) (star1 hs2) hl⟩
      · split at h2'
        · rename_i hm
          subst hm
          obtain ⟨a', e1, h2'⟩ := Option.bind_eq_some_iff.mp h2'
          obtain ⟨b', e2, rfl⟩ := Option.map_eq_some_iff.mp h2'
          exact ⟨_, rfl, pe_dIns h1 h2 h3 h4 (hE sc .frz a a' fc W X e1 G).1 (hE sc .frz b b' fc W X e2 G).1 (star1 hs1) (star1 hs2) hl⟩
        · cases h2'
    · cases h2'
  | _ :: _ :: _ :: _, h => cases h
theorem pt_dIte {mg : Str → Option Value} {a b c : Expr} {fc f h : De Bool} {pos : Pos} (hc : PT X c (tT X.K mg W fc)) (ha : PT X a (tT X.K mg W f)) (hb : PT X b (tT X.K mg W h)) : PT X (.IfExp c a b pos) (tT X.K mg W (dIteB fc f h)) := by
  have core : PT X (.IfExp c a b pos) (fun σ H Q => tT X.K mg W fc σ H fun k H1 => if k = true then tT X.K mg W f σ H1 Q else tT X.K mg W h σ H1 Q) := by
    refine ⟨fun pins s σ H Q I p => ?_⟩
    rw [arm_isTrue_IfExp]
    refine wpAny_bind (thn (hc.run pins s σ H _ I p) fun d s1 ⟨H1, I1, q1⟩ => ?_)
    cases d with
    | true => exact ha.run pins s1 σ H1 Q I1 q1
    | false => exact hb.run pins s1 σ H1 Q I1 q1
  refine PT.by fun pins s₀ σ H Q I q => ⟨_, core, ?_⟩
  obtain ⟨g, s, F, hK, hm, w, p⟩ := q
  refine tT_run hK hm w p fun k s1 F1 H1 w1 m1 p1 => ?_
  cases k with
  | true => exact ⟨g, s1, F1, hK, hm, w1, p1⟩
  | false => exact ⟨g, s1, F1, hK, hm, w1, p1⟩
structure Low (T : Tb) (C : Nat → Fn) (N : List Str) (n : Nat) : Prop where
  e : OkE T C N n
  bo : OkBo T C N n
  l : OkL T C N n
  o : OkO T C N n
  ca : OkCall T C N n
  mt : OkMt T C N n
  i : OkI T C N n
  fs : OkIfs T C N n
  lc : OkLc T C N n
theorem sub_ok {a : Expr} {b : Ex} {ib : Expr} {m : Md} {ir : Ex} {pos : Pos} (L : Low T C N n) (G : Good T C N sc fc W X) (hb : PE X ib (tE X.K X.mg W (den C b).v)) (hp : PlainIx ib) (h : (match a with
    | .Name x _ => (match slotOf N sc x with
      | some i => some (Ex.idxV i b)
      | none => if (isGl sc x && plainN x) = true then (T.cst.lookup x).map fun d => Ex.idx (.c d) b else none)
    | a => (trE T N n sc .frz a).map fun a => Ex.idx a b) = some ir) : PE X (.Subscript a ib pos) (tE X.K X.mg W (den C ir).v) ∧ PT X (.Subscript a ib pos) (tT X.K X.mg W (den C ir).t) := by
  have gen : ∀ {a : Expr}, (trE T N n sc .frz a).map (fun a => Ex.idx a b) = some ir → PE X (.Subscript a ib pos) (tE X.K X.mg W (den C ir).v) ∧ PT X (.Subscript a ib pos) (tT X.K X.mg W (den C ir).t) := fun {a} h => by
    obtain ⟨a', e, rfl⟩ := Option.map_eq_some_iff.mp h
    exact ofV_pt (pe_dIdx (L.e sc .frz a a' fc W X e G).1 hb hp) (fun _ => rfl)
  split at h
  · split at h
    · rename_i i e
      cases h
      obtain ⟨h1, h2, h3, h4⟩ := slotOf_ok G e
      exact ofV_pt (pe_dIdxV h1 h2 h3 h4 hb hp) (fun _ => rfl)
    · split at h
      · rename_i hc
        obtain ⟨hc1, hc2⟩ := Bool.and_eq_true_iff.mp hc
        obtain ⟨d, e, rfl⟩ := Option.map_eq_some_iff.mp h
        exact ofV_pt (pe_dIdx (cst_ok G hc1 hc2 e) hb hp) (fun _ => rfl)
      · cases h
  · exact gen h
theorem stepE (L : Low T C N n) (lc : OkLc T C N (n + 1)) : OkE T C N (n + 1) := by
  intro sc m e ir fc W X h G
  cases e with
  | Constant c j pos =>
    obtain ⟨d, e, rfl⟩ := Option.map_eq_some_iff.mp (show (trC c).map Ex.c = some ir from h)
    exact ofV_pt (trC_ok e) (fun _ => rfl)
  | Name x pos =>
    obtain ⟨h1, h2⟩ := name_ok G h
    rw [h2] at *
    exact ofV_pt h1 (fun _ => rfl)
  | BinOp a o b pos =>
    obtain ⟨a', e1, h⟩ := Option.bind_eq_some_iff.mp (show ((trE T N n sc .frz a).bind fun a => (trE T N n sc .frz b).map fun b => Ex.bin o a b) = some ir from h)
    obtain ⟨b', e2, rfl⟩ := Option.map_eq_some_iff.mp h
    exact ofV_pt (pe_dBin (L.e sc .frz a a' fc W X e1 G).1 (L.e sc .frz b b' fc W X e2 G).1) (fun _ => rfl)
  | UnaryOp o a pos =>
    cases o with
    | USub =>
      obtain ⟨a', e1, rfl⟩ := Option.map_eq_some_iff.mp (show (trE T N n sc .frz a).map Ex.neg = some ir from h)
      exact ofV_pt (pe_dNeg (L.e sc .frz a a' fc W X e1 G).1) (fun _ => rfl)
    | Not =>
      obtain ⟨a', e1, rfl⟩ := Option.map_eq_some_iff.mp (show (trE T N n sc .peek a).map Ex.not = some ir from h)
      obtain ⟨h1, h2⟩ := L.e sc .peek a a' fc W X e1 G
      exact ⟨pe_dNot h1, pt_dNot h2⟩
    | _ => cases h
  | Compare a os bs pos =>
    match os, bs, h with
    | [o], [b], h =>
      have h : (if behindInMarks o b = false then (trE T N n sc .frz a).bind fun a => (trE T N n sc .peek b).map fun b => Ex.cmp o a b else none) = some ir := h
      split at h
      · rename_i hm
        obtain ⟨a', e1, h⟩ := Option.bind_eq_some_iff.mp h
        obtain ⟨b', e2, rfl⟩ := Option.map_eq_some_iff.mp h
        have ha := (L.e sc .frz a a' fc W X e1 G).1
        have hb := (L.e sc .peek b b' fc W X e2 G).1
        exact ⟨pe_dCmp G.hu ha hb hm, pt_dCmp G.hu ha hb hm⟩
      · cases h
    | [o, o'], [b, c], h =>
      have h : (if lastMarks [o, o'] [b, c] = false then (trE T N n sc .frz a).bind fun a => (trE T N n sc .frz b).bind fun b => (trE T N n sc .peek c).map fun c => Ex.chain o o' a b c else none) = some ir := h
      split at h
      · rename_i hm
        obtain ⟨a', e1, h⟩ := Option.bind_eq_some_iff.mp h
        obtain ⟨b', e2, h⟩ := Option.bind_eq_some_iff.mp h
        obtain ⟨c', e3, rfl⟩ := Option.map_eq_some_iff.mp h
        have ha := (L.e sc .frz a a' fc W X e1 G).1
        have hb := (L.e sc .frz b b' fc W X e2 G).1
        have hc := (L.e sc .peek c c' fc W X e3 G).1
        exact ⟨pe_dChain G.hu ha hb hc hm, pt_dChain G.hu ha hb hc hm⟩
      · cases h
    | [], _, h => cases h
    | [_], [], h => cases h
    | [_], _ :: _ :: _, h => cases h
    | [_, _], [], h => cases h
    | [_, _], [_], h => cases h
    | [_, _], _ :: _ :: _ :: _, h => cases h
    | _ :: _ :: _ :: _, _, h => cases h
  | BoolOp o es pos =>
    obtain ⟨h1, h2⟩ := L.bo sc o es ir pos fc W X (show trBo T N n sc o es = some ir from h) G
    exact ⟨h1, h2.pt⟩
  | IfExp c a b pos =>
    obtain ⟨c', e1, h⟩ := Option.bind_eq_some_iff.mp (show ((trE T N n sc .peek c).bind fun c => (trE T N n sc m a).bind fun a => (trE T N n sc m b).map fun b => Ex.ite c a b) = some ir from h)
    obtain ⟨a', e2, h⟩ := Option.bind_eq_some_iff.mp h
    obtain ⟨b', e3, rfl⟩ := Option.map_eq_some_iff.mp h
    obtain ⟨a1, a2⟩ := L.e sc m a a' fc W X e2 G
    obtain ⟨b1, b2⟩ := L.e sc m b b' fc W X e3 G
    have hc := (L.e sc .peek c c' fc W X e1 G).2
    exact ⟨pe_dIte hc a1 b1, pt_dIte hc a2 b2⟩
  | Tuple es k pos =>
    obtain ⟨as, e1, rfl⟩ := Option.map_eq_some_iff.mp (show (trL T N n sc es).map Ex.tup = some ir from h)
    exact ofV_pt (pe_dTup (L.l sc es as fc W X e1 G).1) (fun _ => rfl)
  | List es pos =>
    obtain ⟨as, e1, rfl⟩ := Option.map_eq_some_iff.mp (show (trL T N n sc es).map Ex.lst = some ir from h)
    exact ofV_pt (pe_dLst (L.l sc es as fc W X e1 G).1) (fun _ => rfl)
  | Subscript a b pos =>
    by_cases hs : noSlice b = true
    · have h : ((trE T N n sc .frz b).bind fun b => match a with
        | .Name x _ => (match slotOf N sc x with
          | some i => some (Ex.idxV i b)
          | none => if (isGl sc x && plainN x) = true then (T.cst.lookup x).map fun d => Ex.idx (.c d) b else none)
        | a => (trE T N n sc .frz a).map fun a => Ex.idx a b) = some ir := by
        cases b <;> first | exact h | cases hs
      obtain ⟨b', e1, h⟩ := Option.bind_eq_some_iff.mp h
      exact sub_ok (m := m) L G (L.e sc .frz b b' fc W X e1 G).1 (plain_ix hs) h
    · cases b with
      | Slice lo hi st p2 =>
        cases st with
        | some _ => cases h
        | none =>
          have h : ((trO T N n sc lo).bind fun lo => (trO T N n sc hi).bind fun hi => match a with
            | .Name x _ => (slotOf N sc x).map fun i => Ex.cutV i lo hi
            | a => (trE T N n sc .frz a).map fun a => Ex.cut a lo hi) = some ir := h
          obtain ⟨lo', e1, h⟩ := Option.bind_eq_some_iff.mp h
          obtain ⟨hi', e2, h⟩ := Option.bind_eq_some_iff.mp h
          have h1 := L.o sc lo lo' fc W X e1 G
          have h2 := L.o sc hi hi' fc W X e2 G
          split at h
          · obtain ⟨i, e, rfl⟩ := Option.map_eq_some_iff.mp h
            obtain ⟨g1, g2, g3, g4⟩ := slotOf_ok G e
            exact ofV_pt (pe_dCutV g1 g2 g3 g4 h1 h2) (fun _ => rfl)
          · obtain ⟨a', e, rfl⟩ := Option.map_eq_some_iff.mp h
            exact ofV_pt (pe_dCut (L.e sc .frz _ a' fc W X e G).1 h1 h2) (fun _ => rfl)
      | _ => exact absurd rfl hs
  | Call f es ks pos =>
    cases ks with
    | cons kw rest =>
      cases f with
      | Attribute o _ _ => cases o with
        | Constant z j p =>
          cases z with
          | str z =>
            match es, h with
            | [], h => cases h
            | [_], h => cases h
            | _ :: _ :: _, h => cases h
          | _ => cases h
        | _ => cases h
      | Name x p =>
        obtain ⟨ka, b, kp⟩ := kw
        have key : ∀ (a : Expr) (k : Str), es = [a] → rest = [] → ka = some k → PE X (.Call (.Name x p) es (⟨ka, b, kp⟩ :: rest) pos) (tE X.K X.mg W (den C ir).v) ∧ PT X (.Call (.Name x p) es (⟨ka, b, kp⟩ :: rest) pos) (tT X.K X.mg W (den C ir).t) := fun a k e1 e2 e3 => by
          subst e1; subst e2; subst e3
          have h : (if x = "max" ∧ k = "default" ∧ (isGl sc x && (T.fns.lookup x).isNone && noStar a) = true then (trE T N n sc .frz a).bind fun a => (trE T N n sc .frz b).map fun b => Ex.maxD a b else none) = some ir := h
          split at h
          · rename_i hc
            obtain ⟨hx, hk, hc⟩ := hc
            simp only [Bool.and_eq_true] at hc
            obtain ⟨a', e1, h⟩ := Option.bind_eq_some_iff.mp h
            obtain ⟨b', e2, rfl⟩ := Option.map_eq_some_iff.mp h
            exact ofV_pt (pe_dMaxD G.calm G.hu hx hk (gl_ok G hc.1.1) (blt_ok G (by rw [hx]; decide +kernel) (Option.isNone_iff_eq_none.mp hc.1.2)) (L.e sc .frz a a' fc W X e1 G).1 (L.e sc .frz b b' fc W X e2 G).1 (star1 hc.2)) (fun _ => rfl)
          · cases h
        cases es with
        | nil => cases rest <;> cases ka <;> cases h
        | cons a es =>
          cases es with
          | nil =>
            cases rest with
            | nil =>
              cases ka with
              | none => cases h
              | some k => exact key a k rfl rfl rfl
            | cons _ _ => cases ka <;> cases h
          | cons _ _ => cases rest <;> cases ka <;> cases h
      | _ => cases h
    | nil =>
      cases f with
      | Name x p =>
        have h : (if (isGl sc x && plainN x) = true then trCall T N n sc x es else none) = some ir := h
        split at h
        · rename_i hc
          obtain ⟨hc1, hc2⟩ := Bool.and_eq_true_iff.mp hc
          obtain ⟨f, e1, h1⟩ := L.ca sc x es ir p pos fc W X h hc1 hc2 G
          rw [e1]
          exact ofV_pt h1 (fun _ => rfl)
        · cases h
      | Attribute o mname apos =>
        cases o with
        | Name x p =>
          have h : (if (apos.endLine == pos.line) = true then (slotOf N sc x).bind fun i => trMt T N n sc i mname es else none) = some ir := h
          split at h
          · rename_i hl
            obtain ⟨i, e1, h⟩ := Option.bind_eq_some_iff.mp h
            obtain ⟨f, e2, h1⟩ := L.mt sc i mname es ir x p apos pos fc W X h e1 hl G
            rw [e2]
            exact ofV_pt h1 (fun _ => rfl)
          · cases h
        | Constant z j p =>
          match z, es, h with
          | .str z, [a], h =>
            have h' : (if mname = "join" ∧ (apos.endLine == pos.line && noStar a && okS z) = true then (trE T N n sc .frz a).map (Ex.join z) else none) = some ir := h
            clear h
            split at h'
            · rename_i hc
              obtain ⟨rfl, hc⟩ := hc
              simp only [Bool.and_eq_true] at hc
              obtain ⟨a', e1, rfl⟩ := Option.map_eq_some_iff.mp h'
              exact ofV_pt (pe_dJoin hc.2 (L.e sc .frz a a' fc W X e1 G).1 (star1 hc.1.2) hc.1.1) (fun _ => rfl)
            · cases h'
          | .str z, [], h => cases h
          | .str z, _ :: _ :: _, h => cases h
        | _ => cases h
      | _ => cases h
  | ListComp elt gens scope pos =>
    obtain ⟨f, e1, h1, _⟩ := lc sc m elt gens scope pos ir fc W X h G
    rw [e1]
    exact ofV_pt h1 (fun _ => rfl)
  | _ => cases h
end
theorem low_all (T : Tb) (C : Nat → Fn) (N : List Str) : ∀ n, Low T C N n := by
  have base : Low T C N 0 := by
    refine ⟨?_, ?_, ?_, ?_, ?_, ?_, ?_, ?_, ?_⟩
    · intro sc m e ir fc W X h; cases h
    · intro sc o es ir pos fc W X h; cases h
    · intro sc es irs fc W X h; cases h
    · intro sc e o fc W X h; cases h
    · intro sc x es ir p pos fc W X h; cases h
    · intro sc i m es ir x p apos cpos fc W X h; cases h
    · intro sc tup e ir fc W X tg h; cases h
    · intro sc es o fc W X h; cases h
    · intro sc m elt gens scope pos ir fc W X h; cases h
  have key : ∀ n, Low T C N n ∧ ∀ k, k < n → Low T C N k := by
    intro n
    induction n with
    | zero => exact ⟨base, fun k h => absurd h (Nat.not_lt_zero k)⟩
    | succ n ih =>
      obtain ⟨L, B⟩ := ih
      have lc : OkLc T C N (n + 1) := stepLc L.e L.i L.fs fun k hk => ⟨(B k hk).e, (B k hk).i, (B k hk).fs⟩
      refine ⟨⟨stepE L lc, stepBo L.e L.bo, stepL L.e L.l, stepO L.e, stepCall L.e L.l, stepMt L.e, stepI L.e, stepIfs L.e, lc⟩, fun k hk => ?_⟩
      rcases Nat.lt_succ_iff_lt_or_eq.mp hk with h | rfl
      · exact B k h
      · exact L
  exact fun n => (key n).1
end Ev

namespace Ev
open PySem PySem.Spec PyProof.Rows L2

/-! ## statements -/
theorem sole_no {e t : Expr} (h : noComp e = true) (l : Nat) (env : PySem.Env) : swapsWithSole [t] e l env = pure false := by
  show swapsWith e (some t) l env = pure false
  exact swaps_no h _ _ _
theorem swapped_no {e t : Expr} (h : noTup e = true) (env : PySem.Env) : swappedStores [t] e env = pure none := by
  cases e <;> first | (cases t <;> rfl) | cases h
theorem assign_sub {ei : Expr} (h : noSlice ei = true) {x : Str} {p tpos : Pos} {env : PySem.Env} (v : Value) : assign (.Subscript (.Name x p) ei tpos) env v = (do
      let ov ← holding [v] (eval (.Name x p) env)
      let iv ← holding [v, ov] (eval ei env)
      standAt tpos
      holding [v, ov, iv] (setItem ov iv v)
      release [v, ov, iv] []) := by
  cases ei <;> first | rfl | cases h
/-- does the comprehension swap with the name -/
def swB (sc : Scope) (t : Str) (l : Nat) (scope : Scope) (p : Pos) : Bool := (if sc.kind.isAnnotationScope then ScopeKind.function else sc.kind) == .function && sc.names.lookup t == some .local && l == p.line
      && !(scope.names.any fun (n, k) => n == t && (k == .local || k == .cell))
theorem swaps_lc {elt : Expr} {gens : List Comprehension} {scope : Scope} {p q : Pos} {x : Str} {l : Nat} {env : PySem.Env} : swapsWith (.ListComp elt gens scope p) (some (.Name x q)) l env = pure (swB env.scope x q.line scope p) := rfl
def trAs (T : Tb) (N : List Str) (n : Nat) (sc : Scope) (e : Expr) : Expr → Option Sx
  | .Name x _ => if (storedF sc (fun _ => true) x && plainN x) = true then (ixOf N x).bind fun i => (trE T N n sc .frz e).map fun e => .set i e else none
  | .Tuple ts _ _ => if (noComp e && noTup e) = true then (trTg N sc (fun _ => true) n (.Tuple ts 0 ⟨0, 0, 0, 0⟩)).bind fun t => (trE T N n sc .frz e).map fun e => .asg t e else none
  | .Subscript (.Name x _) ei _ => if (noSlice ei && noComp e) = true then (slotOf N sc x).bind fun i => (trE T N n sc .frz ei).bind fun ei => (trE T N n sc .frz e).map fun e => .sto i ei e else none
  | _ => none
/-- raise C(e); any other raise is none that is reached -/
def trRa (T : Tb) (N : List Str) (n : Nat) (sc : Scope) (a b : Option Expr) : Option Sx := match a, b with
  | some (.Call (.Name x _) [e] [] _), none => if (decide (x ∈ T.excs) && isGl sc x && plainN x && noStar e) = true then (trE T N n sc .frz e).map (.raise x) else some .fail
  | _, _ => some .fail
def trTry (T : Tb) (N : List Str) (n : Nat) (sc : Scope) (bi : Option (List Sx)) (hs : List ExceptHandler) (el fi : List Stmt) : Option Sx := match hs, el, fi with
  | [.ExceptHandler (some (.Name c _)) (some m) (h0 :: hs) _], [], [] => if (isLoc sc m && plainN m && isGl sc c && plainN c && (T.par.lookup c).isSome) = true then
      (ixOf N m).bind fun i => bi.bind fun b => (trHb T N sc m n (h0 :: hs)).map fun h => .tri T.par b c i h else none
  | _, _, _ => none
mutual
def trS (T : Tb) (N : List Str) : Nat → Scope → Stmt → Option Sx
  | 0, _, _ => none
  | n + 1, sc, .Expr e _ => if noComp e = true then (trE T N n sc .frz e).map .expr else none
  | n + 1, sc, .Assign [t] e _ => trAs T N n sc e t
  | n + 1, sc, .AugAssign (.Name x _) o e _ => if (storedF sc (fun _ => true) x && plainN x) = true then (ixOf N x).bind fun i => (trE T N n sc .frz e).map fun e => .aug i o e else none
  | n + 1, sc, .If c a b _ => (trE T N n sc .peek c).bind fun c => (trB T N n sc a).bind fun a => (trB T N n sc b).map fun b => .ifs c a b
  | n + 1, sc, .While c b [] _ => (trE T N n sc .peek c).bind fun c => (trB T N n sc b).map fun b => .whl c b
  | n + 1, sc, .For t e b [] _ => (trTg N sc (fun _ => true) n t).bind fun tg => (trI T N n sc (isTup t) e).bind fun e => (trB T N n sc b).map fun b => .fr e tg b
  | n + 1, sc, .Return (some e) _ => (trE T N n sc .mv e).map .ret
  | _ + 1, _, .Return none _ => some .retN
  | _ + 1, _, .Break _ => some .brk
  | _ + 1, _, .Continue _ => some .cont
  | _ + 1, _, .Pass _ => some .pass
  | n + 1, sc, .Raise a b _ => trRa T N n sc a b
  | n + 1, sc, .Try b hs el fi _ => trTry T N n sc (trB T N n sc b) hs el fi
  | _, _, _ => none
def trB (T : Tb) (N : List Str) : Nat → Scope → List Stmt → Option (List Sx)
  | 0, _, _ => none
  | _ + 1, _, [] => some []
  | n + 1, sc, s :: r => (trS T N n sc s).bind fun a => (trB T N n sc r).map (a :: ·)
end
section
variable {T : Tb} {C : Nat → Fn} {N : List Str} {sc : Scope} {W : WX} {X : Cx}
theorem ix_loc {x : Str} {i : Nat} (G : Good T C N sc (fun _ => true) W X) (hc : (storedF sc (fun _ => true) x && plainN x) = true) (h : ixOf N x = some i) : X.N.Nodup ∧ X.N[i]? = some x ∧ L2.Loc X.env.scope x ∧ (X.fn x = true ∨ X.env.scope.names.lookup x = some .local) := by
  obtain ⟨h1, _⟩ := Bool.and_eq_true_iff.mp hc
  obtain ⟨h3, h4⟩ := storedF_ok G h1
  exact ⟨by rw [G.hN]; exact G.nd, by rw [G.hN]; exact ixOf_get h, h3, h4⟩
theorem expr_ok {n : Nat} {m : Md} {e : Expr} {ir : Ex} (G : GoodS T C N sc W X) (h : trE T N n sc m e = some ir) : PE X e (tE X.K X.mg W (den C ir).v) := ((low_all T C N n).e sc m e ir _ W X h G.g).1
theorem test_ok {n : Nat} {m : Md} {e : Expr} {ir : Ex} (G : GoodS T C N sc W X) (h : trE T N n sc m e = some ir) : PT X e (tT X.K X.mg W (den C ir).t) := ((low_all T C N n).e sc m e ir _ W X h G.g).2
theorem trTg_pos {n k k' : Nat} {fc : Str → Bool} {ts : List Expr} {p p' : Pos} {t : Tg} (h : trTg N sc fc n (.Tuple ts k p) = some t) : trTg N sc fc n (.Tuple ts k' p') = some t := by
  cases n with
  | zero => cases h
  | succ n => exact h
theorem trAs_ok {n : Nat} {e t : Expr} {ir : Sx} {pos : Pos} (G : GoodS T C N sc W X) (h : trAs T N n sc e t = some ir) : PS X (.Assign [t] e pos) (tS X.K X.mg W (denS C ir)) := by
  cases t with
  | Name x px =>
    have h : (if (storedF sc (fun _ => true) x && plainN x) = true then (ixOf N x).bind fun i => (trE T N n sc .frz e).map fun e => Sx.set i e else none) = some ir := h
    split at h
    · rename_i hc
      obtain ⟨i, e0, h⟩ := Option.bind_eq_some_iff.mp h
      obtain ⟨e', e1, rfl⟩ := Option.map_eq_some_iff.mp h
      obtain ⟨h1, h2, h3, h4⟩ := ix_loc G.g hc e0
      by_cases hn : noComp e = true
      · exact ps_dSet h1 h2 h3 (expr_ok G e1) (swaps_no hn _ _ _) h4
      · cases e with
        | ListComp elt gens scope p =>
          cases hs : swB X.env.scope x px.line scope p with
          | false => exact ps_dSet h1 h2 h3 (expr_ok G e1) (by rw [swaps_lc, hs]) h4
          | true =>
            obtain ⟨f, e2, _, h5⟩ := (low_all T C N n).lc sc .frz elt gens scope p e' _ W X e1 G.g
            have hl : X.env.scope.names.lookup x = some .local := by
              unfold swB at hs
              simp only [Bool.and_eq_true] at hs
              exact eq_of_beq hs.1.1.2
            have := h5 x px pos i h2 hl (by rw [swaps_lc, hs])
            show PS X _ (tS X.K X.mg W (dSet i (den C e').v))
            rw [e2]
            exact this
        | SetComp _ _ _ _ => cases n <;> cases e1
        | DictComp _ _ _ _ _ => cases n <;> cases e1
        | _ => exact absurd rfl hn
    · cases h
  | Tuple es k pt =>
    have h : (if (noComp e && noTup e) = true then (trTg N sc (fun _ => true) n (.Tuple es 0 ⟨0, 0, 0, 0⟩)).bind fun t => (trE T N n sc .frz e).map fun e => Sx.asg t e else none) = some ir := h
    split at h
    · rename_i hc
      obtain ⟨hc1, hc2⟩ := Bool.and_eq_true_iff.mp hc
      obtain ⟨t, e0, h⟩ := Option.bind_eq_some_iff.mp h
      obtain ⟨e', e1, rfl⟩ := Option.map_eq_some_iff.mp h
      exact ps_dAsg (expr_ok G e1) (trTg_ok G.g n _ t (trTg_pos e0)) (sole_no hc1 _ _) (swapped_no hc2 _) rfl
    · cases h
  | Subscript a ei ps =>
    cases a with
    | Name x px =>
      have h : (if (noSlice ei && noComp e) = true then (slotOf N sc x).bind fun i => (trE T N n sc .frz ei).bind fun ei => (trE T N n sc .frz e).map fun e => Sx.sto i ei e else none) = some ir := h
      split at h
      · rename_i hc
        obtain ⟨hc0, hc1⟩ := Bool.and_eq_true_iff.mp hc
        obtain ⟨i, e0, h⟩ := Option.bind_eq_some_iff.mp h
        obtain ⟨ei', e1, h⟩ := Option.bind_eq_some_iff.mp h
        obtain ⟨e', e2, rfl⟩ := Option.map_eq_some_iff.mp h
        obtain ⟨h1, h2, h3, h4⟩ := slotOf_ok G.g e0
        exact ps_dSto h1 h2 h3 h4 (expr_ok G e1) (expr_ok G e2) (assign_sub hc0) (sole_no hc1 _ _) (by cases e <;> rfl)
      · cases h
    | _ => cases h
  | _ => cases h
def OkS (T : Tb) (C : Nat → Fn) (N : List Str) (sc : Scope) (W : WX) (X : Cx) (n : Nat) : Prop := ∀ (st : Stmt) (ir : Sx), trS T N n sc st = some ir → PS X st (tS X.K X.mg W (denS C ir))
def OkB (T : Tb) (C : Nat → Fn) (N : List Str) (sc : Scope) (W : WX) (X : Cx) (n : Nat) : Prop := ∀ (b : List Stmt) (ir : List Sx), trB T N n sc b = some ir → PSs X b (tS X.K X.mg W (denB C ir))
theorem stepS {n : Nat} (G : GoodS T C N sc W X) (hT : ∀ W X, GoodS T C N sc W X → OkB T C N sc W X n) : OkS T C N sc W X (n + 1) := by
  intro st ir h
  have hB := hT W X G
  cases st with
  | Expr e pos =>
    have h : (if noComp e = true then (trE T N n sc .frz e).map Sx.expr else none) = some ir := h
    split at h
    · rename_i hc
      obtain ⟨e', e1, rfl⟩ := Option.map_eq_some_iff.mp h
      exact ps_dDrop (expr_ok G e1) (swaps_no hc _ _ _)
    · cases h
  | Assign ts e pos =>
    match ts, h with
    | [], h => cases h
    | [t], h => exact trAs_ok G h
    | _ :: _ :: _, h => cases h
  | AugAssign t o e pos =>
    cases t with
    | Name x px =>
      have h : (if (storedF sc (fun _ => true) x && plainN x) = true then (ixOf N x).bind fun i => (trE T N n sc .frz e).map fun e => Sx.aug i o e else none) = some ir := h
      split at h
      · rename_i hc
        obtain ⟨i, e0, h⟩ := Option.bind_eq_some_iff.mp h
        obtain ⟨e', e1, rfl⟩ := Option.map_eq_some_iff.mp h
        obtain ⟨h1, h2, h3, h4⟩ := ix_loc G.g hc e0
        exact ps_dAug h1 h2 h3 h4 (expr_ok G e1)
      · cases h
    | _ => cases h
  | If c a b pos =>
    obtain ⟨c', e1, h⟩ := Option.bind_eq_some_iff.mp (show ((trE T N n sc .peek c).bind fun c => (trB T N n sc a).bind fun a => (trB T N n sc b).map fun b => Sx.ifs c a b) = some ir from h)
    obtain ⟨a', e2, h⟩ := Option.bind_eq_some_iff.mp h
    obtain ⟨b', e3, rfl⟩ := Option.map_eq_some_iff.mp h
    exact ps_dIf (test_ok G e1) (hB a a' e2) (hB b b' e3)
  | While c b el pos =>
    cases el with
    | nil =>
      obtain ⟨c', e1, h⟩ := Option.bind_eq_some_iff.mp (show ((trE T N n sc .peek c).bind fun c => (trB T N n sc b).map fun b => Sx.whl c b) = some ir from h)
      obtain ⟨b', e3, rfl⟩ := Option.map_eq_some_iff.mp h
      exact ps_dWhile G.hp (test_ok G e1) (hB b b' e3)
    | cons _ _ => cases h
  | For t e b el pos =>
    cases el with
    | nil =>
      obtain ⟨t', e1, h⟩ := Option.bind_eq_some_iff.mp (show ((trTg N sc (fun _ => true) n t).bind fun tg => (trI T N n sc (isTup t) e).bind fun e => (trB T N n sc b).map fun b => Sx.fr e tg b) = some ir from h)
      obtain ⟨e', e2, h⟩ := Option.bind_eq_some_iff.mp h
      obtain ⟨b', e3, rfl⟩ := Option.map_eq_some_iff.mp h
      obtain ⟨h1, h2⟩ := (low_all T C N n).i sc _ e e' _ W X t e2 id G.g
      exact ps_dFor G.hp G.g.calm h1 (trTg_ok G.g n t t' e1) (hB b b' e3) (h2 _)
    | cons _ _ => cases h
  | Return e pos =>
    cases e with
    | some e =>
      obtain ⟨e', e1, rfl⟩ := Option.map_eq_some_iff.mp (show (trE T N n sc .mv e).map Sx.ret = some ir from h)
      exact ps_dRet (expr_ok G e1)
    | none => cases h; exact ps_dRetN
  | Break pos => cases h; exact ps_dBrk
  | Continue pos => cases h; exact ps_dCont
  | Pass pos => cases h; exact ps_dPass
  | Raise a b pos =>
    have fail : ∀ {a b : Option Expr}, PS X (.Raise a b pos) (tS X.K X.mg W (denS C .fail)) := fun {a b} => by
      refine PS.by fun pins s₀ σ H D I q => ?_
      obtain ⟨g, s, F, hK, hm, w, p⟩ := q
      exact p.elim
    have h : trRa T N n sc a b = some ir := h
    unfold trRa at h
    split at h
    · rename_i x _ e _ _
      split at h
      · rename_i hc
        simp only [Bool.and_eq_true, decide_eq_true_eq] at hc
        obtain ⟨⟨⟨h1, h2⟩, h3⟩, h4⟩ := hc
        obtain ⟨e', e1, rfl⟩ := Option.map_eq_some_iff.mp h
        obtain ⟨D, fI, fd, o1, o2, o3, o4, o5, o6⟩ := G.g.exc x h1
        exact ps_dRaise (k := 1) G.g.calm G.g.tk o1 o2 o3 (o6 _ _ 0) G.g.rm o4 passes_no (gl_ok G.g h2) o5 (expr_ok G e1) (plain_dbg h3) (star1 h4)
      · cases h; exact fail
    · cases h; exact fail
  | Try b hs el fi pos =>
    have h : trTry T N n sc (trB T N n sc b) hs el fi = some ir := h
    unfold trTry at h
    split at h
    · split at h
      · rename_i hc
        obtain ⟨i, e0, h⟩ := Option.bind_eq_some_iff.mp h
        obtain ⟨bi, e1, h⟩ := Option.bind_eq_some_iff.mp h
        obtain ⟨hi, e2, rfl⟩ := Option.map_eq_some_iff.mp h
        exact ps_tri G (fun W' pn xe G' => hT W' _ G' b bi e1) e2 hc e0
      · cases h
    · cases h
  | _ => cases h
theorem stepB {n : Nat} (hS : OkS T C N sc W X n) (hB : OkB T C N sc W X n) : OkB T C N sc W X (n + 1) := by
  intro b ir h
  cases b with
  | nil => cases h; exact pss_dNil
  | cons s r =>
    obtain ⟨a, e1, h⟩ := Option.bind_eq_some_iff.mp (show ((trS T N n sc s).bind fun a => (trB T N n sc r).map (a :: ·)) = some ir from h)
    obtain ⟨b, e2, rfl⟩ := Option.map_eq_some_iff.mp h
    exact pss_dCons (hS s a e1) (hB r b e2)
theorem low_s : ∀ n, (∀ W X, GoodS T C N sc W X → OkS T C N sc W X n) ∧ (∀ W X, GoodS T C N sc W X → OkB T C N sc W X n)
  | 0 => ⟨(by intro _ _ _ _ _ h; cases h), (by intro _ _ _ _ _ h; cases h)⟩
  | n + 1 => ⟨fun W X G => stepS G (low_s n).2, fun W X G => stepB ((low_s n).1 W X G) ((low_s n).2 W X G)⟩
end
/-! ## the table of the defs -/
/-- what the head gives about one def -/
structure DefAt (K : PySem.W.Frag) (mg : Str → Option Value) (T : Tb) (x : Str) (st : Stmt) (N ps : List Str) (f : Addr) (fd : FuncData) : Prop where
  fu : Fun K x x st f fd
  sc : FnScope N ps (defScope st)
  bd : Binds K fd ps []
  at_ : mg x = some (.ref f)
/-- _law_same, as the head gives it -/
def SameW (P : Program) (K : PySem.W.Frag) (mg : Str → Option Value) : Prop := ∃ f fd, mg "_law_same" = some (.ref f) ∧ PySem.W.keepIn K (.ref f) = true ∧ Binds K fd ["told", "due"] [] ∧ ∀ w base k, FnC P w K mg base (L2.CX P w) (k + 1) f fd ["told", "due"] spSame
/-- the global names as the reader sees them -/
structure World1 (P : Program) (K : PySem.W.Frag) (mg : Str → Option Value) (T : Tb) : Prop where
  blt : ∀ x, x ∈ bNames → T.fns.lookup x = none → mg x = none
  cst : ∀ x d, T.cst.lookup x = some d → ∃ u v, mg x = some u ∧ RelV v u ∧ ∀ F, Rp K F v d
  exw : ExcW K mg T.par
  exc : ∀ x ∈ T.excs, ExcAt P K mg x
  same : T.same = true → SameW P K mg
theorem run_bad (D : Dt) (n j : Nat) {d : FDef} (h : D.lookup j = some d) (vs : List Va) (S : List PyData) (hl : vs.length ≠ d.np) : run D n j vs S = .bad := by
  cases n with
  | zero => rfl
  | succ n =>
    show (match D.lookup j with
      | some d => fnOf d.np d.nl (denB (run D n) d.body)
      | none => fun _ _ => .bad) vs S = .bad
    rw [h]
    exact if_neg hl
section
variable {P : Program} {w : World} {K : PySem.W.Frag} {mg : Str → Option Value} {base : Heap} {T : Tb} {D : Dt}
/-- the context of a def's body is good -/
theorem goodS_cx {C : Nat → Fn} {N ps : List Str} {sc : Scope} {qual : Str} {f : Addr} {cdv : Value} {A : Around} {outer : List PySem.Env} {s : Shared} {H : Hp} {E : XK} {k : Nat} (Sc : FnScope N ps sc) (w1 : World1 P K mg T) (hr : Room k (A.deeper (envOfC qual sc s.heap.objs.size f cdv))) (hk : 2 ≤ k)
    (hf : ∀ j x, T.fns.lookup x = some j → FnHere (cxOf (L2.CX P w) P w K mg base N qual sc f cdv A outer s H E) x (C j)) : GoodS T C N sc (wOut E) (cxOf (L2.CX P w) P w K mg base N qual sc f cdv A outer s H E) := by
  refine ⟨⟨rfl, Sc.nd, rfl, fun _ _ => rfl, rfl, ?_, takes_of rfl rfl rfl rfl, hf, w1.blt, w1.cst, w1.exw, w1.exc, hr.mono hk, fun h => let ⟨f, fd, a, b, c, d⟩ := w1.same h; ⟨f, fd, 2, a, b, c, d _ _ 1, L2H.roomH_of (hr.mono hk)⟩⟩, passes_of rfl, rfl, rfl⟩
  have := hr.un
  show (A.deeper (envOfC qual sc s.heap.objs.size f cdv)).units + 66 < _
  omega
/-- every def of the table, at every depth -/
theorem table_ok (w1 : World1 P K mg T) (hT : ∀ j x, T.fns.lookup x = some j → ∃ st N ps f fd, ∃ d : FDef, DefAt K mg T x st N ps f fd ∧ D.lookup j = some d ∧ d.np = ps.length ∧ d.nl = N.length ∧ ∃ n, trB T N n (defScope st) (defBody st) = some d.body) :
    ∀ n j x, T.fns.lookup x = some j → ∃ st N ps f fd, ∃ d : FDef, DefAt K mg T x st N ps f fd ∧ D.lookup j = some d ∧ d.np = ps.length ∧ FnOk P w K mg base (L2.CX P w) (n + 2) f fd ps (spFn K mg ps.length (run D n j)) := by
  intro n
  induction n with
  | zero =>
    intro j x hx
    obtain ⟨st, N, ps, f, fd, d, a, b, c, e, m, g⟩ := hT j x hx
    refine ⟨st, N, ps, f, fd, d, a, b, c, ?_⟩
    have hrun : run D 0 j = fnOf ps.length N.length (fun _ => .bad) := by
      funext vs S
      show FR.bad = _
      unfold fnOf
      split <;> rfl
    rw [hrun]
    refine fn_den a.fu a.sc fun cdv A outer s H E hr => PSs.by fun pins s₀ σ H Q I q => ?_
    obtain ⟨g, s, F, hK, hm, w, p⟩ := q
    exact p.elim
  | succ n ih =>
    intro j x hx
    obtain ⟨st, N, ps, f, fd, d, a, b, c, e, m, g⟩ := hT j x hx
    refine ⟨st, N, ps, f, fd, d, a, b, c, ?_⟩
    have hrun : run D (n + 1) j = fnOf ps.length N.length (denB (run D n) d.body) := by
      show (match D.lookup j with
        | some d => fnOf d.np d.nl (denB (run D n) d.body)
        | none => fun _ _ => .bad) = _
      rw [b]
      show fnOf d.np d.nl _ = _
      rw [c, e]
    rw [hrun]
    refine fn_den a.fu a.sc fun cdv A outer s H E hr => ?_
    refine (low_s m).2 _ _ (goodS_cx a.sc w1 hr (by omega) fun j' x' hx' => ?_) _ _ g
    obtain ⟨st', N', ps', f', fd', d', a', b', c', o⟩ := ih j' x' hx'
    exact ⟨f', fd', ps', n + 2, ps'.length, a'.at_, a'.fu.kp, a'.bd, hr, o, fun vs S hl => run_bad D n j' b' vs S (by rw [c']; exact hl)⟩
end
end Ev

namespace Ev
open PySem PySem.Spec PyProof.Rows L2

/-! ## the pot of a script -/
def potBody (scope : Scope) (p1 p2 p3 p4 p5 p6 p7 p8 p9 p10 p11 p12 p13 p14 : Pos) (j1 j2 j3 j4 : Nat) : List Stmt :=
  [.Return (some (.List [.ListComp (.Call (.Name "abs" p1) [.Name "cell" p2] [] p3) [⟨.Name "cell" p4, .Subscript (.Name "script" p5) (.Slice none (some (.Constant (.int 63) j1 p6)) none p7) p8, [], 0⟩] scope p9,
    .Constant (.int 0) j2 p10, .Constant (.int 0) j3 p11, .Constant (.int 1) j4 p12] p13)) p14]
def absI (i : Int) : Int := if i < 0 then -i else i
theorem absI_nn (i : Int) : 0 ≤ absI i := by unfold absI; split <;> omega
def potN : List Str := ["script", "cell"]
def spPot (K : PySem.W.Frag) : Sp := fun vs H Q _ => ∃ (a : Addr) (ns : List Int), vs = [.ref a] ∧ SqL K H a (ns.map V.int) ∧ ns.length ≤ 63 ∧
  ∀ H' p q, Same H H' → H p = none → p ≠ q → H' p = some (.lst [.ref q, .int 0, .int 0, .int 1]) → H' q = some (.lst ((ns.map absI).map V.int)) → Q (.ref p) H'
theorem cut63 (xs : List V) (h : xs.length ≤ 63) : cutV xs none (some 63) = xs := by
  unfold cutV
  rw [HT.sIx_none, show HT.sIx xs.length xs.length (some 63) = min 63 xs.length from HT.sIx_nat xs.length xs.length 63]
  rw [List.drop_zero, Nat.sub_zero, Nat.min_eq_right h, List.take_length]
section
variable {P : Program} {w : World} {K : PySem.W.Frag} {mg : Str → Option Value} {base : Heap}
theorem pot_ok {scope : Scope} {p1 p2 p3 p4 p5 p6 p7 p8 p9 p10 p11 p12 p13 p14 : Pos} {j1 j2 j3 j4 : Nat} {x : Str} {st : Stmt} {f : Addr} {fd : FuncData} {k : Nat} (Fu : Fun K x x st f fd) (Sc : FnScope potN ["script"] (defScope st)) (hb : defBody st = potBody scope p1 p2 p3 p4 p5 p6 p7 p8 p9 p10 p11 p12 p13 p14 j1 j2 j3 j4)
    (hblk : blkC potN (defScope st) scope [("cell", 1)] = true) (hs : (defScope st).names.lookup (Str.ofString "script") = some NameKind.local) (hc : scope.names.lookup (Str.ofString "cell") = some NameKind.local) (hg : (relS scope (defScope st)).names.lookup (Str.ofString "abs") = some NameKind.globalImplicit) (hc2 : (relS scope (defScope st)).names.lookup (Str.ofString "cell") = some NameKind.local) (hma : mg "abs" = none) :
    FnOk P w K mg base (L2.CX P w) (k + 1) f fd ["script"] (spPot K) := by
  refine Fu.okX Sc (fun vs H Q E h => by obtain ⟨a, ns, rfl, _⟩ := h; rfl) fun cdv A outer s H vs Q E hr h => ?_
  rw [hb]
  refine ⟨_, pss_one (ps_ret (pe_lst (pa_cons (pe_lc rfl Sc.nd (pi_list (pe_slice sl_list (pe_var (i := 0) rfl (.inl hs) (by decide +kernel) (by decide +kernel)) po_none (po_some pe_int))) (blkOk_by hblk)
      (fun s H C cl fp => pg_name (i := 1) Sc.nd rfl (.inl hc2) (.inr hc2)) (fun s H C cl fp => pts_nil) (fun s H C cl fp => pe_callB call_abs hg hma (boot_B1 .abs).1 (pa_cons (pe_var (i := 1) rfl (.inl hc2) (by decide +kernel) (by decide +kernel)) pa_nil rfl)) (fun _ => rfl))
    (pa_cons pe_int (pa_cons pe_int (pa_cons pe_int pa_nil rfl) rfl) rfl) rfl))), ?_⟩
  obtain ⟨a, ns, rfl, hS, hlen, q⟩ := h
  refine ⟨.ref a, rfl, 63, rfl, a, ns.map V.int, rfl, hS, fun c nc => ?_⟩
  have m1 : Same H (upd H c (.lst (cutV (ns.map V.int) none (some 63)))) := fun b x e => by
    rw [upd_ne (ne_of_none e nc)]; exact e
  rw [cut63 _ (by rw [List.length_map]; exact hlen)] at m1 ⊢
  refine ⟨c, rfl, ⟨ns.map V.int, .inl (.inl upd_same)⟩, fun D nD => ?_⟩
  have hDc : D ≠ c := fun e => by rw [e, upd_same] at nD; cases nD
  refine ⟨fun i m H' => i + m = ns.length ∧ Same H H' ∧ H' c = some (.lst (ns.map V.int)) ∧ H' D = some (.lst (((ns.take i).map absI).map V.int)), ⟨ns.length, by omega, ?_, ?_, ?_⟩, fun i m H' hW => ?_⟩
  · exact fun b x e => by
      have e1 := m1 b x e
      rw [upd_ne (ne_of_none e1 nD)]; exact e1
  · rw [upd_ne hDc.symm, upd_same]
  · rw [upd_same]; rfl
  · obtain ⟨hm, sm, ec, eD⟩ := hW
    have hC : SqL K H' c (ns.map V.int) := .inl (.inl ec)
    by_cases hi : i < ns.length
    · have gi : (ns.map V.int)[i]? = some (.int ns[i]) := by rw [List.getElem?_map, List.getElem?_eq_getElem hi]; rfl
      refine .inr ⟨⟨_, _, hC, gi⟩, fun H'' => Same H H'' ∧ H'' c = some (.lst (ns.map V.int)) ∧ H'' D = some (.lst (((ns.take (i + 1)).map absI).map V.int)), fun H'' hN => ⟨m - 1, by omega, by omega, hN⟩, fun x H'' hy => ?_⟩
      obtain ⟨rfl, fx⟩ := hy
      have ex : x = .int ns[i] := Option.some.inj ((fx _ hC).symm.trans gi)
      subst ex
      refine ⟨rfl, ?_⟩
      unfold tYes; dsimp only
      rw [if_pos rfl]
      refine ⟨_, rfl, ns[i], rfl, _, eD, ?_, ?_, ?_, ?_⟩
      · rw [List.length_map, List.length_map, List.length_take]
        exact Nat.lt_of_le_of_lt (Nat.min_le_left _ _) (Nat.lt_of_le_of_lt (Nat.le_trans (Nat.le_of_lt hi) hlen) (by decide))
      · exact fun b x e => by
          rw [upd_ne (ne_of_none (m1 b x e) nD)]
          exact sm b x e
      · rw [upd_ne hDc.symm]; exact ec
      · rw [upd_same, List.take_add_one, List.getElem?_eq_getElem hi, List.map_append, List.map_append]
        rfl
    · refine .inl ⟨⟨_, hC, by rw [List.length_map]; omega⟩, ?_⟩
      have et : ns.take i = ns := List.take_of_length_le (by omega)
      rw [et] at eD
      refine ⟨by show 4 ≤ sizeLine; decide, fun p np => ?_⟩
      have hpD : p ≠ D := fun e => by rw [e, eD] at np; cases np
      have hpH : H p = none := by
        cases e : H p with
        | none => rfl
        | some o => rw [sm _ _ e] at np; cases np
      refine q _ p D (fun b x e => ?_) hpH hpD upd_same ?_
      · rw [upd_ne (ne_of_none (sm b x e) np)]; exact sm b x e
      · rw [upd_ne (Ne.symm hpD)]; exact eD
/-- a law's promise -/
def spLaw (K : PySem.W.Frag) : Sp := fun vs H Q _ => ∃ (a : Addr) (ns : List Int), vs = [.ref a] ∧ SqL K H a (ns.map V.int) ∧ ns.length ≤ 63 ∧ ∀ H', Q (.bl true) H'
/-- the pot's first content -/
def pot0 (ns : List Int) : List PyData := [.list ((ns.map absI).map PyData.int), .int 0, .int 0, .int 1]
def start0 (N : List Str) (ns : List Int) : Stt := ⟨none :: some .pot :: List.replicate (N.length - 2) none, pot0 ns⟩
theorem rp_ints {F : Hp} : ∀ ns : List Int, RpAll K F (ns.map V.int) (ns.map PyData.int)
  | [] => .nil
  | n :: ns => .cons (.int n) (rp_ints ns)
theorem law_ok {T : Tb} {D : Dt} {N : List Str} {st : Stmt} {py pp ps pc pos : Pos} {rest : List Stmt} {f fp : Addr} {fd fdp : FuncData} {m n : Nat} {ir : List Sx} (Fu : Fun K "law" "law" st f fd) (Sc : FnScope N ["script"] (defScope st))
    (hb : defBody st = .Assign [.Name "pot" py] (.Call (.Name "_law_pot" pp) [.Name "script" ps] [] pc) pos :: rest) (h0 : N[0]? = some (Str.ofString "script")) (h1 : N[1]? = some (Str.ofString "pot")) (hs : (defScope st).names.lookup (Str.ofString "script") = some NameKind.local) (hpt : storedF (defScope st) (fun _ => true) (Str.ofString "pot") = true)
    (hg : (defScope st).names.lookup (Str.ofString "_law_pot") = some NameKind.globalImplicit) (hm : mg "_law_pot" = some (.ref fp)) (hk : PySem.W.keepIn K (.ref fp) = true) (hbp : Binds K fdp ["script"] []) (FP : FnOk P w K mg base (L2.CX P w) (m + 2) fp fdp ["script"] (spPot K))
    (w1 : World1 P K mg T) (hT : ∀ j x, T.fns.lookup x = some j → ∃ st N ps f fd, ∃ d : FDef, DefAt K mg T x st N ps f fd ∧ D.lookup j = some d ∧ d.np = ps.length ∧ d.nl = N.length ∧ ∃ n, trB T N n (defScope st) (defBody st) = some d.body)
    (hr : trB T N n (defScope st) rest = some ir) (plain : ∀ ns : List Int, ns.length ≤ 63 → ∃ s', denB (run D m) ir (start0 N ns) = .rt (.dat (.bool true)) s') : FnOk P w K mg base (L2.CX P w) (m + 3) f fd ["script"] (spLaw K) := by
  refine Fu.okX Sc (fun vs H Q E h => by obtain ⟨a, ns, rfl, _⟩ := h; rfl) fun cdv A outer s H vs Q E hroom h => ?_
  have G : GoodS T (run D m) N (defScope st) (wOut E) (cxOf (L2.CX P w) P w K mg base N "law" (defScope st) f cdv A outer s H E) := goodS_cx Sc w1 hroom (by omega) fun j' x' hx' => by
    obtain ⟨st', N', ps', f', fd', d', a', b', c', o⟩ := table_ok (P := P) (w := w) (base := base) w1 hT m j' x' hx'
    exact ⟨f', fd', ps', m + 2, ps'.length, a'.at_, a'.fu.kp, a'.bd, hroom, o, fun vs S hl => run_bad D m j' b' vs S (by rw [c']; exact hl)⟩
  rw [hb]
  refine ⟨_, pss_cons (ps_set (i := 1) Sc.nd h1 (storedF_ok G.g hpt).1 (pe_callS FP hroom hg hm hk hbp (fun σ => passAt G.g.tk σ) (pa_cons (pe_var (i := 0) h0 (.inl hs) (by decide +kernel) (by decide +kernel)) pa_nil rfl)) rfl (storedF_ok G.g hpt).2) ((low_s n).2 _ _ G _ _ hr), ?_⟩
  obtain ⟨a, ns, rfl, hS, hlen, q⟩ := h
  have hN : 2 ≤ N.length := by
    rcases Nat.lt_or_ge N.length 2 with h | h
    · rw [List.getElem?_eq_none (by omega)] at h1; cases h1
    · exact h
  refine ⟨.ref a, ?_, a, ns, rfl, hS, hlen, fun H' p q' sm np hpq ep eq => ?_⟩
  · unfold L2.start
    rfl
  refine ⟨⟨K, mg, p, fun b => if b = p then none else H' b, H'⟩, start0 N ns, fun b => if b = p then none else H' b, rfl, rfl, ?_, ?_⟩
  · have eF : ∀ b, b ≠ p → (if b = p then none else H' b) = H' b := fun b hb => if_neg hb
    refine ⟨?_, fun b x e => ?_, Same.refl _, fun _ _ => rfl, fun _ _ _ h => h, if_pos rfl, ⟨_, ep, by show 4 ≤ sizeLine; decide, ?_⟩, fun i v e => ?_, fun i j xs ys a e1 e2 _ _ => ?_⟩
    · unfold start0 L2.start
      simp
      omega
    · have e : (if b = p then none else H' b) = some x := e
      split at e
      · cases e
      · exact e
    · refine .cons (.lst (xs := (ns.map absI).map V.int) ?_ ?_ (rp_ints _)) (.cons (.int _) (.cons (.int _) (.cons (.int _) .nil)))
      · show (if q' = p then none else H' q') = _
        rw [if_neg (Ne.symm hpq)]; exact eq
      · rw [List.length_map, List.length_map]
        exact Nat.le_trans hlen (by decide)
    · have e : (none :: some Va.pot :: List.replicate (N.length - 2) (none : Option Va))[i]? = some (some v) := e
      match i, e with
      | 0, e => cases e
      | 1, e =>
        cases e
        refine ⟨.ref p, ?_, rfl⟩
        unfold L2.start
        rw [List.getElem?_set_self (by simp; omega)]
      | i + 2, e =>
        rw [List.getElem?_cons_succ, List.getElem?_cons_succ, List.getElem?_replicate] at e
        split at e <;> cases e
    · have e1 : (none :: some Va.pot :: List.replicate (N.length - 2) (none : Option Va))[i]? = some (some (.own xs)) := e1
      match i, e1 with
      | 0, e => cases e
      | 1, e => cases e
      | i + 2, e =>
        rw [List.getElem?_cons_succ, List.getElem?_cons_succ, List.getElem?_replicate] at e
        split at e <;> cases e
  · obtain ⟨s', e⟩ := plain ns hlen
    rw [e]
    intro σ' F' H2 u w' m' r
    cases r
    exact q H2
end
end Ev

namespace Ev
open PySem PySem.Spec PyProof.Rows L2

/-! ## what the head gives, put together -/
def NoneAll (mg : Str → Option Value) : List Str → Prop
  | [] => True
  | x :: r => mg x = none ∧ NoneAll mg r
theorem NoneAll.at {mg : Str → Option Value} : ∀ {l : List Str}, NoneAll mg l → ∀ x, x ∈ l → mg x = none
  | y :: r, ⟨h, hr⟩, x, hx => by
    rcases List.mem_cons.mp hx with rfl | hx
    · exact h
    · exact hr.at x hx
def CstAt (K : PySem.W.Frag) (mg : Str → Option Value) (x : Str) (d : PyData) : Prop := ∃ u v, mg x = some u ∧ RelV v u ∧ ∀ F, Rp K F v d
def CstAll (K : PySem.W.Frag) (mg : Str → Option Value) : List (Str × PyData) → Prop
  | [] => True
  | p :: r => CstAt K mg p.1 p.2 ∧ CstAll K mg r
theorem CstAll.at {K : PySem.W.Frag} {mg : Str → Option Value} : ∀ {l : List (Str × PyData)}, CstAll K mg l → ∀ x d, l.lookup x = some d → CstAt K mg x d
  | (y, e) :: r, ⟨h, hr⟩, x, d, hx => by
    rw [List.lookup_cons] at hx
    split at hx
    · rename_i q
      cases hx
      rw [eq_of_beq q]
      exact h
    · exact hr.at x d hx
theorem cst_str {K : PySem.W.Frag} {mg : Str → Option Value} {x s : Str} {t : Tok} (h : mg x = some (.str s t)) (o : okS s = true) : CstAt K mg x (.str s) := ⟨_, .str s, h, ⟨t, rfl⟩, fun _ => .str o⟩
theorem cst_int {K : PySem.W.Frag} {mg : Str → Option Value} {x : Str} {i : Int} {t : Tok} (h : mg x = some (.int i t)) : CstAt K mg x (.int i) := ⟨_, .int i, h, ⟨t, rfl⟩, fun _ => .int i⟩
/-- plain values and what they are -/
def flatV : List Value → List PyData → Bool
  | [], [] => true
  | .str s _ :: vs, .str x :: ds => decide (s = x) && okS x && flatV vs ds
  | .int i _ :: vs, .int j :: ds => decide (i = j) && flatV vs ds
  | _, _ => false
theorem flatV_ok {K : PySem.W.Frag} {F : Hp} : ∀ {vs : List Value} {ds : List PyData}, flatV vs ds = true → ∃ xs, Vals xs vs ∧ RpAll K F xs ds
  | [], [], _ => ⟨[], .nil, .nil⟩
  | .str s t :: vs, .str x :: ds, h => by
    unfold flatV at h
    simp only [Bool.and_eq_true, decide_eq_true_eq] at h
    obtain ⟨⟨rfl, o⟩, h⟩ := h
    obtain ⟨xs, a, b⟩ := flatV_ok (K := K) (F := F) h
    exact ⟨.str s :: xs, .cons ⟨t, rfl⟩ a, .cons (.str o) b⟩
  | .int i t :: vs, .int j :: ds, h => by
    unfold flatV at h
    simp only [Bool.and_eq_true, decide_eq_true_eq] at h
    obtain ⟨rfl, h⟩ := h
    obtain ⟨xs, a, b⟩ := flatV_ok (K := K) (F := F) h
    exact ⟨.int i :: xs, .cons ⟨t, rfl⟩ a, .cons (.int i) b⟩
theorem flatV_at {K : PySem.W.Frag} : ∀ {vs : List Value} {ds : List PyData}, flatV vs ds = true → ∃ xs, Vals xs vs ∧ ∀ F, RpAll K F xs ds
  | [], [], _ => ⟨[], .nil, fun _ => .nil⟩
  | .str s t :: vs, .str x :: ds, h => by
    unfold flatV at h
    simp only [Bool.and_eq_true, decide_eq_true_eq] at h
    obtain ⟨⟨rfl, o⟩, h⟩ := h
    obtain ⟨xs, a, b⟩ := flatV_at (K := K) h
    exact ⟨.str s :: xs, .cons ⟨t, rfl⟩ a, fun F => .cons (.str o) (b F)⟩
  | .int i t :: vs, .int j :: ds, h => by
    unfold flatV at h
    simp only [Bool.and_eq_true, decide_eq_true_eq] at h
    obtain ⟨rfl, h⟩ := h
    obtain ⟨xs, a, b⟩ := flatV_at (K := K) h
    exact ⟨.int i :: xs, .cons ⟨t, rfl⟩ a, fun F => .cons (.int i) (b F)⟩
theorem vals_len {xs : List V} {vs : List Value} (h : Vals xs vs) : xs.length = vs.length := h.length
theorem cst_tup {K : PySem.W.Frag} {mg : Str → Option Value} {x : Str} {a : Addr} {its : Array Value} {n : Nat} {sl : Array (Option Value)} {ds : List PyData} (h : mg x = some (.ref a)) (l : K.lookup a = some ⟨.type "tuple", none, .seq its n, sl⟩) (z : its.size ≤ 1000) (f : flatV its.toList ds = true) : CstAt K mg x (.tuple ds) := by
  obtain ⟨xs, h1, h2⟩ := flatV_at (K := K) f
  have hz : its.size ≤ sizeLine := Nat.le_trans z (by decide)
  refine ⟨_, .ref a, h, rfl, fun F => .tup (.inr ⟨_, its, n, l, rfl, rfl, hz, h1⟩) ?_ (h2 F)⟩
  rw [vals_len h1, Array.length_toList]
  exact hz
def TabAt (K : PySem.W.Frag) (mg : Str → Option Value) (T : Tb) (D : Dt) (j : Nat) (x : Str) : Prop := ∃ st N ps f fd, ∃ d : FDef, DefAt K mg T x st N ps f fd ∧ D.lookup j = some d ∧ d.np = ps.length ∧ d.nl = N.length ∧ ∃ n, trB T N n (defScope st) (defBody st) = some d.body
def TabAll (K : PySem.W.Frag) (mg : Str → Option Value) (T : Tb) (D : Dt) : List (Str × Nat) → Prop
  | [] => True
  | p :: r => TabAt K mg T D p.2 p.1 ∧ TabAll K mg T D r
theorem TabAll.at {K : PySem.W.Frag} {mg : Str → Option Value} {T : Tb} {D : Dt} : ∀ {l : List (Str × Nat)}, TabAll K mg T D l → ∀ (j : Nat) (x : Str), l.lookup x = some j → TabAt K mg T D j x
  | (y, i) :: r, ⟨h, hr⟩, j, x, hx => by
    rw [List.lookup_cons] at hx
    split at hx
    · rename_i q
      cases hx
      rw [eq_of_beq q]
      exact h
    · exact hr.at j x hx
theorem w1_of {K : PySem.W.Frag} {mg : Str → Option Value} {T : Tb} {P : Program} (hn : NoneAll mg bNames) (hc : CstAll K mg T.cst) (he : ExcW K mg T.par) (hx : ∀ x ∈ T.excs, ExcAt P K mg x) (hs : T.same = true → SameW P K mg) : World1 P K mg T := ⟨fun x hx _ => hn.at x hx, fun x d h => hc.at x d h, he, hx, hs⟩
def leadB : Expr → Bool
  | .Call (.Name a _) [.Name b _, .Name c _] [] _ => decide (a = "isinstance") && decide (b = "due") && (decide (c = "tuple") || decide (c = "bool") || decide (c = "int"))
  | .Compare (.Name b _) [.Is] [.Constant .none _ _] _ => decide (b = "due")
  | _ => false
def leadsB : List Stmt → Bool
  | [.Return (some (.BoolOp .And [.Call (.Name a _) [.Name b _, .Name c _] [] _, .Compare (.Name d _) [.Eq] [.Name e _] _] _)) _] => decide (a = "isinstance") && decide (b = "told") && decide (c = "str") && decide (d = "told") && decide (e = "due")
  | .If c _ [] _ :: l => leadB c && leadsB l
  | _ => false
theorem leadB_ok {c : Expr} (h : leadB c = true) : LeadT c := by
  unfold leadB at h
  split at h
  · simp only [Bool.and_eq_true, Bool.or_eq_true, decide_eq_true_eq] at h
    obtain ⟨⟨rfl, rfl⟩, (rfl | rfl) | rfl⟩ := h
    · exact .isi .tuple _ _ _ _ (.inl rfl)
    · exact .isi .bool _ _ _ _ (.inr (.inl rfl))
    · exact .isi .int _ _ _ _ (.inr (.inr rfl))
  · have h := of_decide_eq_true h
    subst h
    exact .none _ _ _ _
  · cases h
theorem leadsB_ok : ∀ {l : List Stmt}, leadsB l = true → ∃ p1 p2 p3 p4 p5 p6 p7 p8 p9, Leads l [sameRet p1 p2 p3 p4 p5 p6 p7 p8 p9]
  | l, h => by
    unfold leadsB at h
    split at h
    · simp only [Bool.and_eq_true, decide_eq_true_eq] at h
      obtain ⟨⟨⟨⟨rfl, rfl⟩, rfl⟩, rfl⟩, rfl⟩ := h
      exact ⟨_, _, _, _, _, _, _, _, _, .nil _⟩
    · rw [Bool.and_eq_true] at h
      obtain ⟨p1, p2, p3, p4, p5, p6, p7, p8, p9, k⟩ := leadsB_ok h.2
      exact ⟨p1, p2, p3, p4, p5, p6, p7, p8, p9, .cons (leadB_ok h.1) k⟩
    · cases h
/-- _law_same from its def -/
theorem same_w {P : Program} {K : PySem.W.Frag} {mg : Str → Option Value} {T : Tb} {st : Stmt} {N : List Str} {f : Addr} {fd : FuncData} (D : DefAt K mg T "_law_same" st N ["told", "due"] f fd) (hb0 : leadsB (defBody st) = true)
    (h0 : N[0]? = some (Str.ofString "told")) (h1 : N[1]? = some (Str.ofString "due")) (hv0 : seen (defScope st) (Str.ofString "told") = true) (hv1 : seen (defScope st) (Str.ofString "due") = true)
    (hm : NoneAll mg ["isinstance", "tuple", "bool", "int", "str"]) (hgl : ∀ y ∈ (["isinstance", "tuple", "bool", "int", "str"] : List Str), isGl (defScope st) y = true) : SameW P K mg := by
  have hv : ∀ {x : Str}, seen (defScope st) x = true → Vis (defScope st) x := fun {x} h => by
    unfold seen at h
    split at h
    · exact .inl (by assumption)
    · exact .inr (.inl (by assumption))
    · exact .inr (.inr (by assumption))
    · cases h
  obtain ⟨p1, p2, p3, p4, p5, p6, p7, p8, p9, hb⟩ := leadsB_ok hb0
  refine ⟨f, fd, D.at_, D.fu.kp, D.bd, fun w base k => same_ok D.fu D.sc hb h0 h1 (hv hv0) (hv hv1) (fun y hy => hm.at y hy) fun y hy => ?_⟩
  have h := hgl y hy
  unfold isGl at h
  split at h
  · assumption
  · cases h
section
variable {K : PySem.W.Frag} {h : Heap} {mg : Str → Option Value}
/-- a def of the top, by what the head's heap says of it -/
theorem def_at {T : Tb} {x : Str} {st : Stmt} {N ps : List Str} {f : Addr} {oc : Value} {od an : Option Addr} {osl : Array (Option Value)} {kV doc pm cdv ct : Value} (X : K.In h) (G : h.Ns mainGlobals mg)
    (a : PySem.W.nsIn K mainGlobals x = some (some (.ref f))) (l : K.lookup f = some ⟨oc, od, .func (PySem.W.fnOf x x (defArgs st) (defBody st) (defScope st) .none kV doc pm an cdv ct), osl⟩)
    (c : PySem.W.codeIn K cdv x = true) (k : PySem.W.keepIn K (.ref f) = true) (Sc : FnScope N ps (defScope st))
    (hb : ∀ (kV doc pm : Value) (an : Option Addr) (cdv ct : Value) (us : List Value), us.length = ps.length → bindArgs (PySem.W.fnOf x x (defArgs st) (defBody st) (defScope st) .none kV doc pm an cdv ct) ⟨us, []⟩ = pure (ps.zip us)) :
    DefAt K mg T x st N ps f (PySem.W.fnOf x x (defArgs st) (defBody st) (defScope st) .none kV doc pm an cdv ct) := by
  have F := fun_mk (st := st) l c k
  exact ⟨F, Sc, F.binds hb, PySem.W.mg_of X G a⟩
end
theorem cx_none {P : Program} {w : World} {H : Hp} {s : Shared} {e : Value} {s' : Shared} (h : L2.CX P w [] H s (fun _ _ _ => False) e s') : False := by
  obtain ⟨_, _, _, _, _, _, _, _, _, _, _, _, f⟩ := h
  exact f
theorem with_ {P Q : Prop} (p : P) (q : P → Q) : Q := q p
def ClsL (K : PySem.W.Frag) (mg : Str → Option Value) : List (Str × List Str) → List Addr → Prop
  | [], [] => True
  | p :: r, C :: Cs => ClsF K mg p.1 C ∧ ClsL K mg r Cs
  | _, _ => False
def SubR (K : PySem.W.Frag) (C : Addr) (l : List Str) : List (Str × List Str) → List Addr → Prop
  | [], [] => True
  | q :: r, C' :: Cs => PySem.W.subIn K (.ref C) (.ref C') = some (decide (q.1 ∈ l)) ∧ SubR K C l r Cs
  | _, _ => False
def SubL (K : PySem.W.Frag) (par0 : List (Str × List Str)) (Cs0 : List Addr) : List (Str × List Str) → List Addr → Prop
  | [], [] => True
  | p :: r, C :: Cs => SubR K C p.2 par0 Cs0 ∧ SubL K par0 Cs0 r Cs
  | _, _ => False
theorem ClsL.at {K : PySem.W.Frag} {mg : Str → Option Value} : ∀ {par : List (Str × List Str)} {Cs : List Addr}, ClsL K mg par Cs → ∀ x l, par.lookup x = some l → ∃ C, ClsF K mg x C
  | (y, e) :: r, C :: Cs, ⟨h, hr⟩, x, l, hx => by
    rw [List.lookup_cons] at hx
    split at hx
    · rename_i q
      rw [eq_of_beq q]
      exact ⟨C, h⟩
    · exact ClsL.at hr x l hx
theorem SubR.at {K : PySem.W.Frag} {mg : Str → Option Value} {C : Addr} {l : List Str} : ∀ {par : List (Str × List Str)} {Cs : List Addr}, ClsL K mg par Cs → SubR K C l par Cs → ∀ c l' C', par.lookup c = some l' → mg c = some (.ref C') → PySem.W.subIn K (.ref C) (.ref C') = some (decide (c ∈ l))
  | (y, e) :: r, C1 :: Cs, ⟨h, hr⟩, ⟨g, gr⟩, c, l', C', hx, hm => by
    rw [List.lookup_cons] at hx
    split at hx
    · rename_i q
      have hy := eq_of_beq q
      subst hy
      rw [h.at_] at hm
      cases hm
      exact g
    · exact SubR.at hr gr c l' C' hx hm
theorem SubL.at {K : PySem.W.Frag} {mg : Str → Option Value} {par0 : List (Str × List Str)} {Cs0 : List Addr} (h0 : ClsL K mg par0 Cs0) : ∀ {par : List (Str × List Str)} {Cs : List Addr}, ClsL K mg par Cs → SubL K par0 Cs0 par Cs → ∀ x c l l' C C', par.lookup x = some l → par0.lookup c = some l' → mg x = some (.ref C) → mg c = some (.ref C') → PySem.W.subIn K (.ref C) (.ref C') = some (decide (c ∈ l))
  | (y, e) :: r, C1 :: Cs, ⟨h, hr⟩, ⟨g, gr⟩, x, c, l, l', C, C', hx, hc, hm, hm' => by
    rw [List.lookup_cons] at hx
    split at hx
    · rename_i q
      have hy := eq_of_beq q
      subst hy
      cases hx
      rw [h.at_] at hm
      cases hm
      exact SubR.at h0 g c l' C' hc hm'
    · exact SubL.at h0 hr gr x c l l' C C' hx hc hm hm'
theorem excW_mk {K : PySem.W.Frag} {mg : Str → Option Value} {par : List (Str × List Str)} {Cs : List Addr} (b : mg "ValueError" = none) (nv : par.lookup (Str.ofString "ValueError") = none) (h : ClsL K mg par Cs) (s : SubL K par Cs par Cs) : ExcW K mg par :=
  ⟨fun x l hx => ClsL.at h x l hx, fun x c l l' C C' h1 h2 h3 h4 => SubL.at h h s x c l l' C C' h1 h2 h3 h4, b, nv⟩
def ExcL (P : Program) (K : PySem.W.Frag) (mg : Str → Option Value) : List Str → Prop
  | [] => True
  | x :: r => ExcAt P K mg x ∧ ExcL P K mg r
theorem ExcL.at {P : Program} {K : PySem.W.Frag} {mg : Str → Option Value} : ∀ {l : List Str}, ExcL P K mg l → ∀ x ∈ l, ExcAt P K mg x
  | y :: r, ⟨h, hr⟩, x, hx => by
    rcases List.mem_cons.mp hx with rfl | hx
    · exact h
    · exact ExcL.at hr x hx
end Ev

namespace Ev
open PySem PySem.Spec PyProof.Rows L2

/-! ## the plain reading: each step over a written-out state -/
section
variable {α β : Type} {ρ : List (Option Va)} {S : List PyData} {s : Stt}
@[simp] theorem R_ok {a : α} {g : α → De β} : (Res.ok a s).bind g = g a s := rfl
@[simp] theorem R_exc {x : Exn} {g : α → De β} : (Res.exc x s : Res α).bind g = .exc x s := rfl
@[simp] theorem R_okS {a : α} {g : α → Stt → SR} : (Res.ok a s).toS g = g a s := rfl
@[simp] theorem R_excS {x : Exn} {g : α → Stt → SR} : (Res.exc x s : Res α).toS g = .exc x s := rfl
@[simp] theorem S_nx {h : Ds} : (SR.nx s).seq h = h s := rfl
@[simp] theorem S_rt {v : Va} {h : Ds} : (SR.rt v s).seq h = .rt v s := rfl
@[simp] theorem S_bk {h : Ds} : (SR.bk s).seq h = .bk s := rfl
@[simp] theorem S_ct {h : Ds} : (SR.ct s).seq h = .ct s := rfl
@[simp] theorem S_exc {x : Exn} {h : Ds} : (SR.exc x s).seq h = .exc x s := rfl
@[simp] theorem of_some {a : α} : ofOpt (some a) s = .ok a s := rfl
@[simp] theorem frz_d {d : PyData} : frz (.dat d) s = .ok d s := rfl
@[simp] theorem frz_o {xs : List PyData} : frz (.own xs) s = .ok (.list xs) s := rfl
@[simp] theorem val_d {d : PyData} : valD (.dat d) = some d := rfl
@[simp] theorem val_o {xs : List PyData} : valD (.own xs) = some (.list xs) := rfl
@[simp] theorem val_b {xs : List PyData} : valD (.bor xs) = some (.list xs) := rfl
@[simp] theorem arg_d {d : PyData} : toArg (.dat d) s = .ok (.dat d) s := rfl
@[simp] theorem arg_o {xs : List PyData} : toArg (.own xs) s = .ok (.dat (.list xs)) s := rfl
@[simp] theorem arg_p : toArg .pot s = .ok .pot s := rfl
@[simp] theorem s_frz {f : De Va} : dFrz f ⟨ρ, S⟩ = (f ⟨ρ, S⟩).bind frz := rfl
@[simp] theorem s_var {i : Nat} : dVar i ⟨ρ, S⟩ = match ρ[i]? with
  | some (some (.dat d)) => .ok (.dat d) ⟨ρ, S⟩
  | some (some (.own xs)) => .ok (.dat (.list xs)) ⟨ρ.set i (some (.dat (.list xs))), S⟩
  | some (some .pot) => .ok .pot ⟨ρ, S⟩
  | _ => .bad := rfl
@[simp] theorem s_peek {i : Nat} : dPeek i ⟨ρ, S⟩ = match ρ[i]? with
  | some (some (.dat d)) => .ok (.dat d) ⟨ρ, S⟩
  | some (some (.own xs)) => .ok (.bor xs) ⟨ρ, S⟩
  | some (some .pot) => .ok .pot ⟨ρ, S⟩
  | _ => .bad := rfl
@[simp] theorem s_mv {i : Nat} : dMv i ⟨ρ, S⟩ = match ρ[i]? with
  | some (some (.dat d)) => .ok (.dat d) ⟨ρ, S⟩
  | some (some (.own xs)) => .ok (.own xs) ⟨ρ.set i none, S⟩
  | some (some .pot) => .ok .pot ⟨ρ, S⟩
  | _ => .bad := rfl
@[simp] theorem s_c {d : PyData} : dC d s = .ok (.dat d) s := rfl
@[simp] theorem s_bin {o : Operator} {f h : De Va} : dBin o f h ⟨ρ, S⟩ = (dFrz f ⟨ρ, S⟩).bind fun a s => (dFrz h s).bind fun b s => ofOpt (bopD o a b) s := rfl
@[simp] theorem s_neg {f : De Va} : dNeg f ⟨ρ, S⟩ = (dFrz f ⟨ρ, S⟩).bind fun a s => match a with
  | .int i => .ok (.dat (.int (-i))) s
  | _ => .bad := by
  unfold dNeg
  first
  | rfl
  | (cases dFrz f ⟨ρ, S⟩ <;> first | rfl | (rename_i a s; cases a <;> rfl))
@[simp] theorem s_toV {f : De Bool} : toV f ⟨ρ, S⟩ = (f ⟨ρ, S⟩).bind fun b s => .ok (.dat (.bool b)) s := rfl
@[simp] theorem s_cmp {o : CmpOp} {f h : De Va} : dCmpB o f h ⟨ρ, S⟩ = (dFrz f ⟨ρ, S⟩).bind fun a s => (h s).bind fun b s => ofOpt ((valD b).bind (cmpD o a)) s := rfl
@[simp] theorem s_tru {f : De Va} : dTru f ⟨ρ, S⟩ = (f ⟨ρ, S⟩).bind fun v s => ofOpt ((valD v).bind truD) s := rfl
@[simp] theorem s_andB {f h : De Bool} : dAndB f h ⟨ρ, S⟩ = (f ⟨ρ, S⟩).bind fun b s => if b = true then h s else .ok false s := rfl
@[simp] theorem s_orB {f h : De Bool} : dOrB f h ⟨ρ, S⟩ = (f ⟨ρ, S⟩).bind fun b s => if b = true then .ok true s else h s := rfl
@[simp] theorem s_notB {f : De Bool} : dNotB f ⟨ρ, S⟩ = (f ⟨ρ, S⟩).bind fun b s => .ok (!b) s := rfl
@[simp] theorem s_nil : dNil s = .ok [] s := rfl
@[simp] theorem s_cons {f : De Va} {fs : De (List Va)} : dCons f fs ⟨ρ, S⟩ = ((f ⟨ρ, S⟩).bind toArg).bind fun v s => (fs s).bind fun vs s => .ok (v :: vs) s := rfl
@[simp] theorem s_tup {fs : De (List Va)} : dTup fs ⟨ρ, S⟩ = (fs ⟨ρ, S⟩).bind fun vs s => ofOpt ((datsOf vs).bind fun ds => if ds.length ≤ 16777216 then some (.dat (.tuple ds)) else none) s := rfl
@[simp] theorem s_lst {fs : De (List Va)} : dLst fs ⟨ρ, S⟩ = (fs ⟨ρ, S⟩).bind fun vs s => ofOpt ((datsOf vs).bind fun ds => if ds.length ≤ 16777216 then some (.own ds) else none) s := rfl
@[simp] theorem s_idx {f h : De Va} : dIdx f h ⟨ρ, S⟩ = (dFrz f ⟨ρ, S⟩).bind fun a s => (dFrz h s).bind fun b s => ofOpt ((idxD a b).map Va.dat) s := rfl
@[simp] theorem s_idxV {i : Nat} {h : De Va} : dIdxV i h ⟨ρ, S⟩ = match ρ[i]? with
  | some (some _) => (dFrz h ⟨ρ, S⟩).bind fun b s => ofOpt ((slotD s i).bind fun a => (idxD a b).map Va.dat) s
  | _ => .bad := rfl
@[simp] theorem s_slot {i : Nat} : slotD ⟨ρ, S⟩ i = match ρ[i]? with
  | some (some (.dat d)) => some d
  | some (some (.own xs)) => some (.list xs)
  | some (some .pot) => some (.list S)
  | _ => none := rfl
@[simp] theorem s_cutV {i : Nat} {l h : dO} : dCutV i l h ⟨ρ, S⟩ = match ρ[i]? with
  | some (some _) => (l ⟨ρ, S⟩).bind fun lo s => (h s).bind fun hi s => ofOpt ((slotD s i).bind fun a => cutD a lo hi) s
  | _ => .bad := rfl
@[simp] theorem s_cut {f : De Va} {l h : dO} : dCut f l h ⟨ρ, S⟩ = (dFrz f ⟨ρ, S⟩).bind fun a s => (l s).bind fun lo s => (h s).bind fun hi s => ofOpt (cutD a lo hi) s := rfl
@[simp] theorem s_no : dNo s = .ok none s := rfl
@[simp] theorem s_someO {f : De Va} : dSome f ⟨ρ, S⟩ = (dFrz f ⟨ρ, S⟩).bind fun a s => match a with
  | .int i => .ok (some i) s
  | _ => .bad := rfl
@[simp] theorem s_b1 {b : B1} {f : De Va} : dB1 b f ⟨ρ, S⟩ = (f ⟨ρ, S⟩).bind fun v s => ofOpt ((valD v).bind (b1D b)) s := rfl
@[simp] theorem s_call {φ : Fn} {fs : De (List Va)} : dCall φ fs ⟨ρ, S⟩ = (fs ⟨ρ, S⟩).bind fun vs s => match φ vs s.S with
  | .ok v S => .ok v ⟨s.ρ, S⟩
  | .exc x S => .exc x ⟨s.ρ, S⟩
  | .bad => .bad := rfl
@[simp] theorem s_app {i : Nat} {f : De Va} : dApp i f ⟨ρ, S⟩ = match ownAt ⟨ρ, S⟩ i with
  | none => .bad
  | some _ => (dFrz f ⟨ρ, S⟩).bind fun d s => match ownAt s i with
    | none => .bad
    | some xs => if xs.length < 16777216 then .ok (.dat .none) (setOwn s i (xs ++ [d])) else .bad := rfl
@[simp] theorem s_ownAt {i : Nat} : ownAt ⟨ρ, S⟩ i = match ρ[i]? with
  | some (some (.own xs)) => some xs
  | _ => none := rfl
@[simp] theorem s_setOwn {i : Nat} {xs : List PyData} : setOwn ⟨ρ, S⟩ i xs = ⟨ρ.set i (some (.own xs)), S⟩ := rfl
@[simp] theorem s_seq {f h : Ds} : dSeq f h ⟨ρ, S⟩ = (f ⟨ρ, S⟩).seq h := rfl
@[simp] theorem s_skip : dSkip s = .nx s := rfl
@[simp] theorem s_brk : dBrk s = .bk s := rfl
@[simp] theorem s_cont : dCont s = .ct s := rfl
@[simp] theorem s_ret {f : De Va} : dRet f ⟨ρ, S⟩ = (f ⟨ρ, S⟩).toS fun v s => .rt v s := rfl
@[simp] theorem s_retN : dRetN s = .rt (.dat .none) s := rfl
@[simp] theorem s_drop {f : De Va} : dDrop f ⟨ρ, S⟩ = (f ⟨ρ, S⟩).toS fun _ s => .nx s := rfl
@[simp] theorem s_set {i : Nat} {f : De Va} : dSet i f ⟨ρ, S⟩ = (f ⟨ρ, S⟩).toS (putV i) := rfl
@[simp] theorem put_d {i : Nat} {d : PyData} : putV i (.dat d) ⟨ρ, S⟩ = .nx ⟨ρ.set i (some (.dat d)), S⟩ := rfl
@[simp] theorem put_o {i : Nat} {xs : List PyData} : putV i (.own xs) ⟨ρ, S⟩ = .nx ⟨ρ.set i (some (.own xs)), S⟩ := rfl
@[simp] theorem put_p {i : Nat} : putV i .pot ⟨ρ, S⟩ = .nx ⟨ρ.set i (some .pot), S⟩ := rfl
@[simp] theorem s_if {c : De Bool} {f h : Ds} : dIf c f h ⟨ρ, S⟩ = (c ⟨ρ, S⟩).toS fun b s => if b = true then f s else h s := rfl
@[simp] theorem s_asg {h : PyData → Stt → Option Stt} {f : De Va} : dAsg h f ⟨ρ, S⟩ = (dFrz f ⟨ρ, S⟩).toS fun d s => match h d s with
  | some s => .nx s
  | none => .bad := rfl
@[simp] theorem s_sto {i : Nat} {fi f : De Va} : dSto i fi f ⟨ρ, S⟩ = match ρ[i]? with
  | some (some _) => (dFrz f ⟨ρ, S⟩).toS fun d s => (dFrz fi s).toS fun k s => match s.ρ[i]?, k with
    | some (some (.own xs)), .int k => (match ixN xs.length k with
      | some j => .nx (setOwn s i (xs.set j d))
      | none => .bad)
    | some (some .pot), .int k => (match ixN s.S.length k with
      | some j => .nx ⟨s.ρ, s.S.set j d⟩
      | none => .bad)
    | _, _ => .bad
  | _ => .bad := rfl
@[simp] theorem s_aug {i : Nat} {o : Operator} {f : De Va} : dAug i o f ⟨ρ, S⟩ = match ρ[i]? with
  | some (some (.dat (.int k))) => (dFrz f ⟨ρ, S⟩).toS fun d s => match d with
    | .int j => (match augI o k j with
      | some r => .nx ⟨s.ρ.set i (some (.dat (.int r))), s.S⟩
      | none => .bad)
    | _ => .bad
  | _ => .bad := rfl
@[simp] theorem s_items {f : De Va} : dItems f ⟨ρ, S⟩ = (dFrz f ⟨ρ, S⟩).bind fun d s => ofOpt (itemsD d) s := rfl
@[simp] theorem s_rng1 {f : De Va} : dRange1 f ⟨ρ, S⟩ = (dFrz f ⟨ρ, S⟩).bind fun d s => match d with
  | .int j => if inR j = true then .ok (rangeL 0 j.toNat) s else .bad
  | _ => .bad := rfl
@[simp] theorem s_for {f : De (List PyData)} {h : PyData → Stt → Option Stt} {body : Ds} : dFor f h body ⟨ρ, S⟩ = (f ⟨ρ, S⟩).toS fun ds s => forD h body ds s := rfl
@[simp] theorem s_gPut {i : Nat} {d : PyData} : gPut i d ⟨ρ, S⟩ = some ⟨ρ.set i (some (.dat d)), S⟩ := rfl
@[simp] theorem s_yes : dYes s = .ok true s := rfl
@[simp] theorem s_sw {i : Nat} {f h : De Va} : dSw i f h ⟨ρ, S⟩ = match ρ[i]? with
  | some (some (.dat (.str x))) => (dFrz f ⟨ρ, S⟩).bind fun d s => (dFrz h s).bind fun e s => match d, e with
    | .str y, .int k => .ok (.dat (.bool (PySem.Txt.startswith3 x y k))) s
    | _, _ => .bad
  | _ => .bad := rfl
end
@[simp] theorem ofV_v {f : De Va} : (Dn.ofV f).v = f := rfl
@[simp] theorem ofV_t {f : De Va} : (Dn.ofV f).t = dTru f := rfl
@[simp] theorem ofB_v {f : De Bool} : (Dn.ofB f).v = toV f := rfl
@[simp] theorem ofB_t {f : De Bool} : (Dn.ofB f).t = f := rfl
/-- a value at a place: ints -/
theorem idx_nat {xs : List PyData} {j : Nat} {i : Int} {d : PyData} (h : xs[j]? = some d) (hi : i = (j : Int)) : idxD (.list xs) (.int i) = some d := by
  subst hi
  exact atI_nat h
section
variable {i j : Int} {x y : Str} {xs ys : List PyData} {a b : PyData}
@[simp] theorem b_add : bopD .Add (.int i) (.int j) = some (.dat (.int (i + j))) := rfl
@[simp] theorem b_sub : bopD .Sub (.int i) (.int j) = some (.dat (.int (i - j))) := rfl
@[simp] theorem b_mul : bopD .Mult (.int i) (.int j) = if (-(2 ^ 64) < i ∧ i < 2 ^ 64) ∨ (-(2 ^ 64) < j ∧ j < 2 ^ 64) then some (.dat (.int (i * j))) else none := by
  show (if _ then _ else _ : Option Int).map _ = _
  split <;> rfl
@[simp] theorem b_div : bopD .FloorDiv (.int i) (.int j) = if 0 < j ∧ j < 1073741824 then some (.dat (.int (i / j))) else none := by
  show (if _ then _ else _ : Option Int).map _ = _
  split <;> rfl
@[simp] theorem b_mod : bopD .Mod (.int i) (.int j) = if 0 < j then some (.dat (.int (i % j))) else none := by
  show (if _ then _ else _ : Option Int).map _ = _
  split <;> rfl
@[simp] theorem b_strs : bopD .Add (.str x) (.str y) = if x.length + y.length ≤ 16777216 then some (.dat (.str (x ++ y))) else none := rfl
@[simp] theorem b_tups : bopD .Add (.tuple xs) (.tuple ys) = if xs.length + ys.length ≤ 16777216 then some (.dat (.tuple (xs ++ ys))) else none := rfl
@[simp] theorem b_lsts : bopD .Add (.list xs) (.list ys) = if xs.length + ys.length ≤ 16777216 then some (.own (xs ++ ys)) else none := rfl
theorem pow18 : bopD .Pow (.int 10) (.int 18) = some (.dat (.int 1000000000000000000)) := by simp [bopD, bopI]
@[simp] theorem i_lst : idxD (.list xs) (.int i) = atI xs i := rfl
@[simp] theorem i_tup : idxD (.tuple xs) (.int i) = atI xs i := rfl
@[simp] theorem i_str : idxD (.str x) (.int i) = (atI x.cps.toList i).map fun c => .str ⟨#[c]⟩ := rfl
@[simp] theorem c_lt : cmpD .Lt (.int i) (.int j) = some (decide (i < j)) := rfl
@[simp] theorem c_le : cmpD .LtE (.int i) (.int j) = some (decide (i ≤ j)) := rfl
@[simp] theorem c_gt : cmpD .Gt (.int i) (.int j) = some (decide (j < i)) := rfl
@[simp] theorem c_ge : cmpD .GtE (.int i) (.int j) = some (decide (j ≤ i)) := rfl
@[simp] theorem c_inS : cmpD .In (.str x) (.str y) = some (strIn x y) := rfl
@[simp] theorem l_str : b1D .len (.str x) = some (.dat (.int x.length)) := rfl
@[simp] theorem l_lst : b1D .len (.list xs) = some (.dat (.int xs.length)) := rfl
@[simp] theorem l_tup : b1D .len (.tuple xs) = some (.dat (.int xs.length)) := rfl
@[simp] theorem l_int : b1D .int (.int i) = some (.dat (.int i)) := rfl
@[simp] theorem l_tl : b1D .tuple (.list xs) = some (.dat (.tuple xs)) := rfl
@[simp] theorem l_tt : b1D .tuple (.tuple xs) = some (.dat (.tuple xs)) := rfl
@[simp] theorem l_ls : b1D .list (.str x) = some (.own (x.cps.toList.map fun c => .str ⟨#[c]⟩)) := rfl
@[simp] theorem t_bool {k : Bool} : truD (.bool k) = some k := rfl
@[simp] theorem u_str {lo hi : Option Int} : cutD (.str x) lo hi = some (.dat (.str (cutS x lo hi))) := rfl
@[simp] theorem u_tup {lo hi : Option Int} : cutD (.tuple xs) lo hi = some (.dat (.tuple (cutL xs lo hi))) := rfl
@[simp] theorem u_lst {lo hi : Option Int} : cutD (.list xs) lo hi = some (.own (cutL xs lo hi)) := rfl
end
/-! statement by statement -/
section
variable {C : Nat → Fn} {c : Ex} {a b r : List Sx} {x : Sx} {s s' : Stt}
theorem ifs_t (h : (den C c).t s = .ok true s') : denS C (.ifs c a b) s = denB C a s' := by
  show ((den C c).t s).toS _ = _
  rw [h]; rfl
theorem ifs_f (h : (den C c).t s = .ok false s') : denS C (.ifs c a b) s = denB C b s' := by
  show ((den C c).t s).toS _ = _
  rw [h]; rfl
theorem cons_nx (h : denS C x s = .nx s') : denB C (x :: r) s = denB C r s' := by
  show (denS C x s).seq _ = _
  rw [h]; rfl
theorem cons_rt {v : Va} (h : denS C x s = .rt v s') : denB C (x :: r) s = .rt v s' := by
  show (denS C x s).seq _ = _
  rw [h]; rfl
theorem cons_bk (h : denS C x s = .bk s') : denB C (x :: r) s = .bk s' := by
  show (denS C x s).seq _ = _
  rw [h]; rfl
theorem nil_nx : denB C [] s = .nx s := rfl
theorem app_nx {l : List Sx} (h : denB C l s = .nx s') : denB C (l ++ r) s = denB C r s' := by
  induction l generalizing s with
  | nil => cases h; rfl
  | cons y l ih =>
    have h : (denS C y s).seq (denB C l) = .nx s' := h
    show (denS C y s).seq (denB C (l ++ r)) = _
    cases e : denS C y s with
    | nx s1 => rw [e] at h; exact ih h
    | rt v s1 => rw [e] at h; cases h
    | bk s1 => rw [e] at h; cases h
    | ct s1 => rw [e] at h; cases h
    | exc y s1 => rw [e] at h; cases h
    | bad => rw [e] at h; cases h
end
/-! ## the drawing -/
def drawB : List Sx := [
  .ifs (.cmp .Lt (.idxV 0 (.c (.int (2)))) (.c (.int (2)))) [
    .set 2 (.c (.int (7))),
    .ifs (.cmp .Lt (.idxV 0 (.c (.int (1)))) (.b1 .len (.idxV 0 (.c (.int (0)))))) [
      .set 2 (.idx (.idxV 0 (.c (.int (0)))) (.idxV 0 (.c (.int (1))))),
      .sto 0 (.c (.int (1))) (.bin .Add (.idxV 0 (.c (.int (1)))) (.c (.int (1))))] [],
    .sto 0 (.c (.int (3))) (.bin .Mod (.b1 .int (.bin .Add (.bin .Mult (.idxV 0 (.c (.int (3)))) (.c (.int (48271)))) (.c (.int (11))))) (.c (.int (2147483647)))),
    .sto 0 (.c (.int (2))) (.var 2),
    .ifs (.cmp .Lt (.var 2) (.bin .Pow (.c (.int (10))) (.c (.int (18))))) [
      .set 3 (.bin .Mod (.b1 .int (.bin .Add (.bin .Add (.bin .Mult (.var 2) (.c (.int (69621)))) (.bin .Mult (.idxV 0 (.c (.int (3)))) (.c (.int (40692))))) (.c (.int (5))))) (.c (.int (2147483629)))),
      .sto 0 (.c (.int (2))) (.bin .Add (.bin .Mult (.var 3) (.c (.int (2147483587)))) (.bin .Mod (.b1 .int (.bin .Add (.bin .Mult (.var 2) (.c (.int (16807)))) (.idxV 0 (.c (.int (3)))))) (.c (.int (2147483587)))))] []] [],
  .set 4 (.bin .Mod (.b1 .int (.idxV 0 (.c (.int (2))))) (.var 1)),
  .sto 0 (.c (.int (2))) (.bin .FloorDiv (.idxV 0 (.c (.int (2)))) (.var 1)),
  .ret (.mv 4)]
def potS (L : List Int) (a b c : Int) : List PyData := [.list (L.map PyData.int), .int a, .int b, .int c]
/-- a pot's content -/
def PotOk (S : List PyData) : Prop := ∃ (L : List Int) (a b c : Int), S = potS L a b c ∧ 0 ≤ a
theorem pot0_ok (ns : List Int) : PotOk (pot0 ns) := ⟨ns.map absI, 0, 0, 1, rfl, by omega⟩
@[simp] theorem ix0 {d : PyData} {r : List PyData} : atI (d :: r) 0 = some d := atI_nat (j := 0) rfl
@[simp] theorem ix1 {d e : PyData} {r : List PyData} : atI (d :: e :: r) 1 = some e := atI_nat (j := 1) rfl
@[simp] theorem ix2 {d e f : PyData} {r : List PyData} : atI (d :: e :: f :: r) 2 = some f := atI_nat (j := 2) rfl
@[simp] theorem ix3 {d e f g : PyData} {r : List PyData} : atI (d :: e :: f :: g :: r) 3 = some g := atI_nat (j := 3) rfl
@[simp] theorem ixN1 : ixN 4 1 = some 1 := by decide
@[simp] theorem ixN2 : ixN 4 2 = some 2 := by decide
@[simp] theorem ixN3 : ixN 4 3 = some 3 := by decide
theorem draw_tail (C : Nat → Fn) (L : List Int) (a b c : Int) {m : Int} (h1 : 0 < m) (h2 : m < 1073741824) (u v : Option Va) : denB C (drawB.drop 1) ⟨[some .pot, some (.dat (.int m)), u, v, none], potS L a b c⟩ = .rt (.dat (.int (b % m))) ⟨[some .pot, some (.dat (.int m)), u, v, some (.dat (.int (b % m)))], potS L a (b / m) c⟩ := by
  unfold drawB potS
  simp only [List.drop, denB, denS, den]
  simp [h1, h2]
theorem draw_set (C : Nat → Fn) (L : List Int) (a b c : Int) (m : Int) : b < 2 → 0 ≤ a → ∃ (a' b' c' : Int) (u v : Option Va), 0 ≤ a' ∧ (denB C (drawB.take 1) ⟨[some .pot, some (.dat (.int m)), none, none, none], potS L a b c⟩) = .nx ⟨[some .pot, some (.dat (.int m)), u, v, none], potS L a' b' c'⟩ := by
  intro hb ha
  -- the cell
  obtain ⟨x, a1, ha1, e1⟩ : ∃ (x a1 : Int), 0 ≤ a1 ∧ denS C (.ifs (.cmp .Lt (.idxV 0 (.c (.int (1)))) (.b1 .len (.idxV 0 (.c (.int (0)))))) [
      .set 2 (.idx (.idxV 0 (.c (.int (0)))) (.idxV 0 (.c (.int (1))))),
      .sto 0 (.c (.int (1))) (.bin .Add (.idxV 0 (.c (.int (1)))) (.c (.int (1))))] []) ⟨[some .pot, some (.dat (.int m)), some (.dat (.int 7)), none, none], potS L a b c⟩ = .nx ⟨[some .pot, some (.dat (.int m)), some (.dat (.int x)), none, none], potS L a1 b c⟩ := by
    by_cases hl : a < (L.length : Int)
    · obtain ⟨j, rfl⟩ : ∃ j : Nat, a = (j : Int) := ⟨a.toNat, by omega⟩
      have hj : j < L.length := by omega
      refine ⟨L[j], (j : Int) + 1, by omega, ?_⟩
      have e : atI (L.map PyData.int) (j : Int) = some (.int L[j]) := atI_nat (by rw [List.getElem?_map, List.getElem?_eq_getElem hj]; rfl)
      unfold potS
      simp only [denB, denS, den]
      simp [hj, e]
    · refine ⟨7, a, ha, ?_⟩
      unfold potS
      simp only [denB, denS, den]
      simp [hl]
  -- the rest
  have e2 : ∀ L' (a' b' c' : Int), ∃ (b2 c2 : Int) (v : Option Va), denB C [.sto 0 (.c (.int (3))) (.bin .Mod (.b1 .int (.bin .Add (.bin .Mult (.idxV 0 (.c (.int (3)))) (.c (.int (48271)))) (.c (.int (11))))) (.c (.int (2147483647)))),
    .sto 0 (.c (.int (2))) (.var 2),
    .ifs (.cmp .Lt (.var 2) (.bin .Pow (.c (.int (10))) (.c (.int (18))))) [
      .set 3 (.bin .Mod (.b1 .int (.bin .Add (.bin .Add (.bin .Mult (.var 2) (.c (.int (69621)))) (.bin .Mult (.idxV 0 (.c (.int (3)))) (.c (.int (40692))))) (.c (.int (5))))) (.c (.int (2147483629)))),
      .sto 0 (.c (.int (2))) (.bin .Add (.bin .Mult (.var 3) (.c (.int (2147483587)))) (.bin .Mod (.b1 .int (.bin .Add (.bin .Mult (.var 2) (.c (.int (16807)))) (.idxV 0 (.c (.int (3)))))) (.c (.int (2147483587)))))] []] ⟨[some .pot, some (.dat (.int m)), some (.dat (.int x)), none, none], potS L' a' b' c'⟩ = .nx ⟨[some .pot, some (.dat (.int m)), some (.dat (.int x)), v, none], potS L' a' b2 c2⟩ := by
    intro L' a' b' c'
    by_cases hx : x < 1000000000000000000
    · refine ⟨((x * 69621 + (c' * 48271 + 11) % 2147483647 * 40692 + 5) % 2147483629) * 2147483587 + (x * 16807 + (c' * 48271 + 11) % 2147483647) % 2147483587, (c' * 48271 + 11) % 2147483647, some (.dat (.int ((x * 69621 + (c' * 48271 + 11) % 2147483647 * 40692 + 5) % 2147483629))), ?_⟩
      unfold potS
      simp only [denB, denS, den]
      simp [pow18, hx]
    · refine ⟨x, (c' * 48271 + 11) % 2147483647, none, ?_⟩
      unfold potS
      simp only [denB, denS, den]
      simp [pow18, hx]
  obtain ⟨b2, c2, v, e3⟩ := e2 L a1 b c
  refine ⟨a1, b2, c2, some (.dat (.int x)), v, ha1, ?_⟩
  show denB C (.ifs _ (.set 2 (.c (.int 7)) :: .ifs _ _ _ :: _) [] :: []) _ = _
  rw [cons_nx ((ifs_t (s' := ⟨[some .pot, some (.dat (.int m)), none, none, none], potS L a b c⟩) ?_).trans ((cons_nx (s' := ⟨[some .pot, some (.dat (.int m)), some (.dat (.int 7)), none, none], potS L a b c⟩) rfl).trans ((cons_nx e1).trans e3)))]
  · rfl
  · unfold potS
    simp only [den]
    simp [hb]
theorem draw_ok (C : Nat → Fn) {S : List PyData} (h : PotOk S) {m : Int} (h1 : 0 < m) (h2 : m < 1073741824) : ∃ k S', 0 ≤ k ∧ k < m ∧ PotOk S' ∧ fnOf 2 5 (denB C drawB) [.pot, .dat (.int m)] S = .ok (.dat (.int k)) S' := by
  obtain ⟨L, a, b, c, rfl, ha⟩ := h
  have key : ∃ (a' b' c' : Int) (u v : Option Va), 0 ≤ a' ∧ (denB C (drawB.take 1) ⟨[some .pot, some (.dat (.int m)), none, none, none], potS L a b c⟩) = .nx ⟨[some .pot, some (.dat (.int m)), u, v, none], potS L a' b' c'⟩ := by
    by_cases hb : b < 2
    · exact draw_set C L a b c m hb ha
    · refine ⟨a, b, c, none, none, ha, ?_⟩
      have hc : (den C (.cmp .Lt (.idxV 0 (.c (.int (2)))) (.c (.int (2))))).t ⟨[some .pot, some (.dat (.int m)), none, none, none], potS L a b c⟩ = .ok false ⟨[some .pot, some (.dat (.int m)), none, none, none], potS L a b c⟩ := by
        unfold potS
        simp only [den]
        simp [hb]
      exact (cons_nx (ifs_f hc)).trans rfl
  obtain ⟨a', b', c', u, v, ha', e⟩ := key
  refine ⟨b' % m, _, Int.emod_nonneg _ (by omega), Int.emod_lt_of_pos _ h1, ⟨L, a', b' / m, c', rfl, ha'⟩, ?_⟩
  have e4 : denB C drawB ⟨[some .pot, some (.dat (.int m)), none, none, none], potS L a b c⟩ = _ := (app_nx (l := drawB.take 1) (r := drawB.drop 1) e).trans (draw_tail C L a' b' c' h1 h2 u v)
  show (match denB C drawB ⟨[some .pot, some (.dat (.int m)), none, none, none], potS L a b c⟩ with
    | .rt (.bor _) _ => FR.bad
    | .rt v s => .ok v s.S
    | .nx s => .ok (.dat .none) s.S
    | .exc x s => .exc x s.S
    | _ => .bad) = _
  rw [e4]
/-- a drawing keeps its word -/
def DrawOk (φ : Fn) : Prop := ∀ (S : List PyData) (m : Int), PotOk S → 0 < m → m < 1073741824 → ∃ k S', 0 ≤ k ∧ k < m ∧ PotOk S' ∧ φ [.pot, .dat (.int m)] S = .ok (.dat (.int k)) S'
theorem drawOk (C : Nat → Fn) : DrawOk (fnOf 2 5 (denB C drawB)) := fun S m h h1 h2 => draw_ok C h h1 h2
theorem atI_mem {α : Type} {xs : List α} {k : Int} (h0 : 0 ≤ k) (h1 : k < (xs.length : Int)) : ∃ d, d ∈ xs ∧ atI xs k = some d := by
  obtain ⟨j, rfl⟩ : ∃ j : Nat, k = (j : Int) := ⟨k.toNat, by omega⟩
  have hj : j < xs.length := by omega
  exact ⟨xs[j], List.getElem_mem hj, atI_nat (List.getElem?_eq_getElem hj)⟩
/-- _law_pick -/
def pickB (j : Nat) : List Sx := [.ret (.idxV 1 (.call j [(.var 0), (.b1 .len (.peek 1))]))]
def PickOk (φ : Fn) : Prop := ∀ (S : List PyData) (xs : List PyData), PotOk S → 0 < xs.length → xs.length < 1073741824 → ∃ d S', d ∈ xs ∧ PotOk S' ∧ φ [.pot, .dat (.list xs)] S = .ok (.dat d) S'
theorem pickOk (C : Nat → Fn) (j : Nat) (h : DrawOk (C j)) : PickOk (fnOf 2 2 (denB C (pickB j))) := by
  intro S xs hp h1 h2
  obtain ⟨k, S', k0, k1, p', e⟩ := h S xs.length hp (by omega) (by omega)
  obtain ⟨d, hd, ed⟩ := atI_mem k0 k1
  refine ⟨d, S', hd, p', ?_⟩
  show (match denB C (pickB j) ⟨[some .pot, some (.dat (.list xs))], S⟩ with
    | .rt (.bor _) _ => FR.bad
    | .rt v s => .ok v s.S
    | .nx s => .ok (.dat .none) s.S
    | .exc x s => .exc x s.S
    | _ => .bad) = _
  have : denB C (pickB j) ⟨[some .pot, some (.dat (.list xs))], S⟩ = .rt (.dat d) ⟨[some .pot, some (.dat (.list xs))], S'⟩ := by
    unfold pickB
    simp only [denB, denS, den, denL]
    simp [e, ed]
  rw [this]
/-! equality of what is plain -/
mutual
def noDict : PyData → Bool
  | .dict _ => false
  | .list xs => noDicts xs
  | .tuple xs => noDicts xs
  | _ => true
def noDicts : List PyData → Bool
  | [] => true
  | x :: xs => noDict x && noDicts xs
end
mutual
theorem eqv_self : ∀ d : PyData, noDict d = true → PyData.eqv d d = true
  | .none, _ => rfl
  | .bool b, _ => by cases b <;> rfl
  | .int i, _ => by show (i == i) = true; simp
  | .str x, _ => by show (x == x) = true; simp
  | .list xs, h => eqvAll_self xs h
  | .tuple xs, h => eqvAll_self xs h
theorem eqvAll_self : ∀ xs : List PyData, noDicts xs = true → PyData.eqvAll xs xs = true
  | [], _ => rfl
  | x :: xs, h => by
    have h : (noDict x && noDicts xs) = true := h
    obtain ⟨h1, h2⟩ := Bool.and_eq_true_iff.mp h
    show (PyData.eqv x x && PyData.eqvAll xs xs) = true
    rw [eqv_self x h1, eqvAll_self xs h2]
    rfl
end
theorem eq_self {d : PyData} (h : noDict d = true) (hd : d.depth ≤ 64) : cmpD .Eq d d = some true := by
  show (if min d.depth d.depth ≤ 64 then some (PyData.eqv d d) else none) = _
  rw [if_pos (Nat.le_trans (Nat.min_le_left _ _) hd), eqv_self d h]
end Ev

namespace Ev
open PySem PySem.Spec PyProof.Rows L2

/-! ## texts as lists -/
abbrev txt (L : List Nat) : Str := ⟨L.toArray⟩
@[simp] theorem txt_len (L : List Nat) : (txt L).length = L.length := by
  show L.toArray.size = _
  simp
@[simp] theorem txt_in (c : Nat) (L : List Nat) : strIn (txt [c]) (txt L) = decide (c ∈ L) := by
  unfold strIn
  simp
theorem txt_at {L : List Nat} {i : Nat} (h : i < L.length) : atI L (i : Int) = some L[i] := atI_nat (List.getElem?_eq_getElem h)
theorem cut_nat (L : List Nat) (i j : Nat) (h : i ≤ L.length) : cutS (txt L) (some (i : Int)) (some (j : Int)) = txt ((L.drop i).take (j - i)) := by
  unfold cutS
  rw [HT.sIx_nat, HT.sIx_nat, txt_len]
  show txt _ = txt _
  congr 1
  rw [Nat.min_eq_left h]
  rcases Nat.le_total j L.length with h2 | h2
  · rw [Nat.min_eq_left h2]
  · rw [Nat.min_eq_right h2, List.take_of_length_le (by simp), List.take_of_length_le (by simp; omega)]
theorem cut_to (L : List Nat) (i : Nat) : cutS (txt L) none (some (i : Int)) = txt (L.take i) := by
  unfold cutS
  rw [HT.sIx_nat, HT.sIx_none, txt_len]
  show txt _ = txt _
  congr 1
  simp
theorem cut_last (L : List Nat) : cutS (txt L) (some (-1)) none = txt (L.drop (L.length - 1)) := by
  unfold cutS
  rw [HT.sIx_none, txt_len]
  show txt _ = txt _
  congr 1
  have : HT.sIx L.length 0 (some (-1)) = L.length - 1 := by
    show (if (-1 : Int) < 0 then ((-1 : Int) + (L.length : Int)).toNat else min (-1 : Int).toNat L.length) = _
    rw [if_pos (by decide)]
    omega
  rw [this]
  exact List.take_of_length_le (by simp)
theorem sw_eq (L M : List Nat) (i : Nat) (h : i ≤ L.length) : PySem.Txt.startswith3 (txt L) (txt M) (i : Int) = decide ((L.drop i).take M.length = M) := by
  unfold PySem.Txt.startswith3
  have e : PySem.fromIndex (txt L).length (i : Int) = i := by
    unfold PySem.fromIndex
    rw [if_neg (by omega)]
    omega
  rw [e, PySem.StrLaws.subAt_eq, txt_len, txt_len]
  show (decide (i + M.length ≤ L.length) && ((L.drop i).take M.length == M)) = _
  by_cases hm : (L.drop i).take M.length = M
  · have : M.length ≤ (L.drop i).length := by
      have := congrArg List.length hm
      rw [List.length_take] at this
      omega
    rw [List.length_drop] at this
    simp [hm]
    omega
  · simp [hm]
theorem strs_eq (L M : List Nat) : (txt L = txt M) ↔ L = M := ⟨fun h => by injection h with h; simpa using h, fun h => by rw [h]⟩
@[simp] theorem eqv_str (x y : Str) : PyData.eqv (.str x) (.str y) = decide (x = y) := by
  show (x == y) = _
  rfl
@[simp] theorem dp_str (x : Str) : (PyData.str x).depth = 0 := rfl
@[simp] theorem c_eqS (x y : Str) : cmpD .Eq (.str x) (.str y) = some (decide (x = y)) := by
  unfold cmpD
  simp
@[simp] theorem c_neS (x y : Str) : cmpD .NotEq (.str x) (.str y) = some (!decide (x = y)) := by
  unfold cmpD
  simp
theorem fn_rt {np nl : Nat} {body : Ds} {args : List Va} {S : List PyData} {d : PyData} {s' : Stt} (h : args.length = np) (e : body ⟨args.map some ++ List.replicate (nl - np) none, S⟩ = .rt (.dat d) s') : fnOf np nl body args S = .ok (.dat d) s'.S := by
  unfold fnOf
  rw [if_pos h, e]
/-! loops -/
section
variable {c : De Bool} {body : Ds} {n : Nat} {s s' s1 : Stt}
theorem whl_f (h : c s = .ok false s') : whileD c body (n + 1) s = .nx s' := by
  show (c s).toS _ = _
  rw [h]; rfl
theorem whl_t (h : c s = .ok true s1) (hb : body s1 = .nx s') : whileD c body (n + 1) s = whileD c body n s' := by
  show (c s).toS _ = _
  rw [h]
  show (match body s1 with
        | .nx s => whileD c body n s
        | .ct s => whileD c body n s
        | .bk s => .nx s
        | r => r) = _
  rw [hb]
theorem whl_b (h : c s = .ok true s1) (hb : body s1 = .bk s') : whileD c body (n + 1) s = .nx s' := by
  show (c s).toS _ = _
  rw [h]
  show (match body s1 with
        | .nx s => whileD c body n s
        | .ct s => whileD c body n s
        | .bk s => .nx s
        | r => r) = _
  rw [hb]
variable {p : PyData → Stt → Option Stt} {d : PyData} {ds : List PyData}
theorem for_nx (h : p d s = some s1) (hb : body s1 = .nx s') : forD p body (d :: ds) s = forD p body ds s' := by
  show (match p d s with
    | none => SR.bad
    | some s => _) = _
  rw [h]
  show (match body s1 with
    | .nx s => forD p body ds s
    | .ct s => forD p body ds s
    | .bk s => .nx s
    | x => x) = _
  rw [hb]
theorem for_rt {v : Va} (h : p d s = some s1) (hb : body s1 = .rt v s') : forD p body (d :: ds) s = .rt v s' := by
  show (match p d s with
    | none => SR.bad
    | some s => _) = _
  rw [h]
  show (match body s1 with
    | .nx s => forD p body ds s
    | .ct s => forD p body ds s
    | .bk s => .nx s
    | x => x) = _
  rw [hb]
end
theorem fr_of {C : Nat → Fn} {it : Itx} {tg : Tg} {b : List Sx} {s s1 : Stt} {ds : List PyData} (h : denI C it s = .ok ds s1) : denS C (.fr it tg b) s = forD (Tg.put tg) (denB C b) ds s1 := by
  show dFor (denI C it) tg.put (denB C b) s = _
  unfold dFor
  rw [h]
  rfl
theorem inR_nat {n : Nat} (h : n < 1000000) : Ev.inR (n : Int) = true := by
  unfold Ev.inR
  have h1 : (n : Int) < 1000000 := by omega
  have h2 : (0 : Int) ≤ (n : Int) := by omega
  have h3 : (1000000 : Int) < 2 ^ 62 := by decide +kernel
  have h4 : -(2 ^ 62 : Int) ≤ 0 := by decide +kernel
  exact decide_eq_true ⟨Int.le_trans h4 h2, Int.lt_trans h1 h3⟩
theorem rng1_int {f : De Va} {j : Int} {s s1 : Stt} (h : dFrz f s = .ok (.int j) s1) : dRange1 f s = if Ev.inR j = true then .ok (rangeL 0 j.toNat) s1 else .bad := by
  unfold dRange1
  rw [h]
  rfl
theorem rng1_of {C : Nat → Fn} {a : Ex} {n : Nat} {s s1 : Stt} (h : (den C a).v s = .ok (.dat (.int (n : Int))) s1) (hn : n < 1000000) : denI C (.rng1 a) s = .ok (rangeL 0 n) s1 := by
  have e : dFrz (den C a).v s = .ok (.int (n : Int)) s1 := by
    unfold dFrz
    rw [h]
    rfl
  have e2 : denI C (.rng1 a) s = dRange1 (den C a).v s := by simp only [denI]
  rw [e2, rng1_int e, if_pos (inR_nat hn), Int.toNat_natCast]
theorem inD_list (a : PyData) (xs : List PyData) : inD a (.list xs) = if min (PyData.depthAll xs) a.depth ≤ 64 then some (xs.any fun z => PyData.eqv z a) else none := rfl
theorem inD_tup (a : PyData) (xs : List PyData) : inD a (.tuple xs) = if min (PyData.depthAll xs) a.depth ≤ 64 then some (xs.any fun z => PyData.eqv z a) else none := rfl
end Ev

namespace Ev
open PySem PySem.Spec PyProof.Rows L2
/-! # tools for plain laws -/
def FRof : SR → FR
  | .rt (.bor _) _ => .bad
  | .rt v s => .ok v s.S
  | .nx s => .ok (.dat .none) s.S
  | .exc x s => .exc x s.S
  | _ => .bad
theorem fnOf_at {np nl : Nat} {body : Ds} {args : List Va} {S : List PyData} (h : args.length = np) : fnOf np nl body args S = FRof (body ⟨args.map some ++ List.replicate (nl - np) none, S⟩) := by
  unfold fnOf
  rw [if_pos h]
  cases body ⟨args.map some ++ List.replicate (nl - np) none, S⟩ with
  | rt v s => cases v <;> rfl
  | _ => rfl
@[simp] theorem FR_d {d : PyData} {s : Stt} : FRof (.rt (.dat d) s) = .ok (.dat d) s.S := rfl
@[simp] theorem FR_o {d : List PyData} {s : Stt} : FRof (.rt (.own d) s) = .ok (.own d) s.S := rfl
@[simp] theorem FR_n {s : Stt} : FRof (.nx s) = .ok (.dat .none) s.S := rfl
@[simp] theorem FR_x {x : Exn} {s : Stt} : FRof (.exc x s) = .exc x s.S := rfl
/-! ### for -/
def W1 (r : SR) (I : Stt → Prop) (Q : SR → Prop) : Prop := match r with
  | .nx s => I s
  | .ct s => I s
  | .bk s => Q (.nx s)
  | .rt v s => Q (.rt v s)
  | .exc x s => Q (.exc x s)
  | .bad => Q .bad
theorem forD_wp {p : PyData → Stt → Option Stt} {body : Ds} {Q : SR → Prop} (I : List PyData → Stt → Prop) (h : ∀ d r s, I (d :: r) s → ∃ s1, p d s = some s1 ∧ W1 (body s1) (I r) Q) (e : ∀ s, I [] s → Q (.nx s)) : ∀ (ds : List PyData) (s : Stt), I ds s → Q (forD p body ds s)
  | [], s, hI => e s hI
  | d :: r, s, hI => by
    obtain ⟨s1, e1, w⟩ := h d r s hI
    unfold forD
    rw [e1]
    show Q (match body s1 with
      | .nx s => forD p body r s
      | .ct s => forD p body r s
      | .bk s => .nx s
      | x => x)
    cases eb : body s1 with
    | nx s2 => rw [eb] at w; exact forD_wp I h e r s2 w
    | ct s2 => rw [eb] at w; exact forD_wp I h e r s2 w
    | bk s2 => rw [eb] at w; exact w
    | rt v s2 => rw [eb] at w; exact w
    | exc x s2 => rw [eb] at w; exact w
    | bad => rw [eb] at w; exact w
/-- a loop that runs through: the state by what is walked -/
theorem forD_run {α : Type} {p : PyData → Stt → Option Stt} {body : Ds} {g : α → PyData} (I : List α → Stt → Prop) (h : ∀ x r s, I (x :: r) s → ∃ s1 s2, p (g x) s = some s1 ∧ body s1 = .nx s2 ∧ I r s2) : ∀ (xs : List α) (s : Stt), I xs s → ∃ s', forD p body (xs.map g) s = .nx s' ∧ I [] s'
  | [], s, hI => ⟨s, rfl, hI⟩
  | x :: r, s, hI => by
    obtain ⟨s1, s2, e1, e2, h2⟩ := h x r s hI
    obtain ⟨s', e3, h3⟩ := forD_run I h r s2 h2
    refine ⟨s', ?_, h3⟩
    rw [List.map_cons, for_nx e1 e2]
    exact e3
/-- a loop with a test: the first thing that fails it ends the def -/
theorem forD_all {α : Type} {i : Nat} {body : Ds} {g : α → PyData} {ρ : List (Option Va)} {S : List PyData} {k : α → Bool} {v : PyData} (xs : List α) (h : ∀ x ∈ xs, body ⟨ρ.set i (some (.dat (g x))), S⟩ = if k x = true then .nx ⟨ρ.set i (some (.dat (g x))), S⟩ else .rt (.dat v) ⟨ρ.set i (some (.dat (g x))), S⟩) :
    ∀ t0, ∃ t, forD (gPut i) body (xs.map g) ⟨ρ.set i t0, S⟩ = if xs.all k = true then .nx ⟨ρ.set i t, S⟩ else .rt (.dat v) ⟨ρ.set i t, S⟩ := by
  induction xs with
  | nil => exact fun t0 => ⟨t0, rfl⟩
  | cons x r ih =>
    intro t0
    have e1 : gPut i (g x) ⟨ρ.set i t0, S⟩ = some ⟨ρ.set i (some (.dat (g x))), S⟩ := by
      show some _ = _
      rw [List.set_set]
    have hx := h x (List.mem_cons_self ..)
    cases hk : k x with
    | false =>
      rw [hk] at hx
      refine ⟨some (.dat (g x)), ?_⟩
      rw [List.map_cons, for_rt e1 hx]
      simp [hk]
    | true =>
      rw [hk] at hx
      obtain ⟨t, e2⟩ := ih (fun y hy => h y (List.mem_cons_of_mem _ hy)) (some (.dat (g x)))
      refine ⟨t, ?_⟩
      rw [List.map_cons, for_nx e1 hx, e2]
      simp [hk]
/-! ### list comprehensions -/
theorem lcLoop_wp {α : Type} {h : PyData → Stt → Option Stt} {ft : De Bool} {vs : List Nat} {inner : Acc} {g : α → PyData} (I : List α → List PyData → Stt → Prop)
    (st : ∀ x r acc s, I (x :: r) acc s → ∃ s1 b s2, h (g x) (wipeS s vs) = some s1 ∧ ft s1 = .ok b s2 ∧ (if b = true then ∃ acc' s3, inner acc s2 = .ok acc' s3 ∧ I r acc' s3 else I r acc s2)) :
    ∀ (xs : List α) (acc : List PyData) (s : Stt), I xs acc s → ∃ acc' s', lcLoop h ft vs inner (xs.map g) acc s = .ok acc' s' ∧ I [] acc' s'
  | [], acc, s, hI => ⟨acc, s, rfl, hI⟩
  | x :: r, acc, s, hI => by
    obtain ⟨s1, b, s2, e1, e2, w⟩ := st x r acc s hI
    rw [List.map_cons]
    have e : lcLoop h ft vs inner (g x :: r.map g) acc s = if b = true then (inner acc s2).bind fun acc s => lcLoop h ft vs inner (r.map g) acc s else lcLoop h ft vs inner (r.map g) acc s2 := by
      show (match h (g x) (wipeS s vs) with
        | none => Res.bad
        | some s => (noX (ft s)).bind fun b s => if b = true then (inner acc s).bind fun acc s => lcLoop h ft vs inner (r.map g) acc s else lcLoop h ft vs inner (r.map g) acc s) = _
      rw [e1]
      show (noX (ft s1)).bind _ = _
      rw [e2]
      rfl
    rw [e]
    cases b with
    | true =>
      obtain ⟨acc', s3, e3, h3⟩ := w
      rw [if_pos rfl, e3]
      exact lcLoop_wp I st r acc' s3 h3
    | false =>
      rw [if_neg Bool.false_ne_true]
      exact lcLoop_wp I st r acc s2 w
theorem accE_of {f : De Va} {acc : List PyData} {s s' : Stt} {y : PyData} (h : dFrz f s = .ok y s') (hl : acc.length < 16777216) : accE f acc s = .ok (acc ++ [y]) s' := by
  unfold accE
  rw [h]
  show (if _ then _ else _) = _
  rw [if_pos hl]
/-- but at the places vs -/
def OffV (vs : List Nat) (ρ ρ1 : List (Option Va)) : Prop := ρ1.length = ρ.length ∧ ∀ j, j ∉ vs → ρ1[j]? = ρ[j]?
theorem OffV.wipe {vs : List Nat} {ρ ρ1 : List (Option Va)} (h : OffV vs ρ ρ1) : wipeR ρ1 vs = wipeR ρ vs := by
  refine List.ext_getElem? fun j => ?_
  by_cases hj : j ∈ vs
  · have key : ∀ (ρ : List (Option Va)) (vs : List Nat), j ∈ vs → (wipeR ρ vs)[j]? = if j < ρ.length then some none else none := fun ρ vs => by
      induction vs with
      | nil => intro h; cases h
      | cons v vs ih =>
        intro hj
        unfold wipeR
        by_cases hv : v = j
        · subst hv
          rw [List.getElem?_set]
          simp [wipeR_length]
        · rw [List.getElem?_set_ne hv]
          rcases List.mem_cons.mp hj with h1 | h1
          · exact absurd h1.symm hv
          · exact ih h1
    rw [key _ _ hj, key _ _ hj, h.1]
  · rw [wipeR_out hj, wipeR_out hj]
    exact h.2 j hj
theorem back_off {vs : List Nat} {ρ ρ1 : List (Option Va)} (h : OffV vs ρ ρ1) : back ρ ρ1 vs = ρ := by
  refine List.ext_getElem? fun j => ?_
  have key : ∀ vs : List Nat, (back ρ ρ1 vs)[j]? = if j ∈ vs then (if j < ρ.length then some ((ρ[j]?).join) else none) else ρ1[j]? := fun vs => by
    induction vs with
    | nil => simp [back]
    | cons v vs ih =>
      unfold back
      by_cases hv : v = j
      · subst hv
        rw [List.getElem?_set]
        simp [back_length, h.1]
      · rw [List.getElem?_set_ne hv, ih]
        have : (j ∈ v :: vs) ↔ j ∈ vs := by
          rw [List.mem_cons]
          exact ⟨fun q => q.resolve_left fun e => hv e.symm, .inr⟩
        simp [this]
  rw [key]
  by_cases hj : j ∈ vs
  · rw [if_pos hj]
    by_cases hl : j < ρ.length
    · rw [if_pos hl, List.getElem?_eq_getElem hl]
      rfl
    · rw [if_neg hl, List.getElem?_eq_none (by omega)]
  · rw [if_neg hj]
    exact h.2 j hj
theorem offV_wipe (vs : List Nat) (ρ : List (Option Va)) : OffV vs ρ (wipeR ρ vs) := ⟨wipeR_length _ _, fun j h => wipeR_out h⟩
theorem OffV.refl (vs : List Nat) (ρ : List (Option Va)) : OffV vs ρ ρ := ⟨rfl, fun _ _ => rfl⟩
/-- a list comprehension: what its turns keep -/
theorem lc_wp {α : Type} {C : Nat → Fn} {it : Itx} {tg : Tg} {ft : Option Ex} {vs : List Nat} {elt : Ex} {ρ ρ0 : List (Option Va)} {S S0 : List PyData} {g : α → PyData} {xs : List α} (hi : denI C it ⟨ρ, S⟩ = .ok (xs.map g) ⟨ρ0, S0⟩) (hp : vs.all (plainAt ρ0) = true)
    (I : List α → List PyData → List PyData → Prop) (h0 : I xs [] S0)
    (st : ∀ x r acc S1, I (x :: r) acc S1 → ∃ ρ1, tg.put (g x) ⟨wipeR ρ0 vs, S1⟩ = some ⟨ρ1, S1⟩ ∧ OffV vs ρ0 ρ1 ∧ ∃ b ρ2 S2, denT C ft ⟨ρ1, S1⟩ = .ok b ⟨ρ2, S2⟩ ∧ OffV vs ρ0 ρ2 ∧ (if b = true then ∃ y ρ3 S3, dFrz (den C elt).v ⟨ρ2, S2⟩ = .ok y ⟨ρ3, S3⟩ ∧ OffV vs ρ0 ρ3 ∧ acc.length < 16777216 ∧ I r (acc ++ [y]) S3 else I r acc S2)) :
    ∃ acc S', (den C (.lc it tg ft vs elt)).v ⟨ρ, S⟩ = .ok (.own acc) ⟨ρ0, S'⟩ ∧ I [] acc S' := by
  obtain ⟨acc, s', e, ho, h1⟩ := lcLoop_wp (h := tg.put) (ft := denT C ft) (vs := vs) (inner := accE (den C elt).v) (g := g) (fun r acc s => OffV vs ρ0 s.ρ ∧ I r acc s.S) (fun x r acc s hI => by
    obtain ⟨ho, hI⟩ := hI
    obtain ⟨ρ1, e1, o1, b, ρ2, S2, e2, o2, w⟩ := st x r acc s.S hI
    refine ⟨⟨ρ1, s.S⟩, b, ⟨ρ2, S2⟩, ?_, e2, ?_⟩
    · show tg.put (g x) ⟨wipeR s.ρ vs, s.S⟩ = _
      rw [ho.wipe]
      exact e1
    · cases b with
      | true =>
        obtain ⟨y, ρ3, S3, e3, o3, hl, h3⟩ := w
        exact ⟨_, _, accE_of e3 hl, o3, h3⟩
      | false => exact ⟨o2, w⟩) xs [] ⟨ρ0, S0⟩ ⟨OffV.refl _ _, h0⟩
  refine ⟨acc, s'.S, ?_, h1⟩
  show dLc (denI C it) tg.put (denT C ft) vs (accE (den C elt).v) ⟨ρ, S⟩ = _
  unfold dLc
  rw [hi]
  show (if vs.all (plainAt ρ0) = true then (noX (lcLoop tg.put (denT C ft) vs (accE (den C elt).v) (xs.map g) [] ⟨ρ0, S0⟩)).bind fun acc s => .ok (Va.own acc) ⟨back ρ0 s.ρ vs, s.S⟩ else .bad) = _
  rw [if_pos hp, e]
  show Res.ok (Va.own acc) (⟨back ρ0 s'.ρ vs, s'.S⟩ : Stt) = _
  rw [back_off ho]
/-- a list comprehension that draws nothing -/
theorem lc_map {α : Type} {C : Nat → Fn} {it : Itx} {tg : Tg} {ft : Option Ex} {vs : List Nat} {elt : Ex} {ρ : List (Option Va)} {S : List PyData} {g : α → PyData} {xs : List α} {k : α → Bool} {f : α → PyData} (hi : denI C it ⟨ρ, S⟩ = .ok (xs.map g) ⟨ρ, S⟩) (hp : vs.all (plainAt ρ) = true) (hl : xs.length ≤ 16777216)
    (st : ∀ x ∈ xs, ∃ ρ1, tg.put (g x) ⟨wipeR ρ vs, S⟩ = some ⟨ρ1, S⟩ ∧ OffV vs ρ ρ1 ∧ denT C ft ⟨ρ1, S⟩ = .ok (k x) ⟨ρ1, S⟩ ∧ (k x = true → dFrz (den C elt).v ⟨ρ1, S⟩ = .ok (f x) ⟨ρ1, S⟩)) :
    (den C (.lc it tg ft vs elt)).v ⟨ρ, S⟩ = .ok (.own ((xs.filter k).map f)) ⟨ρ, S⟩ := by
  obtain ⟨acc, S', e, hI⟩ := lc_wp hi hp (fun r acc S1 => S1 = S ∧ (∃ q, xs = q ++ r) ∧ acc ++ (r.filter k).map f = (xs.filter k).map f) ⟨rfl, ⟨[], rfl⟩, rfl⟩ (fun x r acc S1 hI => by
    obtain ⟨rfl, ⟨q, hq⟩, ha⟩ := hI
    have hx : x ∈ xs := by rw [hq]; simp
    obtain ⟨ρ1, e1, o1, e2, e3⟩ := st x hx
    have hq' : ∃ q, xs = q ++ r := ⟨q ++ [x], by rw [hq]; simp⟩
    refine ⟨ρ1, e1, o1, k x, ρ1, _, e2, o1, ?_⟩
    cases hk : k x with
    | true =>
      refine ⟨f x, ρ1, _, e3 hk, o1, ?_, rfl, hq', ?_⟩
      · have h1 := congrArg List.length ha
        simp [hk] at h1
        have h2 := List.length_filter_le k xs
        have h3 := List.length_filter_le k r
        omega
      · rw [← ha]
        simp [hk]
    | false =>
      refine ⟨rfl, hq', ?_⟩
      rw [← ha]
      simp [hk])
  obtain ⟨rfl, _, ha⟩ := hI
  rw [e]
  simp at ha
  rw [ha]
end Ev

namespace Ev
open PySem PySem.Spec PyProof.Rows L2
/-! # ints and texts in tuples -/
abbrev ti (xs : List Int) : PyData := .tuple (xs.map PyData.int)
abbrev tx (xs : List Str) : PyData := .tuple (xs.map PyData.str)
theorem eqvAll_map {α : Type} [DecidableEq α] {g : α → PyData} (hg : ∀ a b, PyData.eqv (g a) (g b) = decide (a = b)) : ∀ a b : List α, PyData.eqvAll (a.map g) (b.map g) = decide (a = b)
  | [], [] => rfl
  | [], _ :: _ => rfl
  | _ :: _, [] => rfl
  | x :: a, y :: b => by
    show (PyData.eqv (g x) (g y) && PyData.eqvAll (a.map g) (b.map g)) = _
    rw [hg, eqvAll_map hg a b]
    by_cases h : x = y <;> by_cases h2 : a = b <;> simp [h, h2]
theorem eqv_int (i j : Int) : PyData.eqv (.int i) (.int j) = decide (i = j) := by
  show (i == j) = _
  rfl
@[simp] theorem eqv_ti (a b : List Int) : PyData.eqv (ti a) (ti b) = decide (a = b) := eqvAll_map eqv_int a b
@[simp] theorem eqv_tx (a b : List Str) : PyData.eqv (tx a) (tx b) = decide (a = b) := eqvAll_map eqv_str a b
theorem depthAll_le {α : Type} {g : α → PyData} {k : Nat} (hg : ∀ a, (g a).depth ≤ k) : ∀ xs : List α, PyData.depthAll (xs.map g) ≤ k
  | [] => Nat.zero_le _
  | x :: xs => by
    show max (g x).depth (PyData.depthAll (xs.map g)) ≤ k
    exact Nat.max_le.mpr ⟨hg x, depthAll_le hg xs⟩
@[simp] theorem depth_int (i : Int) : (PyData.int i).depth = 0 := rfl
@[simp] theorem depth_str (i : Str) : (PyData.str i).depth = 0 := rfl
theorem depth_tup (xs : List PyData) : (PyData.tuple xs).depth = PyData.depthAll xs + 1 := by
  first | rfl | (show 1 + _ = _; omega)
theorem depth_lst (xs : List PyData) : (PyData.list xs).depth = PyData.depthAll xs + 1 := by
  first | rfl | (show 1 + _ = _; omega)
theorem depth_ti (a : List Int) : (ti a).depth ≤ 1 := by
  rw [depth_tup]
  have := depthAll_le (g := PyData.int) (k := 0) (fun _ => Nat.le_refl _) a
  omega
theorem depth_tx (a : List Str) : (tx a).depth ≤ 1 := by
  rw [depth_tup]
  have := depthAll_le (g := PyData.str) (k := 0) (fun _ => Nat.le_refl _) a
  omega
theorem cmp_eq {a b : PyData} (h : min a.depth b.depth ≤ 64) : cmpD .Eq a b = some (PyData.eqv a b) := by
  unfold cmpD
  exact if_pos h
theorem cmp_ne {a b : PyData} (h : min a.depth b.depth ≤ 64) : cmpD .NotEq a b = some (!PyData.eqv a b) := by
  unfold cmpD
  exact if_pos h
@[simp] theorem c_eqI (i j : Int) : cmpD .Eq (.int i) (.int j) = some (decide (i = j)) := cmp_eq (by simp)
@[simp] theorem c_neI (i j : Int) : cmpD .NotEq (.int i) (.int j) = some (!decide (i = j)) := cmp_ne (by simp)
@[simp] theorem c_eqT (a b : List Int) : cmpD .Eq (ti a) (ti b) = some (decide (a = b)) := by
  rw [cmp_eq, eqv_ti]
  have := depth_ti a
  omega
@[simp] theorem c_neT (a b : List Int) : cmpD .NotEq (ti a) (ti b) = some (!decide (a = b)) := by
  rw [cmp_ne, eqv_ti]
  have := depth_ti a
  omega
theorem any_map {α : Type} [DecidableEq α] {g : α → PyData} (hg : ∀ a b, PyData.eqv (g a) (g b) = decide (a = b)) (a : α) : ∀ xs : List α, ((xs.map g).any fun z => PyData.eqv z (g a)) = decide (a ∈ xs)
  | [] => rfl
  | x :: xs => by
    rw [List.map_cons, List.any_cons, hg, any_map hg a xs]
    by_cases h : x = a
    · subst h; simp
    · simp [h, Ne.symm h]
/-- is a thing in a list -/
theorem in_map {α : Type} [DecidableEq α] {g : α → PyData} (hg : ∀ a b, PyData.eqv (g a) (g b) = decide (a = b)) {a : α} {xs : List α} (hd : (g a).depth ≤ 64) : cmpD .In (g a) (.list (xs.map g)) = some (decide (a ∈ xs)) := by
  show inD (g a) (.list (xs.map g)) = _
  rw [inD_list, if_pos (Nat.le_trans (Nat.min_le_right _ _) hd), any_map hg]
theorem notIn_map {α : Type} [DecidableEq α] {g : α → PyData} (hg : ∀ a b, PyData.eqv (g a) (g b) = decide (a = b)) {a : α} {xs : List α} (hd : (g a).depth ≤ 64) : cmpD .NotIn (g a) (.list (xs.map g)) = some (!decide (a ∈ xs)) := by
  show (inD (g a) (.list (xs.map g))).map (!·) = _
  rw [inD_list, if_pos (Nat.le_trans (Nat.min_le_right _ _) hd), any_map hg]
  rfl
@[simp] theorem c_inT (a : List Int) (L : List (List Int)) : cmpD .In (ti a) (.list (L.map ti)) = some (decide (a ∈ L)) := (in_map eqv_ti (Nat.le_trans (depth_ti a) (by decide))).trans (by congr)
@[simp] theorem c_niT (a : List Int) (L : List (List Int)) : cmpD .NotIn (ti a) (.list (L.map ti)) = some (!decide (a ∈ L)) := (notIn_map eqv_ti (Nat.le_trans (depth_ti a) (by decide))).trans (by congr)
@[simp] theorem c_isN (a : PyData) : cmpD .Is a .none = some (match a with | .none => true | _ => false) := rfl
@[simp] theorem c_isnN (a : PyData) : cmpD .IsNot a .none = some (match a with | .none => false | _ => true) := rfl
/-! places -/
theorem atI_map {α β : Type} (g : α → β) (xs : List α) (i : Int) : atI (xs.map g) i = (atI xs i).map g := by
  unfold atI
  rw [List.length_map]
  cases ixN xs.length i with
  | none => rfl
  | some j => simp
theorem atI_at {α : Type} {xs : List α} {i : Nat} (h : i < xs.length) : atI xs (i : Int) = some xs[i] := atI_nat (List.getElem?_eq_getElem h)
theorem atI_last {α : Type} {xs : List α} (h : xs ≠ []) : atI xs (-1) = some (xs.getLast h) := by
  have hl : 0 < xs.length := List.length_pos_iff.mpr h
  unfold atI
  have e : ixN xs.length (-1) = some (xs.length - 1) := by
    unfold ixN
    rw [if_neg (by omega)]
    simp
    omega
  rw [e]
  simp [List.getLast_eq_getElem]
/-! ranges -/
theorem inR_small {i : Int} (h1 : -1000000 ≤ i) (h2 : i ≤ 1000000) : Ev.inR i = true := by
  unfold Ev.inR
  have h3 : (1000000 : Int) < 2 ^ 62 := by decide +kernel
  have h4 : -(2 ^ 62 : Int) ≤ -1000000 := by decide +kernel
  exact decide_eq_true ⟨Int.le_trans h4 h1, Int.lt_of_le_of_lt h2 h3⟩
theorem rng2_of {C : Nat → Fn} {a b : Ex} {lo hi : Int} {s s1 s2 : Stt} (h : dFrz (den C a).v s = .ok (.int lo) s1) (h' : dFrz (den C b).v s1 = .ok (.int hi) s2) (r1 : Ev.inR lo = true) (r2 : Ev.inR hi = true) : denI C (.rng2 a b) s = .ok (rangeL lo (hi - lo).toNat) s2 := by
  have e2 : denI C (.rng2 a b) s = dRange2 (den C a).v (den C b).v s := by simp only [denI]
  rw [e2]
  unfold dRange2
  rw [h]
  show (dFrz (den C b).v s1).bind _ = _
  rw [h']
  show (if (Ev.inR lo && Ev.inR hi) = true then _ else _) = _
  rw [r1, r2]
  rfl
theorem rng1_of' {C : Nat → Fn} {a : Ex} {j : Int} {s s1 : Stt} (h : dFrz (den C a).v s = .ok (.int j) s1) (r : Ev.inR j = true) : denI C (.rng1 a) s = .ok (rangeL 0 j.toNat) s1 := by
  have e2 : denI C (.rng1 a) s = dRange1 (den C a).v s := by simp only [denI]
  rw [e2, rng1_int h, if_pos r]
theorem rangeL_map (lo : Int) (n : Nat) : rangeL lo n = (List.range n).map fun (k : Nat) => PyData.int (lo + k) := rfl
theorem zip_map {α β : Type} {f : α → PyData} {g : β → PyData} : ∀ (xs : List α) (ys : List β), zipD (xs.map f) (ys.map g) = (xs.zip ys).map fun p => .tuple [f p.1, g p.2]
  | [], _ => rfl
  | _ :: _, [] => rfl
  | x :: xs, y :: ys => by
    show _ :: zipD (xs.map f) (ys.map g) = _
    rw [zip_map xs ys]
    rfl
theorem zip_of {C : Nat → Fn} {a b : Ex} {xs ys : List PyData} {s s1 s2 : Stt} (h : dFrz (den C a).v s = .ok (.tuple xs) s1) (h' : dFrz (den C b).v s1 = .ok (.tuple ys) s2) : denI C (.zip a b) s = .ok (zipD xs ys) s2 := by
  have e2 : denI C (.zip a b) s = dZip (den C a).v (den C b).v s := by simp only [denI]
  rw [e2]
  unfold dZip
  rw [h]
  show (dFrz (den C b).v s1).bind _ = _
  rw [h']
  rfl
theorem of_of {C : Nat → Fn} {a : Ex} {d : PyData} {xs : List PyData} {s s1 : Stt} (h : dFrz (den C a).v s = .ok d s1) (h2 : itemsD d = some xs) : denI C (.of a) s = .ok xs s1 := by
  have e2 : denI C (.of a) s = dItems (den C a).v s := by simp only [denI]
  rw [e2]
  unfold dItems
  rw [h]
  show ofOpt (itemsD d) s1 = _
  rw [h2]
  rfl
theorem intsOf_map (xs : List Int) : intsOf (xs.map PyData.int) = some xs := by
  induction xs with
  | nil => rfl
  | cons x xs ih =>
    show (intsOf (xs.map PyData.int)).map (x :: ·) = _
    rw [ih]; rfl
theorem datsOf_map (ds : List PyData) : datsOf (ds.map Va.dat) = some ds := by
  induction ds with
  | nil => rfl
  | cons x xs ih =>
    show (datsOf (xs.map Va.dat)).map (x :: ·) = _
    rw [ih]; rfl
section
variable {C : Nat → Fn} {a b : Ex} {s : Stt}
theorem rng1_s {j : Int} (h : dFrz (den C a).v s = .ok (.int j) s) (r : Ev.inR j = true) : denI C (.rng1 a) s = .ok (rangeL 0 j.toNat) s := rng1_of' h r
theorem rng2_s {lo hi : Int} (h : dFrz (den C a).v s = .ok (.int lo) s) (h' : dFrz (den C b).v s = .ok (.int hi) s) (r1 : Ev.inR lo = true) (r2 : Ev.inR hi = true) : denI C (.rng2 a b) s = .ok (rangeL lo (hi - lo).toNat) s := rng2_of h h' r1 r2
theorem zip_s {xs ys : List PyData} (h : dFrz (den C a).v s = .ok (.tuple xs) s) (h' : dFrz (den C b).v s = .ok (.tuple ys) s) : denI C (.zip a b) s = .ok (zipD xs ys) s := zip_of h h'
theorem of_t {xs : List PyData} {s1 : Stt} (h : dFrz (den C a).v s = .ok (.tuple xs) s1) : denI C (.of a) s = .ok xs s1 := of_of h rfl
theorem of_l {xs : List PyData} {s1 : Stt} (h : dFrz (den C a).v s = .ok (.list xs) s1) : denI C (.of a) s = .ok xs s1 := of_of h rfl
end
theorem denB_cons {C : Nat → Fn} {x : Sx} {r : List Sx} {s : Stt} : denB C (x :: r) s = (denS C x s).seq (denB C r) := rfl
theorem denB_nil {C : Nat → Fn} {s : Stt} : denB C [] s = .nx s := rfl
/-! loops ahead of what follows -/
section
variable {C : Nat → Fn} {it : Itx} {tg : Tg} {b r : List Sx} {s s1 : Stt} {Q : SR → Prop}
theorem fr_all {α : Type} {i : Nat} {ρ : List (Option Va)} {S : List PyData} {g : α → PyData} {xs : List α} (hi : denI C it ⟨ρ, S⟩ = .ok (xs.map g) ⟨ρ, S⟩) (hlt : i < ρ.length) (k : α → Bool) (v : PyData)
    (h : ∀ x ∈ xs, denB C b ⟨ρ.set i (some (.dat (g x))), S⟩ = if k x = true then .nx ⟨ρ.set i (some (.dat (g x))), S⟩ else .rt (.dat v) ⟨ρ.set i (some (.dat (g x))), S⟩)
    (q : ∀ t, Q (if xs.all k = true then denB C r ⟨ρ.set i t, S⟩ else .rt (.dat v) ⟨ρ.set i t, S⟩)) : Q (denB C (.fr it (.n i) b :: r) ⟨ρ, S⟩) := by
  obtain ⟨t, e⟩ := forD_all (v := v) xs h (ρ[i])
  rw [denB_cons, fr_of hi]
  have e0 : (⟨ρ, S⟩ : Stt) = ⟨ρ.set i ρ[i], S⟩ := by rw [List.set_getElem_self]
  have e2 : forD (Tg.put (.n i)) (denB C b) (xs.map g) ⟨ρ, S⟩ = _ := (congrArg (forD (gPut i) (denB C b) (xs.map g)) e0).trans e
  rw [e2]
  have := q t
  cases hk : xs.all k with
  | true => rw [hk] at this; exact this
  | false => rw [hk] at this; exact this
/-- any loop: what its turns keep -/
theorem fr_wp {α : Type} {g : α → PyData} {xs : List α} (hi : denI C it s = .ok (xs.map g) s1) (I : List α → Stt → Prop) (h0 : I xs s1)
    (h : ∀ x l s, I (x :: l) s → ∃ s1, tg.put (g x) s = some s1 ∧ W1 (denB C b s1) (I l) fun z => Q (z.seq (denB C r))) (e : ∀ s, I [] s → Q (denB C r s)) : Q (denB C (.fr it tg b :: r) s) := by
  rw [denB_cons, fr_of hi]
  refine forD_wp (Q := fun z => Q (z.seq (denB C r))) (fun ds s => ∃ l, ds = l.map g ∧ I l s) (fun d l s hI => ?_) (fun s hI => ?_) (xs.map g) s1 ⟨xs, rfl, h0⟩
  · obtain ⟨l', e1, hI⟩ := hI
    cases l' with
    | nil => cases e1
    | cons x l' =>
      obtain ⟨rfl, rfl⟩ := List.cons.inj e1
      obtain ⟨s2, e2, w⟩ := h x l' s hI
      refine ⟨s2, e2, ?_⟩
      cases eb : denB C b s2 with
      | nx s3 => rw [eb] at w; exact ⟨l', rfl, w⟩
      | ct s3 => rw [eb] at w; exact ⟨l', rfl, w⟩
      | bk s3 => rw [eb] at w; exact w
      | rt v s3 => rw [eb] at w; exact w
      | exc x s3 => rw [eb] at w; exact w
      | bad => rw [eb] at w; exact w
  · obtain ⟨l', e1, hI⟩ := hI
    cases l' with
    | nil => exact e s hI
    | cons x l' => cases e1
/-- a loop whose turns all come to their end -/
theorem fr_run {α : Type} {g : α → PyData} {xs : List α} (hi : denI C it s = .ok (xs.map g) s1) (I : List α → Stt → Prop) (h0 : I xs s1)
    (h : ∀ x l s, I (x :: l) s → ∃ s1 s2, tg.put (g x) s = some s1 ∧ denB C b s1 = .nx s2 ∧ I l s2) (e : ∀ s, I [] s → Q (denB C r s)) : Q (denB C (.fr it tg b :: r) s) :=
  fr_wp hi I h0 (fun x l s hI => by
    obtain ⟨s1, s2, e1, e2, h2⟩ := h x l s hI
    exact ⟨s1, e1, by rw [e2]; exact h2⟩) e
/-- one statement -/
theorem st_nx {x : Sx} (h : denS C x s = .nx s1) (q : Q (denB C r s1)) : Q (denB C (x :: r) s) := by
  rw [cons_nx h]; exact q
theorem st_rt {x : Sx} {v : Va} (h : denS C x s = .rt v s1) (q : Q (.rt v s1)) : Q (denB C (x :: r) s) := by
  rw [cons_rt h]; exact q
theorem if_t {c : Ex} {a d : List Sx} (h : (den C c).t s = .ok true s1) (q : Q ((denB C a s1).seq (denB C r))) : Q (denB C (.ifs c a d :: r) s) := by
  rw [denB_cons, ifs_t h]; exact q
theorem if_f {c : Ex} {a d : List Sx} (h : (den C c).t s = .ok false s1) (q : Q ((denB C d s1).seq (denB C r))) : Q (denB C (.ifs c a d :: r) s) := by
  rw [denB_cons, ifs_f h]; exact q
theorem if_f0 {c : Ex} {a : List Sx} (h : (den C c).t s = .ok false s1) (q : Q (denB C r s1)) : Q (denB C (.ifs c a [] :: r) s) := by
  rw [denB_cons, ifs_f h]; exact q
theorem if_rt {c : Ex} {a d : List Sx} {v : Va} {s2 : Stt} (h : (den C c).t s = .ok true s1) (h2 : denB C a s1 = .rt v s2) (q : Q (.rt v s2)) : Q (denB C (.ifs c a d :: r) s) := by
  rw [denB_cons, ifs_t h, h2]; exact q
theorem if_tn {c : Ex} {a d : List Sx} {s2 : Stt} (h : (den C c).t s = .ok true s1) (h2 : denB C a s1 = .nx s2) (q : Q (denB C r s2)) : Q (denB C (.ifs c a d :: r) s) := by
  rw [denB_cons, ifs_t h, h2]; exact q
theorem if_fn {c : Ex} {a d : List Sx} {s2 : Stt} (h : (den C c).t s = .ok false s1) (h2 : denB C d s1 = .nx s2) (q : Q (denB C r s2)) : Q (denB C (.ifs c a d :: r) s) := by
  rw [denB_cons, ifs_f h, h2]; exact q
theorem ret_e {e : Ex} {v : Va} (h : (den C e).v s = .ok v s1) (q : Q (.rt v s1)) : Q (denB C (.ret e :: r) s) := by
  have e1 : denS C (.ret e) s = .rt v s1 := by
    show ((den C e).v s).toS _ = _
    rw [h]; rfl
  exact st_rt e1 q
theorem set_e {e : Ex} {i : Nat} {v : Va} (h : (den C e).v s = .ok v s1) (hv : ∀ xs, v ≠ .bor xs) (q : Q (denB C r ⟨s1.ρ.set i (some v), s1.S⟩)) : Q (denB C (.set i e :: r) s) := by
  have e1 : denS C (.set i e) s = .nx ⟨s1.ρ.set i (some v), s1.S⟩ := by
    show ((den C e).v s).toS (putV i) = _
    rw [h]
    cases v with
    | bor xs => exact absurd rfl (hv xs)
    | _ => rfl
  exact st_nx e1 q
theorem set_d {e : Ex} {i : Nat} {d : PyData} {ρ : List (Option Va)} {S : List PyData} (h : (den C e).v s = .ok (.dat d) ⟨ρ, S⟩) (q : Q (denB C r ⟨ρ.set i (some (.dat d)), S⟩)) : Q (denB C (.set i e :: r) s) := set_e h (fun _ z => nomatch z) q
theorem set_o {e : Ex} {i : Nat} {d : List PyData} {ρ : List (Option Va)} {S : List PyData} (h : (den C e).v s = .ok (.own d) ⟨ρ, S⟩) (q : Q (denB C r ⟨ρ.set i (some (.own d)), S⟩)) : Q (denB C (.set i e :: r) s) := set_e h (fun _ z => nomatch z) q
theorem expr_e {e : Ex} {v : Va} (h : (den C e).v s = .ok v s1) (q : Q (denB C r s1)) : Q (denB C (.expr e :: r) s) := by
  have e1 : denS C (.expr e) s = .nx s1 := by
    show ((den C e).v s).toS _ = _
    rw [h]; rfl
  exact st_nx e1 q
end
section
variable {C : Nat → Fn} {s s1 : Stt}
/-- a call, its arguments, what comes of it -/
theorem cal {j : Nat} {es : List Ex} {vs : List Va} {v : Va} {ρ : List (Option Va)} {S S' : List PyData} (h : denL C es s = .ok vs ⟨ρ, S⟩) (h2 : C j vs S = .ok v S') : (den C (.call j es)).v s = .ok v ⟨ρ, S'⟩ := by
  show dCall (C j) (denL C es) s = _
  unfold dCall
  rw [h]
  show (match C j vs S with
    | .ok v S => Res.ok v ⟨ρ, S⟩
    | .exc x S => .exc x ⟨ρ, S⟩
    | .bad => .bad) = _
  rw [h2]
theorem cal_x {j : Nat} {es : List Ex} {vs : List Va} {x : Exn} {ρ : List (Option Va)} {S S' : List PyData} (h : denL C es s = .ok vs ⟨ρ, S⟩) (h2 : C j vs S = .exc x S') : (den C (.call j es)).v s = .exc x ⟨ρ, S'⟩ := by
  show dCall (C j) (denL C es) s = _
  unfold dCall
  rw [h]
  show (match C j vs S with
    | .ok v S => Res.ok v ⟨ρ, S⟩
    | .exc x S => .exc x ⟨ρ, S⟩
    | .bad => .bad) = _
  rw [h2]
/-- the test of a value -/
theorem tru_of {f : De Va} {v : Va} {d : PyData} {b : Bool} (h : f s = .ok v s1) (h1 : valD v = some d) (h2 : truD d = some b) : dTru f s = .ok b s1 := by
  unfold dTru
  rw [h]
  show ofOpt ((valD v).bind truD) s1 = _
  rw [h1]
  show ofOpt (truD d) s1 = _
  rw [h2]
  rfl
theorem cal_t {j : Nat} {es : List Ex} {vs : List Va} {b : Bool} {ρ : List (Option Va)} {S S' : List PyData} (h : denL C es s = .ok vs ⟨ρ, S⟩) (h2 : C j vs S = .ok (.dat (.bool b)) S') : (den C (.call j es)).t s = .ok b ⟨ρ, S'⟩ := tru_of (cal h h2) rfl rfl
theorem not_t {e : Ex} {b : Bool} (h : (den C e).t s = .ok b s1) : (den C (.not e)).t s = .ok (!b) s1 := by
  show dNotB (den C e).t s = _
  unfold dNotB
  rw [h]
  rfl
theorem or_t {a b : Ex} (h : (den C a).t s = .ok true s1) : (den C (.or a b)).t s = .ok true s1 := by
  show dOrB (den C a).t (den C b).t s = _
  unfold dOrB
  rw [h]
  rfl
theorem or_f {a b : Ex} {k : Bool} {s2 : Stt} (h : (den C a).t s = .ok false s1) (h2 : (den C b).t s1 = .ok k s2) : (den C (.or a b)).t s = .ok k s2 := by
  show dOrB (den C a).t (den C b).t s = _
  unfold dOrB
  rw [h]
  exact h2
theorem and_f {a b : Ex} (h : (den C a).t s = .ok false s1) : (den C (.and a b)).t s = .ok false s1 := by
  show dAndB (den C a).t (den C b).t s = _
  unfold dAndB
  rw [h]
  rfl
theorem and_t {a b : Ex} {k : Bool} {s2 : Stt} (h : (den C a).t s = .ok true s1) (h2 : (den C b).t s1 = .ok k s2) : (den C (.and a b)).t s = .ok k s2 := by
  show dAndB (den C a).t (den C b).t s = _
  unfold dAndB
  rw [h]
  exact h2
theorem cmp_t {o : CmpOp} {a b : Ex} {d : PyData} {v : Va} {e : PyData} {k : Bool} {s2 : Stt} (h : dFrz (den C a).v s = .ok d s1) (h2 : (den C b).v s1 = .ok v s2) (h3 : valD v = some e) (h4 : cmpD o d e = some k) : (den C (.cmp o a b)).t s = .ok k s2 := by
  show dCmpB o (den C a).v (den C b).v s = _
  unfold dCmpB
  rw [h]
  show ((den C b).v s1).bind _ = _
  rw [h2]
  show ofOpt ((valD v).bind (cmpD o d)) s2 = _
  rw [h3]
  show ofOpt (cmpD o d e) s2 = _
  rw [h4]
  rfl
theorem cmp_v {o : CmpOp} {a b : Ex} {d : PyData} {v : Va} {e : PyData} {k : Bool} {s2 : Stt} (h : dFrz (den C a).v s = .ok d s1) (h2 : (den C b).v s1 = .ok v s2) (h3 : valD v = some e) (h4 : cmpD o d e = some k) : (den C (.cmp o a b)).v s = .ok (.dat (.bool k)) s2 := by
  have h5 := cmp_t (C := C) h h2 h3 h4
  show toV (den C (.cmp o a b)).t s = _
  unfold toV
  rw [h5]
  rfl
theorem frz_of {f : De Va} {d : PyData} (h : f s = .ok (.dat d) s1) : dFrz f s = .ok d s1 := by
  unfold dFrz
  rw [h]
  rfl
theorem frz_own {f : De Va} {d : List PyData} (h : f s = .ok (.own d) s1) : dFrz f s = .ok (.list d) s1 := by
  unfold dFrz
  rw [h]
  rfl
end
/-- things of a written list, one by one in the kernel -/
def mapR {α β : Type} (g : α → β) : List α → List β
  | [] => []
  | a :: r => g a :: mapR g r
theorem each {α β : Type} {f g : α → β} : ∀ {l : List α}, l.map f = mapR g l → ∀ a ∈ l, f a = g a
  | x :: r, h, a, ha => by
    rw [List.map_cons] at h
    have h : f x :: r.map f = g x :: mapR g r := h
    obtain ⟨h1, h2⟩ := List.cons.inj h
    rcases List.mem_cons.mp ha with rfl | ha
    · exact h1
    · exact each h2 a ha
/-- a loop that ends the def at the first thing of a kind; σ: the state, by the last thing walked -/
theorem fr_find {C : Nat → Fn} {it : Itx} {tg : Tg} {b r : List Sx} {s : Stt} {Q : SR → Prop} {α : Type} {g : α → PyData} {xs : List α} (σ : Option α → Stt) (hi : denI C it s = .ok (xs.map g) (σ none)) (k : α → Bool) (v : α → PyData) (hp : ∀ t x, x ∈ xs → tg.put (g x) (σ t) = some (σ (some x)))
    (hb : ∀ x ∈ xs, denB C b (σ (some x)) = if k x = true then .rt (.dat (v x)) (σ (some x)) else .nx (σ (some x))) (q : ∀ t, match xs.find? k with
      | none => Q (denB C r (σ t))
      | some x => Q (.rt (.dat (v x)) (σ (some x)))) : Q (denB C (.fr it tg b :: r) s) := by
  rw [denB_cons, fr_of hi]
  have key : ∀ (l : List α) (t : Option α), (∀ x ∈ l, x ∈ xs) → ∃ t', forD tg.put (denB C b) (l.map g) (σ t) = match l.find? k with
      | none => .nx (σ t')
      | some x => .rt (.dat (v x)) (σ (some x)) := fun l => by
    induction l with
    | nil => exact fun t _ => ⟨t, rfl⟩
    | cons x l ih =>
      intro t hl
      have hx := hl x (List.mem_cons_self ..)
      have e1 := hp t x hx
      have e2 := hb x hx
      cases hk : k x with
      | true =>
        rw [hk] at e2
        refine ⟨t, ?_⟩
        rw [List.map_cons, for_rt e1 e2, List.find?_cons, hk]
      | false =>
        rw [hk] at e2
        obtain ⟨t', e3⟩ := ih (some x) fun y hy => hl y (List.mem_cons_of_mem _ hy)
        refine ⟨t', ?_⟩
        rw [List.map_cons, for_nx e1 e2, e3, List.find?_cons, hk]
  obtain ⟨t', e⟩ := key xs none fun x hx => hx
  rw [e]
  have := q t'
  cases hf : xs.find? k with
  | none => rw [hf] at this; exact this
  | some x => rw [hf] at this; exact this
/-- .. where the body stores, too -/
theorem fr_find2 {C : Nat → Fn} {it : Itx} {tg : Tg} {b r : List Sx} {s : Stt} {Q : SR → Prop} {α : Type} {g : α → PyData} {xs : List α} {S0 : List PyData} (σ : Option α → Stt) (hi : denI C it s = .ok (xs.map g) (σ none)) (k : α → Bool) (v : α → PyData)
    (st : ∀ t x, x ∈ xs → ∃ s1 s2, tg.put (g x) (σ t) = some s1 ∧ s2.S = S0 ∧ denB C b s1 = if k x = true then .rt (.dat (v x)) s2 else .nx (σ (some x))) (q : ∀ t, match xs.find? k with
      | none => Q (denB C r (σ t))
      | some x => ∀ s, s.S = S0 → Q (.rt (.dat (v x)) s)) : Q (denB C (.fr it tg b :: r) s) := by
  rw [denB_cons, fr_of hi]
  have key : ∀ (l : List α) (t : Option α), (∀ x ∈ l, x ∈ xs) → ∃ t' s2, s2.S = S0 ∧ forD tg.put (denB C b) (l.map g) (σ t) = match l.find? k with
      | none => .nx (σ t')
      | some x => .rt (.dat (v x)) s2 := fun l => by
    induction l with
    | nil => exact fun t _ => ⟨t, ⟨[], S0⟩, rfl, rfl⟩
    | cons x l ih =>
      intro t hl
      obtain ⟨s1, s2, e1, hS, e2⟩ := st t x (hl x (List.mem_cons_self ..))
      cases hk : k x with
      | true =>
        rw [hk] at e2
        refine ⟨t, s2, hS, ?_⟩
        rw [List.map_cons, for_rt e1 e2, List.find?_cons, hk]
      | false =>
        rw [hk] at e2
        obtain ⟨t', s3, h3, e3⟩ := ih (some x) fun y hy => hl y (List.mem_cons_of_mem _ hy)
        refine ⟨t', s3, h3, ?_⟩
        rw [List.map_cons, for_nx e1 e2, e3, List.find?_cons, hk]
  obtain ⟨t', s2, h2, e⟩ := key xs none fun x hx => hx
  rw [e]
  have := q t'
  cases hf : xs.find? k with
  | none => rw [hf] at this; exact this
  | some x => rw [hf] at this; exact this s2 h2
section
variable {C : Nat → Fn} {e : Ex} {es : List Ex} {s s1 s2 : Stt}
theorem dl_nil : denL C [] s = .ok [] s := rfl
theorem dl_d {d : PyData} {vs : List Va} (h : (den C e).v s = .ok (.dat d) s1) (h2 : denL C es s1 = .ok vs s2) : denL C (e :: es) s = .ok (.dat d :: vs) s2 := by
  show dCons (den C e).v (denL C es) s = _
  unfold dCons
  rw [h]
  show (denL C es s1).bind _ = _
  rw [h2]
  rfl
theorem dl_o {d : List PyData} {vs : List Va} (h : (den C e).v s = .ok (.own d) s1) (h2 : denL C es s1 = .ok vs s2) : denL C (e :: es) s = .ok (.dat (.list d) :: vs) s2 := by
  show dCons (den C e).v (denL C es) s = _
  unfold dCons
  rw [h]
  show (denL C es s1).bind _ = _
  rw [h2]
  rfl
theorem dl_p {vs : List Va} (h : (den C e).v s = .ok .pot s1) (h2 : denL C es s1 = .ok vs s2) : denL C (e :: es) s = .ok (.pot :: vs) s2 := by
  show dCons (den C e).v (denL C es) s = _
  unfold dCons
  rw [h]
  show (denL C es s1).bind _ = _
  rw [h2]
  rfl
theorem tup_e {ds : List PyData} (h : denL C es s = .ok (ds.map Va.dat) s1) (hl : ds.length ≤ 16777216) : (den C (.tup es)).v s = .ok (.dat (.tuple ds)) s1 := by
  show dTup (denL C es) s = _
  unfold dTup
  rw [h]
  show ofOpt ((datsOf (ds.map Va.dat)).bind _) s1 = _
  rw [datsOf_map]
  show ofOpt (if _ then _ else _) s1 = _
  rw [if_pos hl]
  rfl
theorem lst_e {ds : List PyData} (h : denL C es s = .ok (ds.map Va.dat) s1) (hl : ds.length ≤ 16777216) : (den C (.lst es)).v s = .ok (.own ds) s1 := by
  show dLst (denL C es) s = _
  unfold dLst
  rw [h]
  show ofOpt ((datsOf (ds.map Va.dat)).bind _) s1 = _
  rw [datsOf_map]
  show ofOpt (if _ then _ else _) s1 = _
  rw [if_pos hl]
  rfl
theorem bin_e {o : Operator} {a b : Ex} {d d2 : PyData} {v : Va} (h : dFrz (den C a).v s = .ok d s1) (h2 : dFrz (den C b).v s1 = .ok d2 s2) (h3 : bopD o d d2 = some v) : (den C (.bin o a b)).v s = .ok v s2 := by
  show dBin o (den C a).v (den C b).v s = _
  unfold dBin
  rw [h]
  show (dFrz (den C b).v s1).bind _ = _
  rw [h2]
  show ofOpt (bopD o d d2) s2 = _
  rw [h3]
  rfl
theorem b1_e {b : B1} {a : Ex} {v w : Va} {d : PyData} (h : (den C a).v s = .ok v s1) (h2 : valD v = some d) (h3 : b1D b d = some w) : (den C (.b1 b a)).v s = .ok w s1 := by
  show dB1 b (den C a).v s = _
  unfold dB1
  rw [h]
  show ofOpt ((valD v).bind (b1D b)) s1 = _
  rw [h2]
  show ofOpt (b1D b d) s1 = _
  rw [h3]
  rfl
theorem b2_e {b : B2} {a a' : Ex} {d d2 r : PyData} (h : dFrz (den C a).v s = .ok d s1) (h2 : dFrz (den C a').v s1 = .ok d2 s2) (h3 : b2D b d d2 = some r) : (den C (.b2 b a a')).v s = .ok (.dat r) s2 := by
  show dB2 b (den C a).v (den C a').v s = _
  unfold dB2
  rw [h]
  show (dFrz (den C a').v s1).bind _ = _
  rw [h2]
  show ofOpt ((b2D b d d2).map Va.dat) s2 = _
  rw [h3]
  rfl
theorem idx_e {a b : Ex} {d d2 r : PyData} (h : dFrz (den C a).v s = .ok d s1) (h2 : dFrz (den C b).v s1 = .ok d2 s2) (h3 : idxD d d2 = some r) : (den C (.idx a b)).v s = .ok (.dat r) s2 := by
  show dIdx (den C a).v (den C b).v s = _
  unfold dIdx
  rw [h]
  show (dFrz (den C b).v s1).bind _ = _
  rw [h2]
  show ofOpt ((idxD d d2).map Va.dat) s2 = _
  rw [h3]
  rfl
theorem idxV_e {i : Nat} {b : Ex} {v : Va} {d d2 r : PyData} (h : s.ρ[i]? = some (some v)) (h2 : dFrz (den C b).v s = .ok d2 s2) (h3 : slotD s2 i = some d) (h4 : idxD d d2 = some r) : (den C (.idxV i b)).v s = .ok (.dat r) s2 := by
  show dIdxV i (den C b).v s = _
  unfold dIdxV
  rw [h]
  show (dFrz (den C b).v s).bind _ = _
  rw [h2]
  show ofOpt ((slotD s2 i).bind fun a => (idxD a d2).map Va.dat) s2 = _
  rw [h3]
  show ofOpt ((idxD d d2).map Va.dat) s2 = _
  rw [h4]
  rfl
end
theorem popAt_e {C : Nat → Fn} {a : Ex} {i j : Nat} {xs ys : List PyData} {s s1 : Stt} {d : PyData} (h0 : ownAt s i = some ys) (h1 : dFrz (den C a).v s = .ok (.int j) s1) (h2 : ownAt s1 i = some xs) (hd : xs[j]? = some d) (hb : j < 1000000) : (den C (.popAt i a)).v s = .ok (.dat d) (setOwn s1 i (xs.eraseIdx j)) := by
  have hj : j < xs.length := by
    rcases Nat.lt_or_ge j xs.length with h | h
    · exact h
    · rw [List.getElem?_eq_none h] at hd; cases hd
  show dPopAt i (den C a).v s = _
  unfold dPopAt
  rw [h0]
  show (dFrz (den C a).v s).bind _ = _
  rw [h1]
  dsimp only [Res.bind]
  rw [h2]
  dsimp only
  have e3 : seqIndex? (j : Int) xs.length = some j := by
    rw [seqIndex_of (Int.natCast_nonneg j) (by omega), Int.toNat_natCast]
  rw [if_pos ⟨Int.le_trans (by decide +kernel) (Int.natCast_nonneg j), Int.lt_of_lt_of_le (show (j : Int) < 1000000 by omega) (by decide +kernel)⟩, e3]
  dsimp only
  rw [hd]
theorem app_q {C : Nat → Fn} {l r : List Sx} {s s1 : Stt} {Q : SR → Prop} (h : denB C l s = .nx s1) (q : Q (denB C r s1)) : Q (denB C (l ++ r) s) := by
  rw [app_nx h]; exact q
theorem lc_raw {C : Nat → Fn} {it : Itx} {tg : Tg} {ft : Option Ex} {vs : List Nat} {elt : Ex} {s s0 s1 : Stt} {ds acc : List PyData} (h : denI C it s = .ok ds s0) (hp : vs.all (plainAt s0.ρ) = true) (hl : lcLoop tg.put (denT C ft) vs (accE (den C elt).v) ds [] s0 = .ok acc s1) : (den C (.lc it tg ft vs elt)).v s = .ok (.own acc) ⟨back s0.ρ s1.ρ vs, s1.S⟩ := by
  show dLc (denI C it) tg.put (denT C ft) vs (accE (den C elt).v) s = _
  unfold dLc
  rw [h]
  show (if vs.all (plainAt s0.ρ) = true then (noX (lcLoop tg.put (denT C ft) vs (accE (den C elt).v) ds [] s0)).bind fun acc s => .ok (Va.own acc) ⟨back s0.ρ s.ρ vs, s.S⟩ else .bad) = _
  rw [if_pos hp, hl]
  rfl
theorem lenSet_e {C : Nat → Fn} {a : Ex} {s s1 : Stt} {d : PyData} {ns : List Int} (h : dFrz (den C a).v s = .ok d s1) (h2 : setOfD d = some ns) (h3 : ns.length < 1000) : (den C (.lenSet a)).v s = .ok (.dat (.int (dedI ns).length)) s1 := by
  show dLenSet (den C a).v s = _
  unfold dLenSet
  rw [h]
  dsimp only [Res.bind]
  rw [h2]
  dsimp only
  rw [if_pos h3]
theorem sortSet_e {C : Nat → Fn} {a : Ex} {s s1 : Stt} {d : PyData} {ns : List Int} (h : dFrz (den C a).v s = .ok d s1) (h2 : setOfD d = some ns) (h3 : ns.length < 1000) : (den C (.sortSet a)).v s = .ok (.own ((sortI (dedI ns)).map PyData.int)) s1 := by
  show dSortSet (den C a).v s = _
  unfold dSortSet
  rw [h]
  dsimp only [Res.bind]
  rw [h2]
  dsimp only
  rw [if_pos h3]
theorem app_e {C : Nat → Fn} {i : Nat} {a : Ex} {s s1 : Stt} {d : PyData} {xs ys : List PyData} (h0 : ownAt s i = some ys) (h : dFrz (den C a).v s = .ok d s1) (h2 : ownAt s1 i = some xs) (hl : xs.length < 16777216) : (den C (.app i a)).v s = .ok (.dat .none) (setOwn s1 i (xs ++ [d])) := by
  show dApp i (den C a).v s = _
  unfold dApp
  rw [h0]
  dsimp only
  rw [h]
  dsimp only [Res.bind]
  rw [h2]
  dsimp only
  rw [if_pos hl]
theorem sto_e {C : Nat → Fn} {i j : Nat} {ei e : Ex} {s s1 s2 : Stt} {d : PyData} {k : Int} {v : Va} {xs : List PyData} (h0 : s.ρ[i]? = some (some v)) (h : dFrz (den C e).v s = .ok d s1) (h2 : dFrz (den C ei).v s1 = .ok (.int k) s2) (h3 : s2.ρ[i]? = some (some (.own xs))) (h4 : ixN xs.length k = some j) : denS C (.sto i ei e) s = .nx (setOwn s2 i (xs.set j d)) := by
  show dSto i (den C ei).v (den C e).v s = _
  unfold dSto
  rw [h0]
  dsimp only
  rw [h]
  dsimp only [Res.toS]
  rw [h2]
  dsimp only
  rw [h3]
  dsimp only
  rw [h4]
theorem index_e {C : Nat → Fn} {i j : Nat} {a : Ex} {s s1 : Stt} {d : PyData} {xs : List PyData} (h0 : isLst s.ρ[i]? = true) (h : dFrz (den C a).v s = .ok d s1) (h2 : slotD s1 i = some (.list xs)) (h3 : PyData.depthAll xs ≤ 63) (h4 : d.depth ≤ 64) (h5 : firstAt d xs 0 = some j) : (den C (.index i a)).v s = .ok (.dat (.int (j : Int))) s1 := by
  show dIndex i (den C a).v s = _
  unfold dIndex
  rw [if_pos h0, h]
  dsimp only [Res.bind]
  rw [h2]
  dsimp only
  rw [if_pos ⟨h3, h4⟩, h5]
  rfl
theorem firstAt_map {α : Type} [DecidableEq α] {g : α → PyData} (hg : ∀ a b, PyData.eqv (g a) (g b) = decide (a = b)) (a : α) : ∀ (xs : List α) (i : Nat), a ∈ xs → ∃ j, firstAt (g a) (xs.map g) i = some (i + j) ∧ xs[j]? = some a
  | [], _, h => by cases h
  | x :: xs, i, h => by
    rw [List.map_cons]
    unfold firstAt
    rw [hg]
    by_cases hx : x = a
    · exact ⟨0, by rw [if_pos (by simp [hx])]; rfl, by simp [hx]⟩
    · obtain ⟨j, h1, h2⟩ := firstAt_map hg a xs (i + 1) ((List.mem_cons.mp h).resolve_left fun z => hx z.symm)
      refine ⟨j + 1, ?_, by simpa using h2⟩
      rw [if_neg (by simp [hx]), h1]
      congr 1
      omega
theorem neg_e {C : Nat → Fn} {a : Ex} {s s1 : Stt} {i : Int} (h : dFrz (den C a).v s = .ok (.int i) s1) : (den C (.neg a)).v s = .ok (.dat (.int (-i))) s1 := by
  show dNeg (den C a).v s = _
  unfold dNeg
  rw [h]
  rfl
theorem and_v {C : Nat → Fn} {a b : Ex} {s s1 s2 : Stt} {j k : Bool} (h : (den C a).v s = .ok (.dat (.bool j)) s1) (h2 : (den C b).v s1 = .ok (.dat (.bool k)) s2) (he : s2 = s1 := by rfl) : (den C (.and a b)).v s = .ok (.dat (.bool (j && k))) s1 := by
  subst he
  show dAnd (den C a).v (den C b).v s = _
  unfold dAnd
  rw [h]
  cases j with
  | false => rfl
  | true => exact h2
theorem tri_e {C : Nat → Fn} {p : List (Str × List Str)} {b : List Sx} {c : Str} {i : Nat} {h : List Hs} {s s1 : Stt} {x : Exn} (e : denB C b s = .exc x s1) (hs : isSub p x.cls c = some true) (hi : i < s1.ρ.length) : denS C (.tri p b c i h) s = (denHb p x h ⟨s1.ρ.set i none, s1.S⟩).gone i := by
  show dTri p (denB C b) c i h s = _
  unfold dTri
  rw [e]
  dsimp only
  rw [hs]
  dsimp only
  rw [if_pos hi]
theorem tri_nx {C : Nat → Fn} {p : List (Str × List Str)} {b : List Sx} {c : Str} {i : Nat} {h : List Hs} {s s1 : Stt} (e : denB C b s = .nx s1) : denS C (.tri p b c i h) s = .nx s1 := by
  show dTri p (denB C b) c i h s = _
  unfold dTri
  rw [e]
theorem tri_rt {C : Nat → Fn} {p : List (Str × List Str)} {b : List Sx} {c : Str} {i : Nat} {h : List Hs} {s s1 : Stt} {v : Va} (e : denB C b s = .rt v s1) : denS C (.tri p b c i h) s = .rt v s1 := by
  show dTri p (denB C b) c i h s = _
  unfold dTri
  rw [e]
theorem c_neB (a b : Bool) : cmpD .NotEq (.bool a) (.bool b) = some (!decide (a = b)) := by
  rw [cmp_ne (a := .bool a) (b := .bool b) (show min 0 0 ≤ 64 by decide)]
  cases a <;> cases b <;> rfl
theorem c_eqB (a b : Bool) : cmpD .Eq (.bool a) (.bool b) = some (decide (a = b)) := by
  rw [cmp_eq (a := .bool a) (b := .bool b) (show min 0 0 ≤ 64 by decide)]
  cases a <;> cases b <;> rfl
theorem cut_e {C : Nat → Fn} {a : Ex} {lo hi : Option Ex} {s s1 s2 s3 : Stt} {d : PyData} {i j : Option Int} {v : Va} (h : dFrz (den C a).v s = .ok d s1) (h2 : denO C lo s1 = .ok i s2) (h3 : denO C hi s2 = .ok j s3) (h4 : cutD d i j = some v) : (den C (.cut a lo hi)).v s = .ok v s3 := by
  show dCut (den C a).v (denO C lo) (denO C hi) s = _
  unfold dCut
  rw [h]
  dsimp only [Res.bind]
  rw [h2]
  dsimp only
  rw [h3]
  dsimp only
  rw [h4]
  rfl
theorem cutL_init {α : Type} (xs : List α) : cutL xs none (some (-1)) = xs.dropLast := by
  unfold cutL
  rw [HT.sIx_none]
  have : HT.sIx xs.length xs.length (some (-1)) = xs.length - 1 := by
    show (if (-1 : Int) < 0 then ((-1 : Int) + (xs.length : Int)).toNat else min (-1 : Int).toNat xs.length) = _
    rw [if_pos (by decide)]
    omega
  rw [this, List.dropLast_eq_take]
  simp
end Ev

open PySem Ev
namespace I
def is_whole : List Sx := [
  .ret (.and (.isi (.peek 0) .int) (.not (.isi (.peek 0) .bool)))]
def is_number : List Sx := [
  .ret (.and (.call 1 [(.var 0)]) (.chain .LtE .LtE (.var 1) (.var 0) (.peek 2)))]
def is_rising : List Sx := [
  .fr (.rng2 (.c (.int (1))) (.b1 .len (.peek 0))) (.n 1) [
    .ifs (.not (.cmp .Lt (.idxV 0 (.bin .Sub (.var 1) (.c (.int (1))))) (.idxV 0 (.var 1)))) [
      .ret (.c (.bool false))] []],
  .ret (.c (.bool true))]
def class_total : List Sx := [
  .ret (.bin .Add (.maxD (.var 0) (.neg (.c (.int (1))))) (.c (.int (1))))]
def all_arrangements : List Sx := [
  .set 1 (.lst [(.tup [])]),
  .fr (.rng1 (.var 0)) (.n 2) [
    .set 1 (.lc2 (.of (.var 1)) (.n 4) none [3, 4, 5] (.rng1 (.bin .Add (.call 4 [(.var 4)]) (.c (.int (1))))) (.n 5) none [5] (.bin .Add (.var 4) (.tup [(.var 5)])))],
  .ret (.b1 .tuple (.peek 1))]
def numbered : List Sx := [
  .set 1 (.lst []),
  .set 2 (.lst []),
  .fr (.of (.var 0)) (.n 3) [
    .ifs (.cmp .NotIn (.var 3) (.peek 1)) [
      .expr (.app 1 (.var 3))] [],
    .expr (.app 2 (.index 1 (.var 3)))],
  .ret (.b1 .tuple (.peek 2))]
def finest_below : List Sx := [
  .ret (.call 6 [(.lc (.rng1 (.b1 .len (.peek 0))) (.n 3) none [2, 3] (.tup [(.idxV 0 (.var 3)), (.idxV 1 (.var 3))]))])]
def coarsest_above : List Sx := [
  .set 2 (.b1 .list (.peek 0)),
  .fr (.rng1 (.b1 .len (.peek 1))) (.n 3) [
    .fr (.rng1 (.var 3)) (.n 4) [
      .ifs (.cmp .Eq (.idxV 1 (.var 3)) (.idxV 1 (.var 4))) [
        .set 5 (.idxV 2 (.var 3)),
        .set 6 (.idxV 2 (.var 4)),
        .set 2 (.lc (.of (.var 2)) (.n 8) none [7, 8] (.ite (.cmp .Eq (.var 8) (.peek 5)) (.var 6) (.var 8)))] []]],
  .ret (.call 6 [(.var 2)])]
def refines : List Sx := [
  .fr (.rng1 (.b1 .len (.peek 0))) (.n 2) [
    .fr (.rng1 (.var 2)) (.n 3) [
      .ifs (.and (.cmp .Eq (.idxV 0 (.var 2)) (.idxV 0 (.var 3))) (.cmp .NotEq (.idxV 1 (.var 2)) (.idxV 1 (.var 3)))) [
        .ret (.c (.bool false))] []]],
  .ret (.c (.bool true))]
def seen_at : List Sx := [
  .ret (.call 6 [(.lc (.of (.var 1)) (.n 3) none [2, 3] (.idxV 0 (.var 3)))])]
def arrangements : List Sx := [
  .ifs (.not (.call 2 [(.var 0), (.c (.int (0))), (.c (.int (4)))])) [
    .raise (Str.ofString "BadValue") (.c (.str (Str.ofString "count")))] [],
  .ret (.call 5 [(.var 0)])]
def is_arrangement : List Sx := [
  .ifs (.or (.not (.isi (.peek 0) .tuple)) (.cmp .NotEq (.b1 .len (.peek 0)) (.peek 1))) [
    .ret (.c (.bool false))] [],
  .set 2 (.neg (.c (.int (1)))),
  .fr (.of (.var 0)) (.n 3) [
    .ifs (.not (.call 2 [(.var 3), (.c (.int (0))), (.bin .Add (.var 2) (.c (.int (1))))])) [
      .ret (.c (.bool false))] [],
    .set 2 (.b2 .max (.var 2) (.var 3))],
  .ret (.c (.bool true))]
def check_arrangement : List Sx := [
  .ifs (.not (.call 12 [(.var 0), (.var 1)])) [
    .raise (Str.ofString "BadValue") (.c (.str (Str.ofString "arrangement")))] []]
def check_any : List Sx := [
  .ifs (.or (.not (.isi (.peek 0) .tuple)) (.or (.cmp .Gt (.b1 .len (.peek 0)) (.c (.int (4)))) (.not (.call 12 [(.var 0), (.b1 .len (.peek 0))])))) [
    .raise (Str.ofString "BadValue") (.c (.str (Str.ofString "arrangement")))] []]
def meet_of : List Sx := [
  .expr (.call 14 [(.var 0)]),
  .expr (.call 13 [(.var 1), (.b1 .len (.peek 0))]),
  .ret (.call 7 [(.var 0), (.var 1)])]
def join_of : List Sx := [
  .expr (.call 14 [(.var 0)]),
  .expr (.call 13 [(.var 1), (.b1 .len (.peek 0))]),
  .ret (.call 8 [(.var 0), (.var 1)])]
def is_finer : List Sx := [
  .expr (.call 14 [(.var 0)]),
  .expr (.call 13 [(.var 1), (.b1 .len (.peek 0))]),
  .ret (.call 9 [(.var 0), (.var 1)])]
def class_count : List Sx := [
  .expr (.call 14 [(.var 0)]),
  .ret (.call 4 [(.var 0)])]
def part_of : List Sx := [
  .expr (.call 14 [(.var 0)]),
  .ifs (.not (.isi (.peek 1) .tuple)) [
    .raise (Str.ofString "BadValue") (.c (.str (Str.ofString "places")))] [],
  .fr (.of (.var 1)) (.n 2) [
    .ifs (.or (.not (.call 1 [(.var 2)])) (.not (.chain .LtE .Lt (.c (.int (0))) (.var 2) (.b1 .len (.peek 0))))) [
      .raise (Str.ofString "BadValue") (.c (.str (Str.ofString "places")))] []],
  .ifs (.not (.call 3 [(.var 1)])) [
    .raise (Str.ofString "BadValue") (.c (.str (Str.ofString "places")))] [],
  .ret (.call 10 [(.var 0), (.var 1)])]
def law_draw : List Sx := [
  .ifs (.cmp .Lt (.idxV 0 (.c (.int (2)))) (.c (.int (2)))) [
    .set 2 (.c (.int (7))),
    .ifs (.cmp .Lt (.idxV 0 (.c (.int (1)))) (.b1 .len (.idxV 0 (.c (.int (0)))))) [
      .set 2 (.idx (.idxV 0 (.c (.int (0)))) (.idxV 0 (.c (.int (1))))),
      .sto 0 (.c (.int (1))) (.bin .Add (.idxV 0 (.c (.int (1)))) (.c (.int (1))))] [],
    .sto 0 (.c (.int (3))) (.bin .Mod (.b1 .int (.bin .Add (.bin .Mult (.idxV 0 (.c (.int (3)))) (.c (.int (48271)))) (.c (.int (11))))) (.c (.int (2147483647)))),
    .sto 0 (.c (.int (2))) (.var 2),
    .ifs (.cmp .Lt (.var 2) (.bin .Pow (.c (.int (10))) (.c (.int (18))))) [
      .set 3 (.bin .Mod (.b1 .int (.bin .Add (.bin .Add (.bin .Mult (.var 2) (.c (.int (69621)))) (.bin .Mult (.idxV 0 (.c (.int (3)))) (.c (.int (40692))))) (.c (.int (5))))) (.c (.int (2147483629)))),
      .sto 0 (.c (.int (2))) (.bin .Add (.bin .Mult (.var 3) (.c (.int (2147483587)))) (.bin .Mod (.b1 .int (.bin .Add (.bin .Mult (.var 2) (.c (.int (16807)))) (.idxV 0 (.c (.int (3)))))) (.c (.int (2147483587)))))] []] [],
  .set 4 (.bin .Mod (.b1 .int (.idxV 0 (.c (.int (2))))) (.var 1)),
  .sto 0 (.c (.int (2))) (.bin .FloorDiv (.idxV 0 (.c (.int (2)))) (.var 1)),
  .ret (.mv 4)]
def law_pick : List Sx := [
  .ret (.idxV 1 (.call 20 [(.var 0), (.b1 .len (.peek 1))]))]
def law_arrangements : List Sx := [
  .set 1 (.lst [(.tup [])]),
  .fr (.rng1 (.var 0)) (.n 2) [
    .set 3 (.lst []),
    .fr (.of (.var 1)) (.n 4) [
      .expr (.ext 3 (.lc (.rng1 (.bin .Add (.lenSet (.var 4)) (.c (.int (1))))) (.n 6) none [5, 6] (.bin .Add (.var 4) (.tup [(.var 6)]))))],
    .set 1 (.var 3)],
  .ret (.mv 1)]
def law_same_marks : List Sx := [
  .set 1 (.sortSet (.lc (.of (.var 0)) (.n 3) none [2, 3] (.index 0 (.var 3)))),
  .ret (.b1 .tuple (.lc (.of (.var 0)) (.n 3) none [2, 3] (.index 1 (.index 0 (.var 3)))))]
def law_same : List Sx := [
  .ifs (.isi (.peek 1) .tuple) [
    .ifs (.or (.not (.isi (.peek 0) .tuple)) (.cmp .NotEq (.b1 .len (.peek 0)) (.b1 .len (.peek 1)))) [
      .ret (.c (.bool false))] [],
    .ret (.not (.lc (.rng1 (.b1 .len (.peek 1))) (.n 3) (some (.not (.call 24 [(.idxV 0 (.var 3)), (.idxV 1 (.var 3))]))) [2, 3] (.var 3)))] [],
  .ifs (.isi (.peek 1) .bool) [
    .ret (.and (.isi (.peek 0) .bool) (.cmp .Eq (.var 0) (.peek 1)))] [],
  .ifs (.isi (.peek 1) .int) [
    .ret (.and (.isi (.peek 0) .int) (.and (.not (.isi (.peek 0) .bool)) (.cmp .Eq (.var 0) (.peek 1))))] [],
  .ret (.and (.isi (.peek 0) .str) (.cmp .Eq (.var 0) (.peek 1)))]
def is_pair : List Sx := [
  .ret (.and (.isi (.peek 0) .tuple) (.cmp .Eq (.b1 .len (.peek 0)) (.c (.int (2)))))]
def least_of : List Sx := [
  .asg (.t [(.n 1), (.n 2)]) (.var 0),
  .ifs (.peek 1) [
    .ret (.idxV 1 (.c (.int (0))))] [],
  .ret (.mv 2)]
def greatest_of : List Sx := [
  .asg (.t [(.n 1), (.n 2)]) (.var 0),
  .ifs (.or (.peek 2) (.not (.peek 1))) [
    .ret (.c (.int (0)))] [],
  .ret (.idxV 1 (.neg (.c (.int (1)))))]
def is_sizes : List Sx := [
  .ifs (.or (.not (.call 25 [(.var 0)])) (.not (.isi (.idxV 0 (.c (.int (0)))) .tuple))) [
    .ret (.c (.bool false))] [],
  .asg (.t [(.n 1), (.n 2)]) (.var 0),
  .ifs (.not (.call 2 [(.var 2), (.c (.int (0))), (.c (.int (100)))])) [
    .ret (.c (.bool false))] [],
  .fr (.of (.var 1)) (.n 3) [
    .ifs (.not (.call 2 [(.var 3), (.c (.int (1))), (.c (.int (99)))])) [
      .ret (.c (.bool false))] []],
  .ifs (.not (.call 3 [(.var 1)])) [
    .ret (.c (.bool false))] [],
  .ret (.or (.cmp .Eq (.var 2) (.c (.int (0)))) (.or (.not (.peek 1)) (.cmp .Lt (.idxV 1 (.neg (.c (.int (1))))) (.bin .Sub (.var 2) (.c (.int (1)))))))]
def is_name_text : List Sx := [
  .ifs (.or (.not (.isi (.peek 0) .str)) (.not (.chain .LtE .LtE (.c (.int (1))) (.b1 .len (.peek 0)) (.c (.int (8)))))) [
    .ret (.c (.bool false))] [],
  .ifs (.cmp .NotIn (.idxV 0 (.c (.int (0)))) (.c (.str (Str.ofString "abcdefghijklmnopqrstuvwxyz")))) [
    .ret (.c (.bool false))] [],
  .fr (.of (.var 0)) (.n 1) [
    .ifs (.and (.cmp .NotIn (.var 1) (.c (.str (Str.ofString "abcdefghijklmnopqrstuvwxyz")))) (.cmp .NotIn (.var 1) (.c (.str (Str.ofString "0123456789"))))) [
      .ret (.c (.bool false))] []],
  .ret (.c (.bool true))]
def is_name_row : List Sx := [
  .ifs (.or (.not (.isi (.peek 0) .tuple)) (.cmp .Gt (.b1 .len (.peek 0)) (.peek 1))) [
    .ret (.c (.bool false))] [],
  .fr (.of (.var 0)) (.n 2) [
    .ifs (.not (.call 49 [(.var 2)])) [
      .ret (.c (.bool false))] []],
  .ret (.call 3 [(.var 0)])]
def is_face : List Sx := [
  .ifs (.or (.not (.call 25 [(.var 0)])) (.or (.not (.call 50 [(.idxV 0 (.c (.int (0)))), (.c (.int (4)))])) (.not (.isi (.idxV 0 (.c (.int (1)))) .tuple)))) [
    .ret (.c (.bool false))] [],
  .set 1 (.call 5 [(.b1 .len (.idxV 0 (.c (.int (0)))))]),
  .ifs (.cmp .NotEq (.b1 .len (.peek 1)) (.b1 .len (.idxV 0 (.c (.int (1)))))) [
    .ret (.c (.bool false))] [],
  .fr (.zip (.var 1) (.idxV 0 (.c (.int (1))))) (.t [(.n 2), (.n 3)]) [
    .ifs (.or (.not (.call 35 [(.var 3)])) (.chain .Lt .Lt (.c (.int (0))) (.call 31 [(.var 3)]) (.call 4 [(.var 2)]))) [
      .ret (.c (.bool false))] []],
  .ret (.c (.bool true))]
def check_face : List Sx := [
  .ifs (.not (.call 61 [(.var 0)])) [
    .raise (Str.ofString "BadValue") (.c (.str (Str.ofString "face")))] []]
def law_some_names : List Sx := [
  .set 2 (.lst [(.c (.str (Str.ofString "x"))), (.c (.str (Str.ofString "ab"))), (.c (.str (Str.ofString "k7"))), (.c (.str (Str.ofString "zed"))), (.c (.str (Str.ofString "m"))), (.c (.str (Str.ofString "b"))), (.c (.str (Str.ofString "long1234"))), (.c (.str (Str.ofString "a0"))), (.c (.str (Str.ofString "w"))), (.c (.str (Str.ofString "y9"))), (.c (.str (Str.ofString "c"))), (.c (.str (Str.ofString "pq")))]),
  .ret (.lc (.rng1 (.var 1)) (.n 4) none [3, 4] (.popAt 2 (.call 20 [(.var 0), (.b1 .len (.peek 2))])))]
def law_names : List Sx := [
  .ret (.b1 .tuple (.sorted (.call 146 [(.var 0), (.var 1)])))]
def let_by : List Sx := [
  .set 1 (.call 5 [(.b1 .len (.idxV 0 (.c (.int (0)))))]),
  .ret (.lc (.zip (.var 1) (.idxV 0 (.c (.int (1))))) (.t [(.n 3), (.n 4)]) (some (.cmp .NotEq (.var 4) (.tup [(.tup []), (.c (.int (0)))]))) [2, 3, 4] (.var 3))]
def told_by : List Sx := [
  .set 2 (.c .none),
  .fr (.of (.call 166 [(.var 0)])) (.n 3) [
    .ifs (.call 9 [(.var 1), (.var 3)]) [
      .ifs (.cmp .Is (.var 2) (.c .none)) [
        .set 2 (.var 3)] [
        .set 2 (.call 7 [(.var 2), (.var 3)])]] []],
  .ret (.mv 2)]
def passed_on : List Sx := [
  .set 1 (.b1 .tuple (.conv1 false (.b1 .len (.idx (.idxV 0 (.c (.int (0)))) (.c (.int (0))))))),
  .set 2 (.lst []),
  .set 3 (.c (.int (0))),
  .set 4 (.c (.int (0))),
  .whl (.cmp .Lt (.var 3) (.b1 .len (.peek 0))) [
    .set 5 (.call 167 [(.idxV 0 (.var 4)), (.var 1)]),
    .ifs (.cmp .Is (.var 5) (.c .none)) [
      .ret (.tup [(.c (.str (Str.ofString "no"))), (.b1 .tuple (.peek 2))])] [],
    .aug 3 .Add (.c (.int (1))),
    .ifs (.cmp .NotEq (.var 5) (.peek 1)) [
      .set 1 (.var 5),
      .expr (.app 2 (.tup [(.var 4), (.var 1)])),
      .set 3 (.c (.int (0)))] [],
    .set 4 (.bin .Mod (.bin .Add (.var 4) (.c (.int (1)))) (.b1 .len (.peek 0)))],
  .ret (.tup [(.c (.str (Str.ofString "yes"))), (.b1 .tuple (.peek 2))])]
def are_faces : List Sx := [
  .ifs (.or (.not (.isi (.peek 0) .tuple)) (.not (.peek 0))) [
    .ret (.c (.bool false))] [],
  .fr (.of (.var 0)) (.n 2) [
    .ifs (.or (.not (.call 61 [(.var 2)])) (.cmp .NotEq (.idxV 2 (.c (.int (0)))) (.idx (.idxV 0 (.c (.int (0)))) (.c (.int (0)))))) [
      .ret (.c (.bool false))] []],
  .ret (.cmp .LtE (.b1 .len (.idx (.idxV 0 (.c (.int (0)))) (.c (.int (0))))) (.peek 1))]
def exchange : List Sx := [
  .ifs (.not (.call 169 [(.var 0), (.c (.int (4)))])) [
    .raise (Str.ofString "BadValue") (.c (.str (Str.ofString "faces")))] [],
  .ret (.call 168 [(.var 0)])]
def law_row_of : List Sx := [
  .set 2 (.sortSet (.var 0)),
  .set 3 (.var 1),
  .ifs (.cmp .Gt (.var 3) (.c (.int (0)))) [
    .set 2 (.lc (.of (.var 2)) (.n 6) (some (.cmp .Lt (.var 6) (.peek 3))) [5, 6] (.var 6)),
    .fr (.rng1 (.b1 .len (.peek 2))) (.n 4) [
      .ifs (.and (.peek 2) (.cmp .Eq (.idxV 2 (.neg (.c (.int (1))))) (.bin .Sub (.var 3) (.c (.int (1)))))) [
        .set 2 (.cutV 2 none (some (.neg (.c (.int (1)))))),
        .set 3 (.bin .Sub (.var 3) (.c (.int (1))))] []]] [],
  .ret (.tup [(.b1 .tuple (.peek 2)), (.var 3)])]
def law_drawn_face : List Sx := [
  .set 2 (.lst []),
  .fr (.of (.call 22 [(.b1 .len (.peek 1))])) (.n 3) [
    .set 4 (.b2 .max (.c (.int (1))) (.lenSet (.var 3))),
    .set 5 (.lc (.rng2 (.var 4) (.c (.int (6)))) (.n 8) (some (.cmp .Eq (.call 20 [(.var 0), (.c (.int (3)))]) (.c (.int (0))))) [7, 8] (.var 8)),
    .set 6 (.idx (.lst [(.c (.int (0))), (.var 4), (.var 4), (.bin .Add (.var 4) (.call 20 [(.var 0), (.c (.int (4)))]))]) (.call 20 [(.var 0), (.c (.int (4)))])),
    .ifs (.cmp .Gt (.call 20 [(.var 0), (.c (.int (3)))]) (.c (.int (0)))) [
      .set 5 (.lst [])] [],
    .ifs (.cmp .Eq (.call 20 [(.var 0), (.c (.int (4)))]) (.c (.int (0)))) [
      .set 6 (.c (.int (0)))] [],
    .expr (.app 2 (.call 171 [(.var 5), (.var 6)]))],
  .ret (.tup [(.b1 .tuple (.peek 1)), (.b1 .tuple (.peek 2))])]
def law_met : List Sx := [
  .ret (.call 23 [(.lc (.rng1 (.b1 .len (.peek 0))) (.n 3) none [2, 3] (.tup [(.idxV 0 (.var 3)), (.idxV 1 (.var 3))]))])]
def law_let_by : List Sx := [
  .set 1 (.call 22 [(.b1 .len (.idxV 0 (.c (.int (0)))))]),
  .ret (.lc (.rng1 (.b1 .len (.peek 1))) (.n 3) (some (.cmp .NotEq (.idx (.idxV 0 (.c (.int (1)))) (.var 3)) (.tup [(.tup []), (.c (.int (0)))]))) [2, 3] (.idxV 1 (.var 3)))]
def law_least_of : List Sx := [
  .ret (.idx (.bin .Add (.b1 .list (.idxV 0 (.c (.int (0))))) (.lst [(.idxV 0 (.c (.int (1))))])) (.c (.int (0))))]
def law_open_meet : List Sx := [
  .set 1 (.call 174 [(.var 0)]),
  .fr (.of (.var 1)) (.n 2) [
    .fr (.of (.var 1)) (.n 3) [
      .ifs (.cmp .NotIn (.call 173 [(.var 2), (.var 3)]) (.peek 1)) [
        .ret (.call 173 [(.var 2), (.var 3)])] []]],
  .ret (.c .none)]
def law_grown : List Sx := [
  .set 1 (.lst []),
  .set 2 (.call 22 [(.b1 .len (.idxV 0 (.c (.int (0)))))]),
  .fr (.rng1 (.b1 .len (.peek 2))) (.n 3) [
    .expr (.app 1 (.idx (.idxV 0 (.c (.int (1)))) (.var 3))),
    .ifs (.cmp .NotEq (.idx (.idxV 0 (.c (.int (1)))) (.var 3)) (.tup [(.tup []), (.c (.int (0)))])) [
      .sto 1 (.var 3) (.tup [(.tup []), (.call 175 [(.idx (.idxV 0 (.c (.int (1)))) (.var 3))])])] []],
  .fr (.rng1 (.c (.int (15)))) (.n 4) [
    .set 5 (.call 176 [(.tup [(.idxV 0 (.c (.int (0)))), (.b1 .tuple (.peek 1))])]),
    .ifs (.cmp .IsNot (.var 5) (.c .none)) [
      .sto 1 (.index 2 (.var 5)) (.tup [(.tup []), (.b1 .max (.bin .Add (.lst [(.c (.int (1)))]) (.lc (.of (.var 5)) (.n 7) none [6, 7] (.bin .Add (.var 7) (.c (.int (1)))))))])] []],
  .ret (.tup [(.idxV 0 (.c (.int (0)))), (.b1 .tuple (.peek 1))])]
def open_meet : List Sx := [
  .set 1 (.call 166 [(.var 0)]),
  .fr (.of (.var 1)) (.n 2) [
    .fr (.of (.var 1)) (.n 3) [
      .set 4 (.call 7 [(.var 2), (.var 3)]),
      .ifs (.cmp .NotIn (.var 4) (.peek 1)) [
        .ret (.mv 4)] []]],
  .ret (.c .none)]
def bounded_row : List Sx := [
  .fr (.zip (.call 5 [(.b1 .len (.idxV 0 (.c (.int (0)))))]) (.idxV 0 (.c (.int (1))))) (.t [(.n 1), (.n 2)]) [
    .ifs (.call 32 [(.var 2)]) [
      .ret (.tup [(.var 1), (.call 32 [(.var 2)])])] []],
  .ret (.c .none)]
def is_closed : List Sx := [
  .expr (.call 62 [(.var 0)]),
  .ret (.cmp .Is (.call 178 [(.var 0)]) (.c .none))]
def always_grows : List Sx := [
  .expr (.call 62 [(.var 0)]),
  .ret (.cmp .Is (.call 179 [(.var 0)]) (.c .none))]
def is_fit : List Sx := [
  .expr (.call 62 [(.var 0)]),
  .ret (.and (.cmp .Is (.call 178 [(.var 0)]) (.c .none)) (.cmp .Is (.call 179 [(.var 0)]) (.c .none)))]
def law_bounded : List Sx := [
  .set 1 (.call 22 [(.b1 .len (.idxV 0 (.c (.int (0)))))]),
  .fr (.rng1 (.b1 .len (.peek 1))) (.n 2) [
    .ifs (.and (.idx (.idx (.idxV 0 (.c (.int (1)))) (.var 2)) (.c (.int (0)))) (.cmp .Eq (.idx (.idx (.idxV 0 (.c (.int (1)))) (.var 2)) (.c (.int (1)))) (.c (.int (0))))) [
      .ret (.tup [(.idxV 1 (.var 2)), (.idx (.idx (.idx (.idxV 0 (.c (.int (1)))) (.var 2)) (.c (.int (0)))) (.bin .Sub (.b1 .len (.idx (.idx (.idxV 0 (.c (.int (1)))) (.var 2)) (.c (.int (0))))) (.c (.int (1)))))])] []],
  .ret (.c .none)]
end I
def Dlib : Dt := [(1, ⟨1, 1, I.is_whole⟩),
  (2, ⟨3, 3, I.is_number⟩),
  (3, ⟨1, 2, I.is_rising⟩),
  (4, ⟨1, 1, I.class_total⟩),
  (5, ⟨1, 6, I.all_arrangements⟩),
  (6, ⟨1, 4, I.numbered⟩),
  (7, ⟨2, 4, I.finest_below⟩),
  (8, ⟨2, 9, I.coarsest_above⟩),
  (9, ⟨2, 4, I.refines⟩),
  (10, ⟨2, 4, I.seen_at⟩),
  (11, ⟨1, 1, I.arrangements⟩),
  (12, ⟨2, 4, I.is_arrangement⟩),
  (13, ⟨2, 2, I.check_arrangement⟩),
  (14, ⟨1, 1, I.check_any⟩),
  (15, ⟨2, 2, I.meet_of⟩),
  (16, ⟨2, 2, I.join_of⟩),
  (17, ⟨2, 2, I.is_finer⟩),
  (18, ⟨1, 1, I.class_count⟩),
  (19, ⟨2, 3, I.part_of⟩),
  (20, ⟨2, 5, I.law_draw⟩),
  (21, ⟨2, 2, I.law_pick⟩),
  (22, ⟨1, 7, I.law_arrangements⟩),
  (23, ⟨1, 4, I.law_same_marks⟩),
  (24, ⟨2, 4, I.law_same⟩),
  (25, ⟨1, 1, I.is_pair⟩),
  (31, ⟨1, 3, I.least_of⟩),
  (32, ⟨1, 3, I.greatest_of⟩),
  (35, ⟨1, 4, I.is_sizes⟩),
  (49, ⟨1, 2, I.is_name_text⟩),
  (50, ⟨2, 3, I.is_name_row⟩),
  (61, ⟨1, 4, I.is_face⟩),
  (62, ⟨1, 1, I.check_face⟩),
  (146, ⟨2, 5, I.law_some_names⟩),
  (147, ⟨2, 2, I.law_names⟩),
  (166, ⟨1, 5, I.let_by⟩),
  (167, ⟨2, 4, I.told_by⟩),
  (168, ⟨1, 6, I.passed_on⟩),
  (169, ⟨2, 3, I.are_faces⟩),
  (170, ⟨1, 1, I.exchange⟩),
  (171, ⟨2, 7, I.law_row_of⟩),
  (172, ⟨2, 9, I.law_drawn_face⟩),
  (173, ⟨2, 4, I.law_met⟩),
  (174, ⟨1, 4, I.law_let_by⟩),
  (175, ⟨1, 1, I.law_least_of⟩),
  (176, ⟨1, 4, I.law_open_meet⟩),
  (177, ⟨1, 8, I.law_grown⟩),
  (178, ⟨1, 5, I.open_meet⟩),
  (179, ⟨1, 3, I.bounded_row⟩),
  (180, ⟨1, 1, I.is_closed⟩),
  (181, ⟨1, 1, I.always_grows⟩),
  (182, ⟨1, 1, I.is_fit⟩),
  (183, ⟨1, 3, I.law_bounded⟩)]
theorem r_is_whole {X : Dt} {n : Nat} {S : List PyData} {a0 : Va} : run (Dlib ++ X) (n + 1) 1 [a0] S = FRof (denB (run (Dlib ++ X) n) I.is_whole ⟨[some a0], S⟩) := fnOf_at rfl
theorem r_is_number {X : Dt} {n : Nat} {S : List PyData} {a0 : Va} {a1 : Va} {a2 : Va} : run (Dlib ++ X) (n + 1) 2 [a0, a1, a2] S = FRof (denB (run (Dlib ++ X) n) I.is_number ⟨[some a0, some a1, some a2], S⟩) := fnOf_at rfl
theorem r_is_rising {X : Dt} {n : Nat} {S : List PyData} {a0 : Va} : run (Dlib ++ X) (n + 1) 3 [a0] S = FRof (denB (run (Dlib ++ X) n) I.is_rising ⟨[some a0, none], S⟩) := fnOf_at rfl
theorem r_class_total {X : Dt} {n : Nat} {S : List PyData} {a0 : Va} : run (Dlib ++ X) (n + 1) 4 [a0] S = FRof (denB (run (Dlib ++ X) n) I.class_total ⟨[some a0], S⟩) := fnOf_at rfl
theorem r_all_arrangements {X : Dt} {n : Nat} {S : List PyData} {a0 : Va} : run (Dlib ++ X) (n + 1) 5 [a0] S = FRof (denB (run (Dlib ++ X) n) I.all_arrangements ⟨[some a0, none, none, none, none, none], S⟩) := fnOf_at rfl
theorem r_numbered {X : Dt} {n : Nat} {S : List PyData} {a0 : Va} : run (Dlib ++ X) (n + 1) 6 [a0] S = FRof (denB (run (Dlib ++ X) n) I.numbered ⟨[some a0, none, none, none], S⟩) := fnOf_at rfl
theorem r_finest_below {X : Dt} {n : Nat} {S : List PyData} {a0 : Va} {a1 : Va} : run (Dlib ++ X) (n + 1) 7 [a0, a1] S = FRof (denB (run (Dlib ++ X) n) I.finest_below ⟨[some a0, some a1, none, none], S⟩) := fnOf_at rfl
theorem r_coarsest_above {X : Dt} {n : Nat} {S : List PyData} {a0 : Va} {a1 : Va} : run (Dlib ++ X) (n + 1) 8 [a0, a1] S = FRof (denB (run (Dlib ++ X) n) I.coarsest_above ⟨[some a0, some a1, none, none, none, none, none, none, none], S⟩) := fnOf_at rfl
theorem r_refines {X : Dt} {n : Nat} {S : List PyData} {a0 : Va} {a1 : Va} : run (Dlib ++ X) (n + 1) 9 [a0, a1] S = FRof (denB (run (Dlib ++ X) n) I.refines ⟨[some a0, some a1, none, none], S⟩) := fnOf_at rfl
theorem r_seen_at {X : Dt} {n : Nat} {S : List PyData} {a0 : Va} {a1 : Va} : run (Dlib ++ X) (n + 1) 10 [a0, a1] S = FRof (denB (run (Dlib ++ X) n) I.seen_at ⟨[some a0, some a1, none, none], S⟩) := fnOf_at rfl
theorem r_arrangements {X : Dt} {n : Nat} {S : List PyData} {a0 : Va} : run (Dlib ++ X) (n + 1) 11 [a0] S = FRof (denB (run (Dlib ++ X) n) I.arrangements ⟨[some a0], S⟩) := fnOf_at rfl
theorem r_is_arrangement {X : Dt} {n : Nat} {S : List PyData} {a0 : Va} {a1 : Va} : run (Dlib ++ X) (n + 1) 12 [a0, a1] S = FRof (denB (run (Dlib ++ X) n) I.is_arrangement ⟨[some a0, some a1, none, none], S⟩) := fnOf_at rfl
theorem r_check_arrangement {X : Dt} {n : Nat} {S : List PyData} {a0 : Va} {a1 : Va} : run (Dlib ++ X) (n + 1) 13 [a0, a1] S = FRof (denB (run (Dlib ++ X) n) I.check_arrangement ⟨[some a0, some a1], S⟩) := fnOf_at rfl
theorem r_check_any {X : Dt} {n : Nat} {S : List PyData} {a0 : Va} : run (Dlib ++ X) (n + 1) 14 [a0] S = FRof (denB (run (Dlib ++ X) n) I.check_any ⟨[some a0], S⟩) := fnOf_at rfl
theorem r_meet_of {X : Dt} {n : Nat} {S : List PyData} {a0 : Va} {a1 : Va} : run (Dlib ++ X) (n + 1) 15 [a0, a1] S = FRof (denB (run (Dlib ++ X) n) I.meet_of ⟨[some a0, some a1], S⟩) := fnOf_at rfl
theorem r_join_of {X : Dt} {n : Nat} {S : List PyData} {a0 : Va} {a1 : Va} : run (Dlib ++ X) (n + 1) 16 [a0, a1] S = FRof (denB (run (Dlib ++ X) n) I.join_of ⟨[some a0, some a1], S⟩) := fnOf_at rfl
theorem r_is_finer {X : Dt} {n : Nat} {S : List PyData} {a0 : Va} {a1 : Va} : run (Dlib ++ X) (n + 1) 17 [a0, a1] S = FRof (denB (run (Dlib ++ X) n) I.is_finer ⟨[some a0, some a1], S⟩) := fnOf_at rfl
theorem r_class_count {X : Dt} {n : Nat} {S : List PyData} {a0 : Va} : run (Dlib ++ X) (n + 1) 18 [a0] S = FRof (denB (run (Dlib ++ X) n) I.class_count ⟨[some a0], S⟩) := fnOf_at rfl
theorem r_part_of {X : Dt} {n : Nat} {S : List PyData} {a0 : Va} {a1 : Va} : run (Dlib ++ X) (n + 1) 19 [a0, a1] S = FRof (denB (run (Dlib ++ X) n) I.part_of ⟨[some a0, some a1, none], S⟩) := fnOf_at rfl
theorem r_law_draw {X : Dt} {n : Nat} {S : List PyData} {a0 : Va} {a1 : Va} : run (Dlib ++ X) (n + 1) 20 [a0, a1] S = FRof (denB (run (Dlib ++ X) n) I.law_draw ⟨[some a0, some a1, none, none, none], S⟩) := fnOf_at rfl
theorem r_law_pick {X : Dt} {n : Nat} {S : List PyData} {a0 : Va} {a1 : Va} : run (Dlib ++ X) (n + 1) 21 [a0, a1] S = FRof (denB (run (Dlib ++ X) n) I.law_pick ⟨[some a0, some a1], S⟩) := fnOf_at rfl
theorem r_law_arrangements {X : Dt} {n : Nat} {S : List PyData} {a0 : Va} : run (Dlib ++ X) (n + 1) 22 [a0] S = FRof (denB (run (Dlib ++ X) n) I.law_arrangements ⟨[some a0, none, none, none, none, none, none], S⟩) := fnOf_at rfl
theorem r_law_same_marks {X : Dt} {n : Nat} {S : List PyData} {a0 : Va} : run (Dlib ++ X) (n + 1) 23 [a0] S = FRof (denB (run (Dlib ++ X) n) I.law_same_marks ⟨[some a0, none, none, none], S⟩) := fnOf_at rfl
theorem r_law_same {X : Dt} {n : Nat} {S : List PyData} {a0 : Va} {a1 : Va} : run (Dlib ++ X) (n + 1) 24 [a0, a1] S = FRof (denB (run (Dlib ++ X) n) I.law_same ⟨[some a0, some a1, none, none], S⟩) := fnOf_at rfl
theorem r_is_pair {X : Dt} {n : Nat} {S : List PyData} {a0 : Va} : run (Dlib ++ X) (n + 1) 25 [a0] S = FRof (denB (run (Dlib ++ X) n) I.is_pair ⟨[some a0], S⟩) := fnOf_at rfl
theorem r_least_of {X : Dt} {n : Nat} {S : List PyData} {a0 : Va} : run (Dlib ++ X) (n + 1) 31 [a0] S = FRof (denB (run (Dlib ++ X) n) I.least_of ⟨[some a0, none, none], S⟩) := fnOf_at rfl
theorem r_greatest_of {X : Dt} {n : Nat} {S : List PyData} {a0 : Va} : run (Dlib ++ X) (n + 1) 32 [a0] S = FRof (denB (run (Dlib ++ X) n) I.greatest_of ⟨[some a0, none, none], S⟩) := fnOf_at rfl
theorem r_is_sizes {X : Dt} {n : Nat} {S : List PyData} {a0 : Va} : run (Dlib ++ X) (n + 1) 35 [a0] S = FRof (denB (run (Dlib ++ X) n) I.is_sizes ⟨[some a0, none, none, none], S⟩) := fnOf_at rfl
theorem r_is_name_text {X : Dt} {n : Nat} {S : List PyData} {a0 : Va} : run (Dlib ++ X) (n + 1) 49 [a0] S = FRof (denB (run (Dlib ++ X) n) I.is_name_text ⟨[some a0, none], S⟩) := fnOf_at rfl
theorem r_is_name_row {X : Dt} {n : Nat} {S : List PyData} {a0 : Va} {a1 : Va} : run (Dlib ++ X) (n + 1) 50 [a0, a1] S = FRof (denB (run (Dlib ++ X) n) I.is_name_row ⟨[some a0, some a1, none], S⟩) := fnOf_at rfl
theorem r_is_face {X : Dt} {n : Nat} {S : List PyData} {a0 : Va} : run (Dlib ++ X) (n + 1) 61 [a0] S = FRof (denB (run (Dlib ++ X) n) I.is_face ⟨[some a0, none, none, none], S⟩) := fnOf_at rfl
theorem r_check_face {X : Dt} {n : Nat} {S : List PyData} {a0 : Va} : run (Dlib ++ X) (n + 1) 62 [a0] S = FRof (denB (run (Dlib ++ X) n) I.check_face ⟨[some a0], S⟩) := fnOf_at rfl
theorem r_law_some_names {X : Dt} {n : Nat} {S : List PyData} {a0 : Va} {a1 : Va} : run (Dlib ++ X) (n + 1) 146 [a0, a1] S = FRof (denB (run (Dlib ++ X) n) I.law_some_names ⟨[some a0, some a1, none, none, none], S⟩) := fnOf_at rfl
theorem r_law_names {X : Dt} {n : Nat} {S : List PyData} {a0 : Va} {a1 : Va} : run (Dlib ++ X) (n + 1) 147 [a0, a1] S = FRof (denB (run (Dlib ++ X) n) I.law_names ⟨[some a0, some a1], S⟩) := fnOf_at rfl
theorem r_let_by {X : Dt} {n : Nat} {S : List PyData} {a0 : Va} : run (Dlib ++ X) (n + 1) 166 [a0] S = FRof (denB (run (Dlib ++ X) n) I.let_by ⟨[some a0, none, none, none, none], S⟩) := fnOf_at rfl
theorem r_told_by {X : Dt} {n : Nat} {S : List PyData} {a0 : Va} {a1 : Va} : run (Dlib ++ X) (n + 1) 167 [a0, a1] S = FRof (denB (run (Dlib ++ X) n) I.told_by ⟨[some a0, some a1, none, none], S⟩) := fnOf_at rfl
theorem r_passed_on {X : Dt} {n : Nat} {S : List PyData} {a0 : Va} : run (Dlib ++ X) (n + 1) 168 [a0] S = FRof (denB (run (Dlib ++ X) n) I.passed_on ⟨[some a0, none, none, none, none, none], S⟩) := fnOf_at rfl
theorem r_are_faces {X : Dt} {n : Nat} {S : List PyData} {a0 : Va} {a1 : Va} : run (Dlib ++ X) (n + 1) 169 [a0, a1] S = FRof (denB (run (Dlib ++ X) n) I.are_faces ⟨[some a0, some a1, none], S⟩) := fnOf_at rfl
theorem r_exchange {X : Dt} {n : Nat} {S : List PyData} {a0 : Va} : run (Dlib ++ X) (n + 1) 170 [a0] S = FRof (denB (run (Dlib ++ X) n) I.exchange ⟨[some a0], S⟩) := fnOf_at rfl
theorem r_law_row_of {X : Dt} {n : Nat} {S : List PyData} {a0 : Va} {a1 : Va} : run (Dlib ++ X) (n + 1) 171 [a0, a1] S = FRof (denB (run (Dlib ++ X) n) I.law_row_of ⟨[some a0, some a1, none, none, none, none, none], S⟩) := fnOf_at rfl
theorem r_law_drawn_face {X : Dt} {n : Nat} {S : List PyData} {a0 : Va} {a1 : Va} : run (Dlib ++ X) (n + 1) 172 [a0, a1] S = FRof (denB (run (Dlib ++ X) n) I.law_drawn_face ⟨[some a0, some a1, none, none, none, none, none, none, none], S⟩) := fnOf_at rfl
theorem r_law_met {X : Dt} {n : Nat} {S : List PyData} {a0 : Va} {a1 : Va} : run (Dlib ++ X) (n + 1) 173 [a0, a1] S = FRof (denB (run (Dlib ++ X) n) I.law_met ⟨[some a0, some a1, none, none], S⟩) := fnOf_at rfl
theorem r_law_let_by {X : Dt} {n : Nat} {S : List PyData} {a0 : Va} : run (Dlib ++ X) (n + 1) 174 [a0] S = FRof (denB (run (Dlib ++ X) n) I.law_let_by ⟨[some a0, none, none, none], S⟩) := fnOf_at rfl
theorem r_law_least_of {X : Dt} {n : Nat} {S : List PyData} {a0 : Va} : run (Dlib ++ X) (n + 1) 175 [a0] S = FRof (denB (run (Dlib ++ X) n) I.law_least_of ⟨[some a0], S⟩) := fnOf_at rfl
theorem r_law_open_meet {X : Dt} {n : Nat} {S : List PyData} {a0 : Va} : run (Dlib ++ X) (n + 1) 176 [a0] S = FRof (denB (run (Dlib ++ X) n) I.law_open_meet ⟨[some a0, none, none, none], S⟩) := fnOf_at rfl
theorem r_law_grown {X : Dt} {n : Nat} {S : List PyData} {a0 : Va} : run (Dlib ++ X) (n + 1) 177 [a0] S = FRof (denB (run (Dlib ++ X) n) I.law_grown ⟨[some a0, none, none, none, none, none, none, none], S⟩) := fnOf_at rfl
theorem r_open_meet {X : Dt} {n : Nat} {S : List PyData} {a0 : Va} : run (Dlib ++ X) (n + 1) 178 [a0] S = FRof (denB (run (Dlib ++ X) n) I.open_meet ⟨[some a0, none, none, none, none], S⟩) := fnOf_at rfl
theorem r_bounded_row {X : Dt} {n : Nat} {S : List PyData} {a0 : Va} : run (Dlib ++ X) (n + 1) 179 [a0] S = FRof (denB (run (Dlib ++ X) n) I.bounded_row ⟨[some a0, none, none], S⟩) := fnOf_at rfl
theorem r_is_closed {X : Dt} {n : Nat} {S : List PyData} {a0 : Va} : run (Dlib ++ X) (n + 1) 180 [a0] S = FRof (denB (run (Dlib ++ X) n) I.is_closed ⟨[some a0], S⟩) := fnOf_at rfl
theorem r_always_grows {X : Dt} {n : Nat} {S : List PyData} {a0 : Va} : run (Dlib ++ X) (n + 1) 181 [a0] S = FRof (denB (run (Dlib ++ X) n) I.always_grows ⟨[some a0], S⟩) := fnOf_at rfl
theorem r_is_fit {X : Dt} {n : Nat} {S : List PyData} {a0 : Va} : run (Dlib ++ X) (n + 1) 182 [a0] S = FRof (denB (run (Dlib ++ X) n) I.is_fit ⟨[some a0], S⟩) := fnOf_at rfl
theorem r_law_bounded {X : Dt} {n : Nat} {S : List PyData} {a0 : Va} : run (Dlib ++ X) (n + 1) 183 [a0] S = FRof (denB (run (Dlib ++ X) n) I.law_bounded ⟨[some a0, none, none], S⟩) := fnOf_at rfl

namespace Lib
open PySem PySem.Spec PyProof.Rows L2 Ev
/-! # values -/
section
variable {X : Dt} {n : Nat} {S : List PyData}
def isWhole : PyData → Bool
  | .int _ => true
  | _ => false
theorem is_whole_ok (d : PyData) : run (Dlib ++ X) (n + 1) 1 [.dat d] S = .ok (.dat (.bool (isWhole d))) S := by
  rw [r_is_whole]
  cases d <;> rfl
def isNum (lo hi : Int) : PyData → Bool
  | .int i => decide (lo ≤ i) && decide (i ≤ hi)
  | _ => false
theorem is_number_ok (d : PyData) (lo hi : Int) : run (Dlib ++ X) (n + 2) 2 [.dat d, .dat (.int lo), .dat (.int hi)] S = .ok (.dat (.bool (isNum lo hi d))) S := by
  rw [r_is_number]
  unfold I.is_number
  simp only [denB, denS, den, denL]
  cases d with
  | int i =>
    by_cases h : lo ≤ i
    · simp [is_whole_ok, isWhole, isNum, h, dAnd, dChainB]
    · simp [is_whole_ok, isWhole, isNum, h, dAnd, dChainB]
  | _ => simp [is_whole_ok, isWhole, isNum, dAnd]
/-- each thing less than the next -/
def risL {α : Type} (lt : α → α → Bool) : List α → Bool
  | a :: b :: r => lt a b && risL lt (b :: r)
  | _ => true
theorem risL_range {α : Type} {lt : α → α → Bool} : ∀ xs : List α, risL lt xs = (List.range (xs.length - 1)).all fun k => match xs[k]?, xs[k + 1]? with
    | some a, some b => lt a b
    | _, _ => true
  | [] => rfl
  | [_] => rfl
  | a :: b :: r => by
    have h := risL_range (lt := lt) (b :: r)
    show (lt a b && risL lt (b :: r)) = _
    rw [h]
    have e : (a :: b :: r).length - 1 = (b :: r).length - 1 + 1 := by simp
    rw [e, List.range_succ_eq_map, List.all_cons, List.all_map]
    rfl
theorem is_rising_ok {α : Type} (g : α → PyData) (lt : α → α → Bool) (hlt : ∀ a b, cmpD .Lt (g a) (g b) = some (lt a b)) (xs : List α) (hl : xs.length < 1000000) : run (Dlib ++ X) (n + 1) 3 [.dat (.tuple (xs.map g))] S = .ok (.dat (.bool (risL lt xs))) S := by
  rw [r_is_rising]
  unfold I.is_rising
  generalize run (Dlib ++ X) n = C
  have hr : denI C (.rng2 (.c (.int (1))) (.b1 .len (.peek 0))) ⟨[some (.dat (.tuple (xs.map g))), none], S⟩ = .ok (rangeL 1 ((xs.length : Int) - 1).toNat) ⟨[some (.dat (.tuple (xs.map g))), none], S⟩ :=
    rng2_s (by simp only [den]; simp) (by simp only [den]; simp) (by decide +kernel) (inR_small (by omega) (by omega))
  have em : ((xs.length : Int) - 1).toNat = xs.length - 1 := by omega
  rw [em, rangeL_map] at hr
  refine fr_all (α := Nat) (Q := fun z => FRof z = FR.ok (.dat (.bool (risL lt xs))) S) hr (by show 1 < 2; omega) (fun k => match xs[k]?, xs[k + 1]? with
    | some a, some b => lt a b
    | _, _ => true) (.bool false) (fun k hk => ?_) (fun t => ?_)
  · rw [List.mem_range] at hk
    have h1 : k < xs.length := by omega
    have h2 : k + 1 < xs.length := by omega
    rw [List.getElem?_eq_getElem h1, List.getElem?_eq_getElem h2]
    have e1 : atI (xs.map g) (1 + (k : Int) - 1) = some (g xs[k]) := by rw [atI_map, show (1 + (k : Int) - 1) = (k : Int) by omega, atI_at h1]; rfl
    have e2 : atI (xs.map g) (1 + (k : Int)) = some (g xs[k + 1]) := by rw [atI_map, show (1 + (k : Int)) = ((k + 1 : Nat) : Int) by omega, atI_at h2]; rfl
    have e3 := hlt xs[k] xs[k + 1]
    simp only [denB, denS, den]
    rcases Bool.eq_false_or_eq_true (lt xs[k] xs[k + 1]) with hb | hb <;> simp [e1, e2, e3, hb]
  · rw [← risL_range]
    cases risL lt xs <;> rfl
theorem is_pair_tup (ds : List PyData) : run (Dlib ++ X) (n + 1) 25 [.dat (.tuple ds)] S = .ok (.dat (.bool (decide (ds.length = 2)))) S := by
  rw [r_is_pair]
  unfold I.is_pair
  simp only [denB, denS, den, denL]
  have : ((ds.length : Int) = 2) ↔ ds.length = 2 := by omega
  simp [dAnd, dIsi, isiD, kd, Kd.isi, this]
/-! names -/
/-- a text that the program takes for a name -/
def NameOk (x : Str) : Prop := ∀ (X : Dt) (n : Nat) (S : List PyData), run (Dlib ++ X) (n + 1) 49 [.dat (.str x)] S = .ok (.dat (.bool true)) S
theorem is_name_row_ok (ns : List Str) (k : Nat) (hk : k < 1000) (hn : ∀ x ∈ ns, NameOk x) : run (Dlib ++ X) (n + 2) 50 [.dat (tx ns), .dat (.int k)] S = .ok (.dat (.bool (decide (ns.length ≤ k) && risL strLt ns))) S := by
  rw [r_is_name_row]
  unfold I.is_name_row
  have hr := is_rising_ok (X := X) (n := n) (S := S) PyData.str strLt (fun _ _ => rfl) ns
  have h1 : ∀ x ∈ ns, run (Dlib ++ X) (n + 1) 49 [.dat (.str x)] S = .ok (.dat (.bool true)) S := fun x hx => hn x hx X n S
  generalize run (Dlib ++ X) (n + 1) = C at hr h1
  by_cases h2 : ns.length ≤ k
  case neg =>
    refine if_rt (Q := fun z => FRof z = _) (s1 := ⟨[some (.dat (tx ns)), some (.dat (.int k)), none], S⟩) (v := .dat (.bool false)) (s2 := ⟨[some (.dat (tx ns)), some (.dat (.int k)), none], S⟩) ?_ rfl ?_
    · have h3 : (k : Int) < (ns.length : Int) := by omega
      simp only [den]
      simp [dIsi, isiD, kd, Kd.isi, h3]
    · rw [decide_eq_false h2]; rfl
  refine if_f0 (Q := fun z => FRof z = _) (s1 := ⟨[some (.dat (tx ns)), some (.dat (.int k)), none], S⟩) ?_ ?_
  · have h3 : ¬ (k : Int) < (ns.length : Int) := by omega
    simp only [den]
    simp [dIsi, isiD, kd, Kd.isi, h3]
  refine fr_all (α := Str) (Q := fun z => FRof z = FR.ok (.dat (.bool (decide (ns.length ≤ k) && risL strLt ns))) S) (of_t (xs := ns.map PyData.str) ?_) (by show 2 < 3; omega) (fun _ => true) (.bool false) (fun x hx => ?_) (fun t => ?_)
  · simp only [den]; simp
  · have := h1 x hx
    simp only [denB, denS, den, denL]
    simp [this]
  · rw [if_pos (by simp)]
    refine ret_e (Q := fun z => FRof z = _) (cal rfl (hr (by omega))) ?_
    simp [h2]
end
end Lib

namespace Lib
open PySem PySem.Spec PyProof.Rows L2 Ev
/-! # sizes -/
abbrev rowD (p : List Int × Int) : PyData := .tuple [ti p.1, .int p.2]
def ltI (a b : Int) : Bool := decide (a < b)
/-- the only form of a set of sizes -/
def sizesOk (few : List Int) (ray : Int) : Bool :=
  decide (0 ≤ ray) && decide (ray ≤ 100) && (few.all fun i => decide (1 ≤ i) && decide (i ≤ 99)) && risL ltI few && (decide (ray = 0) || few.isEmpty || decide (few.getLastD 0 < ray - 1))
theorem dep_row (p : List Int × Int) : (rowD p).depth ≤ 2 := by
  rw [depth_tup]
  have := depth_ti p.1
  show max _ (max _ 0) + 1 ≤ 2
  simp
  omega
@[simp] theorem eqv_row (p q : List Int × Int) : PyData.eqv (rowD p) (rowD q) = decide (p = q) := by
  show (PyData.eqv (ti p.1) (ti q.1) && (PyData.eqv (.int p.2) (.int q.2) && true)) = _
  rw [eqv_ti, eqv_int]
  obtain ⟨a, b⟩ := p
  obtain ⟨c, d⟩ := q
  by_cases h1 : a = c <;> by_cases h2 : b = d <;> simp [h1, h2]
@[simp] theorem c_neR (p q : List Int × Int) : cmpD .NotEq (rowD p) (rowD q) = some (!decide (p = q)) := by
  rw [cmp_ne, eqv_row]
  have := dep_row p
  omega
section
variable {X : Dt} {n : Nat} {S : List PyData}
theorem is_sizes_ok (p : List Int × Int) (hl : p.1.length < 1000000) : run (Dlib ++ X) (n + 3) 35 [.dat (rowD p)] S = .ok (.dat (.bool (sizesOk p.1 p.2))) S := by
  obtain ⟨few, ray⟩ := p
  rw [r_is_sizes]
  unfold I.is_sizes
  have h1 : ∀ ds : List PyData, run (Dlib ++ X) (n + 2) 25 [.dat (.tuple ds)] S = .ok (.dat (.bool (decide (ds.length = 2)))) S := is_pair_tup
  have h2 : ∀ (i lo hi : Int), run (Dlib ++ X) (n + 2) 2 [.dat (.int i), .dat (.int lo), .dat (.int hi)] S = .ok (.dat (.bool (decide (lo ≤ i) && decide (i ≤ hi)))) S := fun i lo hi => is_number_ok (.int i) lo hi
  have h3 : run (Dlib ++ X) (n + 2) 3 [.dat (ti few)] S = .ok (.dat (.bool (risL ltI few))) S := is_rising_ok PyData.int ltI (fun _ _ => rfl) few hl
  generalize run (Dlib ++ X) (n + 2) = C at h1 h2 h3
  have t1 : (den C (.call 25 [.var 0])).t ⟨[some (.dat (rowD (few, ray))), none, none, none], S⟩ = .ok true ⟨[some (.dat (rowD (few, ray))), none, none, none], S⟩ := cal_t rfl (h1 _)
  refine if_f0 (Q := fun z => FRof z = _) (s1 := ⟨[some (.dat (rowD (few, ray))), none, none, none], S⟩) (or_f (not_t t1) rfl) ?_
  refine st_nx (Q := fun z => FRof z = _) (s1 := ⟨[some (.dat (rowD (few, ray))), some (.dat (ti few)), some (.dat (.int ray)), none], S⟩) rfl ?_
  by_cases e1 : (decide (0 ≤ ray) && decide (ray ≤ 100)) = true
  case neg =>
    refine if_rt (Q := fun z => FRof z = _) (s1 := ⟨[some (.dat (rowD (few, ray))), some (.dat (ti few)), some (.dat (.int ray)), none], S⟩) (v := .dat (.bool false)) ?_ rfl ?_
    · have := not_t (cal_t (C := C) (s := ⟨[some (.dat (rowD (few, ray))), some (.dat (ti few)), some (.dat (.int ray)), none], S⟩) (es := [.var 2, .c (.int 0), .c (.int 100)]) rfl (h2 ray 0 100))
      rw [Bool.eq_false_iff.mpr e1] at this
      exact this
    · have : sizesOk few ray = false := by unfold sizesOk; rw [Bool.eq_false_iff.mpr e1]; rfl
      rw [this]; rfl
  refine if_f0 (Q := fun z => FRof z = _) (s1 := ⟨[some (.dat (rowD (few, ray))), some (.dat (ti few)), some (.dat (.int ray)), none], S⟩) ?_ ?_
  · have := not_t (cal_t (C := C) (s := ⟨[some (.dat (rowD (few, ray))), some (.dat (ti few)), some (.dat (.int ray)), none], S⟩) (es := [.var 2, .c (.int 0), .c (.int 100)]) rfl (h2 ray 0 100))
    rw [e1] at this
    exact this
  refine fr_all (α := Int) (g := PyData.int) (xs := few) (Q := fun z => FRof z = FR.ok (.dat (.bool (sizesOk few ray))) S) (of_t rfl) (by show 3 < 4; omega) (fun i => decide (1 ≤ i) && decide (i ≤ 99)) (.bool false) (fun x hx => ?_) (fun t => ?_)
  · have := not_t (cal_t (C := C) (s := ⟨[some (.dat (rowD (few, ray))), some (.dat (ti few)), some (.dat (.int ray)), some (.dat (.int x))], S⟩) (es := [.var 3, .c (.int 1), .c (.int 99)]) rfl (h2 x 1 99))
    cases hb : (decide (1 ≤ x) && decide (x ≤ 99)) with
    | true => rw [hb] at this; exact if_f0 (Q := fun z => z = _) this rfl
    | false => rw [hb] at this; exact if_rt (Q := fun z => z = _) this rfl rfl
  · cases e2 : few.all fun i => decide (1 ≤ i) && decide (i ≤ 99) with
    | false =>
      have : sizesOk few ray = false := by unfold sizesOk; rw [e2]; simp
      rw [this]; rfl
    | true =>
      rw [if_pos rfl]
      have ht := not_t (cal_t (C := C) (s := ⟨[some (.dat (rowD (few, ray))), some (.dat (ti few)), some (.dat (.int ray)), t], S⟩) (es := [.var 1]) rfl h3)
      cases e3 : risL ltI few with
      | false =>
        rw [e3] at ht
        have : sizesOk few ray = false := by unfold sizesOk; rw [e3]; simp
        rw [this]
        exact if_rt (Q := fun z => FRof z = _) ht rfl rfl
      | true =>
        rw [e3] at ht
        refine if_f0 (Q := fun z => FRof z = _) ht ?_
        have e4 : sizesOk few ray = (decide (ray = 0) || few.isEmpty || decide (few.getLastD 0 < ray - 1)) := by unfold sizesOk; rw [e1, e2, e3]; rfl
        rw [e4]
        simp only [denB, denS, den]
        by_cases h0 : ray = 0
        · simp [dOr, h0]
        · by_cases h5 : few = []
          · simp [dOr, dNot, truD, h0, h5]
          · have e5 : atI few (-1) = some (few.getLast h5) := atI_last h5
            have e6 : few.getLastD 0 = few.getLast h5 := by rw [List.getLastD_eq_getLast?, List.getLast?_eq_getLast h5]; rfl
            have e7 : few.isEmpty = false := by cases few with | nil => exact absurd rfl h5 | cons _ _ => rfl
            rw [e6, e7]
            simp [dOr, dNot, truD, h0, h5, atI_map, e5, e7]
def leastOf (p : List Int × Int) : Int := p.1.headD p.2
theorem least_of_ok (p : List Int × Int) : run (Dlib ++ X) (n + 1) 31 [.dat (rowD p)] S = .ok (.dat (.int (leastOf p))) S := by
  obtain ⟨few, ray⟩ := p
  rw [r_least_of]
  cases few with
  | nil => rfl
  | cons a r =>
    unfold I.least_of leastOf
    generalize run (Dlib ++ X) n = C
    refine st_nx (Q := fun z => FRof z = _) (s1 := ⟨[some (.dat (rowD (a :: r, ray))), some (.dat (ti (a :: r))), some (.dat (.int ray))], S⟩) rfl ?_
    refine if_rt (Q := fun z => FRof z = _) (s1 := ⟨[some (.dat (rowD (a :: r, ray))), some (.dat (ti (a :: r))), some (.dat (.int ray))], S⟩) (v := .dat (.int a)) (s2 := ⟨[some (.dat (rowD (a :: r, ray))), some (.dat (ti (a :: r))), some (.dat (.int ray))], S⟩) rfl ?_ rfl
    simp only [denB, denS, den]
    simp
def greatestOf (p : List Int × Int) : Int := if p.2 ≠ 0 ∨ p.1 = [] then 0 else p.1.getLastD 0
theorem greatest_of_ok (p : List Int × Int) : run (Dlib ++ X) (n + 1) 32 [.dat (rowD p)] S = .ok (.dat (.int (greatestOf p))) S := by
  obtain ⟨few, ray⟩ := p
  rw [r_greatest_of]
  unfold I.greatest_of greatestOf
  generalize run (Dlib ++ X) n = C
  refine st_nx (Q := fun z => FRof z = _) (s1 := ⟨[some (.dat (rowD (few, ray))), some (.dat (ti few)), some (.dat (.int ray))], S⟩) rfl ?_
  simp only [denB, denS, den]
  by_cases h0 : ray = 0
  · by_cases h5 : few = []
    · simp [truD, h0, h5]
    · have e5 : atI few (-1) = some (few.getLast h5) := atI_last h5
      have e6 : few.getLastD 0 = few.getLast h5 := by rw [List.getLastD_eq_getLast?, List.getLast?_eq_getLast h5]; rfl
      have e7 : few.isEmpty = false := by cases few with | nil => exact absurd rfl h5 | cons _ _ => rfl
      rw [e6]
      simp [truD, h0, h5, atI_map, e5, e7]
  · simp [truD, h0]
end
end Lib

namespace Lib
open PySem PySem.Spec PyProof.Rows L2 Ev
/-! # arrangements of at most four names -/
def topOf (r : List Int) : Int := r.foldl max (-1)
def arrs : Nat → List (List Int)
  | 0 => [[]]
  | n + 1 => (arrs n).flatMap fun r => (List.range (topOf r + 2).toNat).map fun (k : Nat) => r ++ [(k : Int)]
def ctot (r : List Int) : Int := topOf r + 1
def numb : List (Int × Int) → List (Int × Int) → List Int
  | [], _ => []
  | m :: r, sn => if m ∈ sn then (sn.idxOf m : Int) :: numb r sn else (sn.length : Int) :: numb r (sn ++ [m])
/-- the meet -/
def mt (a b : List Int) : List Int := numb (a.zip b) []
def upto4 : List Nat := [0, 1, 2, 3, 4]
def arrAll : List (List Int) := upto4.flatMap arrs
def pairAll : List (List Int × List Int) := upto4.flatMap fun c => (arrs c).flatMap fun a => (arrs c).map fun b => (a, b)
theorem mem_upto {c : Nat} (h : c ≤ 4) : c ∈ upto4 := by
  unfold upto4
  simp
  omega
theorem mem_arrAll {c : Nat} (h : c ≤ 4) {a : List Int} (ha : a ∈ arrs c) : a ∈ arrAll := List.mem_flatMap.mpr ⟨c, mem_upto h, ha⟩
theorem mem_pairAll {c : Nat} (h : c ≤ 4) {a b : List Int} (ha : a ∈ arrs c) (hb : b ∈ arrs c) : (a, b) ∈ pairAll :=
  List.mem_flatMap.mpr ⟨c, mem_upto h, List.mem_flatMap.mpr ⟨a, ha, List.mem_map.mpr ⟨b, hb, rfl⟩⟩⟩
section
variable {X : Dt} {n : Nat} {S : List PyData}
theorem all_arr {c : Nat} (h : c ≤ 4) : run (Dlib ++ X) (n + 2) 5 [.dat (.int c)] S = .ok (.dat (.tuple ((arrs c).map ti))) S :=
  each (l := upto4) (f := fun c => run (Dlib ++ X) (n + 2) 5 [.dat (.int (c : Nat))] S) (g := fun c => FR.ok (.dat (.tuple ((arrs c).map ti))) S) (by kernel_rfl) c (mem_upto h)
/-- rows: an own list, or (when it was stored anew) a list -/
def LstV (v : Va) (xs : List PyData) : Prop := v = .own xs ∨ v = .dat (.list xs)
theorem law_arr {c : Nat} (h : c ≤ 4) : ∃ v, LstV v ((arrs c).map ti) ∧ run (Dlib ++ X) (n + 1) 22 [.dat (.int c)] S = .ok v S := by
  have key := each (l := upto4) (f := fun c => run (Dlib ++ X) (n + 1) 22 [.dat (.int (c : Nat))] S) (g := fun c => FR.ok (if c = 0 then .own ((arrs c).map ti) else .dat (.list ((arrs c).map ti))) S) (by kernel_rfl) c (mem_upto h)
  refine ⟨_, ?_, key⟩
  split
  · exact .inl rfl
  · exact .inr rfl
theorem ctot_ok {c : Nat} (h : c ≤ 4) {a : List Int} (ha : a ∈ arrs c) : run (Dlib ++ X) (n + 1) 4 [.dat (ti a)] S = .ok (.dat (.int (ctot a))) S :=
  each (l := arrAll) (f := fun a => run (Dlib ++ X) (n + 1) 4 [.dat (ti a)] S) (g := fun a => FR.ok (.dat (.int (ctot a))) S) (by kernel_rfl) a (mem_arrAll h ha)
theorem meet_all : pairAll.map (fun p => run (Dlib ++ X) (n + 2) 7 [.dat (ti p.1), .dat (ti p.2)] S) = mapR (fun p => FR.ok (.dat (ti (mt p.1 p.2))) S) pairAll := by kernel_rfl
theorem met_all : pairAll.map (fun p => run (Dlib ++ X) (n + 2) 173 [.dat (ti p.1), .dat (ti p.2)] S) = mapR (fun p => FR.ok (.dat (ti (mt p.1 p.2))) S) pairAll := by kernel_rfl
theorem meet_ok {c : Nat} (h : c ≤ 4) {a b : List Int} (ha : a ∈ arrs c) (hb : b ∈ arrs c) : run (Dlib ++ X) (n + 2) 7 [.dat (ti a), .dat (ti b)] S = .ok (.dat (ti (mt a b))) S := by
  have := each (meet_all (X := X) (n := n) (S := S)) _ (mem_pairAll h ha hb)
  exact this
theorem law_met_ok {c : Nat} (h : c ≤ 4) {a b : List Int} (ha : a ∈ arrs c) (hb : b ∈ arrs c) : run (Dlib ++ X) (n + 2) 173 [.dat (ti a), .dat (ti b)] S = .ok (.dat (ti (mt a b))) S := by
  have := each (met_all (X := X) (n := n) (S := S)) _ (mem_pairAll h ha hb)
  exact this
theorem mt_mem {c : Nat} (h : c ≤ 4) {a b : List Int} (ha : a ∈ arrs c) (hb : b ∈ arrs c) : mt a b ∈ arrs c := by
  have key : ∀ c ∈ upto4, ∀ a ∈ arrs c, ∀ b ∈ arrs c, mt a b ∈ arrs c := by decide +kernel
  exact key c (mem_upto h) a ha b hb
/-- a set's length is the number of classes -/
theorem ded_len {c : Nat} (h : c ≤ 4) {a : List Int} (ha : a ∈ arrs c) : ((dedI a).length : Int) = ctot a := by
  have key : ∀ a ∈ arrAll, ((dedI a).length : Int) = ctot a := by decide +kernel
  exact key a (mem_arrAll h ha)
theorem arr_len {c : Nat} (h : c ≤ 4) {a : List Int} (ha : a ∈ arrs c) : a.length = c := by
  have key : ∀ c ∈ upto4, ∀ a ∈ arrs c, a.length = c := by decide +kernel
  exact key c (mem_upto h) a ha
theorem arrs_len {c : Nat} (h : c ≤ 4) : (arrs c).length ≤ 15 ∧ 0 < (arrs c).length := by
  have key : ∀ c ∈ upto4, (arrs c).length ≤ 15 ∧ 0 < (arrs c).length := by decide +kernel
  exact key c (mem_upto h)
theorem arrs_nodup {c : Nat} (h : c ≤ 4) : (arrs c).Nodup := by
  have key : ∀ c ∈ upto4, (arrs c).Nodup := by decide +kernel
  exact key c (mem_upto h)
theorem ctot_le {c : Nat} (h : c ≤ 4) {a : List Int} (ha : a ∈ arrs c) : 0 ≤ ctot a ∧ ctot a ≤ 4 := by
  have key : ∀ a ∈ arrAll, 0 ≤ ctot a ∧ ctot a ≤ 4 := by decide +kernel
  exact key a (mem_arrAll h ha)
end
end Lib

namespace Lib
open PySem PySem.Spec PyProof.Rows L2 Ev
/-! # faces -/
abbrev Row := List Int × Int
abbrev faceD (ns : List Str) (rs : List Row) : PyData := .tuple [tx ns, .tuple (rs.map rowD)]
/-- a row that may stand beside an arrangement -/
def RowOk (a : List Int) (p : Row) : Prop := p.1.length ≤ 100 ∧ sizesOk p.1 p.2 = true ∧ (leastOf p ≤ 0 ∨ ctot a ≤ leastOf p)
structure GoodF (ns : List Str) (rs : List Row) : Prop where
  few : ns.length ≤ 4
  nam : ∀ x ∈ ns, NameOk x
  ris : risL strLt ns = true
  len : rs.length = (arrs ns.length).length
  row : ∀ p ∈ (arrs ns.length).zip rs, RowOk p.1 p.2
theorem mem_zip1 {α β : Type} {xs : List α} {ys : List β} {p : α × β} (h : p ∈ xs.zip ys) : p.1 ∈ xs := (List.of_mem_zip h).1
theorem mem_zip2 {α β : Type} {xs : List α} {ys : List β} {p : α × β} (h : p ∈ xs.zip ys) : p.2 ∈ ys := (List.of_mem_zip h).2
section
variable {X : Dt} {n : Nat} {S : List PyData} {ns : List Str} {rs : List Row}
theorem is_face_ok (G : GoodF ns rs) : run (Dlib ++ X) (n + 4) 61 [.dat (faceD ns rs)] S = .ok (.dat (.bool true)) S := by
  rw [r_is_face]
  unfold I.is_face
  have h1 : ∀ ds : List PyData, run (Dlib ++ X) (n + 3) 25 [.dat (.tuple ds)] S = .ok (.dat (.bool (decide (ds.length = 2)))) S := is_pair_tup
  have h2 := is_name_row_ok (X := X) (n := n + 1) (S := S) ns 4 (by omega) G.nam
  rw [decide_eq_true G.few, G.ris] at h2
  have h3 := all_arr (X := X) (n := n + 1) (S := S) G.few
  have h4 : ∀ p ∈ (arrs ns.length).zip rs, run (Dlib ++ X) (n + 3) 35 [.dat (rowD p.2)] S = .ok (.dat (.bool true)) S := fun p hp => by
    have := is_sizes_ok (X := X) (n := n) (S := S) p.2 (by have := (G.row p hp).1; omega)
    rw [(G.row p hp).2.1] at this
    exact this
  have h5 : ∀ p : Row, run (Dlib ++ X) (n + 3) 31 [.dat (rowD p)] S = .ok (.dat (.int (leastOf p))) S := fun p => least_of_ok p
  have h6 : ∀ p ∈ (arrs ns.length).zip rs, run (Dlib ++ X) (n + 3) 4 [.dat (ti p.1)] S = .ok (.dat (.int (ctot p.1))) S := fun p hp => ctot_ok G.few (mem_zip1 hp)
  generalize run (Dlib ++ X) (n + 3) = C at h1 h2 h3 h4 h5 h6
  let s0 : Stt := ⟨[some (.dat (faceD ns rs)), none, none, none], S⟩
  have t1 : (den C (.call 25 [.var 0])).t s0 = .ok true s0 := cal_t rfl (h1 _)
  have t2 : (den C (.call 50 [(.idxV 0 (.c (.int (0)))), (.c (.int (4)))])).t s0 = .ok true s0 := cal_t rfl h2
  refine if_f0 (Q := fun z => FRof z = _) (s1 := s0) (or_f (not_t t1) (or_f (not_t t2) rfl)) ?_
  have t3 : (den C (.call 5 [(.b1 .len (.idxV 0 (.c (.int (0)))))])).v s0 = .ok (.dat (.tuple ((arrs ns.length).map ti))) s0 := cal (ρ := s0.ρ) (S := S) (vs := [.dat (.int ns.length)]) (by show denL C _ ⟨_, _⟩ = _; simp only [denL, den]; simp; rfl) h3
  refine set_d (Q := fun z => FRof z = _) t3 ?_
  let s1 : Stt := ⟨[some (.dat (faceD ns rs)), some (.dat (.tuple ((arrs ns.length).map ti))), none, none], S⟩
  refine if_f0 (Q := fun z => FRof z = _) (s1 := s1) ?_ ?_
  · show (den C _).t ⟨_, _⟩ = Res.ok false ⟨_, _⟩
    have := G.len
    simp only [den]
    simp [this]
  have hz : denI C (.zip (.var 1) (.idxV 0 (.c (.int (1))))) s1 = .ok (((arrs ns.length).zip rs).map fun p => .tuple [ti p.1, rowD p.2]) s1 := by
    rw [← zip_map]
    exact zip_s rfl rfl
  refine fr_find (Q := fun z => FRof z = FR.ok (.dat (.bool true)) S) (α := List Int × Row) (fun t => match t with
    | none => s1
    | some p => ⟨[some (.dat (faceD ns rs)), some (.dat (.tuple ((arrs ns.length).map ti))), some (.dat (ti p.1)), some (.dat (rowD p.2))], S⟩) hz (fun _ => false) (fun _ => .bool false) (fun t p hp => ?_) (fun p hp => ?_) (fun t => ?_)
  · cases t <;> rfl
  · rw [if_neg Bool.false_ne_true]
    let s2 : Stt := ⟨[some (.dat (faceD ns rs)), some (.dat (.tuple ((arrs ns.length).map ti))), some (.dat (ti p.1)), some (.dat (rowD p.2))], S⟩
    have t4 : (den C (.call 35 [.var 3])).t s2 = .ok true s2 := cal_t rfl (h4 p hp)
    have t5 : (den C (.chain .Lt .Lt (.c (.int (0))) (.call 31 [(.var 3)]) (.call 4 [(.var 2)]))).t s2 = .ok false s2 := by
      have a1 : (den C (.call 31 [.var 3])).v s2 = .ok (.dat (.int (leastOf p.2))) s2 := cal rfl (h5 p.2)
      have a2 : (den C (.call 4 [.var 2])).v s2 = .ok (.dat (.int (ctot p.1))) s2 := cal rfl (h6 p hp)
      show dChainB .Lt .Lt (dC (.int 0)) (den C (.call 31 [.var 3])).v (den C (.call 4 [.var 2])).v s2 = _
      unfold dChainB
      rw [frz_of (f := dC (.int 0)) (s := s2) (s1 := s2) rfl]
      show (dFrz (den C (.call 31 [.var 3])).v s2).bind _ = _
      rw [frz_of a1]
      show (if decide (0 < leastOf p.2) = true then ((den C (.call 4 [.var 2])).v s2).bind _ else _) = _
      rw [a2]
      rcases (G.row p hp).2.2 with h | h
      · rw [decide_eq_false (by omega)]; rfl
      · by_cases h0 : 0 < leastOf p.2
        · rw [decide_eq_true h0]
          show Res.ok (decide (leastOf p.2 < ctot p.1)) s2 = _
          rw [decide_eq_false (by omega)]
        · rw [decide_eq_false h0]; rfl
    exact if_f0 (Q := fun z => z = _) (or_f (not_t t4) t5) rfl
  · have : (((arrs ns.length).zip rs).find? fun _ => false) = none := by simp
    rw [this]
    cases t <;> rfl
theorem check_face_ok (G : GoodF ns rs) : run (Dlib ++ X) (n + 5) 62 [.dat (faceD ns rs)] S = .ok (.dat .none) S := by
  rw [r_check_face]
  unfold I.check_face
  have h1 := is_face_ok (X := X) (n := n) (S := S) G
  generalize run (Dlib ++ X) (n + 4) = C at h1
  exact if_f0 (Q := fun z => FRof z = _) (not_t (cal_t rfl h1)) rfl
/-- what is no face is refused -/
theorem check_face_no {d : PyData} (h : run (Dlib ++ X) (n + 4) 61 [.dat d] S = .ok (.dat (.bool false)) S) : run (Dlib ++ X) (n + 5) 62 [.dat d] S = .exc ⟨Str.ofString "BadValue", [("what", .str (Str.ofString "face"))]⟩ S := by
  rw [r_check_face]
  unfold I.check_face
  generalize run (Dlib ++ X) (n + 4) = C at h
  rw [denB_cons, ifs_t (not_t (cal_t rfl h))]
  rfl
/-! what a face lets -/
def letBy (ns : List Str) (rs : List Row) : List (List Int) := (((arrs ns.length).zip rs).filter fun p => !decide (p.2 = ([], 0))).map (·.1)
theorem letBy_mem {a : List Int} (h : a ∈ letBy ns rs) : a ∈ arrs ns.length := by
  obtain ⟨p, hp, rfl⟩ := List.mem_map.mp h
  exact mem_zip1 (List.mem_filter.mp hp).1
theorem let_by_ok (h : ns.length ≤ 4) : run (Dlib ++ X) (n + 3) 166 [.dat (faceD ns rs)] S = .ok (.own ((letBy ns rs).map ti)) S := by
  rw [r_let_by]
  unfold I.let_by
  have h3 := all_arr (X := X) (n := n) (S := S) h
  generalize run (Dlib ++ X) (n + 2) = C at h3
  let s0 : Stt := ⟨[some (.dat (faceD ns rs)), none, none, none, none], S⟩
  have t3 : (den C (.call 5 [(.b1 .len (.idxV 0 (.c (.int (0)))))])).v s0 = .ok (.dat (.tuple ((arrs ns.length).map ti))) s0 := cal (ρ := s0.ρ) (S := S) (vs := [.dat (.int ns.length)]) (by show denL C _ ⟨_, _⟩ = _; simp only [denL, den]; simp; rfl) h3
  refine set_d (Q := fun z => FRof z = _) t3 ?_
  let s1 : Stt := ⟨[some (.dat (faceD ns rs)), some (.dat (.tuple ((arrs ns.length).map ti))), none, none, none], S⟩
  have hz : denI C (.zip (.var 1) (.idxV 0 (.c (.int (1))))) s1 = .ok (((arrs ns.length).zip rs).map fun p => .tuple [ti p.1, rowD p.2]) s1 := by
    rw [← zip_map]
    exact zip_s rfl rfl
  have hl : ((arrs ns.length).zip rs).length ≤ 16777216 := by
    have := arrs_len h
    rw [List.length_zip]
    omega
  have := lc_map (C := C) (tg := .t [.n 3, .n 4]) (ft := some (.cmp .NotEq (.var 4) (.tup [(.tup []), (.c (.int (0)))]))) (vs := [2, 3, 4]) (elt := .var 3) (k := fun p => !decide (p.2 = ([], 0))) (f := fun p => ti p.1) hz rfl hl (fun p hp => by
    refine ⟨[some (.dat (faceD ns rs)), some (.dat (.tuple ((arrs ns.length).map ti))), none, some (.dat (ti p.1)), some (.dat (rowD p.2))], rfl, ⟨rfl, fun j hj => ?_⟩, ?_, fun _ => rfl⟩
    · match j, hj with
      | 0, _ => rfl
      | 1, _ => rfl
      | 2, hj => simp at hj
      | 3, hj => simp at hj
      | 4, hj => simp at hj
      | j + 5, _ => rfl
    · exact cmp_t (e := rowD ([], 0)) rfl rfl rfl (c_neR _ _))
  refine ret_e (Q := fun z => FRof z = _) this ?_
  unfold letBy
  rw [List.map_map]
  rfl
theorem idx_range {α β : Type} (l : List α) (g : Nat → β) : (List.range l.length).map g = l.zipIdx.map fun p => g p.2 := by
  have h : l.zipIdx.map (·.2) = List.range l.length := by simp [List.zipIdx_map_snd, List.range_eq_range']
  rw [← h, List.map_map]
  rfl
theorem idx_filter {α β : Type} (l : List α) (q : α → Bool) (f : α → β) : (l.zipIdx.filter fun p => q p.1).map (fun p => f p.1) = (l.filter q).map f := by
  have h : l.zipIdx.map (·.1) = l := by simp [List.zipIdx_map_fst]
  have h2 : (l.zipIdx.map (·.1)).filter q = (l.zipIdx.filter fun p => q p.1).map (·.1) := by
    rw [List.filter_map]
    rfl
  rw [h] at h2
  rw [h2, List.map_map]
  rfl
theorem idx_at {α : Type} {l : List α} {p : α × Nat} (h : p ∈ l.zipIdx) : l[p.2]? = some p.1 := List.mem_zipIdx_iff_getElem?.mp h
theorem zip_at {α β : Type} {xs : List α} {ys : List β} {k : Nat} {p : α × β} (h : (xs.zip ys)[k]? = some p) : xs[k]? = some p.1 ∧ ys[k]? = some p.2 := by
  rw [List.getElem?_zip_eq_some] at h
  exact h
theorem atI_get {α : Type} {xs : List α} {k : Nat} {x : α} (h : xs[k]? = some x) : atI xs (0 + (k : Int)) = some x := by
  rw [Int.zero_add]
  exact atI_nat h
theorem law_let_by_ok (h : ns.length ≤ 4) (hl : rs.length = (arrs ns.length).length) : run (Dlib ++ X) (n + 2) 174 [.dat (faceD ns rs)] S = .ok (.own ((letBy ns rs).map ti)) S := by
  rw [r_law_let_by]
  unfold I.law_let_by
  obtain ⟨v, hv, h3⟩ := law_arr (X := X) (n := n) (S := S) h
  generalize run (Dlib ++ X) (n + 1) = C at h3
  let s0 : Stt := ⟨[some (.dat (faceD ns rs)), none, none, none], S⟩
  have t3 : (den C (.call 22 [(.b1 .len (.idxV 0 (.c (.int (0)))))])).v s0 = .ok v s0 := cal (ρ := s0.ρ) (S := S) (vs := [.dat (.int ns.length)]) (by show denL C _ ⟨_, _⟩ = _; simp only [denL, den]; simp; rfl) h3
  refine set_e (Q := fun z => FRof z = _) t3 (by rcases hv with rfl | rfl <;> exact fun _ z => nomatch z) ?_
  let s1 : Stt := ⟨[some (.dat (faceD ns rs)), some v, none, none], S⟩
  have hlen : (arrs ns.length).length = ((arrs ns.length).zip rs).length := by rw [List.length_zip]; omega
  have hz : denI C (.rng1 (.b1 .len (.peek 1))) s1 = .ok (((arrs ns.length).zip rs).zipIdx.map fun p => .int (0 + (p.2 : Nat))) s1 := by
    rw [← idx_range ((arrs ns.length).zip rs) fun k => PyData.int (0 + (k : Nat)), ← hlen]
    have : denI C (.rng1 (.b1 .len (.peek 1))) s1 = .ok (rangeL 0 ((arrs ns.length).length : Int).toNat) s1 := by
      refine rng1_s (frz_of ?_) (inR_nat (by have := arrs_len h; omega))
      show (den C _).v ⟨_, _⟩ = Res.ok _ ⟨_, _⟩
      rcases hv with rfl | rfl <;> (simp only [den]; simp)
    rw [this, Int.toNat_natCast]
    rfl
  have hl16 : ((arrs ns.length).zip rs).zipIdx.length ≤ 16777216 := by
    have := arrs_len h
    rw [List.length_zipIdx, List.length_zip]
    omega
  have := lc_map (C := C) (tg := .n 3) (ft := some (.cmp .NotEq (.idx (.idxV 0 (.c (.int (1)))) (.var 3)) (.tup [(.tup []), (.c (.int (0)))]))) (vs := [2, 3]) (elt := .idxV 1 (.var 3)) (k := fun p => !decide (p.1.2 = ([], 0))) (f := fun p => ti p.1.1) hz (by rcases hv with rfl | rfl <;> rfl) hl16 (fun p hp => by
    have e1 := zip_at (idx_at hp)
    have e2 := atI_get e1.1
    have e3 := atI_get e1.2
    refine ⟨[some (.dat (faceD ns rs)), some v, none, some (.dat (.int (0 + (p.2 : Nat))))], rfl, ⟨rfl, fun j hj => ?_⟩, ?_, fun _ => ?_⟩
    · match j, hj with
      | 0, _ => rfl
      | 1, _ => rfl
      | 2, hj => simp at hj
      | 3, hj => simp at hj
      | j + 4, _ => rfl
    · refine cmp_t (d := rowD p.1.2) (e := rowD ([], 0)) (v := .dat (rowD ([], 0))) (s1 := ⟨[some (.dat (faceD ns rs)), some v, none, some (.dat (.int (0 + (p.2 : Nat))))], S⟩) ?_ rfl rfl (c_neR _ _)
      refine frz_of ?_
      simp only [den]
      simp [atI_map, Int.zero_add] at e3 ⊢
      simp [e3]
    · refine frz_of ?_
      simp only [den]
      simp [atI_map, Int.zero_add] at e2 ⊢
      rcases hv with rfl | rfl <;> simp [e2, atI_map])
  refine ret_e (Q := fun z => FRof z = _) this ?_
  unfold letBy
  rw [idx_filter ((arrs ns.length).zip rs) (fun p => !decide (p.2 = ([], 0))) (fun p => ti p.1), List.map_map]
  rfl
/-! the first meet that is not let -/
def openR (lets : List (List Int)) (a : List Int) : Option (List Int) := (lets.find? fun b => !decide (mt a b ∈ lets)).map (mt a)
def openM (lets : List (List Int)) : Option (List Int) := lets.findSome? (openR lets)
def optD : Option (List Int) → PyData
  | some a => ti a
  | none => .none
theorem openM_mem (h : ns.length ≤ 4) {a : List Int} (e : openM (letBy ns rs) = some a) : a ∈ arrs ns.length := by
  unfold openM at e
  obtain ⟨x, hx, e⟩ := List.exists_of_findSome?_eq_some e
  obtain ⟨y, hy, rfl⟩ := Option.map_eq_some_iff.mp e
  exact mt_mem h (letBy_mem hx) (letBy_mem (List.mem_of_find?_eq_some hy))
theorem open_meet_ok (h : ns.length ≤ 4) : run (Dlib ++ X) (n + 4) 178 [.dat (faceD ns rs)] S = .ok (.dat (optD (openM (letBy ns rs)))) S := by
  rw [r_open_meet]
  unfold I.open_meet
  have h1 := let_by_ok (X := X) (n := n) (S := S) (rs := rs) h
  have h2 : ∀ a ∈ letBy ns rs, ∀ b ∈ letBy ns rs, run (Dlib ++ X) (n + 3) 7 [.dat (ti a), .dat (ti b)] S = .ok (.dat (ti (mt a b))) S := fun a ha b hb => meet_ok h (letBy_mem ha) (letBy_mem hb)
  generalize run (Dlib ++ X) (n + 3) = C at h1 h2
  generalize letBy ns rs = L at h1 h2
  refine set_o (Q := fun z => FRof z = _) (ρ := [some (.dat (faceD ns rs)), none, none, none, none]) (S := S) (cal rfl h1) ?_
  let R : Va := .dat (.list (L.map ti))
  have hi : denI C (.of (.var 1)) ⟨[some (.dat (faceD ns rs)), some (.own (L.map ti)), none, none, none], S⟩ = .ok (L.map ti) ⟨[some (.dat (faceD ns rs)), some R, none, none, none], S⟩ := of_l (frz_of rfl)
  refine fr_wp (Q := fun z => FRof z = FR.ok (.dat (optD (openM L))) S) hi (fun l s => (∃ u v w, s = ⟨[some (.dat (faceD ns rs)), some R, u, v, w], S⟩) ∧ openM L = l.findSome? (openR L) ∧ ∀ x ∈ l, x ∈ L) ⟨⟨_, _, _, rfl⟩, rfl, fun _ h => h⟩ ?_ ?_
  · rintro a l s ⟨⟨u, v, w, rfl⟩, e, hl⟩
    have ha := hl a (List.mem_cons_self ..)
    refine ⟨⟨[some (.dat (faceD ns rs)), some R, some (.dat (ti a)), v, w], S⟩, rfl, ?_⟩
    have hj : denI C (.of (.var 1)) ⟨[some (.dat (faceD ns rs)), some R, some (.dat (ti a)), v, w], S⟩ = .ok (L.map ti) ⟨[some (.dat (faceD ns rs)), some R, some (.dat (ti a)), v, w], S⟩ := of_l (frz_of rfl)
    refine fr_find2 (S0 := S) (Q := fun z => W1 z _ _) (fun t => match t with
      | none => ⟨[some (.dat (faceD ns rs)), some R, some (.dat (ti a)), v, w], S⟩
      | some b => ⟨[some (.dat (faceD ns rs)), some R, some (.dat (ti a)), some (.dat (ti b)), some (.dat (ti (mt a b)))], S⟩) hj (fun b => !decide (mt a b ∈ L)) (fun b => ti (mt a b)) (fun t b hb => ?_) (fun t => ?_)
    · have h3 := h2 a ha b hb
      have step : ∀ w0, denB C [.set 4 (.call 7 [(.var 2), (.var 3)]), .ifs (.cmp .NotIn (.var 4) (.peek 1)) [.ret (.mv 4)] []] ⟨[some (.dat (faceD ns rs)), some R, some (.dat (ti a)), some (.dat (ti b)), w0], S⟩ =
          if (!decide (mt a b ∈ L)) = true then .rt (.dat (ti (mt a b))) ⟨[some (.dat (faceD ns rs)), some R, some (.dat (ti a)), some (.dat (ti b)), some (.dat (ti (mt a b)))], S⟩ else .nx ⟨[some (.dat (faceD ns rs)), some R, some (.dat (ti a)), some (.dat (ti b)), some (.dat (ti (mt a b)))], S⟩ := fun w0 => by
        refine set_d (Q := fun z => z = _) (cal rfl h3) ?_
        have e1 : (den C (.cmp .NotIn (.var 4) (.peek 1))).t ⟨[some (.dat (faceD ns rs)), some R, some (.dat (ti a)), some (.dat (ti b)), some (.dat (ti (mt a b)))], S⟩ = .ok (!decide (mt a b ∈ L)) ⟨[some (.dat (faceD ns rs)), some R, some (.dat (ti a)), some (.dat (ti b)), some (.dat (ti (mt a b)))], S⟩ := cmp_t rfl rfl rfl (c_niT _ _)
        cases hk : !decide (mt a b ∈ L) with
        | true => rw [hk] at e1; exact if_rt (Q := fun z => z = _) e1 rfl rfl
        | false => rw [hk] at e1; exact if_f0 (Q := fun z => z = _) e1 rfl
      cases t with
      | none => exact ⟨_, _, rfl, rfl, step w⟩
      | some c => exact ⟨_, _, rfl, rfl, step _⟩
    · have e2 : openR L a = (L.find? fun b => !decide (mt a b ∈ L)).map (mt a) := rfl
      cases hf : L.find? fun b => !decide (mt a b ∈ L) with
      | none =>
        rw [hf] at e2
        have : openM L = l.findSome? (openR L) := by rw [e, List.findSome?_cons, e2]; rfl
        have fin : ∀ v w, W1 (.nx ⟨[some (.dat (faceD ns rs)), some R, some (.dat (ti a)), v, w], S⟩) (fun s => (∃ u v w, s = ⟨[some (.dat (faceD ns rs)), some R, u, v, w], S⟩) ∧ openM L = l.findSome? (openR L) ∧ ∀ x ∈ l, x ∈ L) (fun z => FRof (z.seq (denB C [.ret (.c .none)])) = FR.ok (.dat (optD (openM L))) S) := fun v w => ⟨⟨_, _, _, rfl⟩, this, fun x hx => hl x (List.mem_cons_of_mem _ hx)⟩
        cases t with
        | none => exact fin v w
        | some b => exact fin _ _
      | some b =>
        rw [hf] at e2
        have : openM L = some (mt a b) := by rw [e, List.findSome?_cons, e2]; rfl
        intro s hs
        show FR.ok (.dat (ti (mt a b))) s.S = _
        rw [hs, this]
        rfl
  · rintro s ⟨⟨u, v, w, rfl⟩, e, _⟩
    rw [e]
    rfl
theorem law_open_meet_ok (h : ns.length ≤ 4) (hl : rs.length = (arrs ns.length).length) : run (Dlib ++ X) (n + 3) 176 [.dat (faceD ns rs)] S = .ok (.dat (optD (openM (letBy ns rs)))) S := by
  rw [r_law_open_meet]
  unfold I.law_open_meet
  have h1 := law_let_by_ok (X := X) (n := n) (S := S) (rs := rs) h hl
  have h2 : ∀ a ∈ letBy ns rs, ∀ b ∈ letBy ns rs, run (Dlib ++ X) (n + 2) 173 [.dat (ti a), .dat (ti b)] S = .ok (.dat (ti (mt a b))) S := fun a ha b hb => law_met_ok h (letBy_mem ha) (letBy_mem hb)
  generalize run (Dlib ++ X) (n + 2) = C at h1 h2
  generalize letBy ns rs = L at h1 h2
  refine set_o (Q := fun z => FRof z = _) (ρ := [some (.dat (faceD ns rs)), none, none, none]) (S := S) (cal rfl h1) ?_
  let R : Va := .dat (.list (L.map ti))
  have hi : denI C (.of (.var 1)) ⟨[some (.dat (faceD ns rs)), some (.own (L.map ti)), none, none], S⟩ = .ok (L.map ti) ⟨[some (.dat (faceD ns rs)), some R, none, none], S⟩ := of_l (frz_of rfl)
  refine fr_wp (Q := fun z => FRof z = FR.ok (.dat (optD (openM L))) S) hi (fun l s => (∃ u v, s = ⟨[some (.dat (faceD ns rs)), some R, u, v], S⟩) ∧ openM L = l.findSome? (openR L) ∧ ∀ x ∈ l, x ∈ L) ⟨⟨_, _, rfl⟩, rfl, fun _ h => h⟩ ?_ ?_
  · rintro a l s ⟨⟨u, v, rfl⟩, e, hl⟩
    have ha := hl a (List.mem_cons_self ..)
    refine ⟨⟨[some (.dat (faceD ns rs)), some R, some (.dat (ti a)), v], S⟩, rfl, ?_⟩
    have hj : denI C (.of (.var 1)) ⟨[some (.dat (faceD ns rs)), some R, some (.dat (ti a)), v], S⟩ = .ok (L.map ti) ⟨[some (.dat (faceD ns rs)), some R, some (.dat (ti a)), v], S⟩ := of_l (frz_of rfl)
    refine fr_find2 (S0 := S) (Q := fun z => W1 z _ _) (fun t => match t with
      | none => ⟨[some (.dat (faceD ns rs)), some R, some (.dat (ti a)), v], S⟩
      | some b => ⟨[some (.dat (faceD ns rs)), some R, some (.dat (ti a)), some (.dat (ti b))], S⟩) hj (fun b => !decide (mt a b ∈ L)) (fun b => ti (mt a b)) (fun t b hb => ?_) (fun t => ?_)
    · have h3 := h2 a ha b hb
      have step : denB C [.ifs (.cmp .NotIn (.call 173 [(.var 2), (.var 3)]) (.peek 1)) [.ret (.call 173 [(.var 2), (.var 3)])] []] ⟨[some (.dat (faceD ns rs)), some R, some (.dat (ti a)), some (.dat (ti b))], S⟩ =
          if (!decide (mt a b ∈ L)) = true then .rt (.dat (ti (mt a b))) ⟨[some (.dat (faceD ns rs)), some R, some (.dat (ti a)), some (.dat (ti b))], S⟩ else .nx ⟨[some (.dat (faceD ns rs)), some R, some (.dat (ti a)), some (.dat (ti b))], S⟩ := by
        have e0 : (den C (.call 173 [(.var 2), (.var 3)])).v ⟨[some (.dat (faceD ns rs)), some R, some (.dat (ti a)), some (.dat (ti b))], S⟩ = .ok (.dat (ti (mt a b))) ⟨[some (.dat (faceD ns rs)), some R, some (.dat (ti a)), some (.dat (ti b))], S⟩ := cal rfl h3
        have e1 : (den C (.cmp .NotIn (.call 173 [(.var 2), (.var 3)]) (.peek 1))).t ⟨[some (.dat (faceD ns rs)), some R, some (.dat (ti a)), some (.dat (ti b))], S⟩ = .ok (!decide (mt a b ∈ L)) ⟨[some (.dat (faceD ns rs)), some R, some (.dat (ti a)), some (.dat (ti b))], S⟩ := cmp_t (frz_of e0) rfl rfl (c_niT _ _)
        cases hk : !decide (mt a b ∈ L) with
        | true => rw [hk] at e1; exact if_rt (Q := fun z => z = _) e1 (ret_e (Q := fun z => z = _) e0 rfl) rfl
        | false => rw [hk] at e1; exact if_f0 (Q := fun z => z = _) e1 rfl
      cases t with
      | none => exact ⟨_, _, rfl, rfl, step⟩
      | some c => exact ⟨_, _, rfl, rfl, step⟩
    · have e2 : openR L a = (L.find? fun b => !decide (mt a b ∈ L)).map (mt a) := rfl
      cases hf : L.find? fun b => !decide (mt a b ∈ L) with
      | none =>
        rw [hf] at e2
        have : openM L = l.findSome? (openR L) := by rw [e, List.findSome?_cons, e2]; rfl
        have fin : ∀ v, W1 (.nx ⟨[some (.dat (faceD ns rs)), some R, some (.dat (ti a)), v], S⟩) (fun s => (∃ u v, s = ⟨[some (.dat (faceD ns rs)), some R, u, v], S⟩) ∧ openM L = l.findSome? (openR L) ∧ ∀ x ∈ l, x ∈ L) (fun z => FRof (z.seq (denB C [.ret (.c .none)])) = FR.ok (.dat (optD (openM L))) S) := fun v => ⟨⟨_, _, rfl⟩, this, fun x hx => hl x (List.mem_cons_of_mem _ hx)⟩
        cases t with
        | none => exact fin v
        | some b => exact fin _
      | some b =>
        rw [hf] at e2
        have : openM L = some (mt a b) := by rw [e, List.findSome?_cons, e2]; rfl
        intro s hs
        show FR.ok (.dat (ti (mt a b))) s.S = _
        rw [hs, this]
        rfl
  · rintro s ⟨⟨u, v, rfl⟩, e, _⟩
    rw [e]
    rfl
/-! the first row without a ray -/
def boundR (p : List Int × Row) : Bool := decide (greatestOf p.2 ≠ 0)
def boundM (ns : List Str) (rs : List Row) : Option (List Int × Row) := ((arrs ns.length).zip rs).find? boundR
def boundD : Option (List Int × Row) → PyData
  | some p => .tuple [ti p.1, .int (greatestOf p.2)]
  | none => .none
theorem bounded_row_ok (h : ns.length ≤ 4) : run (Dlib ++ X) (n + 3) 179 [.dat (faceD ns rs)] S = .ok (.dat (boundD (boundM ns rs))) S := by
  rw [r_bounded_row]
  unfold I.bounded_row
  have h3 := all_arr (X := X) (n := n) (S := S) h
  have h5 : ∀ p : Row, run (Dlib ++ X) (n + 2) 32 [.dat (rowD p)] S = .ok (.dat (.int (greatestOf p))) S := fun p => greatest_of_ok p
  generalize run (Dlib ++ X) (n + 2) = C at h3 h5
  let s0 : Stt := ⟨[some (.dat (faceD ns rs)), none, none], S⟩
  have t3 : (den C (.call 5 [(.b1 .len (.idxV 0 (.c (.int (0)))))])).v s0 = .ok (.dat (.tuple ((arrs ns.length).map ti))) s0 := cal (ρ := s0.ρ) (S := S) (vs := [.dat (.int ns.length)]) (by show denL C _ ⟨_, _⟩ = _; simp only [denL, den]; simp; rfl) h3
  have hz : denI C (.zip (.call 5 [(.b1 .len (.idxV 0 (.c (.int (0)))))]) (.idxV 0 (.c (.int (1))))) s0 = .ok (((arrs ns.length).zip rs).map fun p => .tuple [ti p.1, rowD p.2]) s0 := by
    rw [← zip_map]
    exact zip_s (frz_of t3) rfl
  refine fr_find (Q := fun z => FRof z = FR.ok (.dat (boundD (boundM ns rs))) S) (fun t => match t with
      | none => s0
      | some p => ⟨[some (.dat (faceD ns rs)), some (.dat (ti p.1)), some (.dat (rowD p.2))], S⟩) hz boundR (fun p => .tuple [ti p.1, .int (greatestOf p.2)]) (fun t p _ => by cases t <;> rfl) (fun p hp => ?_) (fun t => ?_)
  · let s2 : Stt := ⟨[some (.dat (faceD ns rs)), some (.dat (ti p.1)), some (.dat (rowD p.2))], S⟩
    have a1 : (den C (.call 32 [.var 2])).v s2 = .ok (.dat (.int (greatestOf p.2))) s2 := cal rfl (h5 p.2)
    have a2 : (den C (.call 32 [.var 2])).t s2 = .ok (boundR p) s2 := tru_of a1 rfl (by
      unfold boundR
      show some (greatestOf p.2 != 0) = _
      by_cases h : greatestOf p.2 = 0 <;> simp [h])
    cases hb : boundR p with
    | true =>
      rw [hb] at a2
      refine if_rt (Q := fun z => z = _) (s1 := s2) (s2 := s2) (v := .dat (.tuple [ti p.1, .int (greatestOf p.2)])) a2 ?_ rfl
      refine ret_e (Q := fun z => z = _) (s1 := s2) (v := .dat (.tuple [ti p.1, .int (greatestOf p.2)])) ?_ rfl
      exact tup_e (ds := [ti p.1, .int (greatestOf p.2)]) (dl_d (s1 := s2) rfl (dl_d a1 rfl)) (show 2 ≤ 16777216 by decide)
    | false => rw [hb] at a2; exact if_f0 (Q := fun z => z = _) (s1 := s2) a2 rfl
  · unfold boundM
    cases hf : ((arrs ns.length).zip rs).find? boundR with
    | none => cases t <;> rfl
    | some p => rfl
theorem last_pos {few : List Int} {ray : Int} (h : sizesOk few ray = true) (hf : few ≠ []) : 1 ≤ few.getLastD 0 := by
  unfold sizesOk at h
  simp only [Bool.and_eq_true] at h
  have h2 := h.1.1.2
  have e6 : few.getLastD 0 = few.getLast hf := by rw [List.getLastD_eq_getLast?, List.getLast?_eq_getLast hf]; rfl
  rw [e6]
  have h3 := List.all_eq_true.mp h2 (few.getLast hf) (List.getLast_mem hf)
  simp at h3
  exact h3.1
theorem boundR_eq {p : List Int × Row} (h : RowOk p.1 p.2) : boundR p = (!p.2.1.isEmpty && decide (p.2.2 = 0)) := by
  obtain ⟨a, few, ray⟩ := p
  unfold boundR greatestOf
  cases few with
  | nil => simp
  | cons x r =>
    by_cases h0 : ray = 0
    · have h9 := last_pos h.2.1 (by simp)
      subst h0
      rw [if_neg (by simp)]
      have h9 : 1 ≤ (x :: r).getLastD 0 := h9
      have : ((x :: r).getLastD 0) ≠ 0 := by omega
      rw [decide_eq_true this]
      rfl
    · simp [h0]
theorem law_bounded_ok (G : GoodF ns rs) : run (Dlib ++ X) (n + 2) 183 [.dat (faceD ns rs)] S = .ok (.dat (boundD (boundM ns rs))) S := by
  have h := G.few
  have hl := G.len
  rw [r_law_bounded]
  unfold I.law_bounded
  obtain ⟨v, hv, h3⟩ := law_arr (X := X) (n := n) (S := S) h
  generalize run (Dlib ++ X) (n + 1) = C at h3
  let s0 : Stt := ⟨[some (.dat (faceD ns rs)), none, none], S⟩
  have t3 : (den C (.call 22 [(.b1 .len (.idxV 0 (.c (.int (0)))))])).v s0 = .ok v s0 := cal (ρ := s0.ρ) (S := S) (vs := [.dat (.int ns.length)]) (by show denL C _ ⟨_, _⟩ = _; simp only [denL, den]; simp; rfl) h3
  refine set_e (Q := fun z => FRof z = _) t3 (by rcases hv with rfl | rfl <;> exact fun _ z => nomatch z) ?_
  let s1 : Stt := ⟨[some (.dat (faceD ns rs)), some v, none], S⟩
  have hlen : (arrs ns.length).length = ((arrs ns.length).zip rs).length := by rw [List.length_zip]; omega
  have hz : denI C (.rng1 (.b1 .len (.peek 1))) s1 = .ok (((arrs ns.length).zip rs).zipIdx.map fun p => .int (0 + (p.2 : Nat))) s1 := by
    rw [← idx_range ((arrs ns.length).zip rs) fun k => PyData.int (0 + (k : Nat)), ← hlen]
    have : denI C (.rng1 (.b1 .len (.peek 1))) s1 = .ok (rangeL 0 ((arrs ns.length).length : Int).toNat) s1 := by
      refine rng1_s (frz_of ?_) (inR_nat (by have := arrs_len h; omega))
      show (den C _).v ⟨_, _⟩ = Res.ok _ ⟨_, _⟩
      rcases hv with rfl | rfl <;> (simp only [den]; simp)
    rw [this, Int.toNat_natCast]
    rfl
  show FRof (denB C _ s1) = _
  refine fr_find (Q := fun z => FRof z = FR.ok (.dat (boundD (boundM ns rs))) S) (α := (List Int × Row) × Nat) (fun t => match t with
      | none => s1
      | some p => ⟨[some (.dat (faceD ns rs)), some v, some (.dat (.int (0 + (p.2 : Nat))))], S⟩) hz (fun p => boundR p.1) (fun p => .tuple [ti p.1.1, .int (greatestOf p.1.2)]) (fun t p _ => by cases t <;> rfl) (fun p hp => ?_) (fun t => ?_)
  · have e1 := zip_at (idx_at hp)
    have e2 := atI_get e1.1
    have e3 := atI_get e1.2
    have hR := G.row p.1 (List.mem_of_getElem? (idx_at hp))
    rw [boundR_eq hR]
    obtain ⟨⟨a, few, ray⟩, k⟩ := p
    dsimp only at e1 e2 e3 hR ⊢
    rw [Int.zero_add] at e2 e3 ⊢
    have e4 : atI (rs.map rowD) (k : Int) = some (rowD (few, ray)) := by rw [atI_map, e3]; rfl
    have e5 : atI ((arrs ns.length).map ti) (k : Int) = some (ti a) := by rw [atI_map, e2]; rfl
    simp only [denB, denS, den, denL]
    by_cases hf : few = []
    · subst hf
      simp [e4, truD]
    · have e7 : few.isEmpty = false := by cases few with | nil => exact absurd rfl hf | cons _ _ => rfl
      by_cases h0 : ray = 0
      · subst h0
        have hpos : 0 < few.length := List.length_pos_iff.mpr hf
        have e8 : atI few ((few.length : Int) - 1) = some (few.getLast hf) := by
          rw [show (few.length : Int) - 1 = ((few.length - 1 : Nat) : Int) by omega, atI_at (by omega), List.getLast_eq_getElem]
        have e9 : greatestOf (few, 0) = few.getLast hf := by
          unfold greatestOf
          simp [hf]
          rw [List.getLast?_eq_getLast hf]
          rfl
        rw [e9]
        rcases hv with rfl | rfl <;> simp [e4, e5, truD, e7, atI_map, e8, datsOf]
      · simp [e4, truD, e7, h0]
  · have e : boundM ns rs = (((arrs ns.length).zip rs).zipIdx.find? fun p => boundR p.1).map (·.1) := by
      unfold boundM
      have h : ((arrs ns.length).zip rs).zipIdx.map (·.1) = (arrs ns.length).zip rs := by simp [List.zipIdx_map_fst]
      conv => lhs; rw [← h]
      rw [List.find?_map]
      rfl
    rw [e]
    cases hf : ((arrs ns.length).zip rs).zipIdx.find? fun p => boundR p.1 with
    | none => cases t <;> rfl
    | some p => rfl
end
end Lib

namespace Lib
open PySem PySem.Spec PyProof.Rows L2 Ev
/-! # what the laws draw -/
section
variable {X : Dt} {n : Nat} {S : List PyData}
theorem draw (h : PotOk S) {m : Int} (h1 : 0 < m) (h2 : m < 1073741824) : ∃ k S', 0 ≤ k ∧ k < m ∧ PotOk S' ∧ run (Dlib ++ X) (n + 1) 20 [.pot, .dat (.int m)] S = .ok (.dat (.int k)) S' :=
  drawOk (run (Dlib ++ X) n) S m h h1 h2
/-- .. of few -/
theorem drawN (h : PotOk S) (m : Nat) (h1 : 0 < m) (h2 : m < 1000000) : ∃ (k : Nat) (S' : List PyData), k < m ∧ PotOk S' ∧ run (Dlib ++ X) (n + 1) 20 [.pot, .dat (.int m)] S = .ok (.dat (.int k)) S' := by
  obtain ⟨k, S', k0, k1, hp, e⟩ := draw (X := X) (n := n) h (m := m) (by omega) (by omega)
  obtain ⟨j, rfl⟩ : ∃ j : Nat, k = (j : Int) := ⟨k.toNat, by omega⟩
  exact ⟨j, S', by omega, hp, e⟩
theorem pick (h : PotOk S) {xs : List PyData} (h1 : 0 < xs.length) (h2 : xs.length < 1073741824) : ∃ d S', d ∈ xs ∧ PotOk S' ∧ run (Dlib ++ X) (n + 2) 21 [.pot, .dat (.list xs)] S = .ok (.dat d) S' :=
  pickOk (run (Dlib ++ X) (n + 1)) 20 (drawOk (run (Dlib ++ X) n)) S xs h h1 h2
/-! names -/
def pool12 : List Str := ["x", "ab", "k7", "zed", "m", "b", "long1234", "a0", "w", "y9", "c", "pq"].map Str.ofString
theorem pool_name : ∀ x ∈ pool12, NameOk x := fun x hx X n S => each (l := pool12) (f := fun x => run (Dlib ++ X) (n + 1) 49 [.dat (.str x)] S) (g := fun _ => FR.ok (.dat (.bool true)) S) (by kernel_rfl) x hx
theorem pool_nodup : pool12.Nodup := by decide +kernel
theorem pool_lt : ∀ a ∈ pool12, ∀ b ∈ pool12, leS a b = true → a = b ∨ strLt a b = true := by decide +kernel
theorem ris_of : ∀ ns : List Str, (∀ x ∈ ns, x ∈ pool12) → ns.Nodup → ns.Pairwise (fun a b => leS a b = true) → risL strLt ns = true
  | [], _, _, _ => rfl
  | [_], _, _, _ => rfl
  | a :: b :: r, hm, hn, hp => by
    have ih := ris_of (b :: r) (fun x hx => hm x (List.mem_cons_of_mem _ hx)) (List.nodup_cons.mp hn).2 (List.pairwise_cons.mp hp).2
    show (strLt a b && risL strLt (b :: r)) = true
    rw [ih]
    have h1 := (List.pairwise_cons.mp hp).1 b (List.mem_cons_self ..)
    rcases pool_lt a (hm a (List.mem_cons_self ..)) b (hm b (by simp)) h1 with h | h
    · subst h
      exact absurd (List.mem_cons_self ..) (List.nodup_cons.mp hn).1
    · rw [h]; rfl
theorem erase_map {α β : Type} (f : α → β) (xs : List α) (i : Nat) : (xs.map f).eraseIdx i = (xs.eraseIdx i).map f := by
  simp [List.eraseIdx_eq_take_drop_succ, List.map_append, List.map_take, List.map_drop]
theorem eraseIdx_perm {α : Type} {xs : List α} {i : Nat} (h : i < xs.length) : (xs[i] :: xs.eraseIdx i).Perm xs := by
  induction xs generalizing i with
  | nil => simp at h
  | cons x xs ih =>
    cases i with
    | zero => simp
    | succ i =>
      have := ih (i := i) (by simpa using h)
      simp only [List.getElem_cons_succ, List.eraseIdx_cons_succ]
      exact (List.Perm.swap _ _ _).trans (this.cons x)
theorem some_names_ok (h : PotOk S) {k : Nat} (hk : k ≤ 12) : ∃ (ys : List Str) (S' : List PyData), PotOk S' ∧ ys.length = k ∧ (∃ p, (ys ++ p).Perm pool12) ∧ run (Dlib ++ X) (n + 2) 146 [.pot, .dat (.int k)] S = .ok (.own (ys.map PyData.str)) S' := by
  rw [r_law_some_names]
  have hd : ∀ (S : List PyData), PotOk S → ∀ m : Nat, 0 < m → m < 1000000 → ∃ (k : Nat) (S' : List PyData), k < m ∧ PotOk S' ∧ run (Dlib ++ X) (n + 1) 20 [.pot, .dat (.int m)] S = .ok (.dat (.int k)) S' := fun S hS m h1 h2 => drawN hS m h1 h2
  generalize run (Dlib ++ X) (n + 1) = C at hd
  have e0 : denB C (I.law_some_names.take 1) ⟨[some .pot, some (.dat (.int k)), none, none, none], S⟩ = .nx ⟨[some .pot, some (.dat (.int k)), some (.own (pool12.map PyData.str)), none, none], S⟩ := by kernel_rfl
  have h12 : pool12.length = 12 := by decide +kernel
  generalize pool12 = P at e0 h12
  have hi : denI C (.rng1 (.var 1)) ⟨[some .pot, some (.dat (.int k)), some (.own (P.map PyData.str)), none, none], S⟩ = .ok ((List.range k).map fun (i : Nat) => PyData.int (0 + (i : Nat))) ⟨[some .pot, some (.dat (.int k)), some (.own (P.map PyData.str)), none, none], S⟩ := by
    have : denI C (.rng1 (.var 1)) ⟨[some .pot, some (.dat (.int k)), some (.own (P.map PyData.str)), none, none], S⟩ = .ok (rangeL 0 (k : Int).toNat) ⟨[some .pot, some (.dat (.int k)), some (.own (P.map PyData.str)), none, none], S⟩ := rng1_s rfl (inR_nat (by omega))
    rw [this, Int.toNat_natCast]
    rfl
  obtain ⟨acc, s', e, ys, p, hl, hp, ⟨u, v, hs⟩, ea, hS⟩ := lcLoop_wp (h := Tg.put (.n 4)) (ft := denT C none) (vs := [3, 4]) (inner := accE (den C (.popAt 2 (.call 20 [(.var 0), (.b1 .len (.peek 2))]))).v) (g := fun (i : Nat) => PyData.int (0 + (i : Nat)))
    (fun (l : List Nat) acc s => ∃ (ys p : List Str), ys.length + l.length = k ∧ (ys ++ p).Perm P ∧ (∃ u v, s.ρ = [some .pot, some (.dat (.int k)), some (.own (p.map PyData.str)), u, v]) ∧ acc = ys.map PyData.str ∧ PotOk s.S) (fun x l acc s hI => by
      obtain ⟨ys, p, hl, hp, ⟨u, v, hs⟩, ea, hS⟩ := hI
      have hlp : ys.length + p.length = 12 := by
        have := hp.length_eq
        rw [List.length_append] at this
        omega
      have hl2 : ys.length + (l.length + 1) = k := by simpa using hl
      obtain ⟨j, S', hj, hS', ed⟩ := hd s.S hS p.length (by omega) (by omega)
      refine ⟨⟨[some .pot, some (.dat (.int k)), some (.own (p.map PyData.str)), none, some (.dat (.int (0 + (x : Nat))))], s.S⟩, true, ⟨[some .pot, some (.dat (.int k)), some (.own (p.map PyData.str)), none, some (.dat (.int (0 + (x : Nat))))], s.S⟩, ?_, rfl, ?_⟩
      · show Tg.put (.n 4) _ ⟨wipeR s.ρ [3, 4], s.S⟩ = _
        rw [hs]
        rfl
      · rw [if_pos rfl]
        have e1 : dFrz (den C (.popAt 2 (.call 20 [(.var 0), (.b1 .len (.peek 2))]))).v ⟨[some .pot, some (.dat (.int k)), some (.own (p.map PyData.str)), none, some (.dat (.int (0 + (x : Nat))))], s.S⟩ = .ok (.str p[j]) ⟨[some .pot, some (.dat (.int k)), some (.own ((p.eraseIdx j).map PyData.str)), none, some (.dat (.int (0 + (x : Nat))))], S'⟩ := by
          have e2 : (den C (.call 20 [(.var 0), (.b1 .len (.peek 2))])).v ⟨[some .pot, some (.dat (.int k)), some (.own (p.map PyData.str)), none, some (.dat (.int (0 + (x : Nat))))], s.S⟩ = .ok (.dat (.int j)) ⟨[some .pot, some (.dat (.int k)), some (.own (p.map PyData.str)), none, some (.dat (.int (0 + (x : Nat))))], S'⟩ :=
            cal (S := s.S) (vs := [.pot, .dat (.int p.length)]) (dl_p rfl (dl_d (b1_e (d := .list (p.map PyData.str)) rfl rfl (by simp)) rfl)) ed
          have e3 := popAt_e (i := 2) (xs := p.map PyData.str) (d := .str p[j]) rfl (frz_of e2) rfl (by rw [List.getElem?_map, List.getElem?_eq_getElem hj]; rfl) (by omega)
          rw [erase_map] at e3
          exact frz_of e3
        refine ⟨_, _, accE_of e1 (by rw [ea, List.length_map]; omega), ys ++ [p[j]], p.eraseIdx j, ?_, ?_, ⟨_, _, rfl⟩, ?_, hS'⟩
        · rw [List.length_append]; simp; omega
        · rw [List.append_assoc]
          exact ((eraseIdx_perm hj).append_left ys).trans hp
        · rw [ea, List.map_append]; rfl) (List.range k) [] ⟨[some .pot, some (.dat (.int k)), some (.own (P.map PyData.str)), none, none], S⟩ ⟨[], P, by simp, by simp, ⟨_, _, rfl⟩, rfl, h⟩
  refine ⟨ys, s'.S, hS, by simpa using hl, ⟨p, hp⟩, ?_⟩
  rw [show I.law_some_names = I.law_some_names.take 1 ++ [.ret (.lc (.rng1 (.var 1)) (.n 4) none [3, 4] (.popAt 2 (.call 20 [(.var 0), (.b1 .len (.peek 2))])))] from rfl]
  rw [app_nx e0]
  have e9 : (den C (.lc (.rng1 (.var 1)) (.n 4) none [3, 4] (.popAt 2 (.call 20 [(.var 0), (.b1 .len (.peek 2))])))).v ⟨[some .pot, some (.dat (.int k)), some (.own (P.map PyData.str)), none, none], S⟩ = .ok (.own acc) ⟨back [some .pot, some (.dat (.int k)), some (.own (P.map PyData.str)), none, none] s'.ρ [3, 4], s'.S⟩ := lc_raw hi rfl e
  exact ret_e (Q := fun z => FRof z = FR.ok (.own (ys.map PyData.str)) s'.S) e9 (by rw [ea]; rfl)
theorem names_ok (h : PotOk S) {k : Nat} (hk : k ≤ 4) : ∃ (ns : List Str) (S' : List PyData), PotOk S' ∧ ns.length = k ∧ (∀ x ∈ ns, x ∈ pool12) ∧ risL strLt ns = true ∧ run (Dlib ++ X) (n + 3) 147 [.pot, .dat (.int k)] S = .ok (.dat (tx ns)) S' := by
  obtain ⟨ys, S', hS, hl, ⟨p, hp⟩, e⟩ := some_names_ok (X := X) (n := n) h (k := k) (by omega)
  have hpm := sortS_perm ys
  refine ⟨sortS ys, S', hS, hpm.length_eq.trans hl, fun x hx => ?_, ?_, ?_⟩
  · exact hp.mem_iff.mp (List.mem_append_left _ (hpm.mem_iff.mp hx))
  · refine ris_of _ (fun x hx => hp.mem_iff.mp (List.mem_append_left _ (hpm.mem_iff.mp hx))) ?_ (sortS_sorted ys)
    exact hpm.nodup_iff.mpr ((hp.nodup_iff.mpr pool_nodup).sublist (List.sublist_append_left _ _))
  · rw [r_law_names]
    unfold I.law_names
    generalize run (Dlib ++ X) (n + 2) = C at e
    have e1 : (den C (.call 146 [(.var 0), (.var 1)])).v ⟨[some .pot, some (.dat (.int k))], S⟩ = .ok (.own (ys.map PyData.str)) ⟨[some .pot, some (.dat (.int k))], S'⟩ := cal (S := S) (vs := [.pot, .dat (.int k)]) rfl e
    have e2 : sortD (.list (ys.map PyData.str)) = some ((sortS ys).map PyData.str) := by
      cases ys with
      | nil => rfl
      | cons y r =>
        have hso : ∀ l : List Str, strsOf (l.map PyData.str) = some l := fun l => by
          induction l with
          | nil => rfl
          | cons x l ih =>
            show (strsOf (l.map PyData.str)).map (x :: ·) = _
            rw [ih]; rfl
        show (match strsOf ((y :: r).map PyData.str) with
          | some ss => if ss.length < 64 then some ((sortS ss).map PyData.str) else none
          | none => none) = _
        rw [hso]
        exact if_pos (by omega)
    refine ret_e (Q := fun z => FRof z = _) (v := .dat (tx (sortS ys))) (s1 := ⟨[some .pot, some (.dat (.int k))], S'⟩) ?_ rfl
    refine b1_e (v := .own ((sortS ys).map PyData.str)) (s1 := ⟨[some .pot, some (.dat (.int k))], S'⟩) ?_ rfl rfl
    show dSorted (den C (.call 146 [(.var 0), (.var 1)])).v _ = _
    unfold dSorted
    rw [frz_own e1]
    show ofOpt ((sortD (.list (ys.map PyData.str))).map Va.own) _ = _
    rw [e2]
    rfl
/-! rows -/
def absorb : Nat → List Int → Int → Row
  | 0, few, top => (few, top)
  | n + 1, few, top => if few ≠ [] ∧ few.getLastD 0 = top - 1 then absorb n few.dropLast (top - 1) else absorb n few top
/-- the only form of some sizes (ascending) and of those from ray on -/
def rowOf (few : List Int) (ray : Int) : Row := if 0 < ray then absorb (few.filter fun i => decide (i < ray)).length (few.filter fun i => decide (i < ray)) ray else (few, ray)
def subs : List Int → List (List Int)
  | [] => [[]]
  | x :: r => subs r ++ (subs r).map (x :: ·)
theorem mem_subs : ∀ {l f : List Int}, f.Sublist l → f ∈ subs l
  | _, _, .slnil => List.mem_singleton.mpr rfl
  | _, _, .cons _ h => List.mem_append_left _ (mem_subs h)
  | _, _, .cons₂ _ h => List.mem_append_right _ (List.mem_map.mpr ⟨_, mem_subs h, rfl⟩)
def fives : List Int := [1, 2, 3, 4, 5]
def rays : List Int := [0, 1, 2, 3, 4, 5, 6, 7, 8]
def rowArgs : List Row := (subs fives).flatMap fun f => rays.map fun r => (f, r)
theorem row_all : rowArgs.map (fun p => run (Dlib ++ X) (n + 1) 171 [.dat (.list (p.1.map PyData.int)), .dat (.int p.2)] S) = mapR (fun p => FR.ok (.dat (rowD (rowOf p.1 p.2))) S) rowArgs := by kernel_rfl
theorem row_of_ok {f : List Int} {r : Int} (hf : f.Sublist fives) (h0 : 0 ≤ r) (h1 : r ≤ 8) : run (Dlib ++ X) (n + 1) 171 [.dat (.list (f.map PyData.int)), .dat (.int r)] S = .ok (.dat (rowD (rowOf f r))) S := by
  have hr : r ∈ rays := by unfold rays; simp; omega
  have := each (row_all (X := X) (n := n) (S := S)) (f, r) (List.mem_flatMap.mpr ⟨f, mem_subs hf, List.mem_map.mpr ⟨r, hr, rfl⟩⟩)
  exact this
def lst (a : List Int) : Int := if ctot a > 1 then ctot a else 1
theorem lst_le {c : Nat} (h : c ≤ 4) {a : List Int} (ha : a ∈ arrs c) : 1 ≤ lst a ∧ lst a ≤ 4 ∧ ctot a ≤ lst a := by
  have := ctot_le h ha
  unfold lst
  split <;> omega
def goodArg (lo : Int) (p : Row) : Bool := p.1.all (fun x => decide (lo ≤ x)) && (decide (p.2 = 0) || decide (lo ≤ p.2))
def goodRow (lo : Int) (p : Row) : Bool := decide (p.1.length ≤ 100) && sizesOk p.1 p.2 && (decide (leastOf p ≤ 0) || decide (lo ≤ leastOf p))
theorem row_good : ∀ lo ∈ ([1, 2, 3, 4] : List Int), ∀ p ∈ rowArgs, goodArg lo p = true → goodRow lo (rowOf p.1 p.2) = true := by decide +kernel
theorem row_of_good {lo : Int} (h1 : 1 ≤ lo) (h4 : lo ≤ 4) {f : List Int} {r : Int} (hf : f.Sublist fives) (hlo : ∀ x ∈ f, lo ≤ x) (h0 : r = 0 ∨ lo ≤ r) (h8 : r ≤ 8) : goodRow lo (rowOf f r) = true := by
  have hr : r ∈ rays := by unfold rays; simp; omega
  refine row_good lo (by simp; omega) (f, r) (List.mem_flatMap.mpr ⟨f, mem_subs hf, List.mem_map.mpr ⟨r, hr, rfl⟩⟩) ?_
  unfold goodArg
  rw [Bool.and_eq_true]
  refine ⟨List.all_eq_true.mpr fun x hx => by simpa using hlo x hx, ?_⟩
  rcases h0 with h | h <;> simp [h]
theorem rowOk_of {a : List Int} {lo : Int} {p : Row} (hlo : ctot a ≤ lo) (h : goodRow lo p = true) : RowOk a p := by
  unfold goodRow at h
  simp only [Bool.and_eq_true, Bool.or_eq_true, decide_eq_true_eq] at h
  exact ⟨h.1.1, h.1.2, h.2.imp id fun z => by omega⟩
def faceB : List Sx := [
    .set 4 (.b2 .max (.c (.int (1))) (.lenSet (.var 3))),
    .set 5 (.lc (.rng2 (.var 4) (.c (.int (6)))) (.n 8) (some (.cmp .Eq (.call 20 [(.var 0), (.c (.int (3)))]) (.c (.int (0))))) [7, 8] (.var 8)),
    .set 6 (.idx (.lst [(.c (.int (0))), (.var 4), (.var 4), (.bin .Add (.var 4) (.call 20 [(.var 0), (.c (.int (4)))]))]) (.call 20 [(.var 0), (.c (.int (4)))])),
    .ifs (.cmp .Gt (.call 20 [(.var 0), (.c (.int (3)))]) (.c (.int (0)))) [
      .set 5 (.lst [])] [],
    .ifs (.cmp .Eq (.call 20 [(.var 0), (.c (.int (4)))]) (.c (.int (0)))) [
      .set 6 (.c (.int (0)))] [],
    .expr (.app 2 (.call 171 [(.var 5), (.var 6)]))]
def FaceR (ns : List Str) (z : SR) : Prop := ∃ (rs : List Row) (S' : List PyData), PotOk S' ∧ rs.length = (arrs ns.length).length ∧ (∀ p ∈ (arrs ns.length).zip rs, RowOk p.1 p.2) ∧ FRof z = FR.ok (.dat (faceD ns rs)) S'
theorem drawn_face_ok {ns : List Str} (hn : ns.length ≤ 4) (hS : PotOk S) : ∃ (rs : List Row) (S' : List PyData), PotOk S' ∧ rs.length = (arrs ns.length).length ∧ (∀ p ∈ (arrs ns.length).zip rs, RowOk p.1 p.2) ∧ run (Dlib ++ X) (n + 2) 172 [.pot, .dat (tx ns)] S = .ok (.dat (faceD ns rs)) S' := by
  rw [r_law_drawn_face]
  rw [show I.law_drawn_face = [.set 2 (.lst []), .fr (.of (.call 22 [(.b1 .len (.peek 1))])) (.n 3) faceB, .ret (.tup [(.b1 .tuple (.peek 1)), (.b1 .tuple (.peek 2))])] from rfl]
  have hd : ∀ (S : List PyData), PotOk S → ∀ m : Nat, 0 < m → m < 1000000 → ∃ (k : Nat) (S' : List PyData), k < m ∧ PotOk S' ∧ run (Dlib ++ X) (n + 1) 20 [.pot, .dat (.int m)] S = .ok (.dat (.int k)) S' := fun S hS m h1 h2 => drawN hS m h1 h2
  have hrow : ∀ (f : List Int) (r : Int) (S : List PyData), f.Sublist fives → 0 ≤ r → r ≤ 8 → run (Dlib ++ X) (n + 1) 171 [.dat (.list (f.map PyData.int)), .dat (.int r)] S = .ok (.dat (rowD (rowOf f r))) S := fun f r S hf h0 h1 => row_of_ok hf h0 h1
  obtain ⟨v, hv, h3⟩ := law_arr (X := X) (n := n) (S := S) hn
  generalize run (Dlib ++ X) (n + 1) = C at hd hrow h3
  show FaceR ns _
  refine st_nx (Q := FaceR ns) (s1 := ⟨[some .pot, some (.dat (tx ns)), some (.own []), none, none, none, none, none, none], S⟩) rfl ?_
  have hi : denI C (.of (.call 22 [(.b1 .len (.peek 1))])) ⟨[some .pot, some (.dat (tx ns)), some (.own []), none, none, none, none, none, none], S⟩ = .ok ((arrs ns.length).map ti) ⟨[some .pot, some (.dat (tx ns)), some (.own []), none, none, none, none, none, none], S⟩ := by
    have e1 : (den C (.call 22 [(.b1 .len (.peek 1))])).v ⟨[some .pot, some (.dat (tx ns)), some (.own []), none, none, none, none, none, none], S⟩ = .ok v ⟨[some .pot, some (.dat (tx ns)), some (.own []), none, none, none, none, none, none], S⟩ := cal (S := S) (vs := [.dat (.int ns.length)]) (dl_d (b1_e (d := tx ns) rfl rfl (by simp)) rfl) h3
    rcases hv with rfl | rfl
    · exact of_l (frz_own e1)
    · exact of_l (frz_of e1)
  refine fr_wp (Q := FaceR ns) hi (fun l s => ∃ (done : List (List Int)) (rs : List Row) (u3 u4 u5 u6 : Option Va) (S1 : List PyData), s = ⟨[some .pot, some (.dat (tx ns)), some (.own (rs.map rowD)), u3, u4, u5, u6, none, none], S1⟩ ∧ PotOk S1 ∧ done ++ l = arrs ns.length ∧ rs.length = done.length ∧ ∀ p ∈ done.zip rs, RowOk p.1 p.2)
    ⟨[], [], none, none, none, none, S, rfl, hS, rfl, rfl, fun p hp => nomatch hp⟩ ?_ ?_
  · rintro a l s ⟨done, rs, u3, u4, u5, u6, S1, rfl, hS1, hdl, hlen, hrs⟩
    have ha : a ∈ arrs ns.length := by rw [← hdl]; simp
    have hal : a.length ≤ 4 := by rw [arr_len hn ha]; exact hn
    obtain ⟨b1, b4, bc⟩ := lst_le hn ha
    have hrl : rs.length ≤ 15 := by
      have h1 := arrs_len hn
      have h2 := congrArg List.length hdl
      rw [List.length_append] at h2
      omega
    refine ⟨⟨[some .pot, some (.dat (tx ns)), some (.own (rs.map rowD)), some (.dat (ti a)), u4, u5, u6, none, none], S1⟩, rfl, ?_⟩
    unfold faceB
    -- least
    refine set_d (Q := fun z => W1 z _ _) (d := .int (lst a)) (ρ := [some .pot, some (.dat (tx ns)), some (.own (rs.map rowD)), some (.dat (ti a)), u4, u5, u6, none, none]) (S := S1) ?_ ?_
    · refine b2_e (C := C) (d := .int 1) (d2 := .int (ctot a)) (s1 := ⟨[some .pot, some (.dat (tx ns)), some (.own (rs.map rowD)), some (.dat (ti a)), u4, u5, u6, none, none], S1⟩) rfl ?_ rfl
      have e1 := lenSet_e (C := C) (a := .var 3) (s := ⟨[some .pot, some (.dat (tx ns)), some (.own (rs.map rowD)), some (.dat (ti a)), u4, u5, u6, none, none], S1⟩) (ns := a) (frz_of rfl) (intsOf_map a) (by omega)
      rw [ded_len hn ha] at e1
      exact frz_of e1
    -- few
    show W1 (denB C _ ⟨[some .pot, some (.dat (tx ns)), some (.own (rs.map rowD)), some (.dat (ti a)), some (.dat (.int (lst a))), u5, u6, none, none], S1⟩) _ _
    have hr2 : denI C (.rng2 (.var 4) (.c (.int (6)))) ⟨[some .pot, some (.dat (tx ns)), some (.own (rs.map rowD)), some (.dat (ti a)), some (.dat (.int (lst a))), u5, u6, none, none], S1⟩ = .ok ((List.range (6 - lst a).toNat).map fun (k : Nat) => PyData.int (lst a + k)) ⟨[some .pot, some (.dat (tx ns)), some (.own (rs.map rowD)), some (.dat (ti a)), some (.dat (.int (lst a))), u5, u6, none, none], S1⟩ := rng2_s rfl rfl (inR_small (by omega) (by omega)) (inR_small (by omega) (by omega))
    obtain ⟨acc, S2, e2, f, rfl, hf, hS2⟩ := lc_wp (C := C) (tg := .n 8) (ft := some (.cmp .Eq (.call 20 [(.var 0), (.c (.int (3)))]) (.c (.int (0))))) (vs := [7, 8]) (elt := .var 8) hr2 rfl (fun (l : List Nat) acc S => ∃ f : List Int, acc = f.map PyData.int ∧ (f ++ l.map fun (k : Nat) => lst a + (k : Int)).Sublist ((List.range (6 - lst a).toNat).map fun (k : Nat) => lst a + (k : Int)) ∧ PotOk S) ⟨[], rfl, List.Sublist.refl _, hS1⟩ (fun x l acc S2 hI => by
      obtain ⟨f, rfl, hf, hS2⟩ := hI
      obtain ⟨k, S3, _, hS3, ed⟩ := hd S2 hS2 3 (by omega) (by omega)
      have e3 : (den C (.call 20 [(.var 0), (.c (.int (3)))])).v ⟨[some .pot, some (.dat (tx ns)), some (.own (rs.map rowD)), some (.dat (ti a)), some (.dat (.int (lst a))), u5, u6, none, some (.dat (.int (lst a + (x : Nat))))], S2⟩ = .ok (.dat (.int k)) ⟨[some .pot, some (.dat (tx ns)), some (.own (rs.map rowD)), some (.dat (ti a)), some (.dat (.int (lst a))), u5, u6, none, some (.dat (.int (lst a + (x : Nat))))], S3⟩ := cal (S := S2) (vs := [.pot, .dat (.int 3)]) rfl ed
      have off : ∀ ρ : List (Option Va), ρ = [some .pot, some (.dat (tx ns)), some (.own (rs.map rowD)), some (.dat (ti a)), some (.dat (.int (lst a))), u5, u6, none, some (.dat (.int (lst a + (x : Nat))))] → OffV [7, 8] [some .pot, some (.dat (tx ns)), some (.own (rs.map rowD)), some (.dat (ti a)), some (.dat (.int (lst a))), u5, u6, none, none] ρ := fun ρ e => by
        subst e
        refine ⟨rfl, fun j hj => ?_⟩
        match j, hj with
        | 0, _ | 1, _ | 2, _ | 3, _ | 4, _ | 5, _ | 6, _ => rfl
        | 7, hj => simp at hj
        | 8, hj => simp at hj
        | j + 9, _ => rfl
      refine ⟨_, rfl, off _ rfl, decide ((k : Int) = 0), _, S3, cmp_t (frz_of e3) rfl rfl (c_eqI _ _), off _ rfl, ?_⟩
      have hsub : (f ++ l.map fun (k : Nat) => lst a + (k : Int)).Sublist ((List.range (6 - lst a).toNat).map fun (k : Nat) => lst a + (k : Int)) := (List.Sublist.append_left (List.sublist_cons_self _ _) f).trans hf
      by_cases hk : (k : Int) = 0
      · rw [if_pos (by rw [decide_eq_true hk])]
        refine ⟨.int (lst a + (x : Nat)), _, S3, rfl, off _ rfl, ?_, f ++ [lst a + (x : Nat)], by rw [List.map_append]; rfl, by rw [List.append_assoc]; exact hf, hS3⟩
        have h1 := hf.length_le
        simp at h1
        rw [List.length_map]
        omega
      · rw [if_neg (by rw [decide_eq_false hk]; exact Bool.false_ne_true)]
        exact ⟨f, rfl, hsub, hS3⟩)
    rw [List.map_nil, List.append_nil] at hf
    have hf5 : f.Sublist fives := hf.trans (by
      have : ∀ lo ∈ ([1, 2, 3, 4] : List Int), ((List.range (6 - lo).toNat).map fun (k : Nat) => lo + (k : Int)).Sublist fives := by decide +kernel
      exact this (lst a) (by simp; omega))
    have hflo : ∀ x ∈ f, lst a ≤ x := fun x hx => by
      obtain ⟨k, _, rfl⟩ := List.mem_map.mp (hf.subset hx)
      omega
    refine set_o (Q := fun z => W1 z _ _) e2 ?_
    show W1 (denB C _ ⟨[some .pot, some (.dat (tx ns)), some (.own (rs.map rowD)), some (.dat (ti a)), some (.dat (.int (lst a))), some (.own (f.map PyData.int)), u6, none, none], S2⟩) _ _
    -- ray
    obtain ⟨k1, S3, hk1, hS3, ed1⟩ := hd S2 hS2 4 (by omega) (by omega)
    obtain ⟨k2, S4, hk2, hS4, ed2⟩ := hd S3 hS3 4 (by omega) (by omega)
    have e4 : (den C (.idx (.lst [(.c (.int (0))), (.var 4), (.var 4), (.bin .Add (.var 4) (.call 20 [(.var 0), (.c (.int (4)))]))]) (.call 20 [(.var 0), (.c (.int (4)))]))).v ⟨[some .pot, some (.dat (tx ns)), some (.own (rs.map rowD)), some (.dat (ti a)), some (.dat (.int (lst a))), some (.own (f.map PyData.int)), u6, none, none], S2⟩ = .ok (.dat (.int (([0, lst a, lst a, lst a + k1] : List Int).getD k2 0))) ⟨[some .pot, some (.dat (tx ns)), some (.own (rs.map rowD)), some (.dat (ti a)), some (.dat (.int (lst a))), some (.own (f.map PyData.int)), u6, none, none], S4⟩ := by
      have a1 : (den C (.call 20 [(.var 0), (.c (.int (4)))])).v ⟨[some .pot, some (.dat (tx ns)), some (.own (rs.map rowD)), some (.dat (ti a)), some (.dat (.int (lst a))), some (.own (f.map PyData.int)), u6, none, none], S2⟩ = .ok (.dat (.int k1)) ⟨[some .pot, some (.dat (tx ns)), some (.own (rs.map rowD)), some (.dat (ti a)), some (.dat (.int (lst a))), some (.own (f.map PyData.int)), u6, none, none], S3⟩ := cal (S := S2) (vs := [.pot, .dat (.int 4)]) rfl ed1
      have a2 : (den C (.call 20 [(.var 0), (.c (.int (4)))])).v ⟨[some .pot, some (.dat (tx ns)), some (.own (rs.map rowD)), some (.dat (ti a)), some (.dat (.int (lst a))), some (.own (f.map PyData.int)), u6, none, none], S3⟩ = .ok (.dat (.int k2)) ⟨[some .pot, some (.dat (tx ns)), some (.own (rs.map rowD)), some (.dat (ti a)), some (.dat (.int (lst a))), some (.own (f.map PyData.int)), u6, none, none], S4⟩ := cal (S := S3) (vs := [.pot, .dat (.int 4)]) rfl ed2
      have a3 : (den C (.lst [(.c (.int (0))), (.var 4), (.var 4), (.bin .Add (.var 4) (.call 20 [(.var 0), (.c (.int (4)))]))])).v ⟨[some .pot, some (.dat (tx ns)), some (.own (rs.map rowD)), some (.dat (ti a)), some (.dat (.int (lst a))), some (.own (f.map PyData.int)), u6, none, none], S2⟩ = .ok (.own (([0, lst a, lst a, lst a + k1] : List Int).map PyData.int)) ⟨[some .pot, some (.dat (tx ns)), some (.own (rs.map rowD)), some (.dat (ti a)), some (.dat (.int (lst a))), some (.own (f.map PyData.int)), u6, none, none], S3⟩ :=
        lst_e (dl_d rfl (dl_d rfl (dl_d rfl (dl_d (bin_e (C := C) (d := .int (lst a)) (d2 := .int k1) rfl (frz_of a1) rfl) rfl)))) (show 4 ≤ 16777216 by decide)
      refine idx_e (frz_own a3) (frz_of a2) ?_
      show atI (([0, lst a, lst a, lst a + k1] : List Int).map PyData.int) (k2 : Int) = _
      rw [atI_map, atI_at (xs := ([0, lst a, lst a, lst a + k1] : List Int)) (by show k2 < 4; omega)]
      rw [List.getD_eq_getElem?_getD, List.getElem?_eq_getElem (by show k2 < 4; omega)]
      rfl
    have hray : ([0, lst a, lst a, lst a + k1] : List Int).getD k2 0 = 0 ∨ lst a ≤ ([0, lst a, lst a, lst a + k1] : List Int).getD k2 0 := by
      match k2, hk2 with
      | 0, _ => exact .inl rfl
      | 1, _ => exact .inr (Int.le_refl _)
      | 2, _ => exact .inr (Int.le_refl _)
      | 3, _ => exact .inr (show lst a ≤ lst a + k1 by omega)
    have hray8 : ([0, lst a, lst a, lst a + k1] : List Int).getD k2 0 ≤ 8 := by
      match k2, hk2 with
      | 0, _ => exact (show (0 : Int) ≤ 8 by omega)
      | 1, _ => exact (show lst a ≤ 8 by omega)
      | 2, _ => exact (show lst a ≤ 8 by omega)
      | 3, _ => exact (show lst a + k1 ≤ 8 by omega)
    generalize ([0, lst a, lst a, lst a + k1] : List Int).getD k2 0 = ray at e4 hray hray8
    refine set_d (Q := fun z => W1 z _ _) e4 ?_
    show W1 (denB C _ ⟨[some .pot, some (.dat (tx ns)), some (.own (rs.map rowD)), some (.dat (ti a)), some (.dat (.int (lst a))), some (.own (f.map PyData.int)), some (.dat (.int ray)), none, none], S4⟩) _ _
    -- few once more
    obtain ⟨k3, S5, hk3, hS5, ed3⟩ := hd S4 hS4 3 (by omega) (by omega)
    obtain ⟨f', hf', hflo', e5⟩ : ∃ f' : List Int, f'.Sublist fives ∧ (∀ x ∈ f', lst a ≤ x) ∧ ∀ r, denB C (.ifs (.cmp .Gt (.call 20 [(.var 0), (.c (.int (3)))]) (.c (.int (0)))) [.set 5 (.lst [])] [] :: r) ⟨[some .pot, some (.dat (tx ns)), some (.own (rs.map rowD)), some (.dat (ti a)), some (.dat (.int (lst a))), some (.own (f.map PyData.int)), some (.dat (.int ray)), none, none], S4⟩ =
        denB C r ⟨[some .pot, some (.dat (tx ns)), some (.own (rs.map rowD)), some (.dat (ti a)), some (.dat (.int (lst a))), some (.own (f'.map PyData.int)), some (.dat (.int ray)), none, none], S5⟩ := by
      have a1 : (den C (.call 20 [(.var 0), (.c (.int (3)))])).v ⟨[some .pot, some (.dat (tx ns)), some (.own (rs.map rowD)), some (.dat (ti a)), some (.dat (.int (lst a))), some (.own (f.map PyData.int)), some (.dat (.int ray)), none, none], S4⟩ = .ok (.dat (.int k3)) ⟨[some .pot, some (.dat (tx ns)), some (.own (rs.map rowD)), some (.dat (ti a)), some (.dat (.int (lst a))), some (.own (f.map PyData.int)), some (.dat (.int ray)), none, none], S5⟩ := cal (S := S4) (vs := [.pot, .dat (.int 3)]) rfl ed3
      have a2 : (den C (.cmp .Gt (.call 20 [(.var 0), (.c (.int (3)))]) (.c (.int (0))))).t ⟨[some .pot, some (.dat (tx ns)), some (.own (rs.map rowD)), some (.dat (ti a)), some (.dat (.int (lst a))), some (.own (f.map PyData.int)), some (.dat (.int ray)), none, none], S4⟩ = .ok (decide ((0 : Int) < k3)) ⟨[some .pot, some (.dat (tx ns)), some (.own (rs.map rowD)), some (.dat (ti a)), some (.dat (.int (lst a))), some (.own (f.map PyData.int)), some (.dat (.int ray)), none, none], S5⟩ := cmp_t (frz_of a1) rfl rfl rfl
      by_cases hk : (0 : Int) < k3
      · rw [decide_eq_true hk] at a2
        exact ⟨[], List.nil_sublist _, (fun x hx => nomatch hx), fun r => if_tn (Q := fun z => z = _) a2 rfl rfl⟩
      · rw [decide_eq_false hk] at a2
        exact ⟨f, hf5, hflo, fun r => if_f0 (Q := fun z => z = _) a2 rfl⟩
    rw [e5]
    -- ray once more
    obtain ⟨k4, S6, hk4, hS6, ed4⟩ := hd S5 hS5 4 (by omega) (by omega)
    obtain ⟨ray', hr1, hr8, e6⟩ : ∃ ray' : Int, (ray' = 0 ∨ lst a ≤ ray') ∧ ray' ≤ 8 ∧ ∀ r, denB C (.ifs (.cmp .Eq (.call 20 [(.var 0), (.c (.int (4)))]) (.c (.int (0)))) [.set 6 (.c (.int (0)))] [] :: r) ⟨[some .pot, some (.dat (tx ns)), some (.own (rs.map rowD)), some (.dat (ti a)), some (.dat (.int (lst a))), some (.own (f'.map PyData.int)), some (.dat (.int ray)), none, none], S5⟩ =
        denB C r ⟨[some .pot, some (.dat (tx ns)), some (.own (rs.map rowD)), some (.dat (ti a)), some (.dat (.int (lst a))), some (.own (f'.map PyData.int)), some (.dat (.int ray')), none, none], S6⟩ := by
      have a1 : (den C (.call 20 [(.var 0), (.c (.int (4)))])).v ⟨[some .pot, some (.dat (tx ns)), some (.own (rs.map rowD)), some (.dat (ti a)), some (.dat (.int (lst a))), some (.own (f'.map PyData.int)), some (.dat (.int ray)), none, none], S5⟩ = .ok (.dat (.int k4)) ⟨[some .pot, some (.dat (tx ns)), some (.own (rs.map rowD)), some (.dat (ti a)), some (.dat (.int (lst a))), some (.own (f'.map PyData.int)), some (.dat (.int ray)), none, none], S6⟩ := cal (S := S5) (vs := [.pot, .dat (.int 4)]) rfl ed4
      have a2 : (den C (.cmp .Eq (.call 20 [(.var 0), (.c (.int (4)))]) (.c (.int (0))))).t ⟨[some .pot, some (.dat (tx ns)), some (.own (rs.map rowD)), some (.dat (ti a)), some (.dat (.int (lst a))), some (.own (f'.map PyData.int)), some (.dat (.int ray)), none, none], S5⟩ = .ok (decide ((k4 : Int) = 0)) ⟨[some .pot, some (.dat (tx ns)), some (.own (rs.map rowD)), some (.dat (ti a)), some (.dat (.int (lst a))), some (.own (f'.map PyData.int)), some (.dat (.int ray)), none, none], S6⟩ := cmp_t (frz_of a1) rfl rfl (c_eqI _ _)
      by_cases hk : (k4 : Int) = 0
      · rw [decide_eq_true hk] at a2
        exact ⟨0, .inl rfl, by omega, fun r => if_tn (Q := fun z => z = _) a2 rfl rfl⟩
      · rw [decide_eq_false hk] at a2
        exact ⟨ray, hray, hray8, fun r => if_f0 (Q := fun z => z = _) a2 rfl⟩
    rw [e6]
    -- the row
    have hrow' := hrow f' ray' S6 hf' (by omega) hr8
    have a3 : (den C (.call 171 [(.var 5), (.var 6)])).v ⟨[some .pot, some (.dat (tx ns)), some (.own (rs.map rowD)), some (.dat (ti a)), some (.dat (.int (lst a))), some (.own (f'.map PyData.int)), some (.dat (.int ray')), none, none], S6⟩ = .ok (.dat (rowD (rowOf f' ray'))) ⟨[some .pot, some (.dat (tx ns)), some (.own (rs.map rowD)), some (.dat (ti a)), some (.dat (.int (lst a))), some (.dat (.list (f'.map PyData.int))), some (.dat (.int ray')), none, none], S6⟩ := cal (S := S6) (vs := [.dat (.list (f'.map PyData.int)), .dat (.int ray')]) rfl hrow'
    have a4 := app_e (C := C) (i := 2) (ys := rs.map rowD) (xs := rs.map rowD) rfl (frz_of a3) rfl (by rw [List.length_map]; omega)
    refine expr_e (Q := fun z => W1 z _ _) a4 ?_
    refine ⟨done ++ [a], rs ++ [rowOf f' ray'], some (.dat (ti a)), some (.dat (.int (lst a))), some (.dat (.list (f'.map PyData.int))), some (.dat (.int ray')), S6, ?_, hS6, by rw [List.append_assoc]; exact hdl, by simp [hlen], ?_⟩
    · show (⟨[some .pot, some (.dat (tx ns)), some (.own (rs.map rowD ++ [rowD (rowOf f' ray')])), some (.dat (ti a)), some (.dat (.int (lst a))), some (.dat (.list (f'.map PyData.int))), some (.dat (.int ray')), none, none], S6⟩ : Stt) = _
      rw [List.map_append]
      rfl
    · intro p hp
      rw [List.zip_append hlen.symm] at hp
      rcases List.mem_append.mp hp with hp | hp
      · exact hrs p hp
      · rw [List.mem_singleton.mp hp]
        exact rowOk_of bc (row_of_good b1 b4 hf' hflo' hr1 hr8)
  · rintro s ⟨done, rs, u3, u4, u5, u6, S1, rfl, hS1, hdl, hlen, hrs⟩
    rw [List.append_nil] at hdl
    subst hdl
    exact ⟨rs, S1, hS1, hlen, hrs, rfl⟩
end
end Lib

namespace Lib
open PySem PySem.Spec PyProof.Rows L2 Ev
/-! # the law's grown faces -/
theorem zipP {α β : Type} {P : α → β → Prop} {xs : List α} {ys : List β} : (∀ p ∈ xs.zip ys, P p.1 p.2) ↔ ∀ (k : Nat) (a : α) (b : β), xs[k]? = some a → ys[k]? = some b → P a b := by
  constructor
  · intro h k a b h1 h2
    exact h (a, b) (List.mem_of_getElem? (List.getElem?_zip_eq_some.mpr ⟨h1, h2⟩))
  · intro h p hp
    obtain ⟨k, hk⟩ := List.getElem?_of_mem hp
    obtain ⟨h1, h2⟩ := List.getElem?_zip_eq_some.mp hk
    exact h k p.1 p.2 h1 h2
/-- rows beside arrangements -/
def RowsOk (c : Nat) (rs : List Row) : Prop := rs.length = (arrs c).length ∧ ∀ p ∈ (arrs c).zip rs, RowOk p.1 p.2
theorem RowsOk.set {c : Nat} {rs : List Row} (h : RowsOk c rs) {j : Nat} {a : List Int} {r : Row} (hj : (arrs c)[j]? = some a) (hr : RowOk a r) : RowsOk c (rs.set j r) := by
  refine ⟨by rw [List.length_set]; exact h.1, zipP.mpr fun k b p h1 h2 => ?_⟩
  by_cases hk : j = k
  · subst hk
    rw [hj] at h1
    cases h1
    by_cases hl : j < rs.length
    · rw [List.getElem?_set_self hl] at h2
      cases h2
      exact hr
    · rw [List.getElem?_eq_none (by rw [List.length_set]; omega)] at h2
      cases h2
  · rw [List.getElem?_set_ne hk] at h2
    exact zipP.mp h.2 k b p h1 h2
/-- a row that only has a ray -/
theorem rowOk_ray {a : List Int} {r : Int} (h0 : 0 ≤ r) (h1 : r ≤ 100) (h2 : r ≤ 0 ∨ ctot a ≤ r) : RowOk a ([], r) := by
  refine ⟨Nat.zero_le _, ?_, h2⟩
  unfold sizesOk
  simp [h0, h1, risL]
theorem least_bd {p : Row} (h : sizesOk p.1 p.2 = true) : 0 ≤ leastOf p ∧ leastOf p ≤ 100 := by
  unfold sizesOk at h
  simp only [Bool.and_eq_true, decide_eq_true_eq] at h
  obtain ⟨few, ray⟩ := p
  unfold leastOf
  cases few with
  | nil => exact ⟨h.1.1.1.1, h.1.1.1.2⟩
  | cons x r =>
    have h2 := List.all_eq_true.mp h.1.1.2 x (List.mem_cons_self ..)
    simp at h2
    show 0 ≤ x ∧ x ≤ 100
    omega
def grow1 (p : Row) : Row := if p = ([], 0) then p else ([], leastOf p)
theorem grow1_ok {a : List Int} {p : Row} (h : RowOk a p) : RowOk a (grow1 p) := by
  unfold grow1
  split
  · exact h
  · obtain ⟨h0, h1⟩ := least_bd h.2.1
    exact rowOk_ray h0 h1 h.2.2
def mx (a : List Int) : Int := maxL (1 :: a.map fun i => i + 1)
theorem mx_ok {c : Nat} (h : c ≤ 4) {a : List Int} (ha : a ∈ arrs c) : RowOk a ([], mx a) := by
  have key : ∀ a ∈ arrAll, 1 ≤ mx a ∧ mx a ≤ 4 ∧ ctot a ≤ mx a := by decide +kernel
  have := key a (mem_arrAll h ha)
  exact rowOk_ray (by omega) (by omega) (.inr this.2.2)
section
variable {X : Dt} {n : Nat} {S : List PyData} {ns : List Str} {rs : List Row}
theorem law_least_ok (p : Row) (hl : p.1.length ≤ 1000) : run (Dlib ++ X) (n + 1) 175 [.dat (rowD p)] S = .ok (.dat (.int (leastOf p))) S := by
  rw [r_law_least_of]
  unfold I.law_least_of
  generalize run (Dlib ++ X) n = C
  obtain ⟨few, ray⟩ := p
  have hl : few.length ≤ 1000 := hl
  let s : Stt := ⟨[some (.dat (rowD (few, ray)))], S⟩
  have e1 : (den C (.idxV 0 (.c (.int 0)))).v s = .ok (.dat (ti few)) s := idxV_e rfl rfl rfl (show atI [ti few, PyData.int ray] 0 = _ by simp)
  have e2 : (den C (.idxV 0 (.c (.int 1)))).v s = .ok (.dat (.int ray)) s := idxV_e rfl rfl rfl (show atI [ti few, PyData.int ray] 1 = _ by simp)
  have e3 : (den C (.b1 .list (.idxV 0 (.c (.int 0))))).v s = .ok (.own (few.map PyData.int)) s := b1_e e1 rfl rfl
  have e4 : (den C (.lst [(.idxV 0 (.c (.int 1)))])).v s = .ok (.own [.int ray]) s := lst_e (ds := [.int ray]) (dl_d e2 rfl) (show 1 ≤ 16777216 by decide)
  have e5 : (den C (.bin .Add (.b1 .list (.idxV 0 (.c (.int (0))))) (.lst [(.idxV 0 (.c (.int (1))))]))).v s = .ok (.own ((few ++ [ray]).map PyData.int)) s := bin_e (frz_own e3) (frz_own e4) (by
    rw [b_lsts, if_pos (by simp; omega), List.map_append]
    rfl)
  refine ret_e (Q := fun z => FRof z = FR.ok (.dat (.int (leastOf (few, ray)))) S) (s := s) (v := .dat (.int (leastOf (few, ray)))) (s1 := s) ?_ rfl
  refine idx_e (frz_own e5) (s2 := s) rfl ?_
  show atI ((few ++ [ray]).map PyData.int) 0 = some (.int (few.headD ray))
  cases few <;> simp
def GrownR (ns : List Str) (S : List PyData) (z : SR) : Prop := ∃ rs : List Row, RowsOk ns.length rs ∧ FRof z = FR.ok (.dat (faceD ns rs)) S
theorem law_grown_ok (h : ns.length ≤ 4) (hrs : RowsOk ns.length rs) : ∃ rs', RowsOk ns.length rs' ∧ run (Dlib ++ X) (n + 4) 177 [.dat (faceD ns rs)] S = .ok (.dat (faceD ns rs')) S := by
  rw [r_law_grown]
  unfold I.law_grown
  show GrownR ns S _
  obtain ⟨v, hv, h3⟩ := law_arr (X := X) (n := n + 2) (S := S) h
  have h4 : ∀ p : Row, p.1.length ≤ 1000 → run (Dlib ++ X) (n + 3) 175 [.dat (rowD p)] S = .ok (.dat (.int (leastOf p))) S := fun p hp => law_least_ok p hp
  have h5 : ∀ rs : List Row, rs.length = (arrs ns.length).length → run (Dlib ++ X) (n + 3) 176 [.dat (faceD ns rs)] S = .ok (.dat (optD (openM (letBy ns rs)))) S := fun rs hl => law_open_meet_ok h hl
  generalize run (Dlib ++ X) (n + 3) = C at h3 h4 h5
  have hlen := arrs_len h
  refine st_nx (Q := GrownR ns S) (s1 := ⟨[some (.dat (faceD ns rs)), some (.own []), none, none, none, none, none, none], S⟩) rfl ?_
  let s0 : Stt := ⟨[some (.dat (faceD ns rs)), some (.own []), none, none, none, none, none, none], S⟩
  have t3 : (den C (.call 22 [(.b1 .len (.idxV 0 (.c (.int (0)))))])).v s0 = .ok v s0 := cal (ρ := s0.ρ) (S := S) (vs := [.dat (.int ns.length)]) (dl_d (b1_e (d := tx ns) (idxV_e (C := C) (i := 0) (b := .c (.int 0)) (s := s0) (d := faceD ns rs) rfl rfl rfl (show atI [tx ns, PyData.tuple (rs.map rowD)] 0 = _ by simp)) rfl (by simp)) rfl) h3
  refine set_e (Q := GrownR ns S) t3 (by rcases hv with rfl | rfl <;> exact fun _ z => nomatch z) ?_
  show GrownR ns S (denB C _ ⟨[some (.dat (faceD ns rs)), some (.own []), some v, none, none, none, none, none], S⟩)
  have hz : denI C (.rng1 (.b1 .len (.peek 2))) ⟨[some (.dat (faceD ns rs)), some (.own []), some v, none, none, none, none, none], S⟩ = .ok ((List.range (arrs ns.length).length).map fun (k : Nat) => .int (0 + (k : Nat))) ⟨[some (.dat (faceD ns rs)), some (.own []), some v, none, none, none, none, none], S⟩ := by
    have e1 : (den C (.b1 .len (.peek 2))).v ⟨[some (.dat (faceD ns rs)), some (.own []), some v, none, none, none, none, none], S⟩ = .ok (.dat (.int (arrs ns.length).length)) ⟨[some (.dat (faceD ns rs)), some (.own []), some v, none, none, none, none, none], S⟩ := by
      rcases hv with rfl | rfl
      · exact b1_e (v := .bor ((arrs ns.length).map ti)) (d := .list ((arrs ns.length).map ti)) rfl rfl (by simp)
      · exact b1_e (v := .dat (.list ((arrs ns.length).map ti))) (d := .list ((arrs ns.length).map ti)) rfl rfl (by simp)
    have := rng1_s (C := C) (frz_of e1) (inR_nat (by omega))
    rw [this, Int.toNat_natCast]
    rfl
  -- the first loop
  refine fr_wp (Q := GrownR ns S) hz (fun (l : List Nat) s => ∃ (k : Nat) (u3 : Option Va), l = (List.range (arrs ns.length).length).drop k ∧ s = ⟨[some (.dat (faceD ns rs)), some (.own (((rs.take k).map grow1).map rowD)), some v, u3, none, none, none, none], S⟩) ⟨0, none, rfl, by simp⟩ ?_ ?_
  · rintro x l s ⟨k, u3, hl, rfl⟩
    have hk : k < (arrs ns.length).length := by
      rcases Nat.lt_or_ge k (arrs ns.length).length with z | z
      · exact z
      · rw [List.drop_eq_nil_of_le (by simpa using z)] at hl; cases hl
    have hl2 := hl
    rw [List.drop_eq_getElem_cons (by simpa using hk)] at hl2
    obtain ⟨hx, hl3⟩ := List.cons.inj hl2
    rw [List.getElem_range] at hx
    subst hx
    have hkr : x < rs.length := by rw [hrs.1]; exact hk
    have hxr : rs[x]? = some rs[x] := List.getElem?_eq_getElem hkr
    have hok : RowOk (arrs ns.length)[x] rs[x] := zipP.mp hrs.2 x _ _ (List.getElem?_eq_getElem hk) hxr
    refine ⟨⟨[some (.dat (faceD ns rs)), some (.own (((rs.take x).map grow1).map rowD)), some v, some (.dat (.int (0 + (x : Nat)))), none, none, none, none], S⟩, rfl, ?_⟩
    have tl : (((rs.take x).map grow1).map rowD).length = x := by simp; omega
    have e1 : ∀ Rw : List PyData, (den C (.idx (.idxV 0 (.c (.int (1)))) (.var 3))).v ⟨[some (.dat (faceD ns rs)), some (.own Rw), some v, some (.dat (.int (0 + (x : Nat)))), none, none, none, none], S⟩ = .ok (.dat (rowD rs[x])) ⟨[some (.dat (faceD ns rs)), some (.own Rw), some v, some (.dat (.int (0 + (x : Nat)))), none, none, none, none], S⟩ := fun Rw => by
      refine idx_e (d := .tuple (rs.map rowD)) (d2 := .int (0 + (x : Nat))) (s1 := ⟨[some (.dat (faceD ns rs)), some (.own Rw), some v, some (.dat (.int (0 + (x : Nat)))), none, none, none, none], S⟩) (frz_of (idxV_e (d := faceD ns rs) (d2 := .int 1) rfl rfl rfl (show atI [tx ns, PyData.tuple (rs.map rowD)] 1 = _ by simp))) rfl ?_
      show atI (rs.map rowD) (0 + (x : Nat)) = _
      rw [atI_map, atI_get hxr]
      rfl
    have e2 := app_e (C := C) (i := 1) (ys := ((rs.take x).map grow1).map rowD) (xs := ((rs.take x).map grow1).map rowD) rfl (frz_of (e1 _)) rfl (by rw [tl]; omega)
    refine expr_e (Q := fun z => W1 z _ _) e2 ?_
    show W1 (denB C _ ⟨[some (.dat (faceD ns rs)), some (.own (((rs.take x).map grow1).map rowD ++ [rowD rs[x]])), some v, some (.dat (.int (0 + (x : Nat)))), none, none, none, none], S⟩) _ _
    have e3 : (den C (.cmp .NotEq (.idx (.idxV 0 (.c (.int (1)))) (.var 3)) (.tup [(.tup []), (.c (.int (0)))]))).t ⟨[some (.dat (faceD ns rs)), some (.own (((rs.take x).map grow1).map rowD ++ [rowD rs[x]])), some v, some (.dat (.int (0 + (x : Nat)))), none, none, none, none], S⟩ = .ok (!decide (rs[x] = ([], 0))) ⟨[some (.dat (faceD ns rs)), some (.own (((rs.take x).map grow1).map rowD ++ [rowD rs[x]])), some v, some (.dat (.int (0 + (x : Nat)))), none, none, none, none], S⟩ :=
      cmp_t (frz_of (e1 _)) (v := .dat (rowD ([], 0))) rfl rfl (c_neR _ _)
    have nxt : l = (List.range (arrs ns.length).length).drop (x + 1) := hl3
    have tk : (rs.take (x + 1)).map grow1 = (rs.take x).map grow1 ++ [grow1 rs[x]] := by rw [List.take_add_one, hxr, List.map_append]; rfl
    by_cases hz0 : rs[x] = ([], 0)
    · rw [decide_eq_true hz0] at e3
      refine if_f0 (Q := fun z => W1 z _ _) e3 ⟨x + 1, some (.dat (.int (0 + (x : Nat)))), nxt, ?_⟩
      rw [tk, List.map_append]
      have : grow1 rs[x] = rs[x] := if_pos hz0
      rw [this]
      rfl
    · rw [decide_eq_false hz0] at e3
      have e4 : (den C (.call 175 [(.idx (.idxV 0 (.c (.int (1)))) (.var 3))])).v ⟨[some (.dat (faceD ns rs)), some (.own (((rs.take x).map grow1).map rowD ++ [rowD rs[x]])), some v, some (.dat (.int (0 + (x : Nat)))), none, none, none, none], S⟩ = .ok (.dat (.int (leastOf rs[x]))) ⟨[some (.dat (faceD ns rs)), some (.own (((rs.take x).map grow1).map rowD ++ [rowD rs[x]])), some v, some (.dat (.int (0 + (x : Nat)))), none, none, none, none], S⟩ := cal (S := S) (dl_d (e1 _) rfl) (h4 _ (by have := hok.1; omega))
      have e5 : (den C (.tup [(.tup []), (.call 175 [(.idx (.idxV 0 (.c (.int (1)))) (.var 3))])])).v ⟨[some (.dat (faceD ns rs)), some (.own (((rs.take x).map grow1).map rowD ++ [rowD rs[x]])), some v, some (.dat (.int (0 + (x : Nat)))), none, none, none, none], S⟩ = .ok (.dat (rowD ([], leastOf rs[x]))) ⟨[some (.dat (faceD ns rs)), some (.own (((rs.take x).map grow1).map rowD ++ [rowD rs[x]])), some v, some (.dat (.int (0 + (x : Nat)))), none, none, none, none], S⟩ :=
        tup_e (ds := [ti [], .int (leastOf rs[x])]) (dl_d (d := ti []) (s1 := ⟨[some (.dat (faceD ns rs)), some (.own (((rs.take x).map grow1).map rowD ++ [rowD rs[x]])), some v, some (.dat (.int (0 + (x : Nat)))), none, none, none, none], S⟩) rfl (dl_d e4 rfl)) (show 2 ≤ 16777216 by decide)
      have e6 := sto_e (C := C) (i := 1) (j := x) (ei := .var 3) (v := .own (((rs.take x).map grow1).map rowD ++ [rowD rs[x]])) (k := 0 + (x : Nat)) (xs := ((rs.take x).map grow1).map rowD ++ [rowD rs[x]]) rfl (frz_of e5) (s2 := ⟨[some (.dat (faceD ns rs)), some (.own (((rs.take x).map grow1).map rowD ++ [rowD rs[x]])), some v, some (.dat (.int (0 + (x : Nat)))), none, none, none, none], S⟩) rfl rfl (by
        unfold ixN
        rw [if_pos (by omega), if_pos (by rw [List.length_append, tl]; simp; omega), Int.zero_add, Int.toNat_natCast])
      refine if_tn (Q := fun z => W1 z _ _) e3 (st_nx (Q := fun z => z = _) e6 rfl) ⟨x + 1, some (.dat (.int (0 + (x : Nat)))), nxt, ?_⟩
      rw [tk, List.map_append]
      have : grow1 rs[x] = ([], leastOf rs[x]) := if_neg hz0
      rw [this]
      have es : (((rs.take x).map grow1).map rowD ++ [rowD rs[x]]).set x (rowD ([], leastOf rs[x])) = ((rs.take x).map grow1).map rowD ++ [rowD ([], leastOf rs[x])] := by
        rw [List.set_append_right _ _ (by rw [tl]; exact Nat.le_refl _), tl, Nat.sub_self]
        rfl
      show (⟨[some (.dat (faceD ns rs)), some (.own ((((rs.take x).map grow1).map rowD ++ [rowD rs[x]]).set x (rowD ([], leastOf rs[x])))), some v, some (.dat (.int (0 + (x : Nat)))), none, none, none, none], S⟩ : Stt) = _
      rw [es]
      rfl
  · rintro s ⟨k, u3, hk, rfl⟩
    have hk2 : (arrs ns.length).length ≤ k := by
      have := congrArg List.length hk
      simp at this
      omega
    rw [List.take_of_length_le (by rw [hrs.1]; exact hk2)]
    have hg : RowsOk ns.length (rs.map grow1) := by
      refine ⟨by rw [List.length_map]; exact hrs.1, zipP.mpr fun k a p h1 h2 => ?_⟩
      rw [List.getElem?_map] at h2
      obtain ⟨q, h6, rfl⟩ := Option.map_eq_some_iff.mp h2
      exact grow1_ok (zipP.mp hrs.2 k a q h1 h6)
    generalize rs.map grow1 = rs1 at hg
    have hz2 : denI C (.rng1 (.c (.int (15)))) ⟨[some (.dat (faceD ns rs)), some (.own (rs1.map rowD)), some v, u3, none, none, none, none], S⟩ = .ok ((List.range 15).map fun (k : Nat) => .int (0 + (k : Nat))) ⟨[some (.dat (faceD ns rs)), some (.own (rs1.map rowD)), some v, u3, none, none, none, none], S⟩ := by
      have := rng1_s (C := C) (a := .c (.int 15)) (j := 15) (s := ⟨[some (.dat (faceD ns rs)), some (.own (rs1.map rowD)), some v, u3, none, none, none, none], S⟩) rfl (inR_small (by omega) (by omega))
      rw [this]
      rfl
    refine fr_wp (Q := GrownR ns S) hz2 (fun (l : List Nat) s => ∃ (rs2 : List Row) (u4 u5 : Option Va), RowsOk ns.length rs2 ∧ s = ⟨[some (.dat (faceD ns rs)), some (.own (rs2.map rowD)), some v, u3, u4, u5, none, none], S⟩) ⟨rs1, none, none, hg, rfl⟩ ?_ ?_
    · rintro x l s ⟨rs2, u4, u5, hg2, rfl⟩
      refine ⟨⟨[some (.dat (faceD ns rs)), some (.own (rs2.map rowD)), some v, u3, some (.dat (.int (0 + (x : Nat)))), u5, none, none], S⟩, rfl, ?_⟩
      have h6 := h5 rs2 hg2.1
      let s1 : Stt := ⟨[some (.dat (faceD ns rs)), some (.own (rs2.map rowD)), some v, u3, some (.dat (.int (0 + (x : Nat)))), u5, none, none], S⟩
      have e1 : (den C (.tup [(.idxV 0 (.c (.int (0)))), (.b1 .tuple (.peek 1))])).v s1 = .ok (.dat (faceD ns rs2)) s1 :=
        tup_e (ds := [tx ns, .tuple (rs2.map rowD)]) (dl_d (idxV_e (d := faceD ns rs) (d2 := .int 0) (s := s1) rfl rfl rfl (show atI [tx ns, PyData.tuple (rs.map rowD)] 0 = _ by simp)) (dl_d (b1_e (v := .bor (rs2.map rowD)) (d := .list (rs2.map rowD)) (s1 := s1) rfl rfl rfl) rfl)) (show 2 ≤ 16777216 by decide)
      have e2 : (den C (.call 176 [(.tup [(.idxV 0 (.c (.int (0)))), (.b1 .tuple (.peek 1))])])).v s1 = .ok (.dat (optD (openM (letBy ns rs2)))) s1 := cal (S := S) (dl_d e1 rfl) h6
      refine set_d (Q := fun z => W1 z _ _) e2 ?_
      cases ho : openM (letBy ns rs2) with
      | none =>
        show W1 (denB C _ ⟨[some (.dat (faceD ns rs)), some (.own (rs2.map rowD)), some v, u3, some (.dat (.int (0 + (x : Nat)))), some (.dat .none), none, none], S⟩) _ _
        exact if_f0 (Q := fun z => W1 z _ _) (s1 := ⟨[some (.dat (faceD ns rs)), some (.own (rs2.map rowD)), some v, u3, some (.dat (.int (0 + (x : Nat)))), some (.dat .none), none, none], S⟩) rfl ⟨rs2, _, _, hg2, rfl⟩
      | some low =>
        have hlow := openM_mem h ho
        obtain ⟨j, hj1, hj2⟩ := firstAt_map eqv_ti low (arrs ns.length) 0 hlow
        rw [Nat.zero_add] at hj1
        have hjl : j < (arrs ns.length).length := by
          rcases Nat.lt_or_ge j (arrs ns.length).length with z | z
          · exact z
          · rw [List.getElem?_eq_none z] at hj2; cases hj2
        show W1 (denB C _ ⟨[some (.dat (faceD ns rs)), some (.own (rs2.map rowD)), some v, u3, some (.dat (.int (0 + (x : Nat)))), some (.dat (ti low)), none, none], S⟩) _ _
        have hal : low.length ≤ 4 := by rw [arr_len h hlow]; exact h
        let s2 : Stt := ⟨[some (.dat (faceD ns rs)), some (.own (rs2.map rowD)), some v, u3, some (.dat (.int (0 + (x : Nat)))), some (.dat (ti low)), none, none], S⟩
        have e3 : (den C (.lc (.of (.var 5)) (.n 7) none [6, 7] (.bin .Add (.var 7) (.c (.int (1)))))).v s2 = .ok (.own ((low.filter fun _ => true).map fun i => .int (i + 1))) s2 := lc_map (C := C) (g := PyData.int) (k := fun _ => true) (f := fun i => PyData.int (i + 1)) (of_t rfl) rfl (by omega) (fun i hi => by
          refine ⟨[some (.dat (faceD ns rs)), some (.own (rs2.map rowD)), some v, u3, some (.dat (.int (0 + (x : Nat)))), some (.dat (ti low)), none, some (.dat (.int i))], rfl, ⟨rfl, fun j hj => ?_⟩, rfl, fun _ => rfl⟩
          match j, hj with
          | 0, _ | 1, _ | 2, _ | 3, _ | 4, _ | 5, _ => rfl
          | 6, hj => simp at hj
          | 7, hj => simp at hj
          | j + 8, _ => rfl)
        have e3' : (low.filter fun _ => true).map (fun i => PyData.int (i + 1)) = (low.map fun i => i + 1).map PyData.int := by
          rw [List.filter_eq_self.mpr (fun _ _ => rfl), List.map_map]
          rfl
        rw [e3'] at e3
        have e4 : (den C (.bin .Add (.lst [(.c (.int (1)))]) (.lc (.of (.var 5)) (.n 7) none [6, 7] (.bin .Add (.var 7) (.c (.int (1))))))).v s2 = .ok (.own ((1 :: low.map fun i => i + 1).map PyData.int)) s2 :=
          bin_e (d := .list [.int 1]) (d2 := .list ((low.map fun i => i + 1).map PyData.int)) (s1 := s2) (frz_own (lst_e (ds := [.int 1]) (dl_d (s1 := s2) rfl rfl) (by decide))) (frz_own e3) (by
            rw [b_lsts, if_pos (by simp; omega)]
            rfl)
        have e5 : (den C (.b1 .max (.bin .Add (.lst [(.c (.int (1)))]) (.lc (.of (.var 5)) (.n 7) none [6, 7] (.bin .Add (.var 7) (.c (.int (1)))))))).v s2 = .ok (.dat (.int (mx low))) s2 := b1_e e4 rfl (by
          show (intsOf ((1 :: low.map fun i => i + 1).map PyData.int)).bind _ = _
          rw [intsOf_map]
          rfl)
        have e6 : (den C (.tup [(.tup []), (.b1 .max (.bin .Add (.lst [(.c (.int (1)))]) (.lc (.of (.var 5)) (.n 7) none [6, 7] (.bin .Add (.var 7) (.c (.int (1)))))))])).v s2 = .ok (.dat (rowD ([], mx low))) s2 :=
          tup_e (ds := [ti [], .int (mx low)]) (dl_d (d := ti []) (s1 := s2) rfl (dl_d e5 rfl)) (show 2 ≤ 16777216 by decide)
        have e7 : (den C (.index 2 (.var 5))).v s2 = .ok (.dat (.int (j : Int))) s2 := by
          have hd1 : PyData.depthAll ((arrs ns.length).map ti) ≤ 63 := Nat.le_trans (depthAll_le (k := 1) depth_ti _) (by decide)
          have hd2 : (ti low).depth ≤ 64 := Nat.le_trans (depth_ti low) (by decide)
          rcases hv with rfl | rfl
          · exact index_e (xs := (arrs ns.length).map ti) (s1 := s2) rfl (frz_of rfl) rfl hd1 hd2 hj1
          · exact index_e (xs := (arrs ns.length).map ti) (s1 := s2) rfl (frz_of rfl) rfl hd1 hd2 hj1
        have e8 := sto_e (C := C) (i := 1) (j := j) (ei := .index 2 (.var 5)) (v := .own (rs2.map rowD)) (k := (j : Int)) (xs := rs2.map rowD) rfl (frz_of e6) (frz_of e7) rfl (by
          unfold ixN
          rw [if_pos (by omega), if_pos (by rw [List.length_map, hg2.1]; omega), Int.toNat_natCast])
        refine if_tn (Q := fun z => W1 z _ _) (s1 := s2) rfl (st_nx (Q := fun z => z = _) e8 rfl) ⟨rs2.set j ([], mx low), some (.dat (.int (0 + (x : Nat)))), some (.dat (ti low)), hg2.set hj2 (mx_ok h hlow), ?_⟩
        show (⟨[some (.dat (faceD ns rs)), some (.own ((rs2.map rowD).set j (rowD ([], mx low)))), some v, u3, some (.dat (.int (0 + (x : Nat)))), some (.dat (ti low)), none, none], S⟩ : Stt) = _
        have e9 : (rs2.map rowD).set j (rowD ([], mx low)) = (rs2.set j ([], mx low)).map rowD := by rw [List.map_set]
        rw [e9]
    · rintro s ⟨rs2, u4, u5, hg2, rfl⟩
      refine ⟨rs2, hg2, ?_⟩
      let s1 : Stt := ⟨[some (.dat (faceD ns rs)), some (.own (rs2.map rowD)), some v, u3, u4, u5, none, none], S⟩
      have e1 : (den C (.tup [(.idxV 0 (.c (.int (0)))), (.b1 .tuple (.peek 1))])).v s1 = .ok (.dat (faceD ns rs2)) s1 :=
        tup_e (ds := [tx ns, .tuple (rs2.map rowD)]) (dl_d (idxV_e (d := faceD ns rs) (d2 := .int 0) (s := s1) rfl rfl rfl (show atI [tx ns, PyData.tuple (rs.map rowD)] 0 = _ by simp)) (dl_d (b1_e (v := .bor (rs2.map rowD)) (d := .list (rs2.map rowD)) (s1 := s1) rfl rfl rfl) rfl)) (show 2 ≤ 16777216 by decide)
      exact ret_e (Q := fun z => FRof z = FR.ok (.dat (faceD ns rs2)) S) e1 rfl
end
end Lib

namespace Lib
open PySem PySem.Spec PyProof.Rows L2 Ev
/-! # fit faces; what is no face -/
def bv (w : Str) : Exn := ⟨Str.ofString "BadValue", [("what", .str w)]⟩
theorem expr_x {C : Nat → Fn} {e : Ex} {r : List Sx} {s s1 : Stt} {x : Exn} (h : (den C e).v s = .exc x s1) : denB C (.expr e :: r) s = .exc x s1 := by
  have e1 : denS C (.expr e) s = .exc x s1 := by
    show ((den C e).v s).toS _ = _
    rw [h]; rfl
  rw [denB_cons, e1]
  rfl
def isNoneD : PyData → Bool
  | .none => true
  | _ => false
theorem c_isD (a : PyData) : cmpD .Is a .none = some (isNoneD a) := rfl
theorem isN_opt (o : Option (List Int)) : isNoneD (optD o) = o.isNone := by cases o <;> rfl
theorem isN_bd (o : Option (List Int × Row)) : isNoneD (boundD o) = o.isNone := by cases o <;> rfl
section
variable {X : Dt} {n : Nat} {S : List PyData} {ns : List Str} {rs : List Row}
theorem is_closed_ok (G : GoodF ns rs) : run (Dlib ++ X) (n + 6) 180 [.dat (faceD ns rs)] S = .ok (.dat (.bool (openM (letBy ns rs)).isNone)) S := by
  rw [r_is_closed]
  unfold I.is_closed
  have h1 := check_face_ok (X := X) (n := n) (S := S) G
  have h2 := open_meet_ok (X := X) (n := n + 1) (S := S) (rs := rs) G.few
  generalize run (Dlib ++ X) (n + 5) = C at h1 h2
  refine expr_e (Q := fun z => FRof z = _) (s := ⟨[some (.dat (faceD ns rs))], S⟩) (cal (S := S) rfl h1) ?_
  refine ret_e (Q := fun z => FRof z = _) (cmp_v (frz_of (cal (S := S) rfl h2)) rfl rfl (c_isD _)) ?_
  rw [isN_opt]
  rfl
theorem always_grows_ok (G : GoodF ns rs) : run (Dlib ++ X) (n + 6) 181 [.dat (faceD ns rs)] S = .ok (.dat (.bool (boundM ns rs).isNone)) S := by
  rw [r_always_grows]
  unfold I.always_grows
  have h1 := check_face_ok (X := X) (n := n) (S := S) G
  have h2 := bounded_row_ok (X := X) (n := n + 2) (S := S) (rs := rs) G.few
  generalize run (Dlib ++ X) (n + 5) = C at h1 h2
  refine expr_e (Q := fun z => FRof z = _) (s := ⟨[some (.dat (faceD ns rs))], S⟩) (cal (S := S) rfl h1) ?_
  refine ret_e (Q := fun z => FRof z = _) (cmp_v (frz_of (cal (S := S) rfl h2)) rfl rfl (c_isD _)) ?_
  rw [isN_bd]
  rfl
theorem is_fit_ok (G : GoodF ns rs) : run (Dlib ++ X) (n + 6) 182 [.dat (faceD ns rs)] S = .ok (.dat (.bool ((openM (letBy ns rs)).isNone && (boundM ns rs).isNone))) S := by
  rw [r_is_fit]
  unfold I.is_fit
  have h1 := check_face_ok (X := X) (n := n) (S := S) G
  have h2 := open_meet_ok (X := X) (n := n + 1) (S := S) (rs := rs) G.few
  have h3 := bounded_row_ok (X := X) (n := n + 2) (S := S) (rs := rs) G.few
  generalize run (Dlib ++ X) (n + 5) = C at h1 h2 h3
  refine expr_e (Q := fun z => FRof z = _) (s := ⟨[some (.dat (faceD ns rs))], S⟩) (cal (S := S) rfl h1) ?_
  have e1 : (den C (.cmp .Is (.call 178 [(.var 0)]) (.c .none))).v ⟨[some (.dat (faceD ns rs))], S⟩ = .ok (.dat (.bool (openM (letBy ns rs)).isNone)) ⟨[some (.dat (faceD ns rs))], S⟩ := by
    rw [← isN_opt]
    exact cmp_v (frz_of (cal (S := S) rfl h2)) rfl rfl (c_isD _)
  have e2 : (den C (.cmp .Is (.call 179 [(.var 0)]) (.c .none))).v ⟨[some (.dat (faceD ns rs))], S⟩ = .ok (.dat (.bool (boundM ns rs).isNone)) ⟨[some (.dat (faceD ns rs))], S⟩ := by
    rw [← isN_bd]
    exact cmp_v (frz_of (cal (S := S) rfl h3)) rfl rfl (c_isD _)
  refine ret_e (Q := fun z => FRof z = _) (and_v e1 e2) ?_
  rfl
/-! no faces -/
theorem fit_no {d : PyData} (h : run (Dlib ++ X) (n + 4) 61 [.dat d] S = .ok (.dat (.bool false)) S) :
    run (Dlib ++ X) (n + 6) 180 [.dat d] S = .exc (bv (Str.ofString "face")) S ∧ run (Dlib ++ X) (n + 6) 181 [.dat d] S = .exc (bv (Str.ofString "face")) S ∧ run (Dlib ++ X) (n + 6) 182 [.dat d] S = .exc (bv (Str.ofString "face")) S := by
  have h1 := check_face_no h
  rw [r_is_closed, r_always_grows, r_is_fit]
  unfold I.is_closed I.always_grows I.is_fit
  generalize run (Dlib ++ X) (n + 5) = C at h1
  refine ⟨?_, ?_, ?_⟩
  all_goals
    rw [expr_x (cal_x (S := S) rfl h1)]
    rfl
theorem no_pair (d : PyData) (h : run (Dlib ++ X) (n + 3) 25 [.dat d] S = .ok (.dat (.bool false)) S) : run (Dlib ++ X) (n + 4) 61 [.dat d] S = .ok (.dat (.bool false)) S := by
  rw [r_is_face]
  unfold I.is_face
  generalize run (Dlib ++ X) (n + 3) = C at h
  exact if_rt (Q := fun z => FRof z = _) (or_t (not_t (cal_t (S := S) rfl h))) rfl rfl
theorem no_face_none : run (Dlib ++ X) (n + 4) 61 [.dat .none] S = .ok (.dat (.bool false)) S := no_pair _ (by rw [r_is_pair]; rfl)
theorem no_face_one (d : PyData) : run (Dlib ++ X) (n + 4) 61 [.dat (.tuple [d])] S = .ok (.dat (.bool false)) S := no_pair _ (is_pair_tup [d])
/-- names that are none -/
theorem no_face_names {ms : List Str} (hm : ∀ x ∈ ms, NameOk x) (hr : risL strLt ms = false) (d : PyData) : run (Dlib ++ X) (n + 4) 61 [.dat (.tuple [tx ms, d])] S = .ok (.dat (.bool false)) S := by
  rw [r_is_face]
  unfold I.is_face
  have h1 : run (Dlib ++ X) (n + 3) 25 [.dat (.tuple [tx ms, d])] S = .ok (.dat (.bool true)) S := is_pair_tup [tx ms, d]
  have h2 := is_name_row_ok (X := X) (n := n + 1) (S := S) ms 4 (by omega) hm
  rw [hr, Bool.and_false] at h2
  generalize run (Dlib ++ X) (n + 3) = C at h1 h2
  let s0 : Stt := ⟨[some (.dat (.tuple [tx ms, d])), none, none, none], S⟩
  have t1 : (den C (.call 25 [.var 0])).t s0 = .ok true s0 := cal_t rfl h1
  have t2 : (den C (.call 50 [(.idxV 0 (.c (.int (0)))), (.c (.int (4)))])).t s0 = .ok false s0 := cal_t rfl h2
  exact if_rt (Q := fun z => FRof z = _) (s1 := s0) (or_f (not_t t1) (or_t (not_t t2))) rfl rfl
/-- too few rows, too many -/
theorem no_face_len (h4 : ns.length ≤ 4) (hn : ∀ x ∈ ns, NameOk x) (hr : risL strLt ns = true) (ds : List PyData) (hl : ds.length ≠ (arrs ns.length).length) : run (Dlib ++ X) (n + 4) 61 [.dat (.tuple [tx ns, .tuple ds])] S = .ok (.dat (.bool false)) S := by
  rw [r_is_face]
  unfold I.is_face
  have h1 : run (Dlib ++ X) (n + 3) 25 [.dat (.tuple [tx ns, .tuple ds])] S = .ok (.dat (.bool true)) S := is_pair_tup [tx ns, .tuple ds]
  have h2 := is_name_row_ok (X := X) (n := n + 1) (S := S) ns 4 (by omega) hn
  rw [decide_eq_true h4, hr] at h2
  have h3 := all_arr (X := X) (n := n + 1) (S := S) h4
  generalize run (Dlib ++ X) (n + 3) = C at h1 h2 h3
  let s0 : Stt := ⟨[some (.dat (.tuple [tx ns, .tuple ds])), none, none, none], S⟩
  have t1 : (den C (.call 25 [.var 0])).t s0 = .ok true s0 := cal_t rfl h1
  have t2 : (den C (.call 50 [(.idxV 0 (.c (.int (0)))), (.c (.int (4)))])).t s0 = .ok true s0 := cal_t rfl h2
  refine if_f0 (Q := fun z => FRof z = _) (s1 := s0) (or_f (not_t t1) (or_f (not_t t2) rfl)) ?_
  have t3 : (den C (.call 5 [(.b1 .len (.idxV 0 (.c (.int (0)))))])).v s0 = .ok (.dat (.tuple ((arrs ns.length).map ti))) s0 := cal (ρ := s0.ρ) (S := S) (vs := [.dat (.int ns.length)]) (by show denL C _ ⟨_, _⟩ = _; simp only [denL, den]; simp; rfl) h3
  refine set_d (Q := fun z => FRof z = _) t3 ?_
  let s1 : Stt := ⟨[some (.dat (.tuple [tx ns, .tuple ds])), some (.dat (.tuple ((arrs ns.length).map ti))), none, none], S⟩
  refine if_rt (Q := fun z => FRof z = _) (s1 := s1) (v := .dat (.bool false)) (s2 := s1) ?_ rfl rfl
  show (den C _).t ⟨_, _⟩ = Res.ok true ⟨_, _⟩
  have : ¬ (((arrs ns.length).length : Int) = (ds.length : Int)) := fun z => hl (by omega)
  simp only [den]
  simp [this]
end
end Lib

namespace Lib
open PySem PySem.Spec PyProof.Rows L2 Ev
/-! # faces that pass on: the plain side -/
/-- k is as fine as r -/
def rfs (k r : List Int) : Bool := decide (mt r k = k)
def triAll (P : List Int → List Int → List Int → Bool) : Bool := upto4.all fun c => (arrs c).all fun a => (arrs c).all fun b => (arrs c).all fun d => P a b d
theorem triAll_at {P : List Int → List Int → List Int → Bool} (h : triAll P = true) {c : Nat} (hc : c ≤ 4) {a b d : List Int} (ha : a ∈ arrs c) (hb : b ∈ arrs c) (hd : d ∈ arrs c) : P a b d = true := by
  unfold triAll at h
  exact List.all_eq_true.mp (List.all_eq_true.mp (List.all_eq_true.mp (List.all_eq_true.mp h c (mem_upto hc)) a ha) b hb) d hd
def pwAll (P : List Int → List Int → Bool) : Bool := upto4.all fun c => (arrs c).all fun a => (arrs c).all fun b => P a b
theorem pwAll_at {P : List Int → List Int → Bool} (h : pwAll P = true) {c : Nat} (hc : c ≤ 4) {a b : List Int} (ha : a ∈ arrs c) (hb : b ∈ arrs c) : P a b = true := by
  unfold pwAll at h
  exact List.all_eq_true.mp (List.all_eq_true.mp (List.all_eq_true.mp h c (mem_upto hc)) a ha) b hb
theorem rfs_glb0 : triAll (fun k a b => !(rfs k a && rfs k b) || rfs k (mt a b)) = true := by kernel_rfl
theorem rfs_trans0 : triAll (fun k a b => !(rfs k a && rfs a b) || rfs k b) = true := by kernel_rfl
theorem rfs_low0 : pwAll (fun a b => rfs (mt a b) a && rfs (mt a b) b) = true := by kernel_rfl
theorem rfs_ct0 : pwAll (fun k t => !rfs k t || decide (t = k) || decide (ctot t < ctot k)) = true := by kernel_rfl
theorem rfs_self0 : pwAll (fun k _ => rfs k k) = true := by kernel_rfl
section
variable {c : Nat}
theorem rfs_glb (hc : c ≤ 4) {k a b : List Int} (hk : k ∈ arrs c) (ha : a ∈ arrs c) (hb : b ∈ arrs c) (h1 : rfs k a = true) (h2 : rfs k b = true) : rfs k (mt a b) = true := by
  have := triAll_at rfs_glb0 hc hk ha hb
  rw [h1, h2] at this
  simpa using this
theorem rfs_trans (hc : c ≤ 4) {k a b : List Int} (hk : k ∈ arrs c) (ha : a ∈ arrs c) (hb : b ∈ arrs c) (h1 : rfs k a = true) (h2 : rfs a b = true) : rfs k b = true := by
  have := triAll_at rfs_trans0 hc hk ha hb
  rw [h1, h2] at this
  simpa using this
theorem rfs_low (hc : c ≤ 4) {a b : List Int} (ha : a ∈ arrs c) (hb : b ∈ arrs c) : rfs (mt a b) a = true ∧ rfs (mt a b) b = true := by
  have := pwAll_at rfs_low0 hc ha hb
  rw [Bool.and_eq_true] at this
  exact this
theorem rfs_ct (hc : c ≤ 4) {k t : List Int} (hk : k ∈ arrs c) (ht : t ∈ arrs c) (h : rfs k t = true) (hn : t ≠ k) : ctot t < ctot k := by
  have := pwAll_at rfs_ct0 hc hk ht
  rw [h, decide_eq_false hn] at this
  simpa using this
theorem rfs_self (hc : c ≤ 4) {k : List Int} (hk : k ∈ arrs c) : rfs k k = true := pwAll_at rfs_self0 hc hk hk
/-- the meet of what is let and as coarse as k -/
def foldM : Option (List Int) → List (List Int) → Option (List Int)
  | o, [] => o
  | none, r :: l => foldM (some r) l
  | some f, r :: l => foldM (some (mt f r)) l
def told (lets : List (List Int)) (k : List Int) : Option (List Int) := foldM none (lets.filter (rfs k))
theorem foldM_some {f : List Int} : ∀ l : List (List Int), ∃ t, foldM (some f) l = some t
  | [] => ⟨f, rfl⟩
  | _ :: l => foldM_some l
/-- what a fold gives: a greatest lower bound -/
theorem foldM_at (hc : c ≤ 4) : ∀ (l : List (List Int)) (f t : List Int), f ∈ arrs c → (∀ r ∈ l, r ∈ arrs c) → foldM (some f) l = some t →
    t ∈ arrs c ∧ rfs t f = true ∧ (∀ r ∈ l, rfs t r = true) ∧ ∀ k ∈ arrs c, rfs k f = true → (∀ r ∈ l, rfs k r = true) → rfs k t = true
  | [], f, t, hf, _, e => by
    cases e
    exact ⟨hf, rfs_self hc hf, (fun r h => nomatch h), fun k _ h _ => h⟩
  | r :: l, f, t, hf, hl, e => by
    have hr := hl r (List.mem_cons_self ..)
    have hm := mt_mem hc hf hr
    obtain ⟨h1, h2, h3, h4⟩ := foldM_at hc l (mt f r) t hm (fun x hx => hl x (List.mem_cons_of_mem _ hx)) e
    obtain ⟨l1, l2⟩ := rfs_low hc hf hr
    refine ⟨h1, rfs_trans hc h1 hm hf h2 l1, fun x hx => ?_, fun k hk k1 k2 => h4 k hk (rfs_glb hc hk hf hr k1 (k2 r (List.mem_cons_self ..))) fun x hx => k2 x (List.mem_cons_of_mem _ hx)⟩
    rcases List.mem_cons.mp hx with rfl | hx
    · exact rfs_trans hc h1 hm hr h2 l2
    · exact h3 x hx
theorem told_at (hc : c ≤ 4) {lets : List (List Int)} (hl : ∀ r ∈ lets, r ∈ arrs c) {k t : List Int} (hk : k ∈ arrs c) (e : told lets k = some t) :
    t ∈ arrs c ∧ rfs k t = true ∧ (∀ r ∈ lets, rfs k r = true → rfs t r = true) ∧ ∀ x ∈ arrs c, (∀ r ∈ lets, rfs k r = true → rfs x r = true) → rfs x t = true := by
  unfold told at e
  cases h : lets.filter (rfs k) with
  | nil => rw [h] at e; cases e
  | cons r l =>
    rw [h] at e
    have hm : ∀ x ∈ r :: l, x ∈ lets ∧ rfs k x = true := fun x hx => by rw [← h] at hx; exact List.mem_filter.mp hx
    have hr := hm r (List.mem_cons_self ..)
    obtain ⟨h1, h2, h3, h4⟩ := foldM_at hc l r t (hl r hr.1) (fun x hx => hl x (hm x (List.mem_cons_of_mem _ hx)).1) e
    have low : ∀ x ∈ r :: l, rfs t x = true := fun x hx => by
      rcases List.mem_cons.mp hx with rfl | hx
      · exact h2
      · exact h3 x hx
    refine ⟨h1, h4 k hk hr.2 fun x hx => (hm x (List.mem_cons_of_mem _ hx)).2, fun x hx hkx => low x ?_, fun x hx hq => h4 x hx (hq r hr.1 hr.2) fun y hy => hq y (hm y (List.mem_cons_of_mem _ hy)).1 (hm y (List.mem_cons_of_mem _ hy)).2⟩
    rw [← h]
    exact List.mem_filter.mpr ⟨hx, hkx⟩
/-- what k is told is as fine as what a coarser one is told -/
theorem told_mono (hc : c ≤ 4) {lets : List (List Int)} (hl : ∀ r ∈ lets, r ∈ arrs c) {k x t : List Int} (hk : k ∈ arrs c) (hx : x ∈ arrs c) (hkx : rfs k x = true) (e : told lets x = some t) : ∃ u, told lets k = some u ∧ rfs u t = true := by
  have hne : ∃ r ∈ lets, rfs x r = true := by
    unfold told at e
    cases h : lets.filter (rfs x) with
    | nil => rw [h] at e; cases e
    | cons r l =>
      have : r ∈ lets.filter (rfs x) := by rw [h]; exact List.mem_cons_self ..
      exact ⟨r, (List.mem_filter.mp this).1, (List.mem_filter.mp this).2⟩
  obtain ⟨r0, hr0, hx0⟩ := hne
  have hk0 : rfs k r0 = true := rfs_trans hc hk hx (hl _ hr0) hkx hx0
  obtain ⟨u, hu⟩ : ∃ u, told lets k = some u := by
    unfold told
    cases h : lets.filter (rfs k) with
    | nil =>
      have : r0 ∈ lets.filter (rfs k) := List.mem_filter.mpr ⟨hr0, hk0⟩
      rw [h] at this
      cases this
    | cons r l => exact foldM_some l
  refine ⟨u, hu, ?_⟩
  obtain ⟨u1, u2, u3, u4⟩ := told_at hc hl hk hu
  exact (told_at hc hl hx e).2.2.2 u u1 fun r hr hxr => u3 r hr (rfs_trans hc hk hx (hl _ hr) hkx hxr)
end
/-! the exchange -/
abbrev Steps := List (Nat × List Int)
def goX (Ls : List (List (List Int))) : Nat → Nat → List Int → Steps → Nat → Option (Bool × Steps)
  | 0, _, _, _, _ => none
  | f + 1, t, k, st, q => if q < Ls.length then (match told (Ls.getD (t % Ls.length) []) k with
      | none => some (false, st)
      | some u => if u ≠ k then goX Ls f (t + 1) u (st ++ [(t % Ls.length, u)]) 0 else goX Ls f (t + 1) k st (q + 1)) else some (true, st)
def k0 (c : Nat) : List Int := (List.range c).map fun (i : Nat) => (i : Int)
theorem k0_mem {c : Nat} (h : c ≤ 4) : k0 c ∈ arrs c ∧ ctot (k0 c) = c := by
  have key : ∀ c ∈ upto4, k0 c ∈ arrs c ∧ ctot (k0 c) = (c : Int) := by decide +kernel
  exact key c (mem_upto h)
section
variable {c : Nat} {Ls : List (List (List Int))}
def AllIn (c : Nat) (Ls : List (List (List Int))) : Prop := ∀ L ∈ Ls, ∀ r ∈ L, r ∈ arrs c
theorem AllIn.at {i : Nat} (h : AllIn c Ls) : ∀ r ∈ Ls.getD i [], r ∈ arrs c := by
  rw [List.getD_eq_getElem?_getD]
  cases e : Ls[i]? with
  | none => exact fun r h => nomatch h
  | some L => exact h L (List.mem_of_getElem? e)
theorem goX_ends (hc : c ≤ 4) (h : AllIn c Ls) : ∀ (f t : Nat) (k : List Int) (st : Steps) (q : Nat), k ∈ arrs c → q ≤ Ls.length → (ctot k).toNat * Ls.length + (Ls.length - q) < f → ∃ r, goX Ls f t k st q = some r
  | 0, _, _, _, _, _, _, hf => absurd hf (Nat.not_lt_zero _)
  | f + 1, t, k, st, q, hk, hq, hf => by
    unfold goX
    by_cases hlt : q < Ls.length
    · rw [if_pos hlt]
      cases e : told (Ls.getD (t % Ls.length) []) k with
      | none => exact ⟨_, rfl⟩
      | some u =>
        obtain ⟨u1, u2, _⟩ := told_at hc h.at hk e
        show ∃ r, (if u ≠ k then _ else _) = some r
        by_cases hu : u ≠ k
        · rw [if_pos hu]
          refine goX_ends hc h f _ u _ 0 u1 (Nat.zero_le _) ?_
          have h1 := rfs_ct hc hk u1 u2 hu
          have h2 := (ctot_le hc u1).1
          have h3 : (ctot u).toNat + 1 ≤ (ctot k).toNat := by omega
          have h4 := Nat.mul_le_mul_right Ls.length h3
          rw [Nat.add_mul] at h4
          omega
        · rw [if_neg hu]
          refine goX_ends hc h f _ k _ (q + 1) hk hlt ?_
          omega
    · rw [if_neg hlt]
      exact ⟨_, rfl⟩
/-- a common fixpoint -/
def FixX (c : Nat) (Ls : List (List (List Int))) : Prop := ∃ x ∈ arrs c, ∀ L ∈ Ls, told L x = some x
theorem goX_yes (hc : c ≤ 4) (h : AllIn c Ls) : ∀ (f t : Nat) (k : List Int) (st : Steps) (q : Nat) (st' : Steps), k ∈ arrs c → q ≤ t → q ≤ Ls.length → (∀ j, t - q ≤ j → j < t → told (Ls.getD (j % Ls.length) []) k = some k) → goX Ls f t k st q = some (true, st') → FixX c Ls
  | 0, _, _, _, _, _, _, _, _, _, e => nomatch e
  | f + 1, t, k, st, q, st', hk, hq, hql, hI, e => by
    unfold goX at e
    by_cases hlt : q < Ls.length
    · rw [if_pos hlt] at e
      cases e1 : told (Ls.getD (t % Ls.length) []) k with
      | none => rw [e1] at e; cases e
      | some u =>
        rw [e1] at e
        have e : (if u ≠ k then goX Ls f (t + 1) u (st ++ [(t % Ls.length, u)]) 0 else goX Ls f (t + 1) k st (q + 1)) = some (true, st') := e
        obtain ⟨u1, u2, _⟩ := told_at hc h.at hk e1
        by_cases hu : u ≠ k
        · rw [if_pos hu] at e
          exact goX_yes hc h f _ u _ 0 st' u1 (Nat.zero_le _) (Nat.zero_le _) (fun j h1 h2 => absurd h1 (by omega)) e
        · rw [if_neg hu] at e
          have hu : u = k := Decidable.not_not.mp hu
          refine goX_yes hc h f _ k _ (q + 1) st' hk (by omega) hlt (fun j h1 h2 => ?_) e
          by_cases hj : j = t
          · rw [hj, e1, hu]
          · exact hI j (by omega) (by omega)
    · refine ⟨k, hk, fun L hL => ?_⟩
      obtain ⟨i, hi, rfl⟩ := List.mem_iff_getElem.mp hL
      have hm : 0 < Ls.length := by omega
      have hql' : q = Ls.length := by omega
      subst hql'
      -- the last turn at this face
      have hd := Nat.div_add_mod (t - 1 - i) Ls.length
      have hr := Nat.mod_lt (t - 1 - i) hm
      have := hI (Ls.length * ((t - 1 - i) / Ls.length) + i) (by omega) (by omega)
      rw [Nat.mul_add_mod, Nat.mod_eq_of_lt hi, List.getD_eq_getElem?_getD, List.getElem?_eq_getElem hi] at this
      exact this
theorem goX_no (hc : c ≤ 4) (h : AllIn c Ls) {x : List Int} (hx : x ∈ arrs c) (hf : ∀ L ∈ Ls, told L x = some x) : ∀ (f t : Nat) (k : List Int) (st : Steps) (q : Nat) (st' : Steps), k ∈ arrs c → rfs k x = true → goX Ls f t k st q ≠ some (false, st')
  | 0, _, _, _, _, _, _, _ => fun e => nomatch e
  | f + 1, t, k, st, q, st', hk, hkx => by
    intro e
    unfold goX at e
    by_cases hlt : q < Ls.length
    · rw [if_pos hlt] at e
      have hm : t % Ls.length < Ls.length := Nat.mod_lt _ (by omega)
      have hL : Ls.getD (t % Ls.length) [] ∈ Ls := by
        rw [List.getD_eq_getElem?_getD, List.getElem?_eq_getElem hm]
        exact List.getElem_mem hm
      obtain ⟨u, e1, hux⟩ := told_mono hc h.at hk hx hkx (hf _ hL)
      rw [e1] at e
      have e : (if u ≠ k then goX Ls f (t + 1) u (st ++ [(t % Ls.length, u)]) 0 else goX Ls f (t + 1) k st (q + 1)) = some (false, st') := e
      obtain ⟨u1, u2, _⟩ := told_at hc h.at hk e1
      by_cases hu : u ≠ k
      · rw [if_pos hu] at e
        exact goX_no hc h hx hf f _ u _ 0 st' u1 hux e
      · rw [if_neg hu] at e
        exact goX_no hc h hx hf f _ k _ (q + 1) st' hk hkx e
    · rw [if_neg hlt] at e
      cases e
theorem k0_fine0 : pwAll (fun k _ => rfs (k0 k.length) k) = true := by kernel_rfl
theorem k0_fine (hc : c ≤ 4) {x : List Int} (hx : x ∈ arrs c) : rfs (k0 c) x = true := by
  have := pwAll_at k0_fine0 hc hx hx
  rw [arr_len hc hx] at this
  exact this
def resX (c : Nat) (Ls : List (List (List Int))) : Option (Bool × Steps) := goX Ls 60 0 (k0 c) [] 0
theorem resX_some (hc : c ≤ 4) (h : AllIn c Ls) (hl : Ls.length ≤ 8) : ∃ r, resX c Ls = some r := by
  refine goX_ends hc h 60 0 _ _ 0 (k0_mem hc).1 (Nat.zero_le _) ?_
  rw [(k0_mem hc).2, Int.toNat_natCast]
  have : c * Ls.length ≤ 4 * 8 := Nat.mul_le_mul hc hl
  omega
theorem resX_iff (hc : c ≤ 4) (h : AllIn c Ls) (hl : Ls.length ≤ 8) : (∃ st, resX c Ls = some (true, st)) ↔ FixX c Ls := by
  constructor
  · rintro ⟨st, e⟩
    exact goX_yes hc h 60 0 _ _ 0 st (k0_mem hc).1 (Nat.zero_le _) (Nat.zero_le _) (fun j h1 h2 => absurd h2 (Nat.not_lt_zero _)) e
  · rintro ⟨x, hx, hf⟩
    obtain ⟨⟨b, st⟩, e⟩ := resX_some hc h hl
    cases b with
    | true => exact ⟨st, e⟩
    | false => exact absurd e (goX_no hc h hx hf 60 0 _ _ 0 st (k0_mem hc).1 (k0_fine hc hx))
/-- the order of the faces does not matter for the answer -/
theorem resX_rev (hc : c ≤ 4) (h : AllIn c Ls) (hl : Ls.length ≤ 8) : ∃ b st st', resX c Ls = some (b, st) ∧ resX c Ls.reverse = some (b, st') := by
  have h' : AllIn c Ls.reverse := fun L hL => h L (List.mem_reverse.mp hL)
  have hl' : Ls.reverse.length ≤ 8 := by rw [List.length_reverse]; exact hl
  have e : FixX c Ls ↔ FixX c Ls.reverse := by
    unfold FixX
    simp only [List.mem_reverse]
  obtain ⟨⟨b, st⟩, e1⟩ := resX_some hc h hl
  obtain ⟨⟨b', st'⟩, e2⟩ := resX_some hc h' hl'
  refine ⟨b, st, st', e1, ?_⟩
  have f1 := resX_iff hc h hl
  have f2 := resX_iff hc h' hl'
  have : b = b' := by
    cases b <;> cases b'
    · rfl
    · obtain ⟨s, e3⟩ := f1.mpr (e.mpr (f2.mp ⟨st', e2⟩))
      rw [e1] at e3; cases e3
    · obtain ⟨s, e3⟩ := f2.mpr (e.mp (f1.mp ⟨st, e1⟩))
      rw [e2] at e3; cases e3
    · rfl
  rw [e2, this]
end
end Lib

namespace Lib
open PySem PySem.Spec PyProof.Rows L2 Ev
/-! # the exchange: the walk -/
section
variable {X : Dt} {n : Nat} {S : List PyData} {ns : List Str} {rs : List Row}
theorem refines_all : pairAll.map (fun p => run (Dlib ++ X) (n + 1) 9 [.dat (ti p.1), .dat (ti p.2)] S) = mapR (fun p => FR.ok (.dat (.bool (rfs p.1 p.2))) S) pairAll := by kernel_rfl
theorem refines_ok {c : Nat} (h : c ≤ 4) {a b : List Int} (ha : a ∈ arrs c) (hb : b ∈ arrs c) : run (Dlib ++ X) (n + 1) 9 [.dat (ti a), .dat (ti b)] S = .ok (.dat (.bool (rfs a b))) S := by
  have := each (refines_all (X := X) (n := n) (S := S)) _ (mem_pairAll h ha hb)
  exact this
theorem foldM_step {o : Option (List Int)} {r : List Int} {l : List (List Int)} : foldM o (r :: l) = foldM (some (match o with | none => r | some f => mt f r)) l := by cases o <;> rfl
theorem told_by_ok (h : ns.length ≤ 4) {k : List Int} (hk : k ∈ arrs ns.length) : run (Dlib ++ X) (n + 4) 167 [.dat (faceD ns rs), .dat (ti k)] S = .ok (.dat (optD (told (letBy ns rs) k))) S := by
  rw [r_told_by]
  unfold I.told_by
  have h1 := let_by_ok (X := X) (n := n) (S := S) (rs := rs) h
  have h2 : ∀ a ∈ arrs ns.length, ∀ b ∈ arrs ns.length, run (Dlib ++ X) (n + 3) 7 [.dat (ti a), .dat (ti b)] S = .ok (.dat (ti (mt a b))) S := fun a ha b hb => meet_ok h ha hb
  have h3 : ∀ a ∈ arrs ns.length, run (Dlib ++ X) (n + 3) 9 [.dat (ti k), .dat (ti a)] S = .ok (.dat (.bool (rfs k a))) S := fun a ha => refines_ok h hk ha
  have hL : ∀ a ∈ letBy ns rs, a ∈ arrs ns.length := fun a ha => letBy_mem ha
  generalize run (Dlib ++ X) (n + 3) = C at h1 h2 h3
  generalize letBy ns rs = L at h1 hL
  generalize faceD ns rs = F at h1
  refine set_d (Q := fun z => FRof z = _) (ρ := [some (.dat F), some (.dat (ti k)), none, none]) (S := S) rfl ?_
  have hi : denI C (.of (.call 166 [.var 0])) ⟨[some (.dat F), some (.dat (ti k)), some (.dat .none), none], S⟩ = .ok (L.map ti) ⟨[some (.dat F), some (.dat (ti k)), some (.dat .none), none], S⟩ := of_l (frz_own (cal (S := S) rfl h1))
  refine fr_wp (Q := fun z => FRof z = FR.ok (.dat (optD (told L k))) S) hi (fun l s => ∃ (o : Option (List Int)) (v : Option Va), s = ⟨[some (.dat F), some (.dat (ti k)), some (.dat (optD o)), v], S⟩ ∧ told L k = foldM o (l.filter (rfs k)) ∧ (∀ f, o = some f → f ∈ arrs ns.length) ∧ ∀ x ∈ l, x ∈ arrs ns.length) ⟨none, none, rfl, rfl, (fun f e => nomatch e), hL⟩ ?_ ?_
  · rintro r l s ⟨o, v, rfl, e, ho, hl⟩
    have hr := hl r (List.mem_cons_self ..)
    have hl' : ∀ x ∈ l, x ∈ arrs ns.length := fun x hx => hl x (List.mem_cons_of_mem _ hx)
    refine ⟨⟨[some (.dat F), some (.dat (ti k)), some (.dat (optD o)), some (.dat (ti r))], S⟩, rfl, ?_⟩
    have t1 : (den C (.call 9 [.var 1, .var 3])).t ⟨[some (.dat F), some (.dat (ti k)), some (.dat (optD o)), some (.dat (ti r))], S⟩ = .ok (rfs k r) ⟨[some (.dat F), some (.dat (ti k)), some (.dat (optD o)), some (.dat (ti r))], S⟩ := cal_t (S := S) rfl (h3 r hr)
    cases hq : rfs k r with
    | false =>
      rw [hq] at t1
      refine if_f0 (Q := fun z => W1 z _ _) t1 ?_
      rw [List.filter_cons, hq, if_neg Bool.false_ne_true] at e
      exact ⟨o, _, rfl, e, ho, hl'⟩
    | true =>
      rw [hq] at t1
      rw [List.filter_cons, hq, if_pos rfl, foldM_step] at e
      have t2 : (den C (.cmp .Is (.var 2) (.c .none))).t ⟨[some (.dat F), some (.dat (ti k)), some (.dat (optD o)), some (.dat (ti r))], S⟩ = .ok (isNoneD (optD o)) ⟨[some (.dat F), some (.dat (ti k)), some (.dat (optD o)), some (.dat (ti r))], S⟩ := cmp_t rfl rfl rfl (c_isD _)
      rw [isN_opt] at t2
      cases o with
      | none =>
        refine if_tn (Q := fun z => W1 z _ _) t1 (s2 := ⟨[some (.dat F), some (.dat (ti k)), some (.dat (optD (some r))), some (.dat (ti r))], S⟩) (if_tn (Q := fun z => z = _) t2 (set_d (Q := fun z => z = _) (ρ := [some (.dat F), some (.dat (ti k)), some (.dat (optD none)), some (.dat (ti r))]) (S := S) (d := ti r) rfl rfl) rfl) ?_
        exact ⟨some r, _, rfl, e, (fun f e => by cases e; exact hr), hl'⟩
      | some f =>
        have hf := ho f rfl
        refine if_tn (Q := fun z => W1 z _ _) t1 (s2 := ⟨[some (.dat F), some (.dat (ti k)), some (.dat (optD (some (mt f r)))), some (.dat (ti r))], S⟩) (if_fn (Q := fun z => z = _) t2 (set_d (Q := fun z => z = _) (ρ := [some (.dat F), some (.dat (ti k)), some (.dat (optD (some f))), some (.dat (ti r))]) (S := S) (cal (S := S) rfl (h2 f hf r hr)) rfl) rfl) ?_
        exact ⟨some (mt f r), _, rfl, e, (fun g e => by cases e; exact mt_mem h hf hr), hl'⟩
  · rintro s ⟨o, v, rfl, e, _, _⟩
    have e : told L k = o := by rw [e]; cases o <;> rfl
    rw [e]
    rfl
end
/-! passed_on -/
abbrev facesD (ns : List Str) (rss : List (List Row)) : PyData := .tuple (rss.map (faceD ns))
abbrev stD (p : Nat × List Int) : PyData := .tuple [.int p.1, ti p.2]
def ynD : Bool → PyData
  | true => .str (Str.ofString "yes")
  | false => .str (Str.ofString "no")
abbrev resD (r : Bool × Steps) : PyData := .tuple [ynD r.1, .tuple (r.2.map stD)]
abbrev letsOf (ns : List Str) (rss : List (List Row)) : List (List (List Int)) := rss.map (letBy ns)
theorem letsOf_in (ns : List Str) (rss : List (List Row)) : AllIn ns.length (letsOf ns rss) := fun L hL r hr => by
  obtain ⟨rs, _, rfl⟩ := List.mem_map.mp hL
  exact letBy_mem hr
theorem letsOf_at {ns : List Str} {rss : List (List Row)} {i : Nat} {rs : List Row} (h : rss[i]? = some rs) : (letsOf ns rss).getD i [] = letBy ns rs := by
  rw [List.getD_eq_getElem?_getD, List.getElem?_map, h]
  rfl
theorem whl_r {c : De Bool} {body : Ds} {n : Nat} {s s1 s2 : Stt} {v : Va} (h : c s = .ok true s1) (hb : body s1 = .rt v s2) : whileD c body (n + 1) s = .rt v s2 := by
  show (c s).toS _ = _
  rw [h]
  show (match body s1 with
        | .nx s => whileD c body n s
        | .ct s => whileD c body n s
        | .bk s => .nx s
        | r => r) = _
  rw [hb]
theorem conv1_e {C : Nat → Fn} {t : Bool} {a : Ex} {s s1 : Stt} {j : Int} {v : Va} (h : dFrz (den C a).v s = .ok (.int j) s1) (hj : Ev.inR j = true) (hv : convV t 0 j.toNat = some v) : (den C (.conv1 t a)).v s = .ok v s1 := by
  show dConv1 t (den C a).v s = _
  unfold dConv1
  rw [h]
  show (if Ev.inR j = true then ofOpt (convV t 0 j.toNat) s1 else .bad) = _
  rw [if_pos hj, hv]
  rfl
theorem rangeL0 (c : Nat) : rangeL 0 c = (k0 c).map PyData.int := by
  unfold rangeL k0
  rw [List.map_map]
  refine List.map_congr_left fun k _ => ?_
  show PyData.int (0 + (k : Int)) = PyData.int (k : Int)
  rw [Int.zero_add]
theorem lenT_e {C : Nat → Fn} {a : Ex} {s s1 : Stt} {xs : List PyData} (h : (den C a).v s = .ok (.dat (.tuple xs)) s1) : (den C (.b1 .len a)).v s = .ok (.dat (.int (xs.length : Nat))) s1 := b1_e h rfl rfl
theorem k0_e {C : Nat → Fn} {ns : List Str} (hn : ns.length ≤ 4) {R FS : List PyData} {ρ : List (Option Va)} {S : List PyData} (h : FS[0]? = some (.tuple (tx ns :: R))) : (den C (.b1 .tuple (.conv1 false (.b1 .len (.idx (.idxV 0 (.c (.int (0)))) (.c (.int (0)))))))).v ⟨some (.dat (.tuple FS)) :: ρ, S⟩ = .ok (.dat (ti (k0 ns.length))) ⟨some (.dat (.tuple FS)) :: ρ, S⟩ := by
  have a1 : (den C (.idxV 0 (.c (.int (0))))).v ⟨some (.dat (.tuple FS)) :: ρ, S⟩ = .ok (.dat (.tuple (tx ns :: R))) ⟨some (.dat (.tuple FS)) :: ρ, S⟩ :=
    idxV_e (d := .tuple FS) (d2 := .int 0) rfl rfl rfl (show atI FS ((0 : Nat) : Int) = _ from atI_nat h)
  have a2 : (den C (.idx (.idxV 0 (.c (.int (0)))) (.c (.int (0))))).v ⟨some (.dat (.tuple FS)) :: ρ, S⟩ = .ok (.dat (tx ns)) ⟨some (.dat (.tuple FS)) :: ρ, S⟩ :=
    idx_e (frz_of a1) (d2 := .int 0) rfl (show atI (tx ns :: R) ((0 : Nat) : Int) = _ from atI_nat rfl)
  have a3 := lenT_e a2
  rw [List.length_map] at a3
  have a4 : (den C (.conv1 false (.b1 .len (.idx (.idxV 0 (.c (.int (0)))) (.c (.int (0))))))).v ⟨some (.dat (.tuple FS)) :: ρ, S⟩ = .ok (.own ((k0 ns.length).map PyData.int)) ⟨some (.dat (.tuple FS)) :: ρ, S⟩ := by
    refine conv1_e (frz_of a3) (inR_nat (by omega)) ?_
    rw [Int.toNat_natCast]
    unfold convV
    rw [if_pos (by omega), rangeL0]
  exact b1_e a4 rfl rfl
def passB : List Sx := [
    .set 5 (.call 167 [(.idxV 0 (.var 4)), (.var 1)]),
    .ifs (.cmp .Is (.var 5) (.c .none)) [
      .ret (.tup [(.c (.str (Str.ofString "no"))), (.b1 .tuple (.peek 2))])] [],
    .aug 3 .Add (.c (.int (1))),
    .ifs (.cmp .NotEq (.var 5) (.peek 1)) [
      .set 1 (.var 5),
      .expr (.app 2 (.tup [(.var 4), (.var 1)])),
      .set 3 (.c (.int (0)))] [],
    .set 4 (.bin .Mod (.bin .Add (.var 4) (.c (.int (1)))) (.b1 .len (.peek 0)))]
theorem peek_o {C : Nat → Fn} {s : Stt} {i : Nat} {xs : List PyData} (h : s.ρ[i]? = some (some (.own xs))) : (den C (.peek i)).v s = .ok (.bor xs) s := by
  show dPeek i s = _
  simp only [dPeek, h]
theorem yn_e {C : Nat → Fn} {S : List PyData} {ρ : List (Option Va)} {st : Steps} (b : Bool) (h : ρ[2]? = some (some (.own (st.map stD)))) : (den C (.tup [(.c (ynD b)), (.b1 .tuple (.peek 2))])).v ⟨ρ, S⟩ = .ok (.dat (resD (b, st))) ⟨ρ, S⟩ := by
  refine tup_e (ds := [ynD b, .tuple (st.map stD)]) (dl_d (s1 := ⟨ρ, S⟩) ?_ (dl_d (s1 := ⟨ρ, S⟩) ?_ rfl)) (show 2 ≤ 16777216 by decide)
  · cases b <;> rfl
  · refine b1_e (v := .bor (st.map stD)) (d := .list (st.map stD)) ?_ rfl rfl
    exact peek_o h
section
variable {X : Dt} {n : Nat} {S : List PyData} {ns : List Str}
theorem pass_step {C : Nat → Fn} {rss : List (List Row)} (hn : ns.length ≤ 4) {rs : List Row} {pl : Nat} (hpl : rss[pl]? = some rs) {k : List Int} (hk : k ∈ arrs ns.length) {st : Steps} (hst : st.length < 1000) (q : Nat) (t5 : Option Va)
    (hC : C 167 [.dat (faceD ns rs), .dat (ti k)] S = .ok (.dat (optD (told (letBy ns rs) k))) S) :
    match told (letBy ns rs) k with
    | none => ∃ s', s'.S = S ∧ denB C passB ⟨[some (.dat (facesD ns rss)), some (.dat (ti k)), some (.own (st.map stD)), some (.dat (.int (q : Nat))), some (.dat (.int (pl : Nat))), t5], S⟩ = .rt (.dat (resD (false, st))) s'
    | some u => denB C passB ⟨[some (.dat (facesD ns rss)), some (.dat (ti k)), some (.own (st.map stD)), some (.dat (.int (q : Nat))), some (.dat (.int (pl : Nat))), t5], S⟩ =
        if u ≠ k then .nx ⟨[some (.dat (facesD ns rss)), some (.dat (ti u)), some (.own ((st ++ [(pl, u)]).map stD)), some (.dat (.int (0 : Nat))), some (.dat (.int ((pl + 1) % rss.length : Nat))), some (.dat (ti u))], S⟩
        else .nx ⟨[some (.dat (facesD ns rss)), some (.dat (ti k)), some (.own (st.map stD)), some (.dat (.int (q + 1 : Nat))), some (.dat (.int ((pl + 1) % rss.length : Nat))), some (.dat (ti u))], S⟩ := by
  have hm : pl < rss.length := (List.getElem?_eq_some_iff.mp hpl).1
  obtain ⟨FS, hFS⟩ : ∃ FS, FS = rss.map (faceD ns) := ⟨_, rfl⟩
  have hat : FS[pl]? = some (faceD ns rs) := by rw [hFS, List.getElem?_map, hpl]; rfl
  have hlen : FS.length = rss.length := by rw [hFS, List.length_map]
  show match told (letBy ns rs) k with
    | none => ∃ s', s'.S = S ∧ denB C passB ⟨[some (.dat (.tuple (rss.map (faceD ns)))), some (.dat (ti k)), some (.own (st.map stD)), some (.dat (.int (q : Nat))), some (.dat (.int (pl : Nat))), t5], S⟩ = .rt (.dat (resD (false, st))) s'
    | some u => denB C passB ⟨[some (.dat (.tuple (rss.map (faceD ns)))), some (.dat (ti k)), some (.own (st.map stD)), some (.dat (.int (q : Nat))), some (.dat (.int (pl : Nat))), t5], S⟩ =
        if u ≠ k then .nx ⟨[some (.dat (.tuple (rss.map (faceD ns)))), some (.dat (ti u)), some (.own ((st ++ [(pl, u)]).map stD)), some (.dat (.int (0 : Nat))), some (.dat (.int ((pl + 1) % rss.length : Nat))), some (.dat (ti u))], S⟩
        else .nx ⟨[some (.dat (.tuple (rss.map (faceD ns)))), some (.dat (ti k)), some (.own (st.map stD)), some (.dat (.int (q + 1 : Nat))), some (.dat (.int ((pl + 1) % rss.length : Nat))), some (.dat (ti u))], S⟩
  rw [← hFS]
  have a1 : (den C (.idxV 0 (.var 4))).v ⟨[some (.dat (.tuple FS)), some (.dat (ti k)), some (.own (st.map stD)), some (.dat (.int (q : Nat))), some (.dat (.int (pl : Nat))), t5], S⟩ = .ok (.dat (faceD ns rs)) ⟨[some (.dat (.tuple FS)), some (.dat (ti k)), some (.own (st.map stD)), some (.dat (.int (q : Nat))), some (.dat (.int (pl : Nat))), t5], S⟩ :=
    idxV_e (d := .tuple FS) (d2 := .int (pl : Nat)) rfl rfl rfl (show atI FS (pl : Int) = _ from atI_nat hat)
  have a2 := cal (C := C) (j := 167) (es := [(.idxV 0 (.var 4)), (.var 1)]) (S := S) (dl_d a1 (dl_d (d := ti k) (vs := []) rfl rfl)) hC
  generalize told (letBy ns rs) k = o at a2
  have e1 : ∀ r, denB C (.set 5 (.call 167 [(.idxV 0 (.var 4)), (.var 1)]) :: r) ⟨[some (.dat (.tuple FS)), some (.dat (ti k)), some (.own (st.map stD)), some (.dat (.int (q : Nat))), some (.dat (.int (pl : Nat))), t5], S⟩ = denB C r ⟨[some (.dat (.tuple FS)), some (.dat (ti k)), some (.own (st.map stD)), some (.dat (.int (q : Nat))), some (.dat (.int (pl : Nat))), some (.dat (optD o))], S⟩ := fun r =>
    set_d (Q := fun z => z = _) a2 rfl
  have t2 : (den C (.cmp .Is (.var 5) (.c .none))).t ⟨[some (.dat (.tuple FS)), some (.dat (ti k)), some (.own (st.map stD)), some (.dat (.int (q : Nat))), some (.dat (.int (pl : Nat))), some (.dat (optD o))], S⟩ = .ok (isNoneD (optD o)) ⟨[some (.dat (.tuple FS)), some (.dat (ti k)), some (.own (st.map stD)), some (.dat (.int (q : Nat))), some (.dat (.int (pl : Nat))), some (.dat (optD o))], S⟩ := cmp_t rfl rfl rfl (c_isD _)
  rw [isN_opt] at t2
  cases o with
  | none =>
    refine ⟨⟨[some (.dat (.tuple FS)), some (.dat (ti k)), some (.own (st.map stD)), some (.dat (.int (q : Nat))), some (.dat (.int (pl : Nat))), some (.dat (optD none))], S⟩, rfl, ?_⟩
    unfold passB
    rw [e1]
    exact if_rt (Q := fun z => z = _) t2 (ret_e (Q := fun z => z = _) (yn_e false rfl) rfl) rfl
  | some u =>
    show denB C passB _ = _
    unfold passB
    rw [e1]
    refine if_f0 (Q := fun z => z = _) t2 ?_
    have e3 : ∀ r, denB C (.aug 3 .Add (.c (.int (1))) :: r) ⟨[some (.dat (.tuple FS)), some (.dat (ti k)), some (.own (st.map stD)), some (.dat (.int (q : Nat))), some (.dat (.int (pl : Nat))), some (.dat (optD (some u)))], S⟩ = denB C r ⟨[some (.dat (.tuple FS)), some (.dat (ti k)), some (.own (st.map stD)), some (.dat (.int (q + 1 : Nat))), some (.dat (.int (pl : Nat))), some (.dat (ti u))], S⟩ := fun r => st_nx (Q := fun z => z = _) (s1 := ⟨[some (.dat (.tuple FS)), some (.dat (ti k)), some (.own (st.map stD)), some (.dat (.int (q + 1 : Nat))), some (.dat (.int (pl : Nat))), some (.dat (ti u))], S⟩) rfl rfl
    rw [e3]
    have t4 : (den C (.cmp .NotEq (.var 5) (.peek 1))).t ⟨[some (.dat (.tuple FS)), some (.dat (ti k)), some (.own (st.map stD)), some (.dat (.int (q + 1 : Nat))), some (.dat (.int (pl : Nat))), some (.dat (ti u))], S⟩ = .ok (!decide (u = k)) ⟨[some (.dat (.tuple FS)), some (.dat (ti k)), some (.own (st.map stD)), some (.dat (.int (q + 1 : Nat))), some (.dat (.int (pl : Nat))), some (.dat (ti u))], S⟩ := cmp_t rfl rfl rfl (c_neT _ _)
    have last : ∀ (k' : List Int) (L : List PyData) (q' : Nat), denB C [.set 4 (.bin .Mod (.bin .Add (.var 4) (.c (.int (1)))) (.b1 .len (.peek 0)))] ⟨[some (.dat (.tuple FS)), some (.dat (ti k')), some (.own L), some (.dat (.int (q' : Nat))), some (.dat (.int (pl : Nat))), some (.dat (ti u))], S⟩ = .nx ⟨[some (.dat (.tuple FS)), some (.dat (ti k')), some (.own L), some (.dat (.int (q' : Nat))), some (.dat (.int ((pl + 1) % rss.length : Nat))), some (.dat (ti u))], S⟩ := fun k' L q' => by
      refine set_d (Q := fun z => z = _) (ρ := [some (.dat (.tuple FS)), some (.dat (ti k')), some (.own L), some (.dat (.int (q' : Nat))), some (.dat (.int (pl : Nat))), some (.dat (ti u))]) (S := S) (d := .int ((pl + 1) % rss.length : Nat)) ?_ rfl
      refine bin_e (d := .int (pl + 1 : Nat)) (d2 := .int (FS.length : Nat)) (s1 := ⟨[some (.dat (.tuple FS)), some (.dat (ti k')), some (.own L), some (.dat (.int (q' : Nat))), some (.dat (.int (pl : Nat))), some (.dat (ti u))], S⟩) rfl (frz_of (lenT_e rfl)) ?_
      rw [hlen]
      show (bopI .Mod ((pl + 1 : Nat) : Int) (rss.length : Int)).map (fun k => Va.dat (.int k)) = _
      show (if 0 < (rss.length : Int) then some (((pl + 1 : Nat) : Int) % (rss.length : Int)) else none).map (fun k => Va.dat (.int k)) = _
      rw [if_pos (by omega), ← Int.natCast_emod]
      rfl
    by_cases hu : u = k
    · rw [decide_eq_true hu] at t4
      refine if_f0 (Q := fun z => z = _) t4 ?_
      rw [if_neg (by simpa using hu)]
      exact last k _ (q + 1)
    · rw [decide_eq_false hu] at t4
      rw [if_pos hu]
      refine if_tn (Q := fun z => z = _) t4 (s2 := ⟨[some (.dat (.tuple FS)), some (.dat (ti u)), some (.own ((st ++ [(pl, u)]).map stD)), some (.dat (.int (0 : Nat))), some (.dat (.int (pl : Nat))), some (.dat (ti u))], S⟩) ?_ (last u _ 0)
      refine set_d (Q := fun z => z = _) (ρ := [some (.dat (.tuple FS)), some (.dat (ti k)), some (.own (st.map stD)), some (.dat (.int (q + 1 : Nat))), some (.dat (.int (pl : Nat))), some (.dat (ti u))]) (S := S) (d := ti u) rfl ?_
      have p1 := tup_e (C := C) (es := [(.var 4), (.var 1)]) (s := ⟨[some (.dat (.tuple FS)), some (.dat (ti u)), some (.own (st.map stD)), some (.dat (.int (q + 1 : Nat))), some (.dat (.int (pl : Nat))), some (.dat (ti u))], S⟩) (ds := [.int (pl : Nat), ti u]) rfl (show 2 ≤ 16777216 by decide)
      have p2 := app_e (C := C) (i := 2) (s := ⟨[some (.dat (.tuple FS)), some (.dat (ti u)), some (.own (st.map stD)), some (.dat (.int (q + 1 : Nat))), some (.dat (.int (pl : Nat))), some (.dat (ti u))], S⟩) (ys := st.map stD) (xs := st.map stD) rfl (frz_of p1) rfl (by rw [List.length_map]; omega)
      refine expr_e (Q := fun z => z = _) p2 ?_
      rw [List.map_append]
      exact set_d (Q := fun z => z = _) (ρ := [some (.dat (.tuple FS)), some (.dat (ti u)), some (.own (st.map stD ++ [stD (pl, u)])), some (.dat (.int (q + 1 : Nat))), some (.dat (.int (pl : Nat))), some (.dat (ti u))]) (S := S) (d := .int (0 : Nat)) rfl rfl
theorem pass_loop {C : Nat → Fn} {rss : List (List Row)} (hn : ns.length ≤ 4) (h0 : 0 < rss.length)
    (hC : ∀ rs ∈ rss, ∀ k ∈ arrs ns.length, C 167 [.dat (faceD ns rs), .dat (ti k)] S = .ok (.dat (optD (told (letBy ns rs) k))) S) :
    ∀ (f N t q : Nat) (k : List Int) (st : Steps) (r : Bool × Steps) (t5 : Option Va), f ≤ N → k ∈ arrs ns.length → st.length + f ≤ 500 → goX (letsOf ns rss) f t k st q = some r →
      ∃ s', s'.S = S ∧ (whileD (den C (.cmp .Lt (.var 3) (.b1 .len (.peek 0)))).t (denB C passB) N ⟨[some (.dat (facesD ns rss)), some (.dat (ti k)), some (.own (st.map stD)), some (.dat (.int (q : Nat))), some (.dat (.int (t % rss.length : Nat))), t5], S⟩).seq (denB C [.ret (.tup [(.c (.str (Str.ofString "yes"))), (.b1 .tuple (.peek 2))])]) = .rt (.dat (resD r)) s'
  | 0, _, _, _, _, _, _, _, _, _, _, e => nomatch e
  | f + 1, N, t, q, k, st, r, t5, hN, hk, hst, e => by
    obtain ⟨N, rfl⟩ : ∃ M, N = M + 1 := ⟨N - 1, by omega⟩
    have hm := Nat.mod_lt t h0
    have hpl : rss[t % rss.length]? = some rss[t % rss.length] := List.getElem?_eq_getElem hm
    have hmem : rss[t % rss.length] ∈ rss := List.getElem_mem hm
    generalize rss[t % rss.length] = rs at hpl hmem
    have step := pass_step (S := S) hn hpl hk (st := st) (by omega) q t5 (hC rs hmem k hk)
    unfold goX at e
    rw [List.length_map, letsOf_at hpl] at e
    have c0 : (den C (.cmp .Lt (.var 3) (.b1 .len (.peek 0)))).t ⟨[some (.dat (facesD ns rss)), some (.dat (ti k)), some (.own (st.map stD)), some (.dat (.int (q : Nat))), some (.dat (.int (t % rss.length : Nat))), t5], S⟩ = .ok (decide ((q : Int) < ((rss.map (faceD ns)).length : Nat))) ⟨[some (.dat (facesD ns rss)), some (.dat (ti k)), some (.own (st.map stD)), some (.dat (.int (q : Nat))), some (.dat (.int (t % rss.length : Nat))), t5], S⟩ := cmp_t rfl (lenT_e rfl) rfl rfl
    rw [List.length_map] at c0
    by_cases hq : q < rss.length
    · rw [if_pos hq] at e
      rw [decide_eq_true (by omega)] at c0
      cases h1 : told (letBy ns rs) k with
      | none =>
        rw [h1] at e step
        cases e
        obtain ⟨s', hs', step⟩ := step
        exact ⟨s', hs', by rw [whl_r c0 step]; rfl⟩
      | some u =>
        rw [h1] at e step
        dsimp only at step
        have e : (if u ≠ k then goX (letsOf ns rss) f (t + 1) u (st ++ [(t % rss.length, u)]) 0 else goX (letsOf ns rss) f (t + 1) k st (q + 1)) = some r := e
        have hmod : (t % rss.length + 1) % rss.length = (t + 1) % rss.length := by rw [Nat.add_mod t 1, Nat.add_mod (t % rss.length) 1, Nat.mod_mod]
        by_cases hu : u ≠ k
        · rw [if_pos hu] at e step
          rw [hmod] at step
          have hu1 := (told_at hn (fun r hr => letBy_mem hr) hk h1).1
          obtain ⟨s', hs', e'⟩ := pass_loop hn h0 hC f N (t + 1) 0 u _ r (some (.dat (ti u))) (by omega) hu1 (by rw [List.length_append]; show st.length + 1 + f ≤ 500; omega) e
          exact ⟨s', hs', by rw [whl_t c0 step]; exact e'⟩
        · rw [if_neg hu] at e step
          rw [hmod] at step
          obtain ⟨s', hs', e'⟩ := pass_loop hn h0 hC f N (t + 1) (q + 1) k st r (some (.dat (ti u))) (by omega) hk (by omega) e
          exact ⟨s', hs', by rw [whl_t c0 step]; exact e'⟩
    · rw [if_neg hq] at e
      cases e
      rw [decide_eq_false (by omega)] at c0
      refine ⟨⟨[some (.dat (facesD ns rss)), some (.dat (ti k)), some (.own (st.map stD)), some (.dat (.int (q : Nat))), some (.dat (.int (t % rss.length : Nat))), t5], S⟩, rfl, ?_⟩
      rw [whl_f c0]
      exact ret_e (Q := fun z => z = _) (yn_e true rfl) rfl
theorem passed_on_ok {rss : List (List Row)} (hn : ns.length ≤ 4) (h0 : 0 < rss.length) {r : Bool × Steps} (e : resX ns.length (letsOf ns rss) = some r) : run (Dlib ++ X) (n + 5) 168 [.dat (facesD ns rss)] S = .ok (.dat (resD r)) S := by
  rw [r_passed_on]
  have hC : ∀ rs ∈ rss, ∀ k ∈ arrs ns.length, run (Dlib ++ X) (n + 4) 167 [.dat (faceD ns rs), .dat (ti k)] S = .ok (.dat (optD (told (letBy ns rs) k))) S := fun rs _ k hk => told_by_ok hn hk
  generalize run (Dlib ++ X) (n + 4) = C at hC
  obtain ⟨rs, hrs⟩ : ∃ rs, rss[0]? = some rs := ⟨_, List.getElem?_eq_getElem h0⟩
  have hat : (rss.map (faceD ns))[0]? = some (faceD ns rs) := by rw [List.getElem?_map, hrs]; rfl
  obtain ⟨s', hs', l⟩ := pass_loop (S := S) hn h0 hC 60 turns 0 0 _ [] r none (by show 60 ≤ 1000000; omega) (k0_mem hn).1 (by show 0 + 60 ≤ 500; omega) e
  refine set_d (Q := fun z => FRof z = _) (ρ := [some (.dat (facesD ns rss)), none, none, none, none, none]) (S := S) (k0_e hn hat) ?_
  refine set_o (Q := fun z => FRof z = _) (ρ := [some (.dat (facesD ns rss)), some (.dat (ti (k0 ns.length))), none, none, none, none]) (S := S) (d := []) rfl ?_
  refine set_d (Q := fun z => FRof z = _) (ρ := [some (.dat (facesD ns rss)), some (.dat (ti (k0 ns.length))), some (.own []), none, none, none]) (S := S) (d := .int (0 : Nat)) rfl ?_
  refine set_d (Q := fun z => FRof z = _) (ρ := [some (.dat (facesD ns rss)), some (.dat (ti (k0 ns.length))), some (.own []), some (.dat (.int (0 : Nat))), none, none]) (S := S) (d := .int (0 : Nat)) rfl ?_
  rw [Nat.zero_mod] at l
  refine (congrArg FRof l).trans ?_
  rw [← hs']
  rfl
theorem c_neN (a b : List Str) : cmpD .NotEq (tx a) (tx b) = some (!decide (a = b)) := by
  rw [cmp_ne (by have := depth_tx a; omega), eqv_tx]
def areB : List Sx := [
    .ifs (.or (.not (.call 61 [(.var 2)])) (.cmp .NotEq (.idxV 2 (.c (.int (0)))) (.idx (.idxV 0 (.c (.int (0)))) (.c (.int (0)))))) [
      .ret (.c (.bool false))] []]
section
variable {C : Nat → Fn} {FS : List PyData}
theorem are_no1 {d e : PyData} (h : C 61 [.dat d] S = .ok (.dat (.bool false)) S) : denB C areB ⟨[some (.dat (.tuple FS)), some (.dat e), some (.dat d)], S⟩ = .rt (.dat (.bool false)) ⟨[some (.dat (.tuple FS)), some (.dat e), some (.dat d)], S⟩ := by
  unfold areB
  exact if_rt (Q := fun z => z = _) (or_t (not_t (cal_t (S := S) rfl h))) rfl rfl
theorem are_cmp {e : PyData} {ms : List Str} {R R0 : List PyData} (h0 : FS[0]? = some (.tuple (tx ns :: R0))) : (den C (.cmp .NotEq (.idxV 2 (.c (.int (0)))) (.idx (.idxV 0 (.c (.int (0)))) (.c (.int (0)))))).t ⟨[some (.dat (.tuple FS)), some (.dat e), some (.dat (.tuple (tx ms :: R)))], S⟩ = .ok (!decide (ms = ns)) ⟨[some (.dat (.tuple FS)), some (.dat e), some (.dat (.tuple (tx ms :: R)))], S⟩ := by
  have a1 : (den C (.idxV 0 (.c (.int (0))))).v ⟨[some (.dat (.tuple FS)), some (.dat e), some (.dat (.tuple (tx ms :: R)))], S⟩ = .ok (.dat (.tuple (tx ns :: R0))) ⟨[some (.dat (.tuple FS)), some (.dat e), some (.dat (.tuple (tx ms :: R)))], S⟩ :=
    idxV_e (d := .tuple FS) (d2 := .int 0) rfl rfl rfl (show atI FS ((0 : Nat) : Int) = _ from atI_nat h0)
  have a2 : (den C (.idx (.idxV 0 (.c (.int (0)))) (.c (.int (0))))).v ⟨[some (.dat (.tuple FS)), some (.dat e), some (.dat (.tuple (tx ms :: R)))], S⟩ = .ok (.dat (tx ns)) ⟨[some (.dat (.tuple FS)), some (.dat e), some (.dat (.tuple (tx ms :: R)))], S⟩ :=
    idx_e (frz_of a1) (d2 := .int 0) rfl (show atI (tx ns :: R0) ((0 : Nat) : Int) = _ from atI_nat rfl)
  have a3 : (den C (.idxV 2 (.c (.int (0))))).v ⟨[some (.dat (.tuple FS)), some (.dat e), some (.dat (.tuple (tx ms :: R)))], S⟩ = .ok (.dat (tx ms)) ⟨[some (.dat (.tuple FS)), some (.dat e), some (.dat (.tuple (tx ms :: R)))], S⟩ :=
    idxV_e (d := .tuple (tx ms :: R)) (d2 := .int 0) rfl rfl rfl (show atI (tx ms :: R) ((0 : Nat) : Int) = _ from atI_nat rfl)
  exact cmp_t (frz_of a3) a2 rfl (c_neN _ _)
theorem are_yes1 {e : PyData} {R R0 : List PyData} (h0 : FS[0]? = some (.tuple (tx ns :: R0))) (h : C 61 [.dat (.tuple (tx ns :: R))] S = .ok (.dat (.bool true)) S) : denB C areB ⟨[some (.dat (.tuple FS)), some (.dat e), some (.dat (.tuple (tx ns :: R)))], S⟩ = .nx ⟨[some (.dat (.tuple FS)), some (.dat e), some (.dat (.tuple (tx ns :: R)))], S⟩ := by
  unfold areB
  have c := are_cmp (C := C) (S := S) (ns := ns) (e := e) (ms := ns) (R := R) h0
  rw [decide_eq_true rfl] at c
  exact if_f0 (Q := fun z => z = _) (or_f (not_t (cal_t (S := S) rfl h)) c) rfl
theorem are_no2 {e : PyData} {ms : List Str} {R R0 : List PyData} (h0 : FS[0]? = some (.tuple (tx ns :: R0))) (hne : ms ≠ ns) (h : C 61 [.dat (.tuple (tx ms :: R))] S = .ok (.dat (.bool true)) S) : denB C areB ⟨[some (.dat (.tuple FS)), some (.dat e), some (.dat (.tuple (tx ms :: R)))], S⟩ = .rt (.dat (.bool false)) ⟨[some (.dat (.tuple FS)), some (.dat e), some (.dat (.tuple (tx ms :: R)))], S⟩ := by
  unfold areB
  have c := are_cmp (C := C) (S := S) (ns := ns) (e := e) (ms := ms) (R := R) h0
  rw [decide_eq_false hne] at c
  exact if_rt (Q := fun z => z = _) (or_f (not_t (cal_t (S := S) rfl h)) c) rfl rfl
end
theorem are_faces_ok {rss : List (List Row)} (h4 : ns.length ≤ 4) (h0 : 0 < rss.length) (hG : ∀ rs ∈ rss, GoodF ns rs) : run (Dlib ++ X) (n + 5) 169 [.dat (facesD ns rss), .dat (.int 4)] S = .ok (.dat (.bool true)) S := by
  rw [r_are_faces]
  have hC : ∀ rs ∈ rss, run (Dlib ++ X) (n + 4) 61 [.dat (faceD ns rs)] S = .ok (.dat (.bool true)) S := fun rs h => is_face_ok (hG rs h)
  generalize run (Dlib ++ X) (n + 4) = C at hC
  obtain ⟨rs0, hrs⟩ : ∃ rs, rss[0]? = some rs := ⟨_, List.getElem?_eq_getElem h0⟩
  obtain ⟨FS, hFS⟩ : ∃ FS, FS = rss.map (faceD ns) := ⟨_, rfl⟩
  have hat : FS[0]? = some (faceD ns rs0) := by rw [hFS, List.getElem?_map, hrs]; rfl
  have hne : FS.isEmpty = false := by
    cases FS with
    | nil => cases hat
    | cons _ _ => rfl
  show FRof (denB C I.are_faces ⟨[some (.dat (.tuple (rss.map (faceD ns)))), some (.dat (.int 4)), none], S⟩) = _
  rw [← hFS]
  have c0 : (den C (.or (.not (.isi (.peek 0) .tuple)) (.not (.peek 0)))).t ⟨[some (.dat (.tuple FS)), some (.dat (.int 4)), none], S⟩ = .ok false ⟨[some (.dat (.tuple FS)), some (.dat (.int 4)), none], S⟩ := by
    refine or_f (not_t (b := true) (tru_of (v := .dat (.bool true)) rfl rfl rfl)) (not_t (b := true) (tru_of (v := .dat (.tuple FS)) (d := .tuple FS) rfl rfl ?_))
    cases FS with
    | nil => cases hne
    | cons _ _ => rfl
  refine if_f0 (Q := fun z => FRof z = _) c0 ?_
  have hi : denI C (.of (.var 0)) ⟨[some (.dat (.tuple FS)), some (.dat (.int 4)), none], S⟩ = .ok (rss.map (faceD ns)) ⟨[some (.dat (.tuple FS)), some (.dat (.int 4)), none], S⟩ := by
    rw [← hFS]
    exact of_t rfl
  refine fr_wp (Q := fun z => FRof z = FR.ok (.dat (.bool true)) S) hi (fun l s => (∃ v, s = ⟨[some (.dat (.tuple FS)), some (.dat (.int 4)), v], S⟩) ∧ ∀ x ∈ l, x ∈ rss) ⟨⟨_, rfl⟩, fun _ h => h⟩ ?_ ?_
  · rintro rs l s ⟨⟨v, rfl⟩, hl⟩
    refine ⟨⟨[some (.dat (.tuple FS)), some (.dat (.int 4)), some (.dat (faceD ns rs))], S⟩, rfl, ?_⟩
    have := are_yes1 (C := C) (S := S) (ns := ns) (FS := FS) (e := .int 4) hat (hC rs (hl rs (List.mem_cons_self ..)))
    show W1 (denB C areB _) _ _
    rw [this]
    exact ⟨⟨_, rfl⟩, fun x hx => hl x (List.mem_cons_of_mem _ hx)⟩
  · rintro s ⟨⟨v, rfl⟩, _⟩
    have a1 : (den C (.idxV 0 (.c (.int (0))))).v ⟨[some (.dat (.tuple FS)), some (.dat (.int 4)), v], S⟩ = .ok (.dat (faceD ns rs0)) ⟨[some (.dat (.tuple FS)), some (.dat (.int 4)), v], S⟩ :=
      idxV_e (d := .tuple FS) (d2 := .int 0) rfl rfl rfl (show atI FS ((0 : Nat) : Int) = _ from atI_nat hat)
    have a2 : (den C (.idx (.idxV 0 (.c (.int (0)))) (.c (.int (0))))).v ⟨[some (.dat (.tuple FS)), some (.dat (.int 4)), v], S⟩ = .ok (.dat (tx ns)) ⟨[some (.dat (.tuple FS)), some (.dat (.int 4)), v], S⟩ :=
      idx_e (frz_of a1) (d2 := .int 0) rfl (show atI [tx ns, PyData.tuple (rs0.map rowD)] ((0 : Nat) : Int) = _ from atI_nat rfl)
    have a3 := lenT_e a2
    rw [List.length_map] at a3
    have a4 : (den C (.cmp .LtE (.b1 .len (.idx (.idxV 0 (.c (.int (0)))) (.c (.int (0))))) (.peek 1))).v ⟨[some (.dat (.tuple FS)), some (.dat (.int 4)), v], S⟩ = .ok (.dat (.bool (decide ((ns.length : Int) ≤ 4)))) ⟨[some (.dat (.tuple FS)), some (.dat (.int 4)), v], S⟩ := cmp_v (frz_of a3) rfl rfl rfl
    rw [decide_eq_true (by omega)] at a4
    exact ret_e (Q := fun z => FRof z = _) a4 rfl
/-- what is not right at the first bad one -/
theorem are_faces_no {pre : List (List Row)} {d : PyData} {rest : List PyData} (hG : ∀ rs ∈ pre, GoodF ns rs)
    (hd : (∀ m, run (Dlib ++ X) (m + 4) 61 [.dat d] S = .ok (.dat (.bool false)) S) ∨ (0 < pre.length ∧ ∃ (ms : List Str) (rs : List Row), d = faceD ms rs ∧ GoodF ms rs ∧ ms ≠ ns)) :
    run (Dlib ++ X) (n + 5) 169 [.dat (.tuple (pre.map (faceD ns) ++ d :: rest)), .dat (.int 4)] S = .ok (.dat (.bool false)) S := by
  rw [r_are_faces]
  have hC : ∀ rs ∈ pre, run (Dlib ++ X) (n + 4) 61 [.dat (faceD ns rs)] S = .ok (.dat (.bool true)) S := fun rs h => is_face_ok (hG rs h)
  have hD : run (Dlib ++ X) (n + 4) 61 [.dat d] S = .ok (.dat (.bool false)) S ∨ (0 < pre.length ∧ ∃ (ms : List Str) (rs : List Row), d = faceD ms rs ∧ ms ≠ ns ∧ run (Dlib ++ X) (n + 4) 61 [.dat (faceD ms rs)] S = .ok (.dat (.bool true)) S) := by
    rcases hd with h | ⟨h, ms, rs, e, G, hne⟩
    · exact .inl (h n)
    · exact .inr ⟨h, ms, rs, e, hne, is_face_ok G⟩
  generalize run (Dlib ++ X) (n + 4) = C at hC hD
  obtain ⟨FS, hFS⟩ : ∃ FS, FS = pre.map (faceD ns) ++ d :: rest := ⟨_, rfl⟩
  have hat : ∀ rs, pre[0]? = some rs → FS[0]? = some (faceD ns rs) := fun rs h => by
    cases pre with
    | nil => cases h
    | cons _ _ => cases h; rw [hFS]; rfl
  have hne : FS.isEmpty = false := by rw [hFS]; cases pre <;> rfl
  rw [← hFS]
  have c0 : (den C (.or (.not (.isi (.peek 0) .tuple)) (.not (.peek 0)))).t ⟨[some (.dat (.tuple FS)), some (.dat (.int 4)), none], S⟩ = .ok false ⟨[some (.dat (.tuple FS)), some (.dat (.int 4)), none], S⟩ := by
    refine or_f (not_t (b := true) (tru_of (v := .dat (.bool true)) rfl rfl rfl)) (not_t (b := true) (tru_of (v := .dat (.tuple FS)) (d := .tuple FS) rfl rfl ?_))
    cases FS with
    | nil => cases hne
    | cons _ _ => rfl
  show FRof (denB C I.are_faces ⟨[some (.dat (.tuple FS)), some (.dat (.int 4)), none], S⟩) = _
  refine if_f0 (Q := fun z => FRof z = _) c0 ?_
  have hi : denI C (.of (.var 0)) ⟨[some (.dat (.tuple FS)), some (.dat (.int 4)), none], S⟩ = .ok (FS.map id) ⟨[some (.dat (.tuple FS)), some (.dat (.int 4)), none], S⟩ := by
    rw [List.map_id]
    exact of_t rfl
  refine fr_wp (Q := fun z => FRof z = FR.ok (.dat (.bool false)) S) hi (fun l s => (∃ v, s = ⟨[some (.dat (.tuple FS)), some (.dat (.int 4)), v], S⟩) ∧ ∃ p : List (List Row), (∀ x ∈ p, x ∈ pre) ∧ l = p.map (faceD ns) ++ d :: rest) ⟨⟨_, rfl⟩, pre, fun _ h => h, hFS⟩ ?_ ?_
  · rintro x l s ⟨⟨v, rfl⟩, p, hp, hl⟩
    refine ⟨⟨[some (.dat (.tuple FS)), some (.dat (.int 4)), some (.dat x)], S⟩, rfl, ?_⟩
    show W1 (denB C areB _) _ _
    cases p with
    | nil =>
      cases hl
      rcases hD with h | ⟨h, ms, rs, rfl, hmn, h2⟩
      · rw [are_no1 h]
        rfl
      · obtain ⟨rs0, hrs⟩ : ∃ rs, pre[0]? = some rs := ⟨_, List.getElem?_eq_getElem h⟩
        rw [are_no2 (hat rs0 hrs) hmn h2]
        rfl
    | cons rs p =>
      cases hl
      have hm := hp rs (List.mem_cons_self ..)
      obtain ⟨rs0, hrs⟩ : ∃ rs, pre[0]? = some rs := by
        cases pre with
        | nil => cases hm
        | cons a _ => exact ⟨a, rfl⟩
      rw [are_yes1 (hat rs0 hrs) (hC rs hm)]
      exact ⟨⟨_, rfl⟩, p, fun x hx => hp x (List.mem_cons_of_mem _ hx), rfl⟩
  · rintro s ⟨_, p, _, hl⟩
    cases p <;> cases hl
theorem are_faces_nil : run (Dlib ++ X) (n + 5) 169 [.dat (.tuple []), .dat (.int 4)] S = .ok (.dat (.bool false)) S := by
  rw [r_are_faces]; rfl
theorem are_faces_none : run (Dlib ++ X) (n + 5) 169 [.dat .none, .dat (.int 4)] S = .ok (.dat (.bool false)) S := by
  rw [r_are_faces]; rfl
theorem are_faces_str (x : Str) : run (Dlib ++ X) (n + 5) 169 [.dat (.str x), .dat (.int 4)] S = .ok (.dat (.bool false)) S := by
  rw [r_are_faces]; rfl
theorem exchange_no {d : PyData} (h : run (Dlib ++ X) (n + 5) 169 [.dat d, .dat (.int 4)] S = .ok (.dat (.bool false)) S) : run (Dlib ++ X) (n + 6) 170 [.dat d] S = .exc (bv (Str.ofString "faces")) S := by
  rw [r_exchange]
  unfold I.exchange
  generalize run (Dlib ++ X) (n + 5) = C at h
  rw [denB_cons, ifs_t (not_t (cal_t rfl h))]
  rfl
theorem exchange_ok {rss : List (List Row)} (hn : ns.length ≤ 4) (h0 : 0 < rss.length) (hG : ∀ rs ∈ rss, GoodF ns rs) {r : Bool × Steps} (e : resX ns.length (letsOf ns rss) = some r) : run (Dlib ++ X) (n + 6) 170 [.dat (facesD ns rss)] S = .ok (.dat (resD r)) S := by
  rw [r_exchange]
  unfold I.exchange
  have h1 := are_faces_ok (X := X) (n := n) (S := S) hn h0 hG
  have h2 := passed_on_ok (X := X) (n := n) (S := S) hn h0 e
  generalize run (Dlib ++ X) (n + 5) = C at h1 h2
  refine if_f0 (Q := fun z => FRof z = _) (s := ⟨[some (.dat (facesD ns rss))], S⟩) (not_t (cal_t (S := S) rfl h1)) ?_
  exact ret_e (Q := fun z => FRof z = _) (cal (S := S) rfl h2) rfl
end
end Lib

namespace Lib
open PySem PySem.Spec PyProof.Rows L2 Ev
/-! # _law_same of a thing with itself -/
inductive Nice : Nat → PyData → Prop
  | bool (k : Nat) (b : Bool) : Nice k (.bool b)
  | int (k : Nat) (i : Int) : Nice k (.int i)
  | str (k : Nat) (x : Str) : Nice k (.str x)
  | tup (k : Nat) (xs : List PyData) (hl : xs.length < 1000000) (h : ∀ x ∈ xs, Nice k x) : Nice (k + 1) (.tuple xs)
section
variable {X : Dt} {n : Nat} {S : List PyData}
theorem not_v {C : Nat → Fn} {e : Ex} {b : Bool} {s s1 : Stt} (h : (den C e).t s = .ok b s1) (h0 : (den C e).t = dTru (den C e).v) : (den C (.not e)).v s = .ok (.dat (.bool (!b))) s1 := by
  show dNot (den C e).v s = _
  unfold dNot toV dNotB
  rw [← h0, h]
  rfl
theorem offV_set {vs : List Nat} {ρ : List (Option Va)} {i : Nat} (h : i ∈ vs) (v : Option Va) : OffV vs ρ (ρ.set i v) :=
  ⟨by simp, fun j hj => List.getElem?_set_ne (by rintro rfl; exact hj h)⟩
theorem and_e {C : Nat → Fn} {a b : Ex} {s : Stt} {v : Va} (h : (den C a).v s = .ok (.dat (.bool true)) s) (h2 : (den C b).v s = .ok v s) : (den C (.and a b)).v s = .ok v s := by
  show dAnd (den C a).v (den C b).v s = _
  unfold dAnd
  rw [h]
  exact h2
theorem same_int (i : Int) : run (Dlib ++ X) (n + 1) 24 [.dat (.int i), .dat (.int i)] S = .ok (.dat (.bool true)) S := by
  rw [r_law_same]
  unfold I.law_same
  generalize run (Dlib ++ X) n = C
  have t : (den C (.cmp .Eq (.var 0) (.peek 1))).v ⟨[some (.dat (.int i)), some (.dat (.int i)), none, none], S⟩ = .ok (.dat (.bool true)) ⟨[some (.dat (.int i)), some (.dat (.int i)), none, none], S⟩ := cmp_v rfl rfl rfl ((c_eqI i i).trans (by rw [decide_eq_true rfl]))
  refine if_f0 (Q := fun z => FRof z = _) (s1 := ⟨[some (.dat (.int i)), some (.dat (.int i)), none, none], S⟩) rfl ?_
  refine if_f0 (Q := fun z => FRof z = _) (s1 := ⟨[some (.dat (.int i)), some (.dat (.int i)), none, none], S⟩) rfl ?_
  refine if_rt (Q := fun z => FRof z = _) (s1 := ⟨[some (.dat (.int i)), some (.dat (.int i)), none, none], S⟩) rfl (ret_e (Q := fun z => z = _) (and_e rfl (and_e rfl t)) rfl) rfl
theorem same_str (x : Str) : run (Dlib ++ X) (n + 1) 24 [.dat (.str x), .dat (.str x)] S = .ok (.dat (.bool true)) S := by
  rw [r_law_same]
  unfold I.law_same
  generalize run (Dlib ++ X) n = C
  have t : (den C (.cmp .Eq (.var 0) (.peek 1))).v ⟨[some (.dat (.str x)), some (.dat (.str x)), none, none], S⟩ = .ok (.dat (.bool true)) ⟨[some (.dat (.str x)), some (.dat (.str x)), none, none], S⟩ := cmp_v rfl rfl rfl (eq_self rfl (Nat.zero_le _))
  refine if_f0 (Q := fun z => FRof z = _) (s1 := ⟨[some (.dat (.str x)), some (.dat (.str x)), none, none], S⟩) rfl ?_
  refine if_f0 (Q := fun z => FRof z = _) (s1 := ⟨[some (.dat (.str x)), some (.dat (.str x)), none, none], S⟩) rfl ?_
  refine if_f0 (Q := fun z => FRof z = _) (s1 := ⟨[some (.dat (.str x)), some (.dat (.str x)), none, none], S⟩) rfl ?_
  exact ret_e (Q := fun z => FRof z = _) (and_e rfl t) rfl
theorem same_bool (b : Bool) : run (Dlib ++ X) (n + 1) 24 [.dat (.bool b), .dat (.bool b)] S = .ok (.dat (.bool true)) S := by
  rw [r_law_same]; cases b <;> rfl
theorem same_self : ∀ (k : Nat) (d : PyData), Nice k d → ∀ (n : Nat) (S : List PyData), run (Dlib ++ X) (n + k + 1) 24 [.dat d, .dat d] S = .ok (.dat (.bool true)) S := by
  intro k
  induction k with
  | zero =>
    intro d h n S
    cases h with
    | bool _ b => exact same_bool b
    | int _ i => exact same_int i
    | str _ x => exact same_str x
  | succ k ih =>
    intro d h n S
    cases h with
    | bool _ b => exact same_bool b
    | int _ i => exact same_int i
    | str _ x => exact same_str x
    | tup _ xs hl h =>
      show run (Dlib ++ X) (n + k + 1 + 1) 24 _ S = _
      rw [r_law_same]
      unfold I.law_same
      have ih' : ∀ x ∈ xs, run (Dlib ++ X) (n + k + 1) 24 [.dat x, .dat x] S = .ok (.dat (.bool true)) S := fun x hx => ih x (h x hx) n S
      generalize run (Dlib ++ X) (n + k + 1) = C at ih'
      let s0 : List (Option Va) := [some (.dat (.tuple xs)), some (.dat (.tuple xs)), none, none]
      have hi : denI C (.rng1 (.b1 .len (.peek 1))) ⟨s0, S⟩ = .ok ((List.range xs.length).map fun (t : Nat) => PyData.int (t : Int)) ⟨s0, S⟩ := by
        have := rng1_s (C := C) (a := .b1 .len (.peek 1)) (s := ⟨s0, S⟩) (j := (xs.length : Nat)) (frz_of (lenT_e rfl)) (inR_small (by omega) (by omega))
        rw [Int.toNat_natCast, rangeL0] at this
        refine this.trans ?_
        unfold k0
        rw [List.map_map]
        rfl
      have e := lc_map (C := C) (tg := .n 3) (ft := some (.not (.call 24 [(.idxV 0 (.var 3)), (.idxV 1 (.var 3))]))) (vs := [2, 3]) (elt := .var 3) (k := fun _ => false) (f := fun (t : Nat) => PyData.int (t : Int)) hi rfl (by rw [List.length_range]; omega) (fun t ht => by
        have hlt := List.mem_range.mp ht
        have hat : xs[t]? = some xs[t] := List.getElem?_eq_getElem hlt
        refine ⟨s0.set 3 (some (.dat (.int (t : Int)))), rfl, offV_set (by simp) _, ?_, fun z => nomatch z⟩
        have i0 : (den C (.idxV 0 (.var 3))).v ⟨s0.set 3 (some (.dat (.int (t : Int)))), S⟩ = .ok (.dat xs[t]) ⟨s0.set 3 (some (.dat (.int (t : Int)))), S⟩ := idxV_e (d := .tuple xs) (d2 := .int (t : Int)) rfl rfl rfl (show atI xs (t : Int) = _ from atI_nat hat)
        have i1 : (den C (.idxV 1 (.var 3))).v ⟨s0.set 3 (some (.dat (.int (t : Int)))), S⟩ = .ok (.dat xs[t]) ⟨s0.set 3 (some (.dat (.int (t : Int)))), S⟩ := idxV_e (d := .tuple xs) (d2 := .int (t : Int)) rfl rfl rfl (show atI xs (t : Int) = _ from atI_nat hat)
        exact not_t (cal_t (S := S) (dl_d i0 (dl_d i1 rfl)) (ih' _ (List.getElem_mem hlt))))
      have he : ((List.range xs.length).filter fun _ => false) = [] := by simp
      rw [he, List.map_nil] at e
      have c1 : (den C (.or (.not (.isi (.peek 0) .tuple)) (.cmp .NotEq (.b1 .len (.peek 0)) (.b1 .len (.peek 1))))).t ⟨s0, S⟩ = .ok false ⟨s0, S⟩ := by
        refine or_f (not_t (b := true) (tru_of (v := .dat (.bool true)) rfl rfl rfl)) ?_
        exact cmp_t (frz_of (lenT_e rfl)) (lenT_e rfl) rfl ((c_neI _ _).trans (by rw [decide_eq_true rfl]; rfl))
      have e2 : (den C (.not (.lc (.rng1 (.b1 .len (.peek 1))) (.n 3) (some (.not (.call 24 [(.idxV 0 (.var 3)), (.idxV 1 (.var 3))]))) [2, 3] (.var 3)))).v ⟨s0, S⟩ = .ok (.dat (.bool true)) ⟨s0, S⟩ := by
        have h0 : ∀ x : Ex, (den C (.not x)).v = dNot (den C x).v := fun _ => rfl
        rw [h0]
        unfold dNot toV dNotB dTru
        rw [e]
        rfl
      have e3 : denB C [.ifs (.or (.not (.isi (.peek 0) .tuple)) (.cmp .NotEq (.b1 .len (.peek 0)) (.b1 .len (.peek 1)))) [.ret (.c (.bool false))] [], .ret (.not (.lc (.rng1 (.b1 .len (.peek 1))) (.n 3) (some (.not (.call 24 [(.idxV 0 (.var 3)), (.idxV 1 (.var 3))]))) [2, 3] (.var 3)))] ⟨s0, S⟩ = .rt (.dat (.bool true)) ⟨s0, S⟩ := by
        refine if_f0 (Q := fun z => z = SR.rt (.dat (.bool true)) ⟨s0, S⟩) c1 ?_
        exact ret_e (Q := fun z => z = SR.rt (.dat (.bool true)) ⟨s0, S⟩) e2 rfl
      exact if_rt (Q := fun z => FRof z = FR.ok (.dat (.bool true)) S) (s1 := ⟨s0, S⟩) (tru_of (v := .dat (.bool true)) rfl rfl rfl) e3 rfl
end
end Lib

namespace Lk
open PySem PySem.Spec PyProof.Rows L2 Ev
def topS (i : Nat) : Stmt := PySem.Challenge.pw_partnerlots_k01_arrangements.main.body.getD i (.Pass ⟨0, 0, 0, 0⟩)
abbrev s0 : Stmt := topS 8 -- is_whole
abbrev s1 : Stmt := topS 9 -- is_number
abbrev s2 : Stmt := topS 10 -- is_rising
abbrev s3 : Stmt := topS 12 -- class_total
abbrev s4 : Stmt := topS 13 -- all_arrangements
abbrev s5 : Stmt := topS 14 -- numbered
abbrev s6 : Stmt := topS 15 -- finest_below
abbrev s7 : Stmt := topS 16 -- coarsest_above
abbrev s8 : Stmt := topS 17 -- refines
abbrev s9 : Stmt := topS 18 -- seen_at
abbrev s10 : Stmt := topS 20 -- arrangements
abbrev s11 : Stmt := topS 21 -- is_arrangement
abbrev s12 : Stmt := topS 22 -- check_arrangement
abbrev s13 : Stmt := topS 23 -- check_any
abbrev s14 : Stmt := topS 24 -- meet_of
abbrev s15 : Stmt := topS 25 -- join_of
abbrev s16 : Stmt := topS 26 -- is_finer
abbrev s17 : Stmt := topS 27 -- class_count
abbrev s18 : Stmt := topS 28 -- part_of
abbrev s19 : Stmt := topS 31 -- _law_draw
abbrev s20 : Stmt := topS 32 -- _law_pick
abbrev s21 : Stmt := topS 33 -- _law_arrangements
abbrev s22 : Stmt := topS 34 -- _law_same_marks
abbrev s23 : Stmt := topS 35 -- _law_same
abbrev s24 : Stmt := topS 36 -- _law_numbers
abbrev s25 : Stmt := topS 37 -- _law_right
abbrev s26 : Stmt := topS 38 -- _law_any
abbrev s27 : Stmt := topS 39 -- _law_tuples
abbrev s28 : Stmt := topS 40 -- _law_finer
abbrev s29 : Stmt := topS 41 -- _law_bent
abbrev s30 : Stmt := topS 42 -- _law_odd
abbrev s31 : Stmt := topS 43 -- _law_bent_places
abbrev s32 : Stmt := topS 44 -- _law_places_right
abbrev s33 : Stmt := topS 45 -- _law_ask
abbrev s34 : Stmt := topS 46 -- _law_refused
abbrev s35 : Stmt := topS 47 -- _law_all_told
abbrev s36 : Stmt := topS 48 -- _law_near_told
abbrev s37 : Stmt := topS 49 -- _law_pair_told
abbrev s38 : Stmt := topS 50 -- _law_rows_told
abbrev s39 : Stmt := topS 51 -- _law_part_told
abbrev s40 : Stmt := topS 52 -- _law_one_told
abbrev s41 : Stmt := topS 53 -- _law_two_refused
abbrev sPot : Stmt := topS 30
abbrev sLaw : Stmt := topS 54
def PAR : List (Str × List Str) := [((Str.ofString "HouseError"), [(Str.ofString "HouseError")]), ((Str.ofString "BadValue"), [(Str.ofString "BadValue"), (Str.ofString "HouseError")]), ((Str.ofString "TooLarge"), [(Str.ofString "TooLarge"), (Str.ofString "HouseError")]), ((Str.ofString "BadText"), [(Str.ofString "BadText"), (Str.ofString "HouseError")]), ((Str.ofString "Repeated"), [(Str.ofString "Repeated"), (Str.ofString "HouseError")]), ((Str.ofString "NoLevel"), [(Str.ofString "NoLevel"), (Str.ofString "HouseError")])]
def T : Tb := ⟨[((Str.ofString "is_whole"), 1), ((Str.ofString "is_number"), 2), ((Str.ofString "is_rising"), 3), ((Str.ofString "class_total"), 4), ((Str.ofString "all_arrangements"), 5), ((Str.ofString "numbered"), 6), ((Str.ofString "finest_below"), 7), ((Str.ofString "coarsest_above"), 8), ((Str.ofString "refines"), 9), ((Str.ofString "seen_at"), 10), ((Str.ofString "arrangements"), 11), ((Str.ofString "is_arrangement"), 12), ((Str.ofString "check_arrangement"), 13), ((Str.ofString "check_any"), 14), ((Str.ofString "meet_of"), 15), ((Str.ofString "join_of"), 16), ((Str.ofString "is_finer"), 17), ((Str.ofString "class_count"), 18), ((Str.ofString "part_of"), 19), ((Str.ofString "_law_draw"), 20), ((Str.ofString "_law_pick"), 21), ((Str.ofString "_law_arrangements"), 22), ((Str.ofString "_law_same_marks"), 23), ((Str.ofString "_law_same"), 24), ((Str.ofString "_law_numbers"), 1000), ((Str.ofString "_law_right"), 1001), ((Str.ofString "_law_any"), 1002), ((Str.ofString "_law_tuples"), 1003), ((Str.ofString "_law_finer"), 1004), ((Str.ofString "_law_bent"), 1005), ((Str.ofString "_law_odd"), 1006), ((Str.ofString "_law_bent_places"), 1007), ((Str.ofString "_law_places_right"), 1008), ((Str.ofString "_law_ask"), 1009), ((Str.ofString "_law_refused"), 1010), ((Str.ofString "_law_all_told"), 1011), ((Str.ofString "_law_near_told"), 1012), ((Str.ofString "_law_pair_told"), 1013), ((Str.ofString "_law_rows_told"), 1014), ((Str.ofString "_law_part_told"), 1015), ((Str.ofString "_law_one_told"), 1016), ((Str.ofString "_law_two_refused"), 1017)], [], [(Str.ofString "BadValue")], PAR, true⟩
abbrev N0 : List Str := [(Str.ofString "value")]
abbrev P0 : List Str := [(Str.ofString "value")]
abbrev N1 : List Str := [(Str.ofString "value"), (Str.ofString "low"), (Str.ofString "high")]
abbrev P1 : List Str := [(Str.ofString "value"), (Str.ofString "low"), (Str.ofString "high")]
abbrev N2 : List Str := [(Str.ofString "row"), (Str.ofString "place")]
abbrev P2 : List Str := [(Str.ofString "row")]
abbrev N3 : List Str := [(Str.ofString "row")]
abbrev P3 : List Str := [(Str.ofString "row")]
abbrev N4 : List Str := [(Str.ofString "count"), (Str.ofString "rows"), (Str.ofString "step"), (Str.ofString ".0"), (Str.ofString "row"), (Str.ofString "number")]
abbrev P4 : List Str := [(Str.ofString "count")]
abbrev N5 : List Str := [(Str.ofString "marks"), (Str.ofString "seen"), (Str.ofString "row"), (Str.ofString "mark")]
abbrev P5 : List Str := [(Str.ofString "marks")]
abbrev N6 : List Str := [(Str.ofString "one"), (Str.ofString "other"), (Str.ofString ".0"), (Str.ofString "place")]
abbrev P6 : List Str := [(Str.ofString "one"), (Str.ofString "other")]
abbrev N7 : List Str := [(Str.ofString "one"), (Str.ofString "other"), (Str.ofString "marks"), (Str.ofString "i"), (Str.ofString "j"), (Str.ofString "old"), (Str.ofString "new"), (Str.ofString ".0"), (Str.ofString "mark")]
abbrev P7 : List Str := [(Str.ofString "one"), (Str.ofString "other")]
abbrev N8 : List Str := [(Str.ofString "one"), (Str.ofString "other"), (Str.ofString "i"), (Str.ofString "j")]
abbrev P8 : List Str := [(Str.ofString "one"), (Str.ofString "other")]
abbrev N9 : List Str := [(Str.ofString "row"), (Str.ofString "places"), (Str.ofString ".0"), (Str.ofString "place")]
abbrev P9 : List Str := [(Str.ofString "row"), (Str.ofString "places")]
abbrev N10 : List Str := [(Str.ofString "count")]
abbrev P10 : List Str := [(Str.ofString "count")]
abbrev N11 : List Str := [(Str.ofString "value"), (Str.ofString "count"), (Str.ofString "top"), (Str.ofString "number")]
abbrev P11 : List Str := [(Str.ofString "value"), (Str.ofString "count")]
abbrev N12 : List Str := [(Str.ofString "value"), (Str.ofString "count")]
abbrev P12 : List Str := [(Str.ofString "value"), (Str.ofString "count")]
abbrev N13 : List Str := [(Str.ofString "value")]
abbrev P13 : List Str := [(Str.ofString "value")]
abbrev N14 : List Str := [(Str.ofString "one"), (Str.ofString "other")]
abbrev P14 : List Str := [(Str.ofString "one"), (Str.ofString "other")]
abbrev N15 : List Str := [(Str.ofString "one"), (Str.ofString "other")]
abbrev P15 : List Str := [(Str.ofString "one"), (Str.ofString "other")]
abbrev N16 : List Str := [(Str.ofString "one"), (Str.ofString "other")]
abbrev P16 : List Str := [(Str.ofString "one"), (Str.ofString "other")]
abbrev N17 : List Str := [(Str.ofString "arrangement")]
abbrev P17 : List Str := [(Str.ofString "arrangement")]
abbrev N18 : List Str := [(Str.ofString "arrangement"), (Str.ofString "places"), (Str.ofString "place")]
abbrev P18 : List Str := [(Str.ofString "arrangement"), (Str.ofString "places")]
abbrev N19 : List Str := [(Str.ofString "pot"), (Str.ofString "many"), (Str.ofString "cell"), (Str.ofString "first"), (Str.ofString "value")]
abbrev P19 : List Str := [(Str.ofString "pot"), (Str.ofString "many")]
abbrev N20 : List Str := [(Str.ofString "pot"), (Str.ofString "row")]
abbrev P20 : List Str := [(Str.ofString "pot"), (Str.ofString "row")]
abbrev N21 : List Str := [(Str.ofString "count"), (Str.ofString "rows"), (Str.ofString "step"), (Str.ofString "more"), (Str.ofString "row"), (Str.ofString ".0"), (Str.ofString "number")]
abbrev P21 : List Str := [(Str.ofString "count")]
abbrev N22 : List Str := [(Str.ofString "marks"), (Str.ofString "seen"), (Str.ofString ".0"), (Str.ofString "mark")]
abbrev P22 : List Str := [(Str.ofString "marks")]
abbrev N23 : List Str := [(Str.ofString "told"), (Str.ofString "due"), (Str.ofString ".0"), (Str.ofString "place")]
abbrev P23 : List Str := [(Str.ofString "told"), (Str.ofString "due")]
abbrev N24 : List Str := [(Str.ofString "row"), (Str.ofString ".0"), (Str.ofString "thing")]
abbrev P24 : List Str := [(Str.ofString "row")]
def b_law_numbers : List Sx := [
  .ret (.not (.lc (.of (.var 0)) (.n 2) (some (.or (.not (.isi (.peek 2) .int)) (.isi (.peek 2) .bool))) [1, 2] (.var 2)))]
abbrev N25 : List Str := [(Str.ofString "value"), (Str.ofString "count")]
abbrev P25 : List Str := [(Str.ofString "value"), (Str.ofString "count")]
def b_law_right : List Sx := [
  .ifs (.or (.not (.isi (.peek 0) .tuple)) (.or (.cmp .NotEq (.b1 .len (.peek 0)) (.peek 1)) (.not (.call 1000 [(.var 0)])))) [
    .ret (.c (.bool false))] [],
  .ret (.cmp .Eq (.call 23 [(.b1 .list (.peek 0))]) (.peek 0))]
abbrev N26 : List Str := [(Str.ofString "value")]
abbrev P26 : List Str := [(Str.ofString "value")]
def b_law_any : List Sx := [
  .ret (.and (.isi (.peek 0) .tuple) (.and (.cmp .LtE (.b1 .len (.peek 0)) (.c (.int (4)))) (.call 1001 [(.var 0), (.b1 .len (.peek 0))])))]
abbrev N27 : List Str := [(Str.ofString "count"), (Str.ofString "rows"), (Str.ofString "step"), (Str.ofString "more"), (Str.ofString "row"), (Str.ofString ".0"), (Str.ofString "number")]
abbrev P27 : List Str := [(Str.ofString "count")]
def b_law_tuples : List Sx := [
  .set 1 (.lst [(.tup [])]),
  .fr (.rng1 (.var 0)) (.n 2) [
    .set 3 (.lst []),
    .fr (.of (.var 1)) (.n 4) [
      .expr (.ext 3 (.lc (.rng1 (.bin .Add (.var 0) (.c (.int (1))))) (.n 6) none [5, 6] (.bin .Add (.var 4) (.tup [(.var 6)]))))],
    .set 1 (.var 3)],
  .ret (.mv 1)]
abbrev N28 : List Str := [(Str.ofString "one"), (Str.ofString "other"), (Str.ofString "place"), (Str.ofString "before")]
abbrev P28 : List Str := [(Str.ofString "one"), (Str.ofString "other")]
def b_law_finer : List Sx := [
  .fr (.rng1 (.b1 .len (.peek 0))) (.n 2) [
    .fr (.rng1 (.var 2)) (.n 3) [
      .ifs (.and (.cmp .Eq (.idxV 0 (.var 2)) (.idxV 0 (.var 3))) (.cmp .NotEq (.idxV 1 (.var 2)) (.idxV 1 (.var 3)))) [
        .ret (.c (.bool false))] []]],
  .ret (.c (.bool true))]
abbrev N29 : List Str := [(Str.ofString "pot"), (Str.ofString "one"), (Str.ofString "way"), (Str.ofString "place"), (Str.ofString "new"), (Str.ofString ".0"), (Str.ofString "number")]
abbrev P29 : List Str := [(Str.ofString "pot"), (Str.ofString "one")]
def b_law_bent : List Sx := [
  .set 2 (.call 20 [(.var 0), (.c (.int (8)))]),
  .ifs (.cmp .Eq (.var 2) (.c (.int (0)))) [
    .ret (.bin .Add (.var 1) (.tup [(.call 20 [(.var 0), (.bin .Add (.b1 .len (.peek 1)) (.c (.int (2))))])]))] [],
  .ifs (.cmp .Eq (.var 2) (.c (.int (1)))) [
    .ret (.cutV 1 (some (.c (.int (1)))) none)] [],
  .ifs (.cmp .Eq (.var 2) (.c (.int (2)))) [
    .ret (.b1 .tuple (.lc (.of (.var 1)) (.n 6) none [5, 6] (.bin .Add (.var 6) (.c (.int (1))))))] [],
  .ifs (.cmp .Eq (.var 2) (.c (.int (3)))) [
    .ret (.b1 .tuple (.lc (.of (.var 1)) (.n 6) none [5, 6] (.idx (.lst [(.c (.bool false)), (.c (.bool true)), (.c (.int (2))), (.c (.int (3)))]) (.var 6))))] [],
  .ifs (.cmp .Eq (.var 2) (.c (.int (4)))) [
    .ret (.call 21 [(.var 0), (.lst [(.join (Str.ofString "") (.lc (.of (.var 1)) (.n 6) none [5, 6] (.b1 .str (.peek 6)))), (.tup [(.var 1)]), (.b1 .len (.peek 1)), (.c .none), (.c (.bool true))])])] [],
  .set 3 (.call 20 [(.var 0), (.b2 .max (.c (.int (1))) (.b1 .len (.peek 1)))]),
  .set 4 (.call 21 [(.var 0), (.lst [(.bin .Sub (.call 20 [(.var 0), (.c (.int (6)))]) (.c (.int (1)))), (.c .none), (.c (.str (Str.ofString "0"))), (.tup [(.c (.int (0)))]), (.bin .Pow (.c (.int (10))) (.c (.int (20))))])]),
  .ret (.bin .Add (.bin .Add (.cutV 1 none (some (.var 3))) (.tup [(.var 4)])) (.cutV 1 (some (.bin .Add (.var 3) (.c (.int (1))))) none))]
abbrev N30 : List Str := [(Str.ofString "pot")]
abbrev P30 : List Str := [(Str.ofString "pot")]
def b_law_odd : List Sx := [
  .ret (.call 21 [(.var 0), (.lst [(.c .none), (.c (.bool true)), (.c (.int (0))), (.neg (.c (.int (1)))), (.c (.str (Str.ofString "0"))), (.c (.str (Str.ofString ""))), (.tup [(.c (.int (1)))]), (.tup [(.c (.int (0))), (.c (.int (2)))]), (.tup [(.c (.int (0))), (.c (.int (0))), (.c (.int (2)))]), (.tup [(.c (.int (0))), (.c (.int (1))), (.c (.int (3))), (.c (.int (2)))]), (.tup [(.c (.int (0))), (.c (.bool true))]), (.tup [(.c (.bool false))]), (.tup [(.c (.int (0))), (.neg (.c (.int (1))))]), (.tup [(.c (.str (Str.ofString "0")))]), (.tup [(.c .none)]), (.tup [(.tup [])]), (.tup [(.c (.int (0))), (.tup [(.c (.int (1)))])]), (.tup [(.c (.int (0))), (.c (.int (1))), (.c (.int (2))), (.c (.int (3))), (.c (.int (4)))]), (.tup [(.c (.int (0))), (.c (.int (0))), (.c (.int (0))), (.c (.int (0))), (.c (.int (0)))])])])]
abbrev N31 : List Str := [(Str.ofString "pot"), (Str.ofString "places"), (Str.ofString "count"), (Str.ofString "way"), (Str.ofString ".0"), (Str.ofString "step"), (Str.ofString "place")]
abbrev P31 : List Str := [(Str.ofString "pot"), (Str.ofString "places"), (Str.ofString "count")]
def b_law_bent_places : List Sx := [
  .set 3 (.call 20 [(.var 0), (.c (.int (6)))]),
  .ifs (.cmp .Eq (.var 3) (.c (.int (0)))) [
    .ret (.bin .Add (.var 1) (.tup [(.var 2)]))] [],
  .ifs (.cmp .Eq (.var 3) (.c (.int (1)))) [
    .ret (.bin .Add (.tup [(.neg (.c (.int (1))))]) (.var 1))] [],
  .ifs (.cmp .Eq (.var 3) (.c (.int (2)))) [
    .ret (.bin .Add (.var 1) (.var 1))] [],
  .ifs (.cmp .Eq (.var 3) (.c (.int (3)))) [
    .ret (.b1 .tuple (.lc (.rng1 (.b1 .len (.peek 1))) (.n 5) none [4, 5] (.idxV 1 (.bin .Sub (.bin .Sub (.b1 .len (.peek 1)) (.c (.int (1)))) (.var 5)))))] [],
  .ifs (.cmp .Eq (.var 3) (.c (.int (4)))) [
    .ret (.call 21 [(.var 0), (.lst [(.c .none), (.c (.int (0))), (.c (.bool true)), (.c (.str (Str.ofString ""))), (.c (.str (Str.ofString "0"))), (.tup [(.c .none)]), (.tup [(.c (.str (Str.ofString "0")))]), (.tup [(.tup [(.c (.int (0)))])]), (.tup [(.c (.int (0))), (.c .none)]), (.tup [(.bin .Pow (.c (.int (10))) (.c (.int (20))))])])])] [],
  .ret (.b1 .tuple (.lc (.of (.var 1)) (.n 6) none [4, 6] (.idx (.lst [(.c (.bool false)), (.c (.bool true)), (.c (.int (2))), (.c (.int (3)))]) (.var 6))))]
abbrev N32 : List Str := [(Str.ofString "value"), (Str.ofString "count"), (Str.ofString "outside"), (Str.ofString ".0"), (Str.ofString "place")]
abbrev P32 : List Str := [(Str.ofString "value"), (Str.ofString "count")]
def b_law_places_right : List Sx := [
  .ifs (.or (.not (.isi (.peek 0) .tuple)) (.not (.call 1000 [(.var 0)]))) [
    .ret (.c (.bool false))] [],
  .set 2 (.lc (.of (.var 0)) (.n 4) (some (.or (.cmp .Lt (.var 4) (.c (.int (0)))) (.cmp .GtE (.var 4) (.peek 1)))) [3, 4] (.var 4)),
  .ret (.and (.not (.peek 2)) (.cmp .Eq (.b1 .list (.peek 0)) (.sortSet (.var 0))))]
abbrev N33 : List Str := [(Str.ofString "way"), (Str.ofString "first"), (Str.ofString "second")]
abbrev P33 : List Str := [(Str.ofString "way"), (Str.ofString "first"), (Str.ofString "second")]
def b_law_ask : List Sx := [
  .ifs (.cmp .Eq (.var 0) (.c (.int (0)))) [
    .ret (.call 15 [(.var 1), (.var 2)])] [],
  .ifs (.cmp .Eq (.var 0) (.c (.int (1)))) [
    .ret (.call 16 [(.var 1), (.var 2)])] [],
  .ifs (.cmp .Eq (.var 0) (.c (.int (2)))) [
    .ret (.call 17 [(.var 1), (.var 2)])] [],
  .ifs (.cmp .Eq (.var 0) (.c (.int (3)))) [
    .ret (.call 19 [(.var 1), (.var 2)])] [],
  .ifs (.cmp .Eq (.var 0) (.c (.int (4)))) [
    .ret (.call 18 [(.var 1)])] [],
  .ret (.call 11 [(.var 1)])]
abbrev N34 : List Str := [(Str.ofString "way"), (Str.ofString "first"), (Str.ofString "second"), (Str.ofString "what"), (Str.ofString "e")]
abbrev P34 : List Str := [(Str.ofString "way"), (Str.ofString "first"), (Str.ofString "second"), (Str.ofString "what")]
def b_law_refused : List Sx := [
  .tri PAR [
    .expr (.call 1009 [(.var 0), (.var 1), (.var 2)])] (Str.ofString "HouseError") 4 [(.ifs (.or (.not (.isi (Str.ofString "BadValue"))) (.isis [(Str.ofString "TooLarge"), (Str.ofString "BadText"), (Str.ofString "Repeated"), (Str.ofString "NoLevel")])) [(.ret (.c (.bool false)))] []), (.ret (.and (.isi (Str.ofString "ValueError")) (.same Hx.what (.var 3))))],
  .ret (.c (.bool false))]
abbrev N35 : List Str := [(Str.ofString "count"), (Str.ofString "tuples"), (Str.ofString "rows"), (Str.ofString ".0"), (Str.ofString "row")]
abbrev P35 : List Str := [(Str.ofString "count"), (Str.ofString "tuples"), (Str.ofString "rows")]
def b_law_all_told : List Sx := [
  .ifs (.not (.call 24 [(.call 11 [(.var 0)]), (.b1 .tuple (.peek 2))])) [
    .ret (.c (.bool false))] [],
  .ret (.not (.lc (.of (.var 1)) (.n 4) (some (.not (.call 24 [(.call 12 [(.var 4), (.var 0)]), (.cmp .In (.var 4) (.peek 2))]))) [3, 4] (.var 4)))]
abbrev N36 : List Str := [(Str.ofString "value"), (Str.ofString "one"), (Str.ofString "count"), (Str.ofString "ahead"), (Str.ofString "here"), (Str.ofString "behind")]
abbrev P36 : List Str := [(Str.ofString "value"), (Str.ofString "one")]
def b_law_near_told : List Sx := [
  .fr (.rng1 (.c (.int (5)))) (.n 2) [
    .set 3 (.call 12 [(.var 1), (.b1 .len (.peek 1))]),
    .set 4 (.call 12 [(.var 0), (.var 2)]),
    .set 5 (.call 12 [(.var 1), (.b1 .len (.peek 1))]),
    .ifs (.not (.call 24 [(.tup [(.var 3), (.var 4), (.var 5)]), (.tup [(.c (.bool true)), (.call 1001 [(.var 0), (.var 2)]), (.c (.bool true))])])) [
      .ret (.c (.bool false))] []],
  .ret (.c (.bool true))]
abbrev N37 : List Str := [(Str.ofString "rows"), (Str.ofString "one"), (Str.ofString "other"), (Str.ofString "lower"), (Str.ofString "upper"), (Str.ofString "low"), (Str.ofString "high"), (Str.ofString "told"), (Str.ofString ".0"), (Str.ofString "row"), (Str.ofString "less"), (Str.ofString "more")]
abbrev P37 : List Str := [(Str.ofString "rows"), (Str.ofString "one"), (Str.ofString "other")]
def b_law_pair_told : List Sx := [
  .set 3 (.lc (.of (.var 0)) (.n 9) (some (.and (.call 1004 [(.var 9), (.var 1)]) (.call 1004 [(.var 9), (.var 2)]))) [8, 9] (.var 9)),
  .set 4 (.lc (.of (.var 0)) (.n 9) (some (.and (.call 1004 [(.var 1), (.var 9)]) (.call 1004 [(.var 2), (.var 9)]))) [8, 9] (.var 9)),
  .set 5 (.lc (.of (.var 3)) (.n 9) (some (.not (.lc (.of (.var 3)) (.n 10) (some (.not (.call 1004 [(.var 10), (.var 9)]))) [8, 10] (.var 10)))) [8, 9] (.var 9)),
  .set 6 (.lc (.of (.var 4)) (.n 9) (some (.not (.lc (.of (.var 4)) (.n 11) (some (.not (.call 1004 [(.var 9), (.var 11)]))) [8, 11] (.var 11)))) [8, 9] (.var 9)),
  .set 7 (.tup [(.call 15 [(.var 1), (.var 2)]), (.call 15 [(.var 2), (.var 1)]), (.call 16 [(.var 1), (.var 2)]), (.call 16 [(.var 2), (.var 1)])]),
  .ret (.call 24 [(.var 7), (.tup [(.idxV 5 (.c (.int (0)))), (.idxV 5 (.c (.int (0)))), (.idxV 6 (.c (.int (0)))), (.idxV 6 (.c (.int (0))))])])]
abbrev N38 : List Str := [(Str.ofString "rows"), (Str.ofString "one"), (Str.ofString "row"), (Str.ofString "told")]
abbrev P38 : List Str := [(Str.ofString "rows"), (Str.ofString "one")]
def b_law_rows_told : List Sx := [
  .fr (.of (.var 0)) (.n 2) [
    .set 3 (.tup [(.call 17 [(.var 2), (.var 1)]), (.call 17 [(.var 1), (.var 2)]), (.call 18 [(.var 2)])]),
    .ifs (.not (.call 24 [(.var 3), (.tup [(.call 1004 [(.var 2), (.var 1)]), (.call 1004 [(.var 1), (.var 2)]), (.lenSet (.var 2))])])) [
      .ret (.c (.bool false))] []],
  .ret (.c (.bool true))]
abbrev N39 : List Str := [(Str.ofString "one"), (Str.ofString "places"), (Str.ofString "seen"), (Str.ofString "due"), (Str.ofString ".0"), (Str.ofString "place"), (Str.ofString "row")]
abbrev P39 : List Str := [(Str.ofString "one"), (Str.ofString "places")]
def b_law_part_told : List Sx := [
  .set 2 (.b1 .tuple (.lc (.of (.var 1)) (.n 5) none [4, 5] (.idxV 0 (.var 5)))),
  .set 3 (.lc (.of (.call 22 [(.b1 .len (.peek 1))])) (.n 6) (some (.and (.call 1004 [(.var 6), (.var 2)]) (.call 1004 [(.var 2), (.var 6)]))) [4, 6] (.var 6)),
  .ret (.call 24 [(.call 19 [(.var 0), (.var 1)]), (.idxV 3 (.c (.int (0))))])]
abbrev N40 : List Str := [(Str.ofString "value")]
abbrev P40 : List Str := [(Str.ofString "value")]
def b_law_one_told : List Sx := [
  .ifs (.call 1002 [(.var 0)]) [
    .ret (.call 24 [(.tup [(.call 18 [(.var 0)]), (.call 19 [(.var 0), (.tup [])])]), (.tup [(.lenSet (.var 0)), (.tup [])])])] [],
  .ret (.and (.call 1010 [(.c (.int (4))), (.var 0), (.c (.int (0))), (.c (.str (Str.ofString "arrangement")))]) (.call 1010 [(.c (.int (3))), (.var 0), (.tup [(.c (.int (0))), (.c (.int (0)))]), (.c (.str (Str.ofString "arrangement")))]))]
abbrev N41 : List Str := [(Str.ofString "value"), (Str.ofString "one"), (Str.ofString "way")]
abbrev P41 : List Str := [(Str.ofString "value"), (Str.ofString "one")]
def b_law_two_refused : List Sx := [
  .fr (.rng1 (.c (.int (3)))) (.n 2) [
    .ifs (.or (.not (.call 1010 [(.var 2), (.var 0), (.var 1), (.c (.str (Str.ofString "arrangement")))])) (.not (.call 1010 [(.var 2), (.var 1), (.var 0), (.c (.str (Str.ofString "arrangement")))]))) [
      .ret (.c (.bool false))] []],
  .ret (.c (.bool true))]
def X : Dt := [(1000, ⟨1, 3, b_law_numbers⟩), (1001, ⟨2, 2, b_law_right⟩), (1002, ⟨1, 1, b_law_any⟩), (1003, ⟨1, 7, b_law_tuples⟩), (1004, ⟨2, 4, b_law_finer⟩), (1005, ⟨2, 7, b_law_bent⟩), (1006, ⟨1, 1, b_law_odd⟩), (1007, ⟨3, 7, b_law_bent_places⟩), (1008, ⟨2, 5, b_law_places_right⟩), (1009, ⟨3, 3, b_law_ask⟩), (1010, ⟨4, 5, b_law_refused⟩), (1011, ⟨3, 5, b_law_all_told⟩), (1012, ⟨2, 6, b_law_near_told⟩), (1013, ⟨3, 12, b_law_pair_told⟩), (1014, ⟨2, 4, b_law_rows_told⟩), (1015, ⟨2, 7, b_law_part_told⟩), (1016, ⟨1, 1, b_law_one_told⟩), (1017, ⟨2, 3, b_law_two_refused⟩)]
abbrev D : Dt := Dlib ++ X
abbrev NL : List Str := [(Str.ofString "script"), (Str.ofString "pot"), (Str.ofString "count"), (Str.ofString "tuples"), (Str.ofString "rows"), (Str.ofString "one"), (Str.ofString "other"), (Str.ofString "places"), (Str.ofString "bent"), (Str.ofString "seats"), (Str.ofString "odd"), (Str.ofString "wrong"), (Str.ofString ".0"), (Str.ofString "row"), (Str.ofString "place")]
def bL : List Sx := [
  .set 2 (.call 20 [(.var 1), (.c (.int (5)))]),
  .set 3 (.call 1003 [(.var 2)]),
  .set 4 (.lc (.of (.var 3)) (.n 13) (some (.call 1001 [(.var 13), (.var 2)])) [12, 13] (.var 13)),
  .set 5 (.call 21 [(.var 1), (.var 4)]),
  .set 6 (.call 21 [(.var 1), (.var 4)]),
  .set 7 (.b1 .tuple (.lc (.rng1 (.var 2)) (.n 14) (some (.cmp .Eq (.call 20 [(.var 1), (.c (.int (2)))]) (.c (.int (0))))) [12, 14] (.var 14))),
  .set 8 (.call 1005 [(.var 1), (.var 5)]),
  .set 9 (.call 1007 [(.var 1), (.var 7), (.var 2)]),
  .set 10 (.call 1006 [(.var 1)]),
  .set 11 (.call 21 [(.var 1), (.lst [(.neg (.c (.int (1)))), (.c (.int (5))), (.c (.int (6))), (.bin .Pow (.c (.int (10))) (.c (.int (12)))), (.bin .Sub (.bin .Sub (.c (.int (0))) (.c (.int (2)))) (.call 20 [(.var 1), (.bin .Pow (.c (.int (10))) (.c (.int (6))))])), (.c (.bool true)), (.c (.bool false)), (.c .none), (.c (.str (Str.ofString "3"))), (.tup [(.c (.int (3)))])])]),
  .ifs (.or (.not (.call 1011 [(.var 2), (.var 3), (.var 4)])) (.or (.not (.call 1012 [(.var 8), (.var 5)])) (.not (.call 1012 [(.var 10), (.var 5)])))) [
    .ret (.c (.bool false))] [],
  .ifs (.or (.not (.call 1013 [(.var 4), (.var 5), (.var 6)])) (.or (.not (.call 1014 [(.var 4), (.var 5)])) (.not (.call 1015 [(.var 5), (.var 7)])))) [
    .ret (.c (.bool false))] [],
  .ifs (.or (.not (.call 1016 [(.var 8)])) (.or (.not (.call 1016 [(.var 10)])) (.not (.call 1017 [(.var 10), (.var 5)])))) [
    .ret (.c (.bool false))] [],
  .ifs (.and (.call 1001 [(.var 8), (.var 2)]) (.not (.call 1013 [(.var 4), (.var 5), (.var 8)]))) [
    .ret (.c (.bool false))] [],
  .ifs (.and (.not (.call 1001 [(.var 8), (.var 2)])) (.not (.call 1017 [(.var 8), (.var 5)]))) [
    .ret (.c (.bool false))] [],
  .ifs (.and (.call 1008 [(.var 9), (.var 2)]) (.not (.call 1015 [(.var 5), (.var 9)]))) [
    .ret (.c (.bool false))] [],
  .ifs (.and (.not (.call 1008 [(.var 9), (.var 2)])) (.not (.call 1010 [(.c (.int (3))), (.var 5), (.var 9), (.c (.str (Str.ofString "places")))]))) [
    .ret (.c (.bool false))] [],
  .ret (.call 1010 [(.c (.int (5))), (.var 11), (.c (.int (0))), (.c (.str (Str.ofString "count")))])]
end Lk

namespace Lk
open PySem PySem.Spec PyProof.Rows L2 Ev Lib
/-! # k01: the values that are asked -/
def bl4 : Int → PyData
  | 0 => .bool false
  | 1 => .bool true
  | i => .int i
def news : List PyData := [.int (-1), .int 0, .int 1, .int 2, .int 3, .int 4, .none, .str (Str.ofString "0"), .tuple [.int 0], .int 100000000000000000000]
def digits (a : List Int) : Str := Txt.join (Str.ofString "") (a.map fun i => Str.ofString (toString i))
def bents (a : List Int) : List PyData :=
  ((List.range (a.length + 2)).map fun (k : Nat) => ti (a ++ [(k : Int)])) ++ [ti (a.drop 1), ti (a.map (· + 1)), .tuple (a.map bl4)] ++ [.str (digits a), .tuple [ti a], .int a.length, .none, .bool true]
    ++ ((List.range (max 1 a.length)).flatMap fun p => news.map fun x => PyData.tuple ((a.take p).map PyData.int ++ [x] ++ (a.drop (p + 1)).map PyData.int))
def odds : List PyData := [.none, .bool true, .int 0, .int (-1), .str (Str.ofString "0"), .str (Str.ofString ""), ti [1], ti [0, 2], ti [0, 0, 2], ti [0, 1, 3, 2], .tuple [.int 0, .bool true], .tuple [.bool false], ti [0, -1], .tuple [.str (Str.ofString "0")], .tuple [.none], .tuple [.tuple []], .tuple [.int 0, .tuple [.int 1]], ti [0, 1, 2, 3, 4], ti [0, 0, 0, 0, 0]]
/-- is d an arrangement of c names -/
def isA (d : PyData) (c : Nat) : Bool := match d with
  | .tuple xs => (match intsOf xs with
    | some ns => decide (ns ∈ arrs c)
    | none => false)
  | _ => false
def vals (c : Nat) : List PyData := (arrs c).flatMap bents
def valC (c : Nat) : List (PyData × Nat) := (vals c).flatMap fun v => upto4.map fun k => (v, k)
section
variable {n : Nat} {S : List PyData}
set_option profiler true
set_option profiler.threshold 1000
theorem isarr_odd : (odds.flatMap fun v => upto4.map fun k => (v, k)).map (fun p => run D (n + 3) 12 [.dat p.1, .dat (.int (p.2 : Nat))] S) = mapR (fun p => FR.ok (.dat (.bool (isA p.1 p.2))) S) (odds.flatMap fun v => upto4.map fun k => (v, k)) := by kernel_rfl
theorem right_odd : (odds.flatMap fun v => upto4.map fun k => (v, k)).map (fun p => run D (n + 2) 1001 [.dat p.1, .dat (.int (p.2 : Nat))] S) = mapR (fun p => FR.ok (.dat (.bool (isA p.1 p.2))) S) (odds.flatMap fun v => upto4.map fun k => (v, k)) := by kernel_rfl
theorem isarr_v0 : (valC 0).map (fun p => run D (n + 3) 12 [.dat p.1, .dat (.int (p.2 : Nat))] S) = mapR (fun p => FR.ok (.dat (.bool (isA p.1 p.2))) S) (valC 0) := by kernel_rfl
theorem right_v0 : (valC 0).map (fun p => run D (n + 2) 1001 [.dat p.1, .dat (.int (p.2 : Nat))] S) = mapR (fun p => FR.ok (.dat (.bool (isA p.1 p.2))) S) (valC 0) := by kernel_rfl
theorem isarr_v1 : (valC 1).map (fun p => run D (n + 3) 12 [.dat p.1, .dat (.int (p.2 : Nat))] S) = mapR (fun p => FR.ok (.dat (.bool (isA p.1 p.2))) S) (valC 1) := by kernel_rfl
theorem right_v1 : (valC 1).map (fun p => run D (n + 2) 1001 [.dat p.1, .dat (.int (p.2 : Nat))] S) = mapR (fun p => FR.ok (.dat (.bool (isA p.1 p.2))) S) (valC 1) := by kernel_rfl
theorem isarr_v2 : (valC 2).map (fun p => run D (n + 3) 12 [.dat p.1, .dat (.int (p.2 : Nat))] S) = mapR (fun p => FR.ok (.dat (.bool (isA p.1 p.2))) S) (valC 2) := by kernel_rfl
theorem right_v2 : (valC 2).map (fun p => run D (n + 2) 1001 [.dat p.1, .dat (.int (p.2 : Nat))] S) = mapR (fun p => FR.ok (.dat (.bool (isA p.1 p.2))) S) (valC 2) := by kernel_rfl
theorem isarr_v3 : (valC 3).map (fun p => run D (n + 3) 12 [.dat p.1, .dat (.int (p.2 : Nat))] S) = mapR (fun p => FR.ok (.dat (.bool (isA p.1 p.2))) S) (valC 3) := by kernel_rfl
theorem right_v3 : (valC 3).map (fun p => run D (n + 2) 1001 [.dat p.1, .dat (.int (p.2 : Nat))] S) = mapR (fun p => FR.ok (.dat (.bool (isA p.1 p.2))) S) (valC 3) := by kernel_rfl
theorem isarr_v4 : (valC 4).map (fun p => run D (n + 3) 12 [.dat p.1, .dat (.int (p.2 : Nat))] S) = mapR (fun p => FR.ok (.dat (.bool (isA p.1 p.2))) S) (valC 4) := by kernel_rfl
theorem right_v4 : (valC 4).map (fun p => run D (n + 2) 1001 [.dat p.1, .dat (.int (p.2 : Nat))] S) = mapR (fun p => FR.ok (.dat (.bool (isA p.1 p.2))) S) (valC 4) := by kernel_rfl
/-! tuples -/
def tupL (m : Nat) : Nat → List (List Int)
  | 0 => [[]]
  | k + 1 => (tupL m k).flatMap fun r => (List.range m).map fun (x : Nat) => r ++ [(x : Int)]
def tups (c : Nat) : List (List Int) := tupL (c + 1) c
theorem tuples_all : upto4.map (fun c => run D (n + 1) 1003 [.dat (.int (c : Nat))] S) = mapR (fun c => FR.ok (if c = 0 then .own ((tups c).map ti) else .dat (.list ((tups c).map ti))) S) upto4 := by kernel_rfl
def tupC : List (List Int × Nat) := upto4.flatMap fun c => (tups c).map fun r => (r, c)
theorem isarr_t : tupC.map (fun p => run D (n + 3) 12 [.dat (ti p.1), .dat (.int (p.2 : Nat))] S) = mapR (fun p => FR.ok (.dat (.bool (decide (p.1 ∈ arrs p.2)))) S) tupC := by kernel_rfl
theorem right_t : tupC.map (fun p => run D (n + 2) 1001 [.dat (ti p.1), .dat (.int (p.2 : Nat))] S) = mapR (fun p => FR.ok (.dat (.bool (decide (p.1 ∈ arrs p.2)))) S) tupC := by kernel_rfl
theorem tups_arr : ∀ c ∈ upto4, (tups c).filter (fun r => decide (r ∈ arrs c)) = arrs c := by decide +kernel
/-! finer -/
theorem finer_all : pairAll.map (fun p => run D (n + 1) 1004 [.dat (ti p.1), .dat (ti p.2)] S) = mapR (fun p => FR.ok (.dat (.bool (rfs p.1 p.2))) S) pairAll := by kernel_rfl
/-! places -/
def subsN : Nat → List (List Int)
  | 0 => [[]]
  | k + 1 => (subsN k).flatMap fun r => [r, r ++ [(k : Int)]]
def partC : List (List Int × List Int) := upto4.flatMap fun c => (arrs c).flatMap fun a => (subsN c).map fun p => (a, p)
theorem part_all : partC.map (fun p => run D (n + 6) 1015 [.dat (ti p.1), .dat (ti p.2)] S) = mapR (fun _ => FR.ok (.dat (.bool true)) S) partC := by kernel_rfl
/-- places near the places -/
def bentP (ps : List Int) (c : Nat) : List PyData :=
  [ti (ps ++ [(c : Int)]), ti (-1 :: ps), ti (ps ++ ps), ti ps.reverse, .none, .int 0, .bool true, .str (Str.ofString ""), .str (Str.ofString "0"), .tuple [.none], .tuple [.str (Str.ofString "0")], .tuple [.tuple [.int 0]], .tuple [.int 0, .none], .tuple [.int 100000000000000000000], .tuple (ps.map bl4)]
def goodP (c : Nat) (d : PyData) : Bool := (subsN c).any fun p => PyData.eqv d (ti p) && (match d with | .tuple xs => (intsOf xs).isSome | _ => false)
def seatC : List (PyData × Nat) := upto4.flatMap fun c => (subsN c).flatMap fun p => (bentP p c).map fun d => (d, c)
theorem placesR : seatC.map (fun p => run D (n + 2) 1008 [.dat p.1, .dat (.int (p.2 : Nat))] S) = mapR (fun p => FR.ok (.dat (.bool (goodP p.2 p.1))) S) seatC := by kernel_rfl
end
end Lk

namespace Lk
open PySem PySem.Spec PyProof.Rows L2 Ev Lib
section
variable {n : Nat} {S : List PyData} {c : Nat}
theorem mem_valC {v : PyData} {k : Nat} (hv : v ∈ vals c) (hk : k ≤ 4) : (v, k) ∈ valC c := List.mem_flatMap.mpr ⟨v, hv, List.mem_map.mpr ⟨k, mem_upto hk, rfl⟩⟩
theorem isarr_v (hc : c ≤ 4) {v : PyData} (hv : v ∈ vals c) {k : Nat} (hk : k ≤ 4) : run D (n + 3) 12 [.dat v, .dat (.int (k : Nat))] S = .ok (.dat (.bool (isA v k))) S := by
  have m := mem_valC hv hk
  match c, hc, m with
  | 0, _, m => exact each isarr_v0 _ m
  | 1, _, m => exact each isarr_v1 _ m
  | 2, _, m => exact each isarr_v2 _ m
  | 3, _, m => exact each isarr_v3 _ m
  | 4, _, m => exact each isarr_v4 _ m
theorem right_v (hc : c ≤ 4) {v : PyData} (hv : v ∈ vals c) {k : Nat} (hk : k ≤ 4) : run D (n + 2) 1001 [.dat v, .dat (.int (k : Nat))] S = .ok (.dat (.bool (isA v k))) S := by
  have m := mem_valC hv hk
  match c, hc, m with
  | 0, _, m => exact each right_v0 _ m
  | 1, _, m => exact each right_v1 _ m
  | 2, _, m => exact each right_v2 _ m
  | 3, _, m => exact each right_v3 _ m
  | 4, _, m => exact each right_v4 _ m
theorem isarr_o {v : PyData} (hv : v ∈ odds) {k : Nat} (hk : k ≤ 4) : run D (n + 3) 12 [.dat v, .dat (.int (k : Nat))] S = .ok (.dat (.bool (isA v k))) S :=
  each isarr_odd _ (List.mem_flatMap.mpr ⟨v, hv, List.mem_map.mpr ⟨k, mem_upto hk, rfl⟩⟩)
theorem right_o {v : PyData} (hv : v ∈ odds) {k : Nat} (hk : k ≤ 4) : run D (n + 2) 1001 [.dat v, .dat (.int (k : Nat))] S = .ok (.dat (.bool (isA v k))) S :=
  each right_odd _ (List.mem_flatMap.mpr ⟨v, hv, List.mem_map.mpr ⟨k, mem_upto hk, rfl⟩⟩)
theorem isarr_a0 : (arrAll.flatMap fun a => upto4.map fun k => (a, k)).map (fun p => run D (n + 3) 12 [.dat (ti p.1), .dat (.int (p.2 : Nat))] S) = mapR (fun p => FR.ok (.dat (.bool (decide (p.1 ∈ arrs p.2)))) S) (arrAll.flatMap fun a => upto4.map fun k => (a, k)) := by kernel_rfl
theorem isarr_a (hc : c ≤ 4) {a : List Int} (ha : a ∈ arrs c) {k : Nat} (hk : k ≤ 4) : run D (n + 3) 12 [.dat (ti a), .dat (.int (k : Nat))] S = .ok (.dat (.bool (decide (a ∈ arrs k)))) S :=
  each isarr_a0 _ (List.mem_flatMap.mpr ⟨a, mem_arrAll hc ha, List.mem_map.mpr ⟨k, mem_upto hk, rfl⟩⟩)
theorem finer_ok (hc : c ≤ 4) {a b : List Int} (ha : a ∈ arrs c) (hb : b ∈ arrs c) : run D (n + 1) 1004 [.dat (ti a), .dat (ti b)] S = .ok (.dat (.bool (rfs a b))) S := by
  have := each (finer_all (n := n) (S := S)) _ (mem_pairAll hc ha hb)
  exact this
theorem tuples_ok (hc : c ≤ 4) : ∃ v, LstV v ((tups c).map ti) ∧ run D (n + 1) 1003 [.dat (.int (c : Nat))] S = .ok v S := by
  have key := each (tuples_all (n := n) (S := S)) c (mem_upto hc)
  refine ⟨_, ?_, key⟩
  split
  · exact .inl rfl
  · exact .inr rfl
theorem mem_tupC (hc : c ≤ 4) {r : List Int} (hr : r ∈ tups c) : (r, c) ∈ tupC := List.mem_flatMap.mpr ⟨c, mem_upto hc, List.mem_map.mpr ⟨r, hr, rfl⟩⟩
theorem isarr_tup (hc : c ≤ 4) {r : List Int} (hr : r ∈ tups c) : run D (n + 3) 12 [.dat (ti r), .dat (.int (c : Nat))] S = .ok (.dat (.bool (decide (r ∈ arrs c)))) S := by
  have := each (isarr_t (n := n) (S := S)) _ (mem_tupC hc hr)
  exact this
theorem right_tup (hc : c ≤ 4) {r : List Int} (hr : r ∈ tups c) : run D (n + 2) 1001 [.dat (ti r), .dat (.int (c : Nat))] S = .ok (.dat (.bool (decide (r ∈ arrs c)))) S := by
  have := each (right_t (n := n) (S := S)) _ (mem_tupC hc hr)
  exact this
theorem r_near {a0 a1 : Va} : run D (n + 1) 1012 [a0, a1] S = FRof (denB (run D n) b_law_near_told ⟨[some a0, some a1, none, none, none, none], S⟩) := fnOf_at rfl
theorem nice3 (b : Bool) : Nice 1 (.tuple [.bool true, .bool b, .bool true]) := .tup 0 _ (by show 3 < 1000000; omega) fun x hx => by
  simp only [List.mem_cons, List.not_mem_nil, or_false] at hx
  rcases hx with rfl | rfl | rfl <;> exact .bool _ _
theorem near_ok (hc : c ≤ 4) {a : List Int} (ha : a ∈ arrs c) {v : PyData} (h12 : ∀ k, k ≤ 4 → run D (n + 3) 12 [.dat v, .dat (.int (k : Nat))] S = .ok (.dat (.bool (isA v k))) S) (h1 : ∀ k, k ≤ 4 → run D (n + 3) 1001 [.dat v, .dat (.int (k : Nat))] S = .ok (.dat (.bool (isA v k))) S) :
    run D (n + 4) 1012 [.dat v, .dat (ti a)] S = .ok (.dat (.bool true)) S := by
  rw [r_near]
  unfold b_law_near_told
  have ho := isarr_a (n := n) (S := S) hc ha hc
  rw [decide_eq_true ha] at ho
  have hs : ∀ b, run D (n + 3) 24 [.dat (.tuple [.bool true, .bool b, .bool true]), .dat (.tuple [.bool true, .bool b, .bool true])] S = .ok (.dat (.bool true)) S := fun b => same_self 1 _ (nice3 b) (n + 1) S
  have hl : a.length = c := arr_len hc ha
  generalize run D (n + 3) = C at h12 h1 ho hs
  have hi : denI C (.rng1 (.c (.int (5)))) ⟨[some (.dat v), some (.dat (ti a)), none, none, none, none], S⟩ = .ok (([0, 1, 2, 3, 4] : List Nat).map fun (k : Nat) => PyData.int (k : Int)) ⟨[some (.dat v), some (.dat (ti a)), none, none, none, none], S⟩ := rfl
  refine fr_wp (Q := fun z => FRof z = FR.ok (.dat (.bool true)) S) hi (fun l s => (∃ u2 u3 u4 u5, s = ⟨[some (.dat v), some (.dat (ti a)), u2, u3, u4, u5], S⟩) ∧ ∀ k ∈ l, k ≤ 4) ⟨⟨_, _, _, _, rfl⟩, by decide⟩ ?_ ?_
  · rintro k l s ⟨⟨u2, u3, u4, u5, rfl⟩, hk⟩
    have hk4 := hk k (List.mem_cons_self ..)
    refine ⟨⟨[some (.dat v), some (.dat (ti a)), some (.dat (.int (k : Nat))), u3, u4, u5], S⟩, rfl, ?_⟩
    have l1 : ∀ ρ, (den C (.b1 .len (.peek 1))).v ⟨some (.dat v) :: some (.dat (ti a)) :: ρ, S⟩ = .ok (.dat (.int (c : Nat))) ⟨some (.dat v) :: some (.dat (ti a)) :: ρ, S⟩ := fun ρ => by
      have := lenT_e (C := C) (a := .peek 1) (s := ⟨some (.dat v) :: some (.dat (ti a)) :: ρ, S⟩) (s1 := ⟨some (.dat v) :: some (.dat (ti a)) :: ρ, S⟩) (xs := a.map PyData.int) rfl
      rw [List.length_map, hl] at this
      exact this
    refine set_d (Q := fun z => W1 z _ _) (ρ := [some (.dat v), some (.dat (ti a)), some (.dat (.int (k : Nat))), u3, u4, u5]) (cal (S := S) (dl_d (d := ti a) rfl (dl_d (l1 _) rfl)) ho) ?_
    refine set_d (Q := fun z => W1 z _ _) (ρ := [some (.dat v), some (.dat (ti a)), some (.dat (.int (k : Nat))), some (.dat (.bool true)), u4, u5]) (cal (S := S) rfl (h12 k hk4)) ?_
    refine set_d (Q := fun z => W1 z _ _) (ρ := [some (.dat v), some (.dat (ti a)), some (.dat (.int (k : Nat))), some (.dat (.bool true)), some (.dat (.bool (isA v k))), u5]) (cal (S := S) (dl_d (d := ti a) rfl (dl_d (l1 _) rfl)) ho) ?_
    have t : (den C (.not (.call 24 [(.tup [(.var 3), (.var 4), (.var 5)]), (.tup [(.c (.bool true)), (.call 1001 [(.var 0), (.var 2)]), (.c (.bool true))])]))).t ⟨[some (.dat v), some (.dat (ti a)), some (.dat (.int (k : Nat))), some (.dat (.bool true)), some (.dat (.bool (isA v k))), some (.dat (.bool true))], S⟩ = .ok false ⟨[some (.dat v), some (.dat (ti a)), some (.dat (.int (k : Nat))), some (.dat (.bool true)), some (.dat (.bool (isA v k))), some (.dat (.bool true))], S⟩ := by
      refine not_t (b := true) (cal_t (S := S) (dl_d (tup_e (ds := [.bool true, .bool (isA v k), .bool true]) rfl (show 3 ≤ 16777216 by decide)) (dl_d (tup_e (ds := [.bool true, .bool (isA v k), .bool true]) (dl_d rfl (dl_d (cal (S := S) rfl (h1 k hk4)) rfl)) (show 3 ≤ 16777216 by decide)) rfl)) (hs _))
    refine if_f0 (Q := fun z => W1 z _ _) t ?_
    exact ⟨⟨_, _, _, _, rfl⟩, fun x hx => hk x (List.mem_cons_of_mem _ hx)⟩
  · rintro s ⟨⟨u2, u3, u4, u5, rfl⟩, _⟩
    rfl
theorem arrangements_all : upto4.map (fun c => run D (n + 4) 11 [.dat (.int (c : Nat))] S) = mapR (fun c => FR.ok (.dat (.tuple ((arrs c).map ti))) S) upto4 := by kernel_rfl
theorem r_all {a0 a1 a2 : Va} : run D (n + 1) 1011 [a0, a1, a2] S = FRof (denB (run D n) b_law_all_told ⟨[some a0, some a1, some a2, none, none], S⟩) := fnOf_at rfl
theorem nice_ti (a : List Int) (h : a.length < 1000000) : Nice 1 (ti a) := .tup 0 _ (by rw [List.length_map]; exact h) fun x hx => by
  obtain ⟨i, _, rfl⟩ := List.mem_map.mp hx
  exact .int _ _
theorem nice_rows (hc : c ≤ 4) : Nice 2 (.tuple ((arrs c).map ti)) := .tup 1 _ (by rw [List.length_map]; have := arrs_len hc; omega) fun x hx => by
  obtain ⟨a, ha, rfl⟩ := List.mem_map.mp hx
  exact nice_ti a (by rw [arr_len hc ha]; omega)
theorem all_ok (hc : c ≤ 4) : run D (n + 5) 1011 [.dat (.int (c : Nat)), .dat (.list ((tups c).map ti)), .dat (.list ((arrs c).map ti))] S = .ok (.dat (.bool true)) S := by
  rw [r_all]
  unfold b_law_all_told
  have h11 := each (arrangements_all (n := n) (S := S)) c (mem_upto hc)
  have hs : run D (n + 4) 24 [.dat (.tuple ((arrs c).map ti)), .dat (.tuple ((arrs c).map ti))] S = .ok (.dat (.bool true)) S := same_self 2 _ (nice_rows hc) (n + 1) S
  have hb : ∀ b : Bool, run D (n + 4) 24 [.dat (.bool b), .dat (.bool b)] S = .ok (.dat (.bool true)) S := fun b => same_bool b
  have h12 : ∀ r ∈ tups c, run D (n + 4) 12 [.dat (ti r), .dat (.int (c : Nat))] S = .ok (.dat (.bool (decide (r ∈ arrs c)))) S := fun r hr => isarr_tup (n := n + 1) hc hr
  have hlen : (tups c).length ≤ 16777216 := by
    have key : ∀ c ∈ upto4, (tups c).length ≤ 16777216 := by decide +kernel
    exact key c (mem_upto hc)
  generalize run D (n + 4) = C at h11 hs hb h12
  obtain ⟨R, hR⟩ : ∃ R, R = (arrs c).map ti := ⟨_, rfl⟩
  have hin : ∀ r ∈ tups c, cmpD .In (ti r) (.list R) = some (decide (r ∈ arrs c)) := fun r _ => by
    rw [hR]
    refine (in_map (g := ti) (a := r) (xs := arrs c) (fun a b => eqvAll_map eqv_int a b) (Nat.le_trans (depth_ti r) (by omega))).trans ?_
    congr 1
    exact decide_eq_decide.mpr Iff.rfl
  rw [← hR] at h11 hs ⊢
  let s0 : List (Option Va) := [some (.dat (.int (c : Nat))), some (.dat (.list ((tups c).map ti))), some (.dat (.list R)), none, none]
  have t1 : (den C (.not (.call 24 [(.call 11 [(.var 0)]), (.b1 .tuple (.peek 2))]))).t ⟨s0, S⟩ = .ok false ⟨s0, S⟩ := not_t (b := true) (cal_t (S := S) (dl_d (cal (S := S) rfl h11) (dl_d (b1_e (v := .dat (.list R)) (d := .list R) rfl rfl rfl) rfl)) hs)
  refine if_f0 (Q := fun z => FRof z = _) (s := ⟨s0, S⟩) (s1 := ⟨s0, S⟩) t1 ?_
  have hi : denI C (.of (.var 1)) ⟨s0, S⟩ = .ok ((tups c).map ti) ⟨s0, S⟩ := of_l rfl
  have e := lc_map (C := C) (tg := .n 4) (ft := some (.not (.call 24 [(.call 12 [(.var 4), (.var 0)]), (.cmp .In (.var 4) (.peek 2))]))) (vs := [3, 4]) (elt := .var 4) (k := fun _ => false) (f := ti) hi rfl hlen (fun r hr => by
    refine ⟨s0.set 4 (some (.dat (ti r))), rfl, offV_set (by simp) _, ?_, fun z => nomatch z⟩
    have c1 : (den C (.cmp .In (.var 4) (.peek 2))).v ⟨s0.set 4 (some (.dat (ti r))), S⟩ = .ok (.dat (.bool (decide (r ∈ arrs c)))) ⟨s0.set 4 (some (.dat (ti r))), S⟩ := cmp_v rfl rfl rfl (hin r hr)
    exact not_t (b := true) (cal_t (S := S) (dl_d (cal (S := S) rfl (h12 r hr)) (dl_d c1 rfl)) (hb _)))
  have he : ((tups c).filter fun _ => false) = [] := by simp
  rw [he, List.map_nil] at e
  exact ret_e (Q := fun z => FRof z = FR.ok (.dat (.bool true)) S) (v := .dat (.bool true)) (s1 := ⟨s0, S⟩) (by
    have h0 : ∀ x : Ex, (den C (.not x)).v = dNot (den C x).v := fun _ => rfl
    rw [h0]
    unfold dNot toV dNotB dTru
    rw [e]
    rfl) rfl
end
end Lk

namespace Lk
open PySem PySem.Spec PyProof.Rows L2 Ev Lib
/-! # k01: what is refused -/
theorem intsOf_inv {xs : List PyData} {ns : List Int} : intsOf xs = some ns → xs = ns.map PyData.int := by
  induction xs generalizing ns with
  | nil => intro h; cases h; rfl
  | cons x r ih =>
    intro h
    cases x with
    | int i =>
      obtain ⟨ns', e1, rfl⟩ := Option.map_eq_some_iff.mp (show (intsOf r).map (i :: ·) = some ns from h)
      rw [ih e1]
      rfl
    | _ => exact nomatch h
def okA (v : PyData) : Bool := match v with
  | .tuple xs => decide (xs.length ≤ 4) && isA v xs.length
  | _ => false
theorem isA_inv {v : PyData} {k : Nat} (h : isA v k = true) : ∃ a, a ∈ arrs k ∧ v = ti a := by
  cases v with
  | tuple xs =>
    have h1 : (match intsOf xs with
      | some ns => decide (ns ∈ arrs k)
      | none => false) = true := h
    split at h1
    · rename_i ns e
      exact ⟨ns, of_decide_eq_true h1, by rw [intsOf_inv e]⟩
    · cases h1
  | _ => cases h
theorem isA_ti (a : List Int) (k : Nat) : isA (ti a) k = decide (a ∈ arrs k) := by
  show (match intsOf (a.map PyData.int) with
      | some ns => decide (ns ∈ arrs k)
      | none => false) = _
  rw [intsOf_map]
theorem okA_inv {v : PyData} (h : okA v = true) : ∃ k a, k ≤ 4 ∧ a ∈ arrs k ∧ v = ti a := by
  cases v with
  | tuple xs =>
    have h1 : (decide (xs.length ≤ 4) && isA (.tuple xs) xs.length) = true := h
    rw [Bool.and_eq_true] at h1
    obtain ⟨a, ha, e⟩ := isA_inv h1.2
    exact ⟨_, a, of_decide_eq_true h1.1, ha, e⟩
  | _ => cases h
theorem okA_ti {k : Nat} (hk : k ≤ 4) {a : List Int} (ha : a ∈ arrs k) : okA (ti a) = true := by
  show (decide ((a.map PyData.int).length ≤ 4) && isA (ti a) (a.map PyData.int).length) = true
  rw [List.length_map, arr_len hk ha, isA_ti, decide_eq_true hk, decide_eq_true ha]
  rfl
theorem isA_okA {v : PyData} {k : Nat} (hk : k ≤ 4) (h : isA v k = true) : okA v = true := by
  obtain ⟨a, ha, rfl⟩ := isA_inv h
  exact okA_ti hk ha
/-- what is_arrangement tells of a value -/
def H12 (v : PyData) (n : Nat) (S : List PyData) : Prop := ∀ k, k ≤ 4 → run D (n + 3) 12 [.dat v, .dat (.int (k : Nat))] S = .ok (.dat (.bool (isA v k))) S
section
variable {n : Nat} {S : List PyData} {c : Nat}
theorem any_bad {v : PyData} (h12 : H12 v n S) (h : okA v = false) : run D (n + 4) 14 [.dat v] S = .exc (bv (Str.ofString "arrangement")) S := by
  unfold H12 at h12
  rw [r_check_any]
  unfold I.check_any
  generalize run D (n + 3) = C at h12
  cases v with
  | tuple xs =>
    let s0 : List (Option Va) := [some (.dat (.tuple xs))]
    have g : (den C (.cmp .Gt (.b1 .len (.peek 0)) (.c (.int (4))))).t ⟨s0, S⟩ = .ok (decide ((4 : Int) < (xs.length : Nat))) ⟨s0, S⟩ := cmp_t (frz_of (lenT_e rfl)) rfl rfl rfl
    have t : (den C (.or (.not (.isi (.peek 0) .tuple)) (.or (.cmp .Gt (.b1 .len (.peek 0)) (.c (.int (4)))) (.not (.call 12 [(.var 0), (.b1 .len (.peek 0))]))))).t ⟨s0, S⟩ = .ok true ⟨s0, S⟩ := by
      refine or_f (not_t (b := true) (tru_of (v := .dat (.bool true)) rfl rfl rfl)) ?_
      by_cases hl : xs.length ≤ 4
      · rw [decide_eq_false (by omega)] at g
        have h1 : (decide (xs.length ≤ 4) && isA (.tuple xs) xs.length) = false := h
        rw [decide_eq_true hl, Bool.true_and] at h1
        have e := h12 xs.length hl
        rw [h1] at e
        exact or_f g (not_t (b := false) (cal_t (S := S) (dl_d rfl (dl_d (lenT_e rfl) rfl)) e))
      · rw [decide_eq_true (by omega)] at g
        exact or_t g
    exact if_t (Q := fun z => FRof z = FR.exc (bv (Str.ofString "arrangement")) S) t rfl
  | _ => rfl
theorem any_good {k : Nat} (hk : k ≤ 4) {a : List Int} (ha : a ∈ arrs k) : run D (n + 4) 14 [.dat (ti a)] S = .ok (.dat .none) S := by
  have h12 := isarr_a (n := n) (S := S) hk ha hk
  rw [decide_eq_true ha] at h12
  rw [r_check_any]
  unfold I.check_any
  generalize run D (n + 3) = C at h12
  let s0 : List (Option Va) := [some (.dat (ti a))]
  have hl : (den C (.b1 .len (.peek 0))).v ⟨s0, S⟩ = .ok (.dat (.int (k : Nat))) ⟨s0, S⟩ := by
    have := lenT_e (C := C) (a := .peek 0) (s := ⟨s0, S⟩) (s1 := ⟨s0, S⟩) (xs := a.map PyData.int) rfl
    rw [List.length_map, arr_len hk ha] at this
    exact this
  have g : (den C (.cmp .Gt (.b1 .len (.peek 0)) (.c (.int (4))))).t ⟨s0, S⟩ = .ok (decide ((4 : Int) < (k : Nat))) ⟨s0, S⟩ := cmp_t (frz_of hl) rfl rfl rfl
  rw [decide_eq_false (by omega)] at g
  have t : (den C (.or (.not (.isi (.peek 0) .tuple)) (.or (.cmp .Gt (.b1 .len (.peek 0)) (.c (.int (4)))) (.not (.call 12 [(.var 0), (.b1 .len (.peek 0))]))))).t ⟨s0, S⟩ = .ok false ⟨s0, S⟩ :=
    or_f (not_t (b := true) (tru_of (v := .dat (.bool true)) rfl rfl rfl)) (or_f g (not_t (b := true) (cal_t (S := S) (dl_d rfl (dl_d hl rfl)) h12)))
  exact if_f0 (Q := fun z => FRof z = FR.ok (.dat .none) S) t rfl
theorem chk_bad {v : PyData} {k : Nat} (h12 : run D (n + 3) 12 [.dat v, .dat (.int (k : Nat))] S = .ok (.dat (.bool false)) S) : run D (n + 4) 13 [.dat v, .dat (.int (k : Nat))] S = .exc (bv (Str.ofString "arrangement")) S := by
  rw [r_check_arrangement]
  unfold I.check_arrangement
  generalize run D (n + 3) = C at h12
  exact if_t (Q := fun z => FRof z = FR.exc (bv (Str.ofString "arrangement")) S) (s1 := ⟨[some (.dat v), some (.dat (.int (k : Nat)))], S⟩) (not_t (b := false) (cal_t (S := S) rfl h12)) rfl
theorem count_bad {v : PyData} (h : isNum 0 4 v = false) : run D (n + 4) 11 [.dat v] S = .exc (bv (Str.ofString "count")) S := by
  have h2 := is_number_ok (X := X) (n := n + 1) (S := S) v 0 4
  rw [h] at h2
  rw [r_arrangements]
  unfold I.arrangements
  show FRof (denB (run D (n + 3)) _ _) = _
  replace h2 : run D (n + 3) 2 [.dat v, .dat (.int 0), .dat (.int 4)] S = .ok (.dat (.bool false)) S := h2
  generalize run D (n + 3) = C at h2
  exact if_t (Q := fun z => FRof z = FR.exc (bv (Str.ofString "count")) S) (s1 := ⟨[some (.dat v)], S⟩) (not_t (b := false) (cal_t (S := S) rfl h2)) rfl
/-! the law's asking -/
theorem r_ask {a0 a1 a2 : Va} : run D (n + 1) 1009 [a0, a1, a2] S = FRof (denB (run D n) b_law_ask ⟨[some a0, some a1, some a2], S⟩) := fnOf_at rfl
theorem r_refused {a0 a1 a2 a3 : Va} : run D (n + 1) 1010 [a0, a1, a2, a3] S = FRof (denB (run D n) b_law_refused ⟨[some a0, some a1, some a2, some a3, none], S⟩) := fnOf_at rfl
theorem expr_x' {C : Nat → Fn} {e : Ex} {r : List Sx} {s s1 : Stt} {x : Exn} (h : (den C e).v s = .exc x s1) {Q : SR → Prop} (q : Q (.exc x s1)) : Q (denB C (.expr e :: r) s) := by rw [expr_x h]; exact q
theorem ret_x {C : Nat → Fn} {e : Ex} {r : List Sx} {s s1 : Stt} {x : Exn} (h : (den C e).v s = .exc x s1) : denB C (.ret e :: r) s = .exc x s1 := by
  rw [denB_cons]
  show ((((den C e).v s).toS fun v s => .rt v s)).seq _ = _
  rw [h]
  rfl
theorem refused_of {w : Nat} {f g : PyData} {t : Str} (ht : t = Str.ofString "arrangement" ∨ t = Str.ofString "places" ∨ t = Str.ofString "count") (h : run D (n + 6) 1009 [.dat (.int (w : Nat)), .dat f, .dat g] S = .exc (bv t) S) : run D (n + 7) 1010 [.dat (.int (w : Nat)), .dat f, .dat g, .dat (.str t)] S = .ok (.dat (.bool true)) S := by
  rw [r_refused]
  unfold b_law_refused
  generalize run D (n + 6) = C at h
  let s0 : List (Option Va) := [some (.dat (.int (w : Nat))), some (.dat f), some (.dat g), some (.dat (.str t)), none]
  have e : denB C [.expr (.call 1009 [(.var 0), (.var 1), (.var 2)])] ⟨s0, S⟩ = .exc (bv t) ⟨s0, S⟩ := expr_x (cal_x (S := S) (S' := S) rfl h)
  have e2 := tri_e (p := PAR) (c := Str.ofString "HouseError") (i := 4) (h := [(.ifs (.or (.not (.isi (Str.ofString "BadValue"))) (.isis [(Str.ofString "TooLarge"), (Str.ofString "BadText"), (Str.ofString "Repeated"), (Str.ofString "NoLevel")])) [(.ret (.c (.bool false)))] []), (.ret (.and (.isi (Str.ofString "ValueError")) (.same Hx.what (.var 3))))]) e (by show isSub PAR (Str.ofString "BadValue") _ = _; decide +kernel) (by show 4 < 5; omega)
  have e3 : (denHb PAR (bv t) [(.ifs (.or (.not (.isi (Str.ofString "BadValue"))) (.isis [(Str.ofString "TooLarge"), (Str.ofString "BadText"), (Str.ofString "Repeated"), (Str.ofString "NoLevel")])) [(.ret (.c (.bool false)))] []), (.ret (.and (.isi (Str.ofString "ValueError")) (.same Hx.what (.var 3))))] ⟨s0.set 4 none, S⟩).gone 4 = .rt (.dat (.bool true)) ⟨s0.set 4 none, S⟩ := by
    rcases ht with rfl | rfl | rfl <;> kernel_rfl
  rw [cons_rt (e2.trans e3)]
  rfl

/-! two arguments -/
abbrev wA : Str := Str.ofString "arrangement"
theorem two_x1 {C : Nat → Fn} {r : List Sx} {v w : PyData} (h : C 14 [.dat v] S = .exc (bv wA) S) : denB C (.expr (.call 14 [(.var 0)]) :: r) ⟨[some (.dat v), some (.dat w)], S⟩ = .exc (bv wA) ⟨[some (.dat v), some (.dat w)], S⟩ := expr_x (cal_x (S := S) (S' := S) rfl h)
theorem two_x2 {C : Nat → Fn} {r : List Sx} {k : Nat} {a : List Int} {w : PyData} (hl : a.length = k) (h : C 14 [.dat (ti a)] S = .ok (.dat .none) S) (h2 : C 13 [.dat w, .dat (.int (k : Nat))] S = .exc (bv wA) S) : denB C (.expr (.call 14 [(.var 0)]) :: .expr (.call 13 [(.var 1), (.b1 .len (.peek 0))]) :: r) ⟨[some (.dat (ti a)), some (.dat w)], S⟩ = .exc (bv wA) ⟨[some (.dat (ti a)), some (.dat w)], S⟩ := by
  let s0 : List (Option Va) := [some (.dat (ti a)), some (.dat w)]
  have l1 : (den C (.b1 .len (.peek 0))).v ⟨s0, S⟩ = .ok (.dat (.int (k : Nat))) ⟨s0, S⟩ := by
    have := lenT_e (C := C) (a := .peek 0) (s := ⟨s0, S⟩) (s1 := ⟨s0, S⟩) (xs := a.map PyData.int) rfl
    rw [List.length_map, hl] at this
    exact this
  exact expr_e (Q := fun z => z = SR.exc (bv wA) ⟨s0, S⟩) (cal (S := S) rfl h) (expr_x (cal_x (S := S) (S' := S) (dl_d (d := w) rfl (dl_d l1 rfl)) h2))
def Bad3 (n : Nat) (S : List PyData) (v w : PyData) : Prop := run D (n + 5) 15 [.dat v, .dat w] S = .exc (bv wA) S ∧ run D (n + 5) 16 [.dat v, .dat w] S = .exc (bv wA) S ∧ run D (n + 5) 17 [.dat v, .dat w] S = .exc (bv wA) S
theorem bad3_1 {v w : PyData} (h : run D (n + 4) 14 [.dat v] S = .exc (bv wA) S) : Bad3 n S v w := by
  refine ⟨?_, ?_, ?_⟩
  · rw [r_meet_of]; unfold I.meet_of; rw [two_x1 h]; rfl
  · rw [r_join_of]; unfold I.join_of; rw [two_x1 h]; rfl
  · rw [r_is_finer]; unfold I.is_finer; rw [two_x1 h]; rfl
theorem bad3_2 {k : Nat} {a : List Int} {w : PyData} (hl : a.length = k) (h : run D (n + 4) 14 [.dat (ti a)] S = .ok (.dat .none) S) (h2 : run D (n + 4) 13 [.dat w, .dat (.int (k : Nat))] S = .exc (bv wA) S) : Bad3 n S (ti a) w := by
  refine ⟨?_, ?_, ?_⟩
  · rw [r_meet_of]; unfold I.meet_of; rw [two_x2 hl h h2]; rfl
  · rw [r_join_of]; unfold I.join_of; rw [two_x2 hl h h2]; rfl
  · rw [r_is_finer]; unfold I.is_finer; rw [two_x2 hl h h2]; rfl
theorem ask3 {v w : PyData} (h : Bad3 n S v w) {k : Nat} (hk : k < 3) : run D (n + 6) 1009 [.dat (.int (k : Nat)), .dat v, .dat w] S = .exc (bv wA) S := by
  unfold Bad3 at h
  rw [r_ask]
  unfold b_law_ask
  generalize run D (n + 5) = C at h
  obtain ⟨h0, h1, h2⟩ := h
  have c0 : ∀ i j : Int, (den C (.cmp .Eq (.var 0) (.c (.int j)))).t ⟨[some (.dat (.int i)), some (.dat v), some (.dat w)], S⟩ = .ok (decide (i = j)) ⟨[some (.dat (.int i)), some (.dat v), some (.dat w)], S⟩ := fun i j => cmp_t rfl rfl rfl (c_eqI _ _)
  have x0 := fun i : Int => ret_x (r := []) (cal_x (C := C) (s := ⟨[some (.dat (.int i)), some (.dat v), some (.dat w)], S⟩) (S := S) (S' := S) (ρ := [some (.dat (.int i)), some (.dat v), some (.dat w)]) (es := [.var 1, .var 2]) rfl h0)
  have x1 := fun i : Int => ret_x (r := []) (cal_x (C := C) (s := ⟨[some (.dat (.int i)), some (.dat v), some (.dat w)], S⟩) (S := S) (S' := S) (ρ := [some (.dat (.int i)), some (.dat v), some (.dat w)]) (es := [.var 1, .var 2]) rfl h1)
  have x2 := fun i : Int => ret_x (r := []) (cal_x (C := C) (s := ⟨[some (.dat (.int i)), some (.dat v), some (.dat w)], S⟩) (S := S) (S' := S) (ρ := [some (.dat (.int i)), some (.dat v), some (.dat w)]) (es := [.var 1, .var 2]) rfl h2)
  match k, hk with
  | 0, _ => exact if_t (Q := fun z => FRof z = FR.exc (bv wA) S) (c0 0 0) (by rw [x0]; rfl)
  | 1, _ => exact if_f0 (Q := fun z => FRof z = FR.exc (bv wA) S) (c0 1 0) (if_t (Q := fun z => FRof z = FR.exc (bv wA) S) (c0 1 1) (by rw [x1]; rfl))
  | 2, _ => exact if_f0 (Q := fun z => FRof z = FR.exc (bv wA) S) (c0 2 0) (if_f0 (Q := fun z => FRof z = FR.exc (bv wA) S) (c0 2 1) (if_t (Q := fun z => FRof z = FR.exc (bv wA) S) (c0 2 2) (by rw [x2]; rfl)))
theorem bad_first (hc : c ≤ 4) {a : List Int} (ha : a ∈ arrs c) {v : PyData} (h12 : H12 v n S) (h : isA v c = false) : Bad3 n S v (ti a) := by
  cases ho : okA v with
  | false => exact bad3_1 (any_bad h12 ho)
  | true =>
    obtain ⟨k, b, hk, hb, rfl⟩ := okA_inv ho
    have hne : k ≠ c := fun e => by
      subst e
      rw [isA_ti, decide_eq_true hb] at h
      cases h
    have h2 := isarr_a (n := n) (S := S) hc ha hk
    rw [decide_eq_false (fun m => hne ((arr_len hk m).symm.trans (arr_len hc ha)))] at h2
    exact bad3_2 (arr_len hk hb) (any_good hk hb) (chk_bad h2)
theorem bad_second (hc : c ≤ 4) {a : List Int} (ha : a ∈ arrs c) {v : PyData} (h12 : H12 v n S) (h : isA v c = false) : Bad3 n S (ti a) v := by
  have h2 := h12 c hc
  rw [h] at h2
  exact bad3_2 (arr_len hc ha) (any_good hc ha) (chk_bad h2)
theorem r_two {a0 a1 : Va} : run D (n + 1) 1017 [a0, a1] S = FRof (denB (run D n) b_law_two_refused ⟨[some a0, some a1, none], S⟩) := fnOf_at rfl
theorem two_ok (hc : c ≤ 4) {a : List Int} (ha : a ∈ arrs c) {v : PyData} (h12 : H12 v n S) (h : isA v c = false) : run D (n + 8) 1017 [.dat v, .dat (ti a)] S = .ok (.dat (.bool true)) S := by
  have f1 : ∀ k : Nat, k < 3 → run D (n + 7) 1010 [.dat (.int (k : Nat)), .dat v, .dat (ti a), .dat (.str wA)] S = .ok (.dat (.bool true)) S := fun k hk => refused_of (.inl rfl) (ask3 (bad_first hc ha h12 h) hk)
  have f2 : ∀ k : Nat, k < 3 → run D (n + 7) 1010 [.dat (.int (k : Nat)), .dat (ti a), .dat v, .dat (.str wA)] S = .ok (.dat (.bool true)) S := fun k hk => refused_of (.inl rfl) (ask3 (bad_second hc ha h12 h) hk)
  rw [r_two]
  unfold b_law_two_refused
  generalize run D (n + 7) = C at f1 f2
  have hi : denI C (.rng1 (.c (.int (3)))) ⟨[some (.dat v), some (.dat (ti a)), none], S⟩ = .ok (([0, 1, 2] : List Nat).map fun (k : Nat) => PyData.int (k : Int)) ⟨[some (.dat v), some (.dat (ti a)), none], S⟩ := rfl
  refine fr_all (Q := fun z => FRof z = FR.ok (.dat (.bool true)) S) hi (by show 2 < 3; omega) (fun _ => true) (.bool false) (fun k hk => ?_) (fun t => ?_)
  · have hk3 : k < 3 := by
      have : ∀ k ∈ ([0, 1, 2] : List Nat), k < 3 := by decide
      exact this k hk
    rw [if_pos rfl]
    have t : (den C (.or (.not (.call 1010 [(.var 2), (.var 0), (.var 1), (.c (.str (Str.ofString "arrangement")))])) (.not (.call 1010 [(.var 2), (.var 1), (.var 0), (.c (.str (Str.ofString "arrangement")))])))).t ⟨[some (.dat v), some (.dat (ti a)), some (.dat (.int (k : Nat)))], S⟩ = .ok false ⟨[some (.dat v), some (.dat (ti a)), some (.dat (.int (k : Nat)))], S⟩ :=
      or_f (not_t (b := true) (cal_t (S := S) rfl (f1 k hk3))) (not_t (b := true) (cal_t (S := S) rfl (f2 k hk3)))
    exact if_f0 (Q := fun z => z = SR.nx _) t rfl
  · rfl
/-! one argument -/
theorem and_ef {C : Nat → Fn} {a b : Ex} {s s1 : Stt} (h : (den C a).v s = .ok (.dat (.bool false)) s1) : (den C (.and a b)).v s = .ok (.dat (.bool false)) s1 := by
  show dAnd (den C a).v (den C b).v s = _
  unfold dAnd
  rw [h]
  rfl
theorem r_any {a0 : Va} : run D (n + 1) 1002 [a0] S = FRof (denB (run D n) b_law_any ⟨[some a0], S⟩) := fnOf_at rfl
theorem any_ok {v : PyData} (h : ∀ k, k ≤ 4 → run D (n + 3) 1001 [.dat v, .dat (.int (k : Nat))] S = .ok (.dat (.bool (isA v k))) S) : run D (n + 4) 1002 [.dat v] S = .ok (.dat (.bool (okA v))) S := by
  rw [r_any]
  unfold b_law_any
  generalize run D (n + 3) = C at h
  cases v with
  | tuple xs =>
    let s0 : List (Option Va) := [some (.dat (.tuple xs))]
    have g : (den C (.cmp .LtE (.b1 .len (.peek 0)) (.c (.int (4))))).v ⟨s0, S⟩ = .ok (.dat (.bool (decide (((xs.length : Nat) : Int) ≤ 4)))) ⟨s0, S⟩ := cmp_v (frz_of (lenT_e rfl)) rfl rfl rfl
    have t : (den C (.and (.isi (.peek 0) .tuple) (.and (.cmp .LtE (.b1 .len (.peek 0)) (.c (.int (4)))) (.call 1001 [(.var 0), (.b1 .len (.peek 0))])))).v ⟨s0, S⟩ = .ok (.dat (.bool (okA (.tuple xs)))) ⟨s0, S⟩ := by
      refine and_e rfl ?_
      show _ = Res.ok (Va.dat (PyData.bool (decide (xs.length ≤ 4) && isA (.tuple xs) xs.length))) _
      by_cases hl : xs.length ≤ 4
      · rw [decide_eq_true (show ((xs.length : Nat) : Int) ≤ 4 by omega)] at g
        rw [decide_eq_true hl, Bool.true_and]
        exact and_e g (cal (S := S) (dl_d (d := .tuple xs) rfl (dl_d (lenT_e rfl) rfl)) (h _ hl))
      · rw [decide_eq_false (show ¬ ((xs.length : Nat) : Int) ≤ 4 by omega)] at g
        rw [decide_eq_false hl, Bool.false_and]
        exact and_ef g
    exact ret_e (Q := fun z => FRof z = FR.ok (.dat (.bool (okA (.tuple xs)))) S) t rfl
  | _ => rfl
theorem r_one {a0 : Va} : run D (n + 1) 1016 [a0] S = FRof (denB (run D n) b_law_one_told ⟨[some a0], S⟩) := fnOf_at rfl
theorem one_all : arrAll.map (fun a => run D (n + 8) 1016 [.dat (ti a)] S) = mapR (fun _ => FR.ok (.dat (.bool true)) S) arrAll := by kernel_rfl
theorem one_x {v : PyData} (h : run D (n + 4) 14 [.dat v] S = .exc (bv wA) S) : run D (n + 5) 18 [.dat v] S = .exc (bv wA) S ∧ ∀ w, run D (n + 5) 19 [.dat v, .dat w] S = .exc (bv wA) S := by
  refine ⟨?_, fun w => ?_⟩
  · rw [r_class_count]; unfold I.class_count
    rw [expr_x (cal_x (S := S) (S' := S) rfl h)]; rfl
  · rw [r_part_of]; unfold I.part_of
    rw [expr_x (cal_x (S := S) (S' := S) rfl h)]; rfl
theorem ask4 {v w : PyData} {x : Exn} (h : run D (n + 5) 18 [.dat v] S = .exc x S) : run D (n + 6) 1009 [.dat (.int (4 : Nat)), .dat v, .dat w] S = .exc x S := by
  rw [r_ask]
  unfold b_law_ask
  generalize run D (n + 5) = C at h
  let s0 : List (Option Va) := [some (.dat (.int (4 : Nat))), some (.dat v), some (.dat w)]
  have c0 : ∀ j : Int, (den C (.cmp .Eq (.var 0) (.c (.int j)))).t ⟨s0, S⟩ = .ok (decide (((4 : Nat) : Int) = j)) ⟨s0, S⟩ := fun j => cmp_t rfl rfl rfl (c_eqI _ _)
  have x0 := ret_x (r := []) (cal_x (C := C) (s := ⟨s0, S⟩) (S := S) (S' := S) (ρ := s0) (es := [.var 1]) rfl h)
  exact if_f0 (Q := fun z => FRof z = FR.exc x S) (c0 0) (if_f0 (Q := fun z => FRof z = FR.exc x S) (c0 1) (if_f0 (Q := fun z => FRof z = FR.exc x S) (c0 2) (if_f0 (Q := fun z => FRof z = FR.exc x S) (c0 3) (if_t (Q := fun z => FRof z = FR.exc x S) (c0 4) (by rw [x0]; rfl)))))
theorem ask_3 {v w : PyData} {x : Exn} (h : run D (n + 5) 19 [.dat v, .dat w] S = .exc x S) : run D (n + 6) 1009 [.dat (.int (3 : Nat)), .dat v, .dat w] S = .exc x S := by
  rw [r_ask]
  unfold b_law_ask
  generalize run D (n + 5) = C at h
  let s0 : List (Option Va) := [some (.dat (.int (3 : Nat))), some (.dat v), some (.dat w)]
  have c0 : ∀ j : Int, (den C (.cmp .Eq (.var 0) (.c (.int j)))).t ⟨s0, S⟩ = .ok (decide (((3 : Nat) : Int) = j)) ⟨s0, S⟩ := fun j => cmp_t rfl rfl rfl (c_eqI _ _)
  have x0 := ret_x (r := []) (cal_x (C := C) (s := ⟨s0, S⟩) (S := S) (S' := S) (ρ := s0) (es := [.var 1, .var 2]) rfl h)
  exact if_f0 (Q := fun z => FRof z = FR.exc x S) (c0 0) (if_f0 (Q := fun z => FRof z = FR.exc x S) (c0 1) (if_f0 (Q := fun z => FRof z = FR.exc x S) (c0 2) (if_t (Q := fun z => FRof z = FR.exc x S) (c0 3) (by rw [x0]; rfl))))
theorem ask5 {v w : PyData} {x : Exn} (h : run D (n + 5) 11 [.dat v] S = .exc x S) : run D (n + 6) 1009 [.dat (.int (5 : Nat)), .dat v, .dat w] S = .exc x S := by
  rw [r_ask]
  unfold b_law_ask
  generalize run D (n + 5) = C at h
  let s0 : List (Option Va) := [some (.dat (.int (5 : Nat))), some (.dat v), some (.dat w)]
  have c0 : ∀ j : Int, (den C (.cmp .Eq (.var 0) (.c (.int j)))).t ⟨s0, S⟩ = .ok (decide (((5 : Nat) : Int) = j)) ⟨s0, S⟩ := fun j => cmp_t rfl rfl rfl (c_eqI _ _)
  have x0 := ret_x (r := []) (cal_x (C := C) (s := ⟨s0, S⟩) (S := S) (S' := S) (ρ := s0) (es := [.var 1]) rfl h)
  exact if_f0 (Q := fun z => FRof z = FR.exc x S) (c0 0) (if_f0 (Q := fun z => FRof z = FR.exc x S) (c0 1) (if_f0 (Q := fun z => FRof z = FR.exc x S) (c0 2) (if_f0 (Q := fun z => FRof z = FR.exc x S) (c0 3) (if_f0 (Q := fun z => FRof z = FR.exc x S) (c0 4) (by rw [x0]; rfl)))))
theorem one_ok {v : PyData} (h12 : H12 v n S) (hr : ∀ k, k ≤ 4 → run D (n + 6) 1001 [.dat v, .dat (.int (k : Nat))] S = .ok (.dat (.bool (isA v k))) S) : run D (n + 8) 1016 [.dat v] S = .ok (.dat (.bool true)) S := by
  cases ho : okA v with
  | true =>
    obtain ⟨k, b, hk, hb, rfl⟩ := okA_inv ho
    exact each one_all b (mem_arrAll hk hb)
  | false =>
    have a1 := any_ok (n := n + 3) (S := S) hr
    rw [ho] at a1
    obtain ⟨x1, x2⟩ := one_x (any_bad h12 ho)
    have f1 : run D (n + 7) 1010 [.dat (.int (4 : Nat)), .dat v, .dat (.int 0), .dat (.str wA)] S = .ok (.dat (.bool true)) S := refused_of (.inl rfl) (ask4 x1)
    have f2 : run D (n + 7) 1010 [.dat (.int (3 : Nat)), .dat v, .dat (.tuple [.int 0, .int 0]), .dat (.str wA)] S = .ok (.dat (.bool true)) S := refused_of (.inl rfl) (ask_3 (x2 _))
    rw [r_one]
    unfold b_law_one_told
    show FRof (denB (run D (n + 7)) _ _) = _
    replace a1 : run D (n + 7) 1002 [.dat v] S = .ok (.dat (.bool false)) S := a1
    generalize run D (n + 7) = C at a1 f1 f2
    refine if_f0 (Q := fun z => FRof z = FR.ok (.dat (.bool true)) S) (s1 := ⟨[some (.dat v)], S⟩) (cal_t (S := S) rfl a1) ?_
    exact ret_e (Q := fun z => FRof z = FR.ok (.dat (.bool true)) S) (s1 := ⟨[some (.dat v)], S⟩) (and_e (cal (S := S) rfl f1) (cal (S := S) rfl f2)) rfl
/-! counts -/
theorem wrong_ok {v : PyData} (h : isNum 0 4 v = false) : run D (n + 8) 1010 [.dat (.int (5 : Nat)), .dat v, .dat (.int 0), .dat (.str (Str.ofString "count"))] S = .ok (.dat (.bool true)) S := refused_of (n := n + 1) (.inr (.inr rfl)) (ask5 (count_bad (n := n + 2) h))
end
end Lk

namespace Lk
open PySem PySem.Spec PyProof.Rows L2 Ev Lib
/-! # k01: places, what is drawn, pairs -/
section
variable {n : Nat} {S : List PyData} {c : Nat}
theorem r_part {a0 a1 : Va} : run D (n + 1) 1015 [a0, a1] S = FRof (denB (run D n) b_law_part_told ⟨[some a0, some a1, none, none, none, none, none], S⟩) := fnOf_at rfl
theorem part_ok (hc : c ≤ 4) {a p : List Int} (ha : a ∈ arrs c) (hp : p ∈ subsN c) : run D (n + 6) 1015 [.dat (ti a), .dat (ti p)] S = .ok (.dat (.bool true)) S :=
  each (part_all (n := n) (S := S)) (a, p) (List.mem_flatMap.mpr ⟨c, mem_upto hc, List.mem_flatMap.mpr ⟨a, ha, List.mem_map.mpr ⟨p, hp, rfl⟩⟩⟩)
theorem places_r (hc : c ≤ 4) {p : List Int} (hp : p ∈ subsN c) {d : PyData} (hd : d ∈ bentP p c) : run D (n + 2) 1008 [.dat d, .dat (.int (c : Nat))] S = .ok (.dat (.bool (goodP c d))) S :=
  each (placesR (n := n) (S := S)) (d, c) (List.mem_flatMap.mpr ⟨c, mem_upto hc, List.mem_flatMap.mpr ⟨p, hp, List.mem_map.mpr ⟨d, hd, rfl⟩⟩⟩)
theorem goodP_inv {d : PyData} (h : goodP c d = true) : ∃ p, p ∈ subsN c ∧ d = ti p := by
  unfold goodP at h
  obtain ⟨p, hp, h1⟩ := List.any_eq_true.mp h
  rw [Bool.and_eq_true] at h1
  obtain ⟨h1, h2⟩ := h1
  cases d with
  | tuple xs =>
    obtain ⟨ns, e⟩ := Option.isSome_iff_exists.mp (show (intsOf xs).isSome = true from h2)
    have e2 := intsOf_inv e
    subst e2
    have e3 : PyData.eqv (ti ns) (ti p) = true := h1
    rw [eqv_ti] at e3
    have e4 := of_decide_eq_true e3
    subst e4
    exact ⟨ns, hp, rfl⟩
  | _ => cases h2
def badS (c : Nat) : List PyData := ((subsN c).flatMap fun p => bentP p c).filter fun d => !goodP c d
abbrev pTail : List Sx := I.part_of.tail
abbrev FRx (S : List PyData) : FR := FR.exc (bv (Str.ofString "places")) S
theorem bs0 : (badS 0).map (fun d => FRof (denB (run D (n + 4)) pTail ⟨[some (.dat (.tuple [])), some (.dat d), none], S⟩)) = mapR (fun _ => FRx S) (badS 0) := by kernel_rfl
theorem bs1 (x0 : Int) : (badS 1).map (fun d => FRof (denB (run D (n + 4)) pTail ⟨[some (.dat (.tuple [.int x0])), some (.dat d), none], S⟩)) = mapR (fun _ => FRx S) (badS 1) := by kernel_rfl
theorem bs2 (x0 x1 : Int) : (badS 2).map (fun d => FRof (denB (run D (n + 4)) pTail ⟨[some (.dat (.tuple [.int x0, .int x1])), some (.dat d), none], S⟩)) = mapR (fun _ => FRx S) (badS 2) := by kernel_rfl
theorem bs3 (x0 x1 x2 : Int) : (badS 3).map (fun d => FRof (denB (run D (n + 4)) pTail ⟨[some (.dat (.tuple [.int x0, .int x1, .int x2])), some (.dat d), none], S⟩)) = mapR (fun _ => FRx S) (badS 3) := by kernel_rfl
theorem bs4 (x0 x1 x2 x3 : Int) : (badS 4).map (fun d => FRof (denB (run D (n + 4)) pTail ⟨[some (.dat (.tuple [.int x0, .int x1, .int x2, .int x3])), some (.dat d), none], S⟩)) = mapR (fun _ => FRx S) (badS 4) := by kernel_rfl
theorem bs_all (hc : c ≤ 4) {a : List Int} (ha : a.length = c) {d : PyData} (hd : d ∈ badS c) : FRof (denB (run D (n + 4)) pTail ⟨[some (.dat (ti a)), some (.dat d), none], S⟩) = FRx S := by
  subst ha
  match a, hc, hd with
  | [], _, hd => exact each bs0 d hd
  | [x0], _, hd => exact each (bs1 x0) d hd
  | [x0, x1], _, hd => exact each (bs2 x0 x1) d hd
  | [x0, x1, x2], _, hd => exact each (bs3 x0 x1 x2) d hd
  | [x0, x1, x2, x3], _, hd => exact each (bs4 x0 x1 x2 x3) d hd
  | _ :: _ :: _ :: _ :: _ :: r, hc, _ =>
    simp only [List.length_cons] at hc
    omega
theorem part_bad (hc : c ≤ 4) {a p : List Int} (ha : a ∈ arrs c) (hp : p ∈ subsN c) {d : PyData} (hd : d ∈ bentP p c) (hg : goodP c d = false) : run D (n + 8) 1010 [.dat (.int (3 : Nat)), .dat (ti a), .dat d, .dat (.str (Str.ofString "places"))] S = .ok (.dat (.bool true)) S := by
  refine refused_of (n := n + 1) (.inr (.inl rfl)) (ask_3 (n := n + 1) ?_)
  have e := bs_all (n := n + 1) (S := S) hc (arr_len hc ha) (d := d) (List.mem_filter.mpr ⟨List.mem_flatMap.mpr ⟨p, hp, hd⟩, by rw [hg]; rfl⟩)
  have e14 := any_good (n := n + 1) (S := S) hc ha
  rw [r_part_of]
  show FRof (denB (run D (n + 5)) (.expr (.call 14 [(.var 0)]) :: pTail) _) = _
  replace e14 : run D (n + 5) 14 [.dat (ti a)] S = .ok (.dat .none) S := e14
  replace e : FRof (denB (run D (n + 5)) pTail ⟨[some (.dat (ti a)), some (.dat d), none], S⟩) = FRx S := e
  generalize run D (n + 5) = C at e e14
  exact expr_e (Q := fun z => FRof z = FR.exc (bv (Str.ofString "places")) S) (cal (S := S) rfl e14) e
/-! what is drawn -/
theorem r_odd {a0 : Va} : run D (n + 1) 1006 [a0] S = FRof (denB (run D n) b_law_odd ⟨[some a0], S⟩) := fnOf_at rfl
theorem odd_ok (hS : PotOk S) : ∃ v S', v ∈ odds ∧ PotOk S' ∧ run D (n + 3) 1006 [.pot] S = .ok (.dat v) S' := by
  obtain ⟨v, S', hv, hS', e⟩ := pick (X := X) (n := n) hS (xs := odds) (by decide) (by decide)
  refine ⟨v, S', hv, hS', ?_⟩
  rw [r_odd]
  unfold b_law_odd
  replace e : run D (n + 2) 21 [.pot, .dat (.list odds)] S = .ok (.dat v) S' := e
  generalize run D (n + 2) = C at e
  refine ret_e (Q := fun z => FRof z = FR.ok (.dat v) S') (cal (ρ := [some .pot]) (S := S) (S' := S') (dl_p rfl (dl_o (d := odds) ?_ rfl)) e) rfl
  kernel_rfl
theorem r_bent {a0 a1 : Va} : run D (n + 1) 1005 [a0, a1] S = FRof (denB (run D n) b_law_bent ⟨[some a0, some a1, none, none, none, none, none], S⟩) := fnOf_at rfl
theorem eq_t {C : Nat → Fn} {i : Nat} {k : Nat} {s : Stt} (h : s.ρ[i]? = some (some (.dat (.int (k : Nat))))) (j : Int) : (den C (.cmp .Eq (.var i) (.c (.int j)))).t s = .ok (decide ((k : Int) = j)) s := by
  refine cmp_t (d := .int (k : Nat)) (s1 := s) ?_ rfl rfl (c_eqI _ _)
  refine frz_of ?_
  show dVar i s = _
  unfold dVar
  rw [h]
abbrev bSt (a : List Int) (w : Int) (S : List PyData) : Stt := ⟨[some .pot, some (.dat (ti a)), some (.dat (.int w)), none, none, none, none], S⟩
section
variable (C : Nat → Fn) (w : Int)
theorem bent1 : arrAll.map (fun a => denB C [.ret (.cutV 1 (some (.c (.int (1)))) none)] (bSt a w S)) = mapR (fun a => SR.rt (.dat (ti (a.drop 1))) (bSt a w S)) arrAll := by kernel_rfl
theorem bent2 : arrAll.map (fun a => denB C [.ret (.b1 .tuple (.lc (.of (.var 1)) (.n 6) none [5, 6] (.bin .Add (.var 6) (.c (.int (1))))))] (bSt a w S)) = mapR (fun a => SR.rt (.dat (ti (a.map (· + 1)))) (bSt a w S)) arrAll := by kernel_rfl
theorem bent3 : arrAll.map (fun a => denB C [.ret (.b1 .tuple (.lc (.of (.var 1)) (.n 6) none [5, 6] (.idx (.lst [(.c (.bool false)), (.c (.bool true)), (.c (.int (2))), (.c (.int (3)))]) (.var 6))))] (bSt a w S)) = mapR (fun a => SR.rt (.dat (.tuple (a.map bl4))) (bSt a w S)) arrAll := by kernel_rfl
theorem bent4 : arrAll.map (fun a => (den C (.lst [(.join (Str.ofString "") (.lc (.of (.var 1)) (.n 6) none [5, 6] (.b1 .str (.peek 6)))), (.tup [(.var 1)]), (.b1 .len (.peek 1)), (.c .none), (.c (.bool true))])).v (bSt a w S)) = mapR (fun a => Res.ok (.own [.str (digits a), .tuple [ti a], .int a.length, .none, .bool true]) (bSt a w S)) arrAll := by kernel_rfl
theorem bent5 : arrAll.map (fun a => (den C (.b2 .max (.c (.int (1))) (.b1 .len (.peek 1)))).v (bSt a w S)) = mapR (fun a => Res.ok (.dat (.int (max 1 a.length : Nat))) (bSt a w S)) arrAll := by kernel_rfl
def arrPl : List (List Int × Nat) := arrAll.flatMap fun a => (List.range (max 1 a.length)).map fun p => (a, p)
theorem bent6 (d : PyData) : arrPl.map (fun q => denB C [.ret (.bin .Add (.bin .Add (.cutV 1 none (some (.var 3))) (.tup [(.var 4)])) (.cutV 1 (some (.bin .Add (.var 3) (.c (.int (1))))) none))] ⟨[some .pot, some (.dat (ti q.1)), some (.dat (.int w)), some (.dat (.int (q.2 : Nat))), some (.dat d), none, none], S⟩) = mapR (fun q => SR.rt (.dat (.tuple ((q.1.take q.2).map PyData.int ++ [d] ++ (q.1.drop (q.2 + 1)).map PyData.int))) ⟨[some .pot, some (.dat (ti q.1)), some (.dat (.int w)), some (.dat (.int (q.2 : Nat))), some (.dat d), none, none], S⟩) arrPl := by kernel_rfl
theorem pow20 (s : Stt) : (den C (.bin .Pow (.c (.int (10))) (.c (.int (20))))).v s = .ok (.dat (.int 100000000000000000000)) s := by kernel_rfl
end
def BentR (a : List Int) (z : SR) : Prop := ∃ v S', v ∈ bents a ∧ PotOk S' ∧ FRof z = FR.ok (.dat v) S'
theorem bent_ok (hc : c ≤ 4) {a : List Int} (ha : a ∈ arrs c) (hS : PotOk S) : ∃ v S', v ∈ bents a ∧ PotOk S' ∧ run D (n + 3) 1005 [.pot, .dat (ti a)] S = .ok (.dat v) S' := by
  have hd : ∀ (S : List PyData), PotOk S → ∀ m : Nat, 0 < m → m < 1000000 → ∃ (k : Nat) (S' : List PyData), k < m ∧ PotOk S' ∧ run D (n + 2) 20 [.pot, .dat (.int m)] S = .ok (.dat (.int k)) S' := fun S hS m h1 h2 => drawN (X := X) (n := n + 1) hS m h1 h2
  have hpk : ∀ (S : List PyData) (xs : List PyData), PotOk S → 0 < xs.length → xs.length < 1073741824 → ∃ d S', d ∈ xs ∧ PotOk S' ∧ run D (n + 2) 21 [.pot, .dat (.list xs)] S = .ok (.dat d) S' := fun S xs hS h0 h1 => pick (X := X) (n := n) hS h0 h1
  have hA : a ∈ arrAll := mem_arrAll hc ha
  have hl := arr_len hc ha
  rw [r_bent]
  show BentR a _
  unfold b_law_bent
  generalize run D (n + 2) = C at hd hpk
  obtain ⟨w, S1, hw, hS1, e1⟩ := hd S hS 8 (by omega) (by omega)
  refine set_d (Q := BentR a) (ρ := [some .pot, some (.dat (ti a)), none, none, none, none, none]) (cal (S := S) rfl e1) ?_
  show BentR a (denB C _ (bSt a (w : Nat) S1))
  have c0 := fun j => eq_t (C := C) (i := 2) (k := w) (s := bSt a (w : Nat) S1) rfl j
  by_cases w0 : (w : Int) = 0
  · have t := c0 0
    rw [decide_eq_true w0] at t
    obtain ⟨k, S2, hk, hS2, e2⟩ := hd S1 hS1 (a.length + 2) (by omega) (by omega)
    have l1 : (den C (.bin .Add (.b1 .len (.peek 1)) (.c (.int (2))))).v (bSt a (w : Nat) S1) = .ok (.dat (.int (a.length + 2 : Nat))) (bSt a (w : Nat) S1) := by
      have := lenT_e (C := C) (a := .peek 1) (s := bSt a (w : Nat) S1) (s1 := bSt a (w : Nat) S1) (xs := a.map PyData.int) rfl
      rw [List.length_map] at this
      exact bin_e (frz_of this) rfl rfl
    have l2 : (den C (.tup [(.call 20 [(.var 0), (.bin .Add (.b1 .len (.peek 1)) (.c (.int (2))))])])).v (bSt a (w : Nat) S1) = .ok (.dat (.tuple [.int (k : Nat)])) (bSt a (w : Nat) S2) :=
      tup_e (ds := [.int (k : Nat)]) (dl_d (cal (S := S1) (S' := S2) (dl_p rfl (dl_d l1 rfl)) e2) rfl) (by show 1 ≤ 16777216; omega)
    refine if_rt (Q := BentR a) t (ret_e (Q := fun z => z = _) (bin_e (d := ti a) (d2 := .tuple [.int (k : Nat)]) rfl (frz_of l2) (by
      show bopD .Add (.tuple (a.map PyData.int)) (.tuple [.int (k : Nat)]) = _
      rw [b_tups, if_pos (by rw [List.length_map, hl]; show c + 1 ≤ 16777216; omega)])) rfl) ?_
    refine ⟨ti (a ++ [(k : Int)]), S2, ?_, hS2, ?_⟩
    · unfold bents
      simp only [List.mem_append, List.mem_map, List.mem_range]
      exact .inl (.inl (.inl ⟨k, hk, rfl⟩))
    · show FR.ok (.dat (.tuple (a.map PyData.int ++ [.int (k : Nat)]))) S2 = _
      unfold ti
      rw [List.map_append]
      rfl
  have t := c0 0
  rw [decide_eq_false w0] at t
  refine if_f0 (Q := BentR a) t ?_
  by_cases w1 : (w : Int) = 1
  · have t := c0 1
    rw [decide_eq_true w1] at t
    refine if_rt (Q := BentR a) t (each (bent1 (S := S1) C (w : Nat)) a hA) ⟨_, S1, ?_, hS1, rfl⟩
    unfold bents
    simp
  have t := c0 1
  rw [decide_eq_false w1] at t
  refine if_f0 (Q := BentR a) t ?_
  by_cases w2 : (w : Int) = 2
  · have t := c0 2
    rw [decide_eq_true w2] at t
    refine if_rt (Q := BentR a) t (each (bent2 (S := S1) C (w : Nat)) a hA) ⟨_, S1, ?_, hS1, rfl⟩
    unfold bents
    simp
  have t := c0 2
  rw [decide_eq_false w2] at t
  refine if_f0 (Q := BentR a) t ?_
  by_cases w3 : (w : Int) = 3
  · have t := c0 3
    rw [decide_eq_true w3] at t
    refine if_rt (Q := BentR a) t (each (bent3 (S := S1) C (w : Nat)) a hA) ⟨_, S1, ?_, hS1, rfl⟩
    unfold bents
    simp
  have t := c0 3
  rw [decide_eq_false w3] at t
  refine if_f0 (Q := BentR a) t ?_
  by_cases w4 : (w : Int) = 4
  · have t := c0 4
    rw [decide_eq_true w4] at t
    obtain ⟨v, S2, hv, hS2, e2⟩ := hpk S1 [.str (digits a), .tuple [ti a], .int a.length, .none, .bool true] hS1 (by show 0 < 5; omega) (by show 5 < 1073741824; omega)
    refine if_rt (Q := BentR a) t (ret_e (Q := fun z => z = _) (cal (S := S1) (S' := S2) (dl_p rfl (dl_o (each (bent4 (S := S1) C (w : Nat)) a hA) rfl)) e2) rfl) ⟨v, S2, ?_, hS2, rfl⟩
    unfold bents
    simp only [List.mem_append]
    exact .inl (.inr hv)
  have t := c0 4
  rw [decide_eq_false w4] at t
  refine if_f0 (Q := BentR a) t ?_
  obtain ⟨p, S2, hp, hS2, e2⟩ := hd S1 hS1 (max 1 a.length) (by omega) (by omega)
  refine set_d (Q := BentR a) (ρ := [some .pot, some (.dat (ti a)), some (.dat (.int (w : Nat))), none, none, none, none]) (cal (S := S1) (S' := S2) (dl_p rfl (dl_d (each (bent5 (S := S1) C (w : Nat)) a hA) rfl)) e2) ?_
  show BentR a (denB C _ ⟨[some .pot, some (.dat (ti a)), some (.dat (.int (w : Nat))), some (.dat (.int (p : Nat))), none, none, none], S2⟩)
  obtain ⟨k, S3, hk, hS3, e3⟩ := hd S2 hS2 6 (by omega) (by omega)
  obtain ⟨v, S4, hv, hS4, e4⟩ := hpk S3 [.int ((k : Nat) - 1 : Int), .none, .str (Str.ofString "0"), .tuple [.int 0], .int 100000000000000000000] hS3 (by show 0 < 5; omega) (by show 5 < 1073741824; omega)
  have l3 : (den C (.lst [(.bin .Sub (.call 20 [(.var 0), (.c (.int (6)))]) (.c (.int (1)))), (.c .none), (.c (.str (Str.ofString "0"))), (.tup [(.c (.int (0)))]), (.bin .Pow (.c (.int (10))) (.c (.int (20))))])).v ⟨[some .pot, some (.dat (ti a)), some (.dat (.int (w : Nat))), some (.dat (.int (p : Nat))), none, none, none], S2⟩ = .ok (.own [.int ((k : Nat) - 1 : Int), .none, .str (Str.ofString "0"), .tuple [.int 0], .int 100000000000000000000]) ⟨[some .pot, some (.dat (ti a)), some (.dat (.int (w : Nat))), some (.dat (.int (p : Nat))), none, none, none], S3⟩ :=
    lst_e (ds := [.int ((k : Nat) - 1 : Int), .none, .str (Str.ofString "0"), .tuple [.int 0], .int 100000000000000000000]) (dl_d (bin_e (frz_of (cal (S := S2) (S' := S3) rfl e3)) rfl rfl) (dl_d rfl (dl_d rfl (dl_d rfl (dl_d (pow20 C _) rfl))))) (by show 5 ≤ 16777216; omega)
  refine set_d (Q := BentR a) (ρ := [some .pot, some (.dat (ti a)), some (.dat (.int (w : Nat))), some (.dat (.int (p : Nat))), none, none, none]) (cal (S := S3) (S' := S4) (dl_p rfl (dl_o l3 rfl)) e4) ?_
  have hq : (a, p) ∈ arrPl := List.mem_flatMap.mpr ⟨a, hA, List.mem_map.mpr ⟨p, List.mem_range.mpr hp, rfl⟩⟩
  refine (congrArg (BentR a) (each (bent6 (S := S4) C (w : Nat) v) (a, p) hq)).mpr ⟨_, S4, ?_, hS4, rfl⟩
  unfold bents
  simp only [List.mem_append]
  refine .inr (List.mem_flatMap.mpr ⟨p, List.mem_range.mpr hp, List.mem_map.mpr ⟨v, ?_, rfl⟩⟩)
  simp only [List.mem_cons, List.not_mem_nil, or_false] at hv
  have hk6 : k = 0 ∨ k = 1 ∨ k = 2 ∨ k = 3 ∨ k = 4 ∨ k = 5 := by omega
  unfold news
  rcases hv with rfl | rfl | rfl | rfl | rfl
  · rcases hk6 with rfl | rfl | rfl | rfl | rfl | rfl <;> simp
  all_goals simp
end
end Lk

namespace Lk
open PySem PySem.Spec PyProof.Rows L2 Ev Lib
/-! # k01: places near the places -/
section
variable {n : Nat} {S : List PyData} {c : Nat}
theorem r_bp {a0 a1 a2 : Va} : run D (n + 1) 1007 [a0, a1, a2] S = FRof (denB (run D n) b_law_bent_places ⟨[some a0, some a1, some a2, none, none, none, none], S⟩) := fnOf_at rfl
abbrev pSt (q : List Int × Nat) (w : Int) (S : List PyData) : Stt := ⟨[some .pot, some (.dat (ti q.1)), some (.dat (.int (q.2 : Nat))), some (.dat (.int w)), none, none, none], S⟩
def plAll : List (List Int × Nat) := upto4.flatMap fun c => (subsN c).map fun p => (p, c)
section
variable (C : Nat → Fn) (w : Int)
theorem bp0 : plAll.map (fun q => denB C [.ret (.bin .Add (.var 1) (.tup [(.var 2)]))] (pSt q w S)) = mapR (fun q => SR.rt (.dat (ti (q.1 ++ [(q.2 : Int)]))) (pSt q w S)) plAll := by kernel_rfl
theorem bp1 : plAll.map (fun q => denB C [.ret (.bin .Add (.tup [(.neg (.c (.int (1))))]) (.var 1))] (pSt q w S)) = mapR (fun q => SR.rt (.dat (ti (-1 :: q.1))) (pSt q w S)) plAll := by kernel_rfl
theorem bp2 : plAll.map (fun q => denB C [.ret (.bin .Add (.var 1) (.var 1))] (pSt q w S)) = mapR (fun q => SR.rt (.dat (ti (q.1 ++ q.1))) (pSt q w S)) plAll := by kernel_rfl
theorem bp3 : plAll.map (fun q => denB C [.ret (.b1 .tuple (.lc (.rng1 (.b1 .len (.peek 1))) (.n 5) none [4, 5] (.idxV 1 (.bin .Sub (.bin .Sub (.b1 .len (.peek 1)) (.c (.int (1)))) (.var 5)))))] (pSt q w S)) = mapR (fun q => SR.rt (.dat (ti q.1.reverse)) (pSt q w S)) plAll := by kernel_rfl
def odds4 : List PyData := [.none, .int 0, .bool true, .str (Str.ofString ""), .str (Str.ofString "0"), .tuple [.none], .tuple [.str (Str.ofString "0")], .tuple [.tuple [.int 0]], .tuple [.int 0, .none], .tuple [.int 100000000000000000000]]
theorem bp4 (s : Stt) : (den C (.lst [(.c .none), (.c (.int (0))), (.c (.bool true)), (.c (.str (Str.ofString ""))), (.c (.str (Str.ofString "0"))), (.tup [(.c .none)]), (.tup [(.c (.str (Str.ofString "0")))]), (.tup [(.tup [(.c (.int (0)))])]), (.tup [(.c (.int (0))), (.c .none)]), (.tup [(.bin .Pow (.c (.int (10))) (.c (.int (20))))])])).v s = .ok (.own odds4) s := by kernel_rfl
theorem bp5 : plAll.map (fun q => denB C [.ret (.b1 .tuple (.lc (.of (.var 1)) (.n 6) none [4, 6] (.idx (.lst [(.c (.bool false)), (.c (.bool true)), (.c (.int (2))), (.c (.int (3)))]) (.var 6))))] (pSt q w S)) = mapR (fun q => SR.rt (.dat (.tuple (q.1.map bl4))) (pSt q w S)) plAll := by kernel_rfl
end
def BpR (p : List Int) (c : Nat) (z : SR) : Prop := ∃ v S', v ∈ bentP p c ∧ PotOk S' ∧ FRof z = FR.ok (.dat v) S'
theorem bp_ok (hc : c ≤ 4) {p : List Int} (hp : p ∈ subsN c) (hS : PotOk S) : ∃ v S', v ∈ bentP p c ∧ PotOk S' ∧ run D (n + 3) 1007 [.pot, .dat (ti p), .dat (.int (c : Nat))] S = .ok (.dat v) S' := by
  obtain ⟨w, S1, hw, hS1, e1⟩ := drawN (X := X) (n := n + 1) hS 6 (by omega) (by omega)
  obtain ⟨v4, S2, hv4, hS2, e2⟩ := pick (X := X) (n := n) hS1 (xs := odds4) (by decide) (by decide)
  have hA : (p, c) ∈ plAll := List.mem_flatMap.mpr ⟨c, mem_upto hc, List.mem_map.mpr ⟨p, hp, rfl⟩⟩
  rw [r_bp]
  show BpR p c _
  unfold b_law_bent_places
  replace e1 : run D (n + 2) 20 [.pot, .dat (.int (6 : Nat))] S = .ok (.dat (.int w)) S1 := e1
  replace e2 : run D (n + 2) 21 [.pot, .dat (.list odds4)] S1 = .ok (.dat v4) S2 := e2
  generalize run D (n + 2) = C at e1 e2
  refine set_d (Q := BpR p c) (ρ := [some .pot, some (.dat (ti p)), some (.dat (.int (c : Nat))), none, none, none, none]) (cal (S := S) rfl e1) ?_
  show BpR p c (denB C _ (pSt (p, c) (w : Nat) S1))
  have c0 := fun j => eq_t (C := C) (i := 3) (k := w) (s := pSt (p, c) (w : Nat) S1) rfl j
  by_cases w0 : (w : Int) = 0
  · have t := c0 0
    rw [decide_eq_true w0] at t
    refine if_rt (Q := BpR p c) t (each (bp0 (S := S1) C (w : Nat)) (p, c) hA) ⟨_, S1, ?_, hS1, rfl⟩
    simp [bentP]
  have t := c0 0
  rw [decide_eq_false w0] at t
  refine if_f0 (Q := BpR p c) t ?_
  by_cases w1 : (w : Int) = 1
  · have t := c0 1
    rw [decide_eq_true w1] at t
    refine if_rt (Q := BpR p c) t (each (bp1 (S := S1) C (w : Nat)) (p, c) hA) ⟨_, S1, ?_, hS1, rfl⟩
    simp [bentP]
  have t := c0 1
  rw [decide_eq_false w1] at t
  refine if_f0 (Q := BpR p c) t ?_
  by_cases w2 : (w : Int) = 2
  · have t := c0 2
    rw [decide_eq_true w2] at t
    refine if_rt (Q := BpR p c) t (each (bp2 (S := S1) C (w : Nat)) (p, c) hA) ⟨_, S1, ?_, hS1, rfl⟩
    simp [bentP]
  have t := c0 2
  rw [decide_eq_false w2] at t
  refine if_f0 (Q := BpR p c) t ?_
  by_cases w3 : (w : Int) = 3
  · have t := c0 3
    rw [decide_eq_true w3] at t
    refine if_rt (Q := BpR p c) t (each (bp3 (S := S1) C (w : Nat)) (p, c) hA) ⟨_, S1, ?_, hS1, rfl⟩
    simp [bentP]
  have t := c0 3
  rw [decide_eq_false w3] at t
  refine if_f0 (Q := BpR p c) t ?_
  by_cases w4 : (w : Int) = 4
  · have t := c0 4
    rw [decide_eq_true w4] at t
    refine if_rt (Q := BpR p c) t (ret_e (Q := fun z => z = _) (cal (ρ := (pSt (p, c) (w : Nat) S1).ρ) (S := S1) (S' := S2) (dl_p rfl (dl_o (bp4 C _) rfl)) e2) rfl) ⟨v4, S2, ?_, hS2, rfl⟩
    unfold odds4 at hv4
    unfold bentP
    simp only [List.mem_cons, List.not_mem_nil, or_false] at hv4 ⊢
    rcases hv4 with rfl | rfl | rfl | rfl | rfl | rfl | rfl | rfl | rfl | rfl <;> simp
  have t := c0 4
  rw [decide_eq_false w4] at t
  refine if_f0 (Q := BpR p c) t ?_
  refine (congrArg (BpR p c) (each (bp5 (S := S1) C (w : Nat)) (p, c) hA)).mpr ⟨_, S1, ?_, hS1, rfl⟩
  simp [bentP]
/-! the places -/
theorem places_e {C : Nat → Fn} {ρ : List (Option Va)} (h2 : ρ = [none, some .pot, some (.dat (.int (c : Nat)))] ++ ρ.drop 3) (hl : ρ.length = 15) (hp : ([12, 14] : List Nat).all (plainAt ρ) = true) (hc : c ≤ 4) (hS : PotOk S) (hd : ∀ (S : List PyData), PotOk S → ∀ m : Nat, 0 < m → m < 1000000 → ∃ (k : Nat) (S' : List PyData), k < m ∧ PotOk S' ∧ C 20 [.pot, .dat (.int m)] S = .ok (.dat (.int k)) S') :
    ∃ p S', p ∈ subsN c ∧ PotOk S' ∧ (den C (.b1 .tuple (.lc (.rng1 (.var 2)) (.n 14) (some (.cmp .Eq (.call 20 [(.var 1), (.c (.int (2)))]) (.c (.int (0))))) [12, 14] (.var 14)))).v ⟨ρ, S⟩ = .ok (.dat (ti p)) ⟨ρ, S'⟩ := by
  have hi : denI C (.rng1 (.var 2)) ⟨ρ, S⟩ = .ok ((List.range c).map fun (k : Nat) => PyData.int (k : Int)) ⟨ρ, S⟩ := by
    have := rng1_s (C := C) (a := .var 2) (s := ⟨ρ, S⟩) (j := (c : Nat)) (by rw [h2]; rfl) (inR_small (by omega) (by omega))
    rw [Int.toNat_natCast, rangeL_map] at this
    refine this.trans ?_
    congr 2
    funext k
    rw [Int.zero_add]
  obtain ⟨acc, S', e, hS', j, p, hj0, hj, hp2, rfl⟩ := lc_wp (C := C) (tg := .n 14) (ft := some (.cmp .Eq (.call 20 [(.var 1), (.c (.int (2)))]) (.c (.int (0))))) (vs := [12, 14]) (elt := .var 14) hi hp (fun l acc S1 => PotOk S1 ∧ ∃ j p, l = (List.range c).drop j ∧ j ≤ c ∧ p ∈ subsN j ∧ acc = p.map PyData.int) ⟨hS, 0, [], rfl, by omega, List.mem_cons_self .., rfl⟩ (fun x r acc S1 hI => by
    obtain ⟨hS1, j, p, hl2, hj, hp2, rfl⟩ := hI
    have hjc : j < c := by
      rcases Nat.lt_or_ge j c with h | h
      · exact h
      · rw [List.drop_eq_nil_of_le (by simpa using h)] at hl2
        cases hl2
    rw [List.drop_eq_getElem_cons (by simpa using hjc), List.getElem_range] at hl2
    obtain ⟨rfl, rfl⟩ := List.cons.inj hl2
    obtain ⟨k, S2, hk, hS2, e2⟩ := hd S1 hS1 2 (by omega) (by omega)
    have hoff : OffV [12, 14] ρ ((wipeR ρ [12, 14]).set 14 (some (.dat (.int (x : Nat))))) := by
      have a := offV_wipe [12, 14] ρ
      refine ⟨by rw [List.length_set]; exact a.1, fun i hi => ?_⟩
      rw [List.getElem?_set_ne (by rintro rfl; exact hi (by simp))]
      exact a.2 i hi
    have hρ1 : ((wipeR ρ [12, 14]).set 14 (some (.dat (.int (x : Nat)))))[1]? = some (some .pot) := by
      rw [hoff.2 1 (by decide), h2]
      rfl
    have h14 : ((wipeR ρ [12, 14]).set 14 (some (.dat (.int (x : Nat)))))[14]? = some (some (.dat (.int (x : Nat)))) := by
      have hlen := (offV_wipe [12, 14] ρ).1
      rw [List.getElem?_set_self (by rw [hlen, hl]; omega)]
    refine ⟨_, rfl, hoff, decide ((k : Int) = 0), _, S2, ?_, hoff, ?_⟩
    · show (den C (.cmp .Eq (.call 20 [(.var 1), (.c (.int (2)))]) (.c (.int (0))))).t _ = _
      refine cmp_t (d := .int (k : Nat)) (frz_of (cal (S := S1) (S' := S2) (dl_p ?_ rfl) e2)) rfl rfl (c_eqI _ _)
      show dVar 1 _ = _
      unfold dVar
      rw [hρ1]
    · have hlen : p.length ≤ 16 := by
        have key : ∀ j ∈ upto4, ∀ p ∈ subsN j, p.length ≤ 16 := by decide +kernel
        exact key x (mem_upto (by omega)) p hp2
      by_cases hk0 : (k : Int) = 0
      · rw [if_pos (decide_eq_true hk0)]
        refine ⟨.int (x : Nat), _, S2, frz_of ?_, hoff, by rw [List.length_map]; omega, hS2, x + 1, p ++ [(x : Int)], rfl, hjc, ?_, by rw [List.map_append]; rfl⟩
        · show dVar 14 _ = _
          unfold dVar
          rw [h14]
        · exact List.mem_flatMap.mpr ⟨p, hp2, by simp⟩
      · rw [if_neg (by rw [decide_eq_false hk0]; exact Bool.false_ne_true)]
        exact ⟨hS2, x + 1, p, rfl, hjc, List.mem_flatMap.mpr ⟨p, hp2, by simp⟩, rfl⟩)
  have hjc : j = c := by
    have := congrArg List.length hj0
    rw [List.length_drop, List.length_range, List.length_nil] at this
    omega
  subst hjc
  exact ⟨p, S', hp2, hS', b1_e e rfl rfl⟩
end
end Lk

namespace Lk
open PySem PySem.Spec PyProof.Rows L2 Ev Lib
/-! # k01: meets and joins -/
def lowers (c : Nat) (a b : List Int) : List (List Int) := (arrs c).filter fun r => rfs r a && rfs r b
def uppers (c : Nat) (a b : List Int) : List (List Int) := (arrs c).filter fun r => rfs a r && rfs b r
def lows (c : Nat) (a b : List Int) : List (List Int) := (lowers c a b).filter fun r => ((lowers c a b).filter fun l => !rfs l r).isEmpty
def highs (c : Nat) (a b : List Int) : List (List Int) := (uppers c a b).filter fun r => ((uppers c a b).filter fun m => !rfs r m).isEmpty
def jn (c : Nat) (a b : List Int) : List Int := (highs c a b).headD []
def hd? (l : List (List Int)) (x : List Int) : Bool := match l with
  | y :: _ => decide (y = x)
  | [] => false
theorem lows0 : pwAll (fun a b => hd? (lows a.length a b) (mt a b) && hd? (highs a.length a b) (jn a.length a b) && decide (mt b a = mt a b) && decide (jn a.length b a = jn a.length a b)) = true := by kernel_rfl
theorem hd_at {l : List (List Int)} {x : List Int} (h : hd? l x = true) : l[0]? = some x := by
  cases l with
  | nil => cases h
  | cons y r => exact congrArg some (of_decide_eq_true h)
section
variable {n : Nat} {S : List PyData} {c : Nat}
theorem rows_all : arrAll.map (fun a => run D (n + 8) 1014 [.dat (.list ((arrs a.length).map ti)), .dat (ti a)] S) = mapR (fun _ => FR.ok (.dat (.bool true)) S) arrAll := by kernel_rfl
theorem r_rows {a0 a1 : Va} : run D (n + 1) 1014 [a0, a1] S = FRof (denB (run D n) b_law_rows_told ⟨[some a0, some a1, none, none], S⟩) := fnOf_at rfl
theorem rows_ok (hc : c ≤ 4) {a : List Int} (ha : a ∈ arrs c) : run D (n + 8) 1014 [.dat (.list ((arrs c).map ti)), .dat (ti a)] S = .ok (.dat (.bool true)) S := by
  have := each (rows_all (n := n) (S := S)) a (mem_arrAll hc ha)
  rw [arr_len hc ha] at this
  exact this
theorem meet_of_all : pairAll.map (fun p => run D (n + 5) 15 [.dat (ti p.1), .dat (ti p.2)] S) = mapR (fun p => FR.ok (.dat (ti (mt p.1 p.2))) S) pairAll := by kernel_rfl
theorem join_of_all : pairAll.map (fun p => run D (n + 5) 16 [.dat (ti p.1), .dat (ti p.2)] S) = mapR (fun p => FR.ok (.dat (ti (jn p.1.length p.1 p.2))) S) pairAll := by kernel_rfl
end
end Lk

namespace Lk
open PySem PySem.Spec PyProof.Rows L2 Ev Lib
section
variable {n : Nat} {S : List PyData} {c : Nat}
/-- a list comprehension over what an own list becomes -/
theorem lc_map2 {α : Type} {C : Nat → Fn} {it : Itx} {tg : Tg} {ft : Option Ex} {vs : List Nat} {elt : Ex} {s0 : Stt} {ρ : List (Option Va)} {S : List PyData} {g : α → PyData} {xs : List α} {k : α → Bool} {f : α → PyData} (hi : denI C it s0 = .ok (xs.map g) ⟨ρ, S⟩) (hp : vs.all (plainAt ρ) = true) (hl : xs.length ≤ 16777216)
    (st : ∀ x ∈ xs, ∃ ρ1, tg.put (g x) ⟨wipeR ρ vs, S⟩ = some ⟨ρ1, S⟩ ∧ OffV vs ρ ρ1 ∧ denT C ft ⟨ρ1, S⟩ = .ok (k x) ⟨ρ1, S⟩ ∧ (k x = true → dFrz (den C elt).v ⟨ρ1, S⟩ = .ok (f x) ⟨ρ1, S⟩)) :
    (den C (.lc it tg ft vs elt)).v s0 = .ok (.own ((xs.filter k).map f)) ⟨ρ, S⟩ := by
  have h : (den C (.lc (.of (.c (.list (xs.map g)))) tg ft vs elt)).v ⟨ρ, S⟩ = .ok (.own ((xs.filter k).map f)) ⟨ρ, S⟩ := lc_map rfl hp hl st
  have h2 : dLc (denI C (.of (.c (.list (xs.map g))))) tg.put (denT C ft) vs (accE (den C elt).v) ⟨ρ, S⟩ = .ok (.own ((xs.filter k).map f)) ⟨ρ, S⟩ := h
  show dLc (denI C it) tg.put (denT C ft) vs (accE (den C elt).v) s0 = _
  unfold dLc at h2 ⊢
  rw [hi]
  exact h2
theorem lcn_t {C : Nat → Fn} {it : Itx} {tg : Tg} {ft : Option Ex} {vs : List Nat} {elt : Ex} {s s1 : Stt} {ys : List PyData} {b : Bool} (h : (den C (.lc it tg ft vs elt)).v s = .ok (.own ys) s1) (hy : truD (.list ys) = some b) : (den C (.not (.lc it tg ft vs elt))).t s = .ok (!b) s1 := by
  refine not_t (b := b) ?_
  show dTru (den C (.lc it tg ft vs elt)).v s = _
  exact tru_of h rfl hy
theorem r_pair {a0 a1 a2 : Va} : run D (n + 1) 1013 [a0, a1, a2] S = FRof (denB (run D n) b_law_pair_told ⟨[some a0, some a1, some a2, none, none, none, none, none, none, none, none, none], S⟩) := fnOf_at rfl
theorem and_tt {C : Nat → Fn} {a b : Ex} {s : Stt} {j k : Bool} (h : (den C a).t s = .ok j s) (h2 : (den C b).t s = .ok k s) : (den C (.and a b)).t s = .ok (j && k) s := by
  cases j with
  | true => exact and_t h h2
  | false => exact and_f h
theorem nice4 (a b d e : List Int) (h : ∀ x ∈ [a, b, d, e], x.length < 1000000) : Nice 2 (.tuple [ti a, ti b, ti d, ti e]) := .tup 1 _ (by show 4 < 1000000; omega) fun x hx => by
  simp only [List.mem_cons, List.not_mem_nil, or_false] at hx
  rcases hx with rfl | rfl | rfl | rfl <;> exact nice_ti _ (h _ (by simp))
theorem jn_mem (hc : c ≤ 4) {a b : List Int} (ha : a ∈ arrs c) (hb : b ∈ arrs c) : jn c a b ∈ arrs c := by
  have h := pwAll_at lows0 hc ha hb
  simp only [Bool.and_eq_true] at h
  rw [arr_len hc ha] at h
  have := hd_at h.1.1.2
  exact (List.mem_filter.mp (List.mem_filter.mp (List.mem_of_getElem? this)).1).1
theorem pair_ok (hc : c ≤ 4) {a b : List Int} (ha : a ∈ arrs c) (hb : b ∈ arrs c) : run D (n + 6) 1013 [.dat (.list ((arrs c).map ti)), .dat (ti a), .dat (ti b)] S = .ok (.dat (.bool true)) S := by
  have hf : ∀ x ∈ arrs c, ∀ y ∈ arrs c, run D (n + 5) 1004 [.dat (ti x), .dat (ti y)] S = .ok (.dat (.bool (rfs x y))) S := fun x hx y hy => finer_ok (n := n + 4) hc hx hy
  have hla := arr_len hc ha
  have hlb := arr_len hc hb
  have hM : ∀ x y, x ∈ arrs c → y ∈ arrs c → run D (n + 5) 15 [.dat (ti x), .dat (ti y)] S = .ok (.dat (ti (mt x y))) S := fun x y hx hy => each (meet_of_all (n := n) (S := S)) (x, y) (mem_pairAll hc hx hy)
  have hJ : ∀ x y, x ∈ arrs c → y ∈ arrs c → run D (n + 5) 16 [.dat (ti x), .dat (ti y)] S = .ok (.dat (ti (jn c x y))) S := fun x y hx hy => by
    have := each (join_of_all (n := n) (S := S)) (x, y) (mem_pairAll hc hx hy)
    rw [← arr_len hc hx]
    exact this
  have hF := pwAll_at lows0 hc ha hb
  simp only [Bool.and_eq_true] at hF
  obtain ⟨⟨⟨f1, f2⟩, f3⟩, f4⟩ := hF
  rw [hla] at f1 f2 f4
  have f1 := hd_at f1
  have f2 := hd_at f2
  have f3 := of_decide_eq_true f3
  have f4 := of_decide_eq_true f4
  have hm := mt_mem hc ha hb
  have hj := jn_mem hc ha hb
  have hs : run D (n + 5) 24 [.dat (.tuple [ti (mt a b), ti (mt a b), ti (jn c a b), ti (jn c a b)]), .dat (.tuple [ti (mt a b), ti (mt a b), ti (jn c a b), ti (jn c a b)])] S = .ok (.dat (.bool true)) S := same_self 2 _ (nice4 _ _ _ _ (fun x hx => by
    simp only [List.mem_cons, List.not_mem_nil, or_false] at hx
    rcases hx with rfl | rfl | rfl | rfl
    · rw [arr_len hc hm]; omega
    · rw [arr_len hc hm]; omega
    · rw [arr_len hc hj]; omega
    · rw [arr_len hc hj]; omega)) (n + 2) S
  rw [r_pair]
  unfold b_law_pair_told
  generalize run D (n + 5) = C at hf hM hJ hs
  obtain ⟨R, hR⟩ : ∃ R, R = (arrs c).map ti := ⟨_, rfl⟩
  have hlen : (arrs c).length ≤ 16777216 := by have := (arrs_len hc).1; omega
  have hllen : (lowers c a b).length ≤ 16777216 := Nat.le_trans (List.length_filter_le _ _) hlen
  have hulen : (uppers c a b).length ≤ 16777216 := Nat.le_trans (List.length_filter_le _ _) hlen
  have hlm : ∀ x ∈ lowers c a b, x ∈ arrs c := fun x hx => (List.mem_filter.mp hx).1
  have hum : ∀ x ∈ uppers c a b, x ∈ arrs c := fun x hx => (List.mem_filter.mp hx).1
  rw [← hR]
  -- lower
  let ρ0 : List (Option Va) := [some (.dat (.list R)), some (.dat (ti a)), some (.dat (ti b)), none, none, none, none, none, none, none, none, none]
  have e3 := lc_map (C := C) (ρ := ρ0) (S := S) (it := .of (.var 0)) (tg := .n 9) (ft := some (.and (.call 1004 [(.var 9), (.var 1)]) (.call 1004 [(.var 9), (.var 2)]))) (vs := [8, 9]) (elt := .var 9) (xs := arrs c) (k := fun r => rfs r a && rfs r b) (f := ti) (of_l (by rw [← hR]; rfl)) rfl hlen (fun x hx => by
    refine ⟨ρ0.set 9 (some (.dat (ti x))), rfl, offV_set (by simp) _, ?_, fun _ => rfl⟩
    exact and_tt (cal_t (S := S) rfl (hf x hx a ha)) (cal_t (S := S) rfl (hf x hx b hb)))
  refine set_o (Q := fun z => FRof z = FR.ok (.dat (.bool true)) S) (ρ := ρ0) e3 ?_
  let ρ1 : List (Option Va) := [some (.dat (.list R)), some (.dat (ti a)), some (.dat (ti b)), some (.own ((lowers c a b).map ti)), none, none, none, none, none, none, none, none]
  have e4 := lc_map (C := C) (ρ := ρ1) (S := S) (it := .of (.var 0)) (tg := .n 9) (ft := some (.and (.call 1004 [(.var 1), (.var 9)]) (.call 1004 [(.var 2), (.var 9)]))) (vs := [8, 9]) (elt := .var 9) (xs := arrs c) (k := fun r => rfs a r && rfs b r) (f := ti) (of_l (by rw [← hR]; rfl)) rfl hlen (fun x hx => by
    refine ⟨ρ1.set 9 (some (.dat (ti x))), rfl, offV_set (by simp) _, ?_, fun _ => rfl⟩
    exact and_tt (cal_t (S := S) rfl (hf a ha x hx)) (cal_t (S := S) rfl (hf b hb x hx)))
  refine set_o (Q := fun z => FRof z = FR.ok (.dat (.bool true)) S) (ρ := ρ1) e4 ?_
  let ρ2 : List (Option Va) := [some (.dat (.list R)), some (.dat (ti a)), some (.dat (ti b)), some (.own ((lowers c a b).map ti)), some (.own ((uppers c a b).map ti)), none, none, none, none, none, none, none]
  have tl : ∀ (l : List (List Int)), truD (.list (l.map ti)) = some (!l.isEmpty) := fun l => by cases l <;> rfl
  let σ2 : List (Option Va) := [some (.dat (.list R)), some (.dat (ti a)), some (.dat (ti b)), some (.dat (.list ((lowers c a b).map ti))), some (.own ((uppers c a b).map ti)), none, none, none, none, none, none, none]
  have e5 := lc_map2 (C := C) (s0 := ⟨ρ2, S⟩) (ρ := σ2) (S := S) (it := .of (.var 3)) (tg := .n 9) (ft := some (.not (.lc (.of (.var 3)) (.n 10) (some (.not (.call 1004 [(.var 10), (.var 9)]))) [8, 10] (.var 10)))) (vs := [8, 9]) (elt := .var 9) (xs := lowers c a b) (k := fun r => ((lowers c a b).filter fun l => !rfs l r).isEmpty) (f := ti) (of_l rfl) rfl hllen (fun x hx => by
    refine ⟨σ2.set 9 (some (.dat (ti x))), rfl, offV_set (by simp) _, ?_, fun _ => rfl⟩
    have e := lc_map (C := C) (ρ := σ2.set 9 (some (.dat (ti x)))) (S := S) (it := .of (.var 3)) (tg := .n 10) (ft := some (.not (.call 1004 [(.var 10), (.var 9)]))) (vs := [8, 10]) (elt := .var 10) (xs := lowers c a b) (k := fun l => !rfs l x) (f := ti) (of_l rfl) rfl hllen (fun y hy => by
      refine ⟨(σ2.set 9 (some (.dat (ti x)))).set 10 (some (.dat (ti y))), rfl, offV_set (by simp) _, ?_, fun _ => rfl⟩
      exact not_t (cal_t (S := S) rfl (hf y (hlm y hy) x (hlm x hx))))
    have e' := lcn_t e (tl _)
    rw [Bool.not_not] at e'
    exact e')
  refine set_o (Q := fun z => FRof z = FR.ok (.dat (.bool true)) S) (ρ := σ2) e5 ?_
  let ρ3 : List (Option Va) := [some (.dat (.list R)), some (.dat (ti a)), some (.dat (ti b)), some (.dat (.list ((lowers c a b).map ti))), some (.own ((uppers c a b).map ti)), some (.own ((lows c a b).map ti)), none, none, none, none, none, none]
  let σ3 : List (Option Va) := [some (.dat (.list R)), some (.dat (ti a)), some (.dat (ti b)), some (.dat (.list ((lowers c a b).map ti))), some (.dat (.list ((uppers c a b).map ti))), some (.own ((lows c a b).map ti)), none, none, none, none, none, none]
  have e6 := lc_map2 (C := C) (s0 := ⟨ρ3, S⟩) (ρ := σ3) (S := S) (it := .of (.var 4)) (tg := .n 9) (ft := some (.not (.lc (.of (.var 4)) (.n 11) (some (.not (.call 1004 [(.var 9), (.var 11)]))) [8, 11] (.var 11)))) (vs := [8, 9]) (elt := .var 9) (xs := uppers c a b) (k := fun r => ((uppers c a b).filter fun m => !rfs r m).isEmpty) (f := ti) (of_l rfl) rfl hulen (fun x hx => by
    refine ⟨σ3.set 9 (some (.dat (ti x))), rfl, offV_set (by simp) _, ?_, fun _ => rfl⟩
    have e := lc_map (C := C) (ρ := σ3.set 9 (some (.dat (ti x)))) (S := S) (it := .of (.var 4)) (tg := .n 11) (ft := some (.not (.call 1004 [(.var 9), (.var 11)]))) (vs := [8, 11]) (elt := .var 11) (xs := uppers c a b) (k := fun m => !rfs x m) (f := ti) (of_l rfl) rfl hulen (fun y hy => by
      refine ⟨(σ3.set 9 (some (.dat (ti x)))).set 11 (some (.dat (ti y))), rfl, offV_set (by simp) _, ?_, fun _ => rfl⟩
      exact not_t (cal_t (S := S) rfl (hf x (hum x hx) y (hum y hy))))
    have e' := lcn_t e (tl _)
    rw [Bool.not_not] at e'
    exact e')
  refine set_o (Q := fun z => FRof z = FR.ok (.dat (.bool true)) S) (ρ := σ3) e6 ?_
  let ρ4 : List (Option Va) := [some (.dat (.list R)), some (.dat (ti a)), some (.dat (ti b)), some (.dat (.list ((lowers c a b).map ti))), some (.dat (.list ((uppers c a b).map ti))), some (.own ((lows c a b).map ti)), some (.own ((highs c a b).map ti)), none, none, none, none, none]
  have e7 : (den C (.tup [(.call 15 [(.var 1), (.var 2)]), (.call 15 [(.var 2), (.var 1)]), (.call 16 [(.var 1), (.var 2)]), (.call 16 [(.var 2), (.var 1)])])).v ⟨ρ4, S⟩ = .ok (.dat (.tuple [ti (mt a b), ti (mt b a), ti (jn c a b), ti (jn c b a)])) ⟨ρ4, S⟩ :=
    tup_e (ds := [ti (mt a b), ti (mt b a), ti (jn c a b), ti (jn c b a)]) (dl_d (cal (S := S) rfl (hM a b ha hb)) (dl_d (cal (S := S) rfl (hM b a hb ha)) (dl_d (cal (S := S) rfl (hJ a b ha hb)) (dl_d (cal (S := S) rfl (hJ b a hb ha)) rfl)))) (by show 4 ≤ 16777216; omega)
  rw [f3, f4] at e7
  refine set_d (Q := fun z => FRof z = FR.ok (.dat (.bool true)) S) (ρ := ρ4) e7 ?_
  let ρ5 : List (Option Va) := [some (.dat (.list R)), some (.dat (ti a)), some (.dat (ti b)), some (.dat (.list ((lowers c a b).map ti))), some (.dat (.list ((uppers c a b).map ti))), some (.own ((lows c a b).map ti)), some (.own ((highs c a b).map ti)), some (.dat (.tuple [ti (mt a b), ti (mt a b), ti (jn c a b), ti (jn c a b)])), none, none, none, none]
  have i5 : (den C (.idxV 5 (.c (.int (0))))).v ⟨ρ5, S⟩ = .ok (.dat (ti (mt a b))) ⟨ρ5, S⟩ := by
    refine idxV_e (d := .list ((lows c a b).map ti)) (d2 := .int 0) (v := .own ((lows c a b).map ti)) rfl rfl rfl ?_
    show atI ((lows c a b).map ti) 0 = _
    exact atI_nat (j := 0) (show ((lows c a b).map ti)[0]? = some (ti (mt a b)) by rw [List.getElem?_map, f1]; rfl)
  have i6 : (den C (.idxV 6 (.c (.int (0))))).v ⟨ρ5, S⟩ = .ok (.dat (ti (jn c a b))) ⟨ρ5, S⟩ := by
    refine idxV_e (d := .list ((highs c a b).map ti)) (d2 := .int 0) (v := .own ((highs c a b).map ti)) rfl rfl rfl ?_
    show atI ((highs c a b).map ti) 0 = _
    exact atI_nat (j := 0) (show ((highs c a b).map ti)[0]? = some (ti (jn c a b)) by rw [List.getElem?_map, f2]; rfl)
  have e8 : (den C (.tup [(.idxV 5 (.c (.int (0)))), (.idxV 5 (.c (.int (0)))), (.idxV 6 (.c (.int (0)))), (.idxV 6 (.c (.int (0))))])).v ⟨ρ5, S⟩ = .ok (.dat (.tuple [ti (mt a b), ti (mt a b), ti (jn c a b), ti (jn c a b)])) ⟨ρ5, S⟩ :=
    tup_e (ds := [ti (mt a b), ti (mt a b), ti (jn c a b), ti (jn c a b)]) (dl_d i5 (dl_d i5 (dl_d i6 (dl_d i6 rfl)))) (by show 4 ≤ 16777216; omega)
  exact ret_e (Q := fun z => FRof z = FR.ok (.dat (.bool true)) S) (cal (ρ := ρ5) (S := S) (dl_d (d := .tuple [ti (mt a b), ti (mt a b), ti (jn c a b), ti (jn c a b)]) rfl (dl_d e8 rfl)) hs) rfl
end
end Lk

namespace Lk
open PySem PySem.Spec PyProof.Rows L2 Ev Lib
/-! # k01: the law -/
def Val (c : Nat) (v : PyData) : Prop := v ∈ vals c ∨ v ∈ odds
theorem val_isarr {n : Nat} {S : List PyData} {c : Nat} (hc : c ≤ 4) {v : PyData} (hv : Val c v) : H12 v n S := fun k hk => by
  rcases hv with h | h
  · exact isarr_v hc h hk
  · exact isarr_o h hk
theorem val_right {n : Nat} {S : List PyData} {c : Nat} (hc : c ≤ 4) {v : PyData} (hv : Val c v) {k : Nat} (hk : k ≤ 4) : run D (n + 2) 1001 [.dat v, .dat (.int (k : Nat))] S = .ok (.dat (.bool (isA v k))) S := by
  rcases hv with h | h
  · exact right_v hc h hk
  · exact right_o h hk
theorem odds_no : (odds.all fun v => upto4.all fun c => !isA v c) = true := by kernel_rfl
theorem odd_no {c : Nat} (hc : c ≤ 4) {v : PyData} (hv : v ∈ odds) : isA v c = false := by
  have := List.all_eq_true.mp (List.all_eq_true.mp odds_no v hv) c (mem_upto hc)
  simpa using this
def wrongs (k : Int) : List PyData := [.int (-1), .int 5, .int 6, .int 1000000000000, .int (0 - 2 - k), .bool true, .bool false, .none, .str (Str.ofString "3"), .tuple [.int 3]]
theorem wrong_no {k : Int} (hk : 0 ≤ k) {v : PyData} (hv : v ∈ wrongs k) : isNum 0 4 v = false := by
  unfold wrongs at hv
  simp only [List.mem_cons, List.not_mem_nil, or_false] at hv
  rcases hv with rfl | rfl | rfl | rfl | rfl | rfl | rfl | rfl | rfl | rfl
  · rfl
  · rfl
  · rfl
  · rfl
  · show (decide (0 ≤ 0 - 2 - k) && decide (0 - 2 - k ≤ 4)) = false
    rw [decide_eq_false (by omega)]
    rfl
  · rfl
  · rfl
  · rfl
  · rfl
  · rfl
def Tru (z : SR) : Prop := ∃ s', z = .rt (.dat (.bool true)) s'
theorem dl_L {C : Nat → Fn} {v : Va} {xs : List PyData} (h : LstV v xs) {i : Nat} {ρ : List (Option Va)} {S : List PyData} (h0 : ρ[i]? = some (some v)) : denI C (.of (.var i)) ⟨ρ, S⟩ = .ok xs ⟨ρ.set i (some (.dat (.list xs))), S⟩ := by
  have hlt : i < ρ.length := by
    rcases Nat.lt_or_ge i ρ.length with h1 | h1
    · exact h1
    · rw [List.getElem?_eq_none h1] at h0
      cases h0
  rcases h with rfl | rfl
  · refine of_l (frz_of ?_)
    show dVar i _ = _
    unfold dVar
    dsimp only
    rw [h0]
  · have e : ρ.set i (some (.dat (.list xs))) = ρ := by
      rw [List.getElem?_eq_getElem hlt] at h0
      have := Option.some.inj h0
      rw [← this, List.set_getElem_self]
    rw [e]
    refine of_l (frz_of ?_)
    show dVar i _ = _
    unfold dVar
    dsimp only
    rw [h0]
theorem law_plain (ms : List Int) (h : ms.length ≤ 63) : ∃ s', denB (run D 12) bL (start0 NL ms) = .rt (.dat (.bool true)) s' := by
  have hd : ∀ (S : List PyData), PotOk S → ∀ m : Nat, 0 < m → m < 1000000 → ∃ (k : Nat) (S' : List PyData), k < m ∧ PotOk S' ∧ run D 12 20 [.pot, .dat (.int m)] S = .ok (.dat (.int k)) S' := fun S hS m h1 h2 => drawN (X := X) (n := 11) hS m h1 h2
  have hdr : ∀ (S : List PyData), PotOk S → ∃ (k : Int) (S' : List PyData), 0 ≤ k ∧ PotOk S' ∧ run D 12 20 [.pot, .dat (.int 1000000)] S = .ok (.dat (.int k)) S' := fun S hS => by
    obtain ⟨k, S', h0, _, h1, e⟩ := draw (X := X) (n := 11) hS (m := 1000000) (by omega) (by omega)
    exact ⟨k, S', h0, h1, e⟩
  have h21 : ∀ (S : List PyData) (xs : List PyData), PotOk S → 0 < xs.length → xs.length < 1073741824 → ∃ d S', d ∈ xs ∧ PotOk S' ∧ run D 12 21 [.pot, .dat (.list xs)] S = .ok (.dat d) S' := fun S xs hS h0 h1 => pick (X := X) (n := 10) hS h0 h1
  have h1003 : ∀ (S : List PyData) (c : Nat), c ≤ 4 → ∃ v, LstV v ((tups c).map ti) ∧ run D 12 1003 [.dat (.int (c : Nat))] S = .ok v S := fun S c hc => tuples_ok (n := 11) hc
  have h1001t : ∀ (S : List PyData) (c : Nat), c ≤ 4 → ∀ r ∈ tups c, run D 12 1001 [.dat (ti r), .dat (.int (c : Nat))] S = .ok (.dat (.bool (decide (r ∈ arrs c)))) S := fun S c hc r hr => right_tup (n := 10) hc hr
  have h1001 : ∀ (S : List PyData) (c : Nat), c ≤ 4 → ∀ v, Val c v → run D 12 1001 [.dat v, .dat (.int (c : Nat))] S = .ok (.dat (.bool (isA v c))) S := fun S c hc v hv => val_right (n := 10) hc hv hc
  have h1005 : ∀ (S : List PyData) (c : Nat), c ≤ 4 → ∀ a ∈ arrs c, PotOk S → ∃ v S', v ∈ bents a ∧ PotOk S' ∧ run D 12 1005 [.pot, .dat (ti a)] S = .ok (.dat v) S' := fun S c hc a ha hS => bent_ok (n := 9) hc ha hS
  have h1007 : ∀ (S : List PyData) (c : Nat), c ≤ 4 → ∀ p ∈ subsN c, PotOk S → ∃ v S', v ∈ bentP p c ∧ PotOk S' ∧ run D 12 1007 [.pot, .dat (ti p), .dat (.int (c : Nat))] S = .ok (.dat v) S' := fun S c hc p hp hS => bp_ok (n := 9) hc hp hS
  have h1006 : ∀ (S : List PyData), PotOk S → ∃ v S', v ∈ odds ∧ PotOk S' ∧ run D 12 1006 [.pot] S = .ok (.dat v) S' := fun S hS => odd_ok (n := 9) hS
  have h1011 : ∀ (S : List PyData) (c : Nat), c ≤ 4 → run D 12 1011 [.dat (.int (c : Nat)), .dat (.list ((tups c).map ti)), .dat (.list ((arrs c).map ti))] S = .ok (.dat (.bool true)) S := fun S c hc => all_ok (n := 7) hc
  have h1012 : ∀ (S : List PyData) (c : Nat), c ≤ 4 → ∀ a ∈ arrs c, ∀ v, Val c v → run D 12 1012 [.dat v, .dat (ti a)] S = .ok (.dat (.bool true)) S := fun S c hc a ha v hv => near_ok (n := 8) hc ha (val_isarr hc hv) (fun k hk => val_right (n := 9) hc hv hk)
  have h1013 : ∀ (S : List PyData) (c : Nat), c ≤ 4 → ∀ a ∈ arrs c, ∀ b ∈ arrs c, run D 12 1013 [.dat (.list ((arrs c).map ti)), .dat (ti a), .dat (ti b)] S = .ok (.dat (.bool true)) S := fun S c hc a ha b hb => pair_ok (n := 6) hc ha hb
  have h1014 : ∀ (S : List PyData) (c : Nat), c ≤ 4 → ∀ a ∈ arrs c, run D 12 1014 [.dat (.list ((arrs c).map ti)), .dat (ti a)] S = .ok (.dat (.bool true)) S := fun S c hc a ha => rows_ok (n := 4) hc ha
  have h1015 : ∀ (S : List PyData) (c : Nat), c ≤ 4 → ∀ a ∈ arrs c, ∀ p ∈ subsN c, run D 12 1015 [.dat (ti a), .dat (ti p)] S = .ok (.dat (.bool true)) S := fun S c hc a ha p hp => part_ok (n := 6) hc ha hp
  have h1016 : ∀ (S : List PyData) (c : Nat), c ≤ 4 → ∀ v, Val c v → run D 12 1016 [.dat v] S = .ok (.dat (.bool true)) S := fun S c hc v hv => one_ok (n := 4) (val_isarr hc hv) (fun k hk => val_right (n := 8) hc hv hk)
  have h1017 : ∀ (S : List PyData) (c : Nat), c ≤ 4 → ∀ a ∈ arrs c, ∀ v, Val c v → isA v c = false → run D 12 1017 [.dat v, .dat (ti a)] S = .ok (.dat (.bool true)) S := fun S c hc a ha v hv hn => two_ok (n := 4) hc ha (val_isarr hc hv) hn
  have h1008 : ∀ (S : List PyData) (c : Nat), c ≤ 4 → ∀ p ∈ subsN c, ∀ d ∈ bentP p c, run D 12 1008 [.dat d, .dat (.int (c : Nat))] S = .ok (.dat (.bool (goodP c d))) S := fun S c hc p hp d hd => places_r (n := 10) hc hp hd
  have h1010p : ∀ (S : List PyData) (c : Nat), c ≤ 4 → ∀ a ∈ arrs c, ∀ p ∈ subsN c, ∀ d ∈ bentP p c, goodP c d = false → run D 12 1010 [.dat (.int (3 : Nat)), .dat (ti a), .dat d, .dat (.str (Str.ofString "places"))] S = .ok (.dat (.bool true)) S := fun S c hc a ha p hp d hd hg => part_bad (n := 4) hc ha hp hd hg
  have h1010c : ∀ (S : List PyData) (k : Int), 0 ≤ k → ∀ v ∈ wrongs k, run D 12 1010 [.dat (.int (5 : Nat)), .dat v, .dat (.int 0), .dat (.str (Str.ofString "count"))] S = .ok (.dat (.bool true)) S := fun S k hk v hv => wrong_ok (n := 4) (wrong_no hk hv)
  have hS0 := pot0_ok ms
  show ∃ s', denB (run D 12) bL ⟨[none, some .pot, none, none, none, none, none, none, none, none, none, none, none, none, none], pot0 ms⟩ = _
  generalize pot0 ms = S0 at hS0
  generalize run D = R at *
  generalize R 12 = C at *
  show Tru _
  unfold bL
  -- the count
  obtain ⟨c, S1, hc5, hS1, e1⟩ := hd S0 hS0 5 (by omega) (by omega)
  have hc : c ≤ 4 := by omega
  refine set_d (Q := Tru) (ρ := [none, some .pot, none, none, none, none, none, none, none, none, none, none, none, none, none]) (cal (S := S0) rfl e1) ?_
  -- all tuples
  obtain ⟨v3, hv3, e3⟩ := h1003 S1 c hc
  refine set_e (Q := Tru) (s1 := ⟨[none, some .pot, some (.dat (.int (c : Nat))), none, none, none, none, none, none, none, none, none, none, none, none], S1⟩) (cal (S := S1) rfl e3) (by rcases hv3 with rfl | rfl <;> exact fun _ z => nomatch z) ?_
  show Tru (denB C _ ⟨[none, some .pot, some (.dat (.int (c : Nat))), some v3, none, none, none, none, none, none, none, none, none, none, none], S1⟩)
  -- the rows
  let ρ3 : List (Option Va) := [none, some .pot, some (.dat (.int (c : Nat))), some (.dat (.list ((tups c).map ti))), none, none, none, none, none, none, none, none, none, none, none]
  have hlen : (tups c).length ≤ 16777216 := by
    have key : ∀ c ∈ upto4, (tups c).length ≤ 16777216 := by decide +kernel
    exact key c (mem_upto hc)
  have e4 := lc_map2 (C := C) (s0 := ⟨[none, some .pot, some (.dat (.int (c : Nat))), some v3, none, none, none, none, none, none, none, none, none, none, none], S1⟩) (ρ := ρ3) (S := S1) (it := .of (.var 3)) (tg := .n 13) (ft := some (.call 1001 [(.var 13), (.var 2)])) (vs := [12, 13]) (elt := .var 13) (xs := tups c) (k := fun r => decide (r ∈ arrs c)) (f := ti) (g := ti) (dl_L hv3 rfl) rfl hlen (fun x hx => by
    refine ⟨ρ3.set 13 (some (.dat (ti x))), rfl, offV_set (by simp) _, ?_, fun _ => rfl⟩
    exact cal_t (S := S1) rfl (h1001t S1 c hc x hx))
  rw [tups_arr c (mem_upto hc)] at e4
  refine set_o (Q := Tru) (ρ := ρ3) e4 ?_
  -- two of them
  let ρ4 : List (Option Va) := [none, some .pot, some (.dat (.int (c : Nat))), some (.dat (.list ((tups c).map ti))), some (.dat (.list ((arrs c).map ti))), none, none, none, none, none, none, none, none, none, none]
  have hal := arrs_len hc
  obtain ⟨d5, S2, hd5, hS2, e5⟩ := h21 S1 ((arrs c).map ti) hS1 (by rw [List.length_map]; omega) (by rw [List.length_map]; omega)
  obtain ⟨a, ha, rfl⟩ := List.mem_map.mp hd5
  refine set_d (Q := Tru) (ρ := ρ4) (cal (ρ := ρ4) (S := S1) (S' := S2) rfl e5) ?_
  obtain ⟨d6, S3, hd6, hS3, e6⟩ := h21 S2 ((arrs c).map ti) hS2 (by rw [List.length_map]; omega) (by rw [List.length_map]; omega)
  obtain ⟨b, hb, rfl⟩ := List.mem_map.mp hd6
  let ρ5 : List (Option Va) := [none, some .pot, some (.dat (.int (c : Nat))), some (.dat (.list ((tups c).map ti))), some (.dat (.list ((arrs c).map ti))), some (.dat (ti a)), none, none, none, none, none, none, none, none, none]
  refine set_d (Q := Tru) (ρ := ρ5) (cal (ρ := ρ5) (S := S2) (S' := S3) rfl e6) ?_
  -- places
  let ρ6 : List (Option Va) := [none, some .pot, some (.dat (.int (c : Nat))), some (.dat (.list ((tups c).map ti))), some (.dat (.list ((arrs c).map ti))), some (.dat (ti a)), some (.dat (ti b)), none, none, none, none, none, none, none, none]
  obtain ⟨p, S4, hp, hS4, e7⟩ := places_e (C := C) (c := c) (ρ := ρ6) (S := S3) rfl rfl rfl hc hS3 hd
  refine set_d (Q := Tru) (ρ := ρ6) e7 ?_
  -- what is bent and odd
  obtain ⟨v, S5, hv, hS5, e8⟩ := h1005 S4 c hc a ha hS4
  have hV : Val c v := .inl (List.mem_flatMap.mpr ⟨a, ha, hv⟩)
  let ρ7 : List (Option Va) := [none, some .pot, some (.dat (.int (c : Nat))), some (.dat (.list ((tups c).map ti))), some (.dat (.list ((arrs c).map ti))), some (.dat (ti a)), some (.dat (ti b)), some (.dat (ti p)), none, none, none, none, none, none, none]
  refine set_d (Q := Tru) (ρ := ρ7) (cal (ρ := ρ7) (S := S4) (S' := S5) rfl e8) ?_
  obtain ⟨d, S6, hdp, hS6, e9⟩ := h1007 S5 c hc p hp hS5
  let ρ8 : List (Option Va) := [none, some .pot, some (.dat (.int (c : Nat))), some (.dat (.list ((tups c).map ti))), some (.dat (.list ((arrs c).map ti))), some (.dat (ti a)), some (.dat (ti b)), some (.dat (ti p)), some (.dat v), none, none, none, none, none, none]
  refine set_d (Q := Tru) (ρ := ρ8) (cal (ρ := ρ8) (S := S5) (S' := S6) rfl e9) ?_
  obtain ⟨o, S7, ho, hS7, e10⟩ := h1006 S6 hS6
  have hO : Val c o := .inr ho
  let ρ9 : List (Option Va) := [none, some .pot, some (.dat (.int (c : Nat))), some (.dat (.list ((tups c).map ti))), some (.dat (.list ((arrs c).map ti))), some (.dat (ti a)), some (.dat (ti b)), some (.dat (ti p)), some (.dat v), some (.dat d), none, none, none, none, none]
  refine set_d (Q := Tru) (ρ := ρ9) (cal (ρ := ρ9) (S := S6) (S' := S7) rfl e10) ?_
  -- a wrong count
  let ρ10 : List (Option Va) := [none, some .pot, some (.dat (.int (c : Nat))), some (.dat (.list ((tups c).map ti))), some (.dat (.list ((arrs c).map ti))), some (.dat (ti a)), some (.dat (ti b)), some (.dat (ti p)), some (.dat v), some (.dat d), some (.dat o), none, none, none, none]
  obtain ⟨k, S8, hk, hS8, e11⟩ := hdr S7 hS7
  obtain ⟨w, S9, hw, hS9, e12⟩ := h21 S8 (wrongs k) hS8 (by show 0 < 10; omega) (by show 10 < 1073741824; omega)
  have p12 : ∀ s, (den C (.bin .Pow (.c (.int (10))) (.c (.int (12))))).v s = .ok (.dat (.int 1000000000000)) s := fun s => by kernel_rfl
  have p6 : ∀ s, (den C (.bin .Pow (.c (.int (10))) (.c (.int (6))))).v s = .ok (.dat (.int 1000000)) s := fun s => by kernel_rfl
  have l5 : (den C (.bin .Sub (.bin .Sub (.c (.int (0))) (.c (.int (2)))) (.call 20 [(.var 1), (.bin .Pow (.c (.int (10))) (.c (.int (6))))]))).v ⟨ρ10, S7⟩ = .ok (.dat (.int (0 - 2 - k))) ⟨ρ10, S8⟩ :=
    bin_e (d := .int (0 - 2)) (d2 := .int k) rfl (frz_of (cal (ρ := ρ10) (S := S7) (S' := S8) (dl_p rfl (dl_d (p6 _) rfl)) e11)) rfl
  have l11 : (den C (.lst [(.neg (.c (.int (1)))), (.c (.int (5))), (.c (.int (6))), (.bin .Pow (.c (.int (10))) (.c (.int (12)))), (.bin .Sub (.bin .Sub (.c (.int (0))) (.c (.int (2)))) (.call 20 [(.var 1), (.bin .Pow (.c (.int (10))) (.c (.int (6))))])), (.c (.bool true)), (.c (.bool false)), (.c .none), (.c (.str (Str.ofString "3"))), (.tup [(.c (.int (3)))])])).v ⟨ρ10, S7⟩ = .ok (.own (wrongs k)) ⟨ρ10, S8⟩ :=
    lst_e (ds := wrongs k) (dl_d rfl (dl_d rfl (dl_d rfl (dl_d (p12 _) (dl_d l5 rfl))))) (by show 10 ≤ 16777216; omega)
  refine set_d (Q := Tru) (ρ := ρ10) (cal (ρ := ρ10) (S := S8) (S' := S9) (dl_p rfl (dl_o l11 rfl)) e12) ?_
  let s11 : Stt := ⟨[none, some .pot, some (.dat (.int (c : Nat))), some (.dat (.list ((tups c).map ti))), some (.dat (.list ((arrs c).map ti))), some (.dat (ti a)), some (.dat (ti b)), some (.dat (ti p)), some (.dat v), some (.dat d), some (.dat o), some (.dat w), none, none, none], S9⟩
  refine if_f0 (Q := Tru) (s1 := s11) (or_f (not_t (b := true) (cal_t (S := S9) rfl (h1011 S9 c hc))) (or_f (not_t (b := true) (cal_t (S := S9) rfl (h1012 S9 c hc a ha v hV))) (not_t (b := true) (cal_t (S := S9) rfl (h1012 S9 c hc a ha o hO))))) ?_
  refine if_f0 (Q := Tru) (s1 := s11) (or_f (not_t (b := true) (cal_t (S := S9) rfl (h1013 S9 c hc a ha b hb))) (or_f (not_t (b := true) (cal_t (S := S9) rfl (h1014 S9 c hc a ha))) (not_t (b := true) (cal_t (S := S9) rfl (h1015 S9 c hc a ha p hp))))) ?_
  refine if_f0 (Q := Tru) (s1 := s11) (or_f (not_t (b := true) (cal_t (S := S9) rfl (h1016 S9 c hc v hV))) (or_f (not_t (b := true) (cal_t (S := S9) rfl (h1016 S9 c hc o hO))) (not_t (b := true) (cal_t (S := S9) rfl (h1017 S9 c hc a ha o hO (odd_no hc ho)))))) ?_
  have r8 : (den C (.call 1001 [(.var 8), (.var 2)])).t s11 = .ok (isA v c) s11 := cal_t (S := S9) rfl (h1001 S9 c hc v hV)
  have t4 : (den C (.and (.call 1001 [(.var 8), (.var 2)]) (.not (.call 1013 [(.var 4), (.var 5), (.var 8)])))).t s11 = .ok false s11 := by
    cases hA : isA v c with
    | false =>
      rw [hA] at r8
      exact and_f r8
    | true =>
      rw [hA] at r8
      obtain ⟨a', ha', rfl⟩ := isA_inv hA
      exact and_t r8 (not_t (b := true) (cal_t (S := S9) rfl (h1013 S9 c hc a ha a' ha')))
  refine if_f0 (Q := Tru) (s1 := s11) t4 ?_
  have t5 : (den C (.and (.not (.call 1001 [(.var 8), (.var 2)])) (.not (.call 1017 [(.var 8), (.var 5)])))).t s11 = .ok false s11 := by
    cases hA : isA v c with
    | true =>
      rw [hA] at r8
      exact and_f (not_t r8)
    | false =>
      rw [hA] at r8
      exact and_t (not_t r8) (not_t (b := true) (cal_t (S := S9) rfl (h1017 S9 c hc a ha v hV hA)))
  refine if_f0 (Q := Tru) (s1 := s11) t5 ?_
  have r9 : (den C (.call 1008 [(.var 9), (.var 2)])).t s11 = .ok (goodP c d) s11 := cal_t (S := S9) rfl (h1008 S9 c hc p hp d hdp)
  have t6 : (den C (.and (.call 1008 [(.var 9), (.var 2)]) (.not (.call 1015 [(.var 5), (.var 9)])))).t s11 = .ok false s11 := by
    cases hG : goodP c d with
    | false =>
      rw [hG] at r9
      exact and_f r9
    | true =>
      rw [hG] at r9
      obtain ⟨p', hp', rfl⟩ := goodP_inv hG
      exact and_t r9 (not_t (b := true) (cal_t (S := S9) rfl (h1015 S9 c hc a ha p' hp')))
  refine if_f0 (Q := Tru) (s1 := s11) t6 ?_
  have t7 : (den C (.and (.not (.call 1008 [(.var 9), (.var 2)])) (.not (.call 1010 [(.c (.int (3))), (.var 5), (.var 9), (.c (.str (Str.ofString "places")))])))).t s11 = .ok false s11 := by
    cases hG : goodP c d with
    | true =>
      rw [hG] at r9
      exact and_f (not_t r9)
    | false =>
      rw [hG] at r9
      exact and_t (not_t r9) (not_t (b := true) (cal_t (S := S9) rfl (h1010p S9 c hc a ha p hp d hdp hG)))
  refine if_f0 (Q := Tru) (s1 := s11) t7 ?_
  exact ret_e (Q := Tru) (s1 := s11) (cal (S := S9) rfl (h1010c S9 k hk w hw)) ⟨_, rfl⟩
end Lk

namespace Lk
open PySem PySem.Spec PyProof.Rows L2 Ev
theorem sc0 : FnScope N0 P0 (defScope s0) := ⟨rfl, rfl, rfl, by decide +kernel, rfl, by decide +kernel, by decide +kernel⟩
theorem tr0 : trB T N0 80 (defScope s0) (defBody s0) = some I.is_whole := by kernel_rfl
theorem sc1 : FnScope N1 P1 (defScope s1) := ⟨rfl, rfl, rfl, by decide +kernel, rfl, by decide +kernel, by decide +kernel⟩
theorem tr1 : trB T N1 80 (defScope s1) (defBody s1) = some I.is_number := by kernel_rfl
theorem sc2 : FnScope N2 P2 (defScope s2) := ⟨rfl, rfl, rfl, by decide +kernel, rfl, by decide +kernel, by decide +kernel⟩
theorem tr2 : trB T N2 80 (defScope s2) (defBody s2) = some I.is_rising := by kernel_rfl
theorem sc3 : FnScope N3 P3 (defScope s3) := ⟨rfl, rfl, rfl, by decide +kernel, rfl, by decide +kernel, by decide +kernel⟩
theorem tr3 : trB T N3 80 (defScope s3) (defBody s3) = some I.class_total := by kernel_rfl
theorem sc4 : FnScope N4 P4 (defScope s4) := ⟨rfl, rfl, rfl, by decide +kernel, rfl, by decide +kernel, by decide +kernel⟩
theorem tr4 : trB T N4 80 (defScope s4) (defBody s4) = some I.all_arrangements := by kernel_rfl
theorem sc5 : FnScope N5 P5 (defScope s5) := ⟨rfl, rfl, rfl, by decide +kernel, rfl, by decide +kernel, by decide +kernel⟩
theorem tr5 : trB T N5 80 (defScope s5) (defBody s5) = some I.numbered := by kernel_rfl
theorem sc6 : FnScope N6 P6 (defScope s6) := ⟨rfl, rfl, rfl, by decide +kernel, rfl, by decide +kernel, by decide +kernel⟩
theorem tr6 : trB T N6 80 (defScope s6) (defBody s6) = some I.finest_below := by kernel_rfl
theorem sc7 : FnScope N7 P7 (defScope s7) := ⟨rfl, rfl, rfl, by decide +kernel, rfl, by decide +kernel, by decide +kernel⟩
theorem tr7 : trB T N7 80 (defScope s7) (defBody s7) = some I.coarsest_above := by kernel_rfl
theorem sc8 : FnScope N8 P8 (defScope s8) := ⟨rfl, rfl, rfl, by decide +kernel, rfl, by decide +kernel, by decide +kernel⟩
theorem tr8 : trB T N8 80 (defScope s8) (defBody s8) = some I.refines := by kernel_rfl
theorem sc9 : FnScope N9 P9 (defScope s9) := ⟨rfl, rfl, rfl, by decide +kernel, rfl, by decide +kernel, by decide +kernel⟩
theorem tr9 : trB T N9 80 (defScope s9) (defBody s9) = some I.seen_at := by kernel_rfl
theorem sc10 : FnScope N10 P10 (defScope s10) := ⟨rfl, rfl, rfl, by decide +kernel, rfl, by decide +kernel, by decide +kernel⟩
theorem tr10 : trB T N10 80 (defScope s10) (defBody s10) = some I.arrangements := by kernel_rfl
theorem sc11 : FnScope N11 P11 (defScope s11) := ⟨rfl, rfl, rfl, by decide +kernel, rfl, by decide +kernel, by decide +kernel⟩
theorem tr11 : trB T N11 80 (defScope s11) (defBody s11) = some I.is_arrangement := by kernel_rfl
theorem sc12 : FnScope N12 P12 (defScope s12) := ⟨rfl, rfl, rfl, by decide +kernel, rfl, by decide +kernel, by decide +kernel⟩
theorem tr12 : trB T N12 80 (defScope s12) (defBody s12) = some I.check_arrangement := by kernel_rfl
theorem sc13 : FnScope N13 P13 (defScope s13) := ⟨rfl, rfl, rfl, by decide +kernel, rfl, by decide +kernel, by decide +kernel⟩
theorem tr13 : trB T N13 80 (defScope s13) (defBody s13) = some I.check_any := by kernel_rfl
theorem sc14 : FnScope N14 P14 (defScope s14) := ⟨rfl, rfl, rfl, by decide +kernel, rfl, by decide +kernel, by decide +kernel⟩
theorem tr14 : trB T N14 80 (defScope s14) (defBody s14) = some I.meet_of := by kernel_rfl
theorem sc15 : FnScope N15 P15 (defScope s15) := ⟨rfl, rfl, rfl, by decide +kernel, rfl, by decide +kernel, by decide +kernel⟩
theorem tr15 : trB T N15 80 (defScope s15) (defBody s15) = some I.join_of := by kernel_rfl
theorem sc16 : FnScope N16 P16 (defScope s16) := ⟨rfl, rfl, rfl, by decide +kernel, rfl, by decide +kernel, by decide +kernel⟩
theorem tr16 : trB T N16 80 (defScope s16) (defBody s16) = some I.is_finer := by kernel_rfl
theorem sc17 : FnScope N17 P17 (defScope s17) := ⟨rfl, rfl, rfl, by decide +kernel, rfl, by decide +kernel, by decide +kernel⟩
theorem tr17 : trB T N17 80 (defScope s17) (defBody s17) = some I.class_count := by kernel_rfl
theorem sc18 : FnScope N18 P18 (defScope s18) := ⟨rfl, rfl, rfl, by decide +kernel, rfl, by decide +kernel, by decide +kernel⟩
theorem tr18 : trB T N18 80 (defScope s18) (defBody s18) = some I.part_of := by kernel_rfl
theorem sc19 : FnScope N19 P19 (defScope s19) := ⟨rfl, rfl, rfl, by decide +kernel, rfl, by decide +kernel, by decide +kernel⟩
theorem tr19 : trB T N19 80 (defScope s19) (defBody s19) = some I.law_draw := by kernel_rfl
theorem sc20 : FnScope N20 P20 (defScope s20) := ⟨rfl, rfl, rfl, by decide +kernel, rfl, by decide +kernel, by decide +kernel⟩
theorem tr20 : trB T N20 80 (defScope s20) (defBody s20) = some I.law_pick := by kernel_rfl
theorem sc21 : FnScope N21 P21 (defScope s21) := ⟨rfl, rfl, rfl, by decide +kernel, rfl, by decide +kernel, by decide +kernel⟩
theorem tr21 : trB T N21 80 (defScope s21) (defBody s21) = some I.law_arrangements := by kernel_rfl
theorem sc22 : FnScope N22 P22 (defScope s22) := ⟨rfl, rfl, rfl, by decide +kernel, rfl, by decide +kernel, by decide +kernel⟩
theorem tr22 : trB T N22 80 (defScope s22) (defBody s22) = some I.law_same_marks := by kernel_rfl
theorem sc23 : FnScope N23 P23 (defScope s23) := ⟨rfl, rfl, rfl, by decide +kernel, rfl, by decide +kernel, by decide +kernel⟩
theorem tr23 : trB T N23 80 (defScope s23) (defBody s23) = some I.law_same := by kernel_rfl
theorem sc24 : FnScope N24 P24 (defScope s24) := ⟨rfl, rfl, rfl, by decide +kernel, rfl, by decide +kernel, by decide +kernel⟩
theorem tr24 : trB T N24 80 (defScope s24) (defBody s24) = some b_law_numbers := by kernel_rfl
theorem sc25 : FnScope N25 P25 (defScope s25) := ⟨rfl, rfl, rfl, by decide +kernel, rfl, by decide +kernel, by decide +kernel⟩
theorem tr25 : trB T N25 80 (defScope s25) (defBody s25) = some b_law_right := by kernel_rfl
theorem sc26 : FnScope N26 P26 (defScope s26) := ⟨rfl, rfl, rfl, by decide +kernel, rfl, by decide +kernel, by decide +kernel⟩
theorem tr26 : trB T N26 80 (defScope s26) (defBody s26) = some b_law_any := by kernel_rfl
theorem sc27 : FnScope N27 P27 (defScope s27) := ⟨rfl, rfl, rfl, by decide +kernel, rfl, by decide +kernel, by decide +kernel⟩
theorem tr27 : trB T N27 80 (defScope s27) (defBody s27) = some b_law_tuples := by kernel_rfl
theorem sc28 : FnScope N28 P28 (defScope s28) := ⟨rfl, rfl, rfl, by decide +kernel, rfl, by decide +kernel, by decide +kernel⟩
theorem tr28 : trB T N28 80 (defScope s28) (defBody s28) = some b_law_finer := by kernel_rfl
theorem sc29 : FnScope N29 P29 (defScope s29) := ⟨rfl, rfl, rfl, by decide +kernel, rfl, by decide +kernel, by decide +kernel⟩
theorem tr29 : trB T N29 80 (defScope s29) (defBody s29) = some b_law_bent := by kernel_rfl
theorem sc30 : FnScope N30 P30 (defScope s30) := ⟨rfl, rfl, rfl, by decide +kernel, rfl, by decide +kernel, by decide +kernel⟩
theorem tr30 : trB T N30 80 (defScope s30) (defBody s30) = some b_law_odd := by kernel_rfl
theorem sc31 : FnScope N31 P31 (defScope s31) := ⟨rfl, rfl, rfl, by decide +kernel, rfl, by decide +kernel, by decide +kernel⟩
theorem tr31 : trB T N31 80 (defScope s31) (defBody s31) = some b_law_bent_places := by kernel_rfl
theorem sc32 : FnScope N32 P32 (defScope s32) := ⟨rfl, rfl, rfl, by decide +kernel, rfl, by decide +kernel, by decide +kernel⟩
theorem tr32 : trB T N32 80 (defScope s32) (defBody s32) = some b_law_places_right := by kernel_rfl
theorem sc33 : FnScope N33 P33 (defScope s33) := ⟨rfl, rfl, rfl, by decide +kernel, rfl, by decide +kernel, by decide +kernel⟩
theorem tr33 : trB T N33 80 (defScope s33) (defBody s33) = some b_law_ask := by kernel_rfl
theorem sc34 : FnScope N34 P34 (defScope s34) := ⟨rfl, rfl, rfl, by decide +kernel, rfl, by decide +kernel, by decide +kernel⟩
theorem tr34 : trB T N34 80 (defScope s34) (defBody s34) = some b_law_refused := by kernel_rfl
theorem sc35 : FnScope N35 P35 (defScope s35) := ⟨rfl, rfl, rfl, by decide +kernel, rfl, by decide +kernel, by decide +kernel⟩
theorem tr35 : trB T N35 80 (defScope s35) (defBody s35) = some b_law_all_told := by kernel_rfl
theorem sc36 : FnScope N36 P36 (defScope s36) := ⟨rfl, rfl, rfl, by decide +kernel, rfl, by decide +kernel, by decide +kernel⟩
theorem tr36 : trB T N36 80 (defScope s36) (defBody s36) = some b_law_near_told := by kernel_rfl
theorem sc37 : FnScope N37 P37 (defScope s37) := ⟨rfl, rfl, rfl, by decide +kernel, rfl, by decide +kernel, by decide +kernel⟩
theorem tr37 : trB T N37 80 (defScope s37) (defBody s37) = some b_law_pair_told := by kernel_rfl
theorem sc38 : FnScope N38 P38 (defScope s38) := ⟨rfl, rfl, rfl, by decide +kernel, rfl, by decide +kernel, by decide +kernel⟩
theorem tr38 : trB T N38 80 (defScope s38) (defBody s38) = some b_law_rows_told := by kernel_rfl
theorem sc39 : FnScope N39 P39 (defScope s39) := ⟨rfl, rfl, rfl, by decide +kernel, rfl, by decide +kernel, by decide +kernel⟩
theorem tr39 : trB T N39 80 (defScope s39) (defBody s39) = some b_law_part_told := by kernel_rfl
theorem sc40 : FnScope N40 P40 (defScope s40) := ⟨rfl, rfl, rfl, by decide +kernel, rfl, by decide +kernel, by decide +kernel⟩
theorem tr40 : trB T N40 80 (defScope s40) (defBody s40) = some b_law_one_told := by kernel_rfl
theorem sc41 : FnScope N41 P41 (defScope s41) := ⟨rfl, rfl, rfl, by decide +kernel, rfl, by decide +kernel, by decide +kernel⟩
theorem tr41 : trB T N41 80 (defScope s41) (defBody s41) = some b_law_two_refused := by kernel_rfl
theorem scP : FnScope potN [Str.ofString "script"] (defScope sPot) := ⟨rfl, rfl, rfl, by decide +kernel, rfl, by decide +kernel, by decide +kernel⟩
theorem scL : FnScope NL [Str.ofString "script"] (defScope sLaw) := ⟨rfl, rfl, rfl, by decide +kernel, rfl, by decide +kernel, by decide +kernel⟩
theorem trL : trB T NL 80 (defScope sLaw) (defBody sLaw).tail = some bL := by kernel_rfl
theorem all_mk {l : PySem.W.OpenLaw} {w : World} {K : PySem.W.Frag} {h : Heap} {mg : Str → Option Value} {fa : Addr} (X : K.In h) (G : h.Ns mainGlobals mg) (hfa : mg "law" = some (.ref fa))
    {f0 : Addr} {od0 an0 : Option Addr} {sl0 : Array (Option Value)} {oc0 kV0 dc0 pm0 cd0 ct0 : Value} (a0 : PySem.W.nsIn K mainGlobals (Str.ofString "is_whole") = some (some (.ref f0)))
    (l0 : K.lookup f0 = some ⟨oc0, od0, .func (PySem.W.fnOf (Str.ofString "is_whole") (Str.ofString "is_whole") (defArgs s0) (defBody s0) (defScope s0) .none kV0 dc0 pm0 an0 cd0 ct0), sl0⟩) (c0 : PySem.W.codeIn K cd0 (Str.ofString "is_whole") = true) (k0 : PySem.W.keepIn K (.ref f0) = true)
    {f1 : Addr} {od1 an1 : Option Addr} {sl1 : Array (Option Value)} {oc1 kV1 dc1 pm1 cd1 ct1 : Value} (a1 : PySem.W.nsIn K mainGlobals (Str.ofString "is_number") = some (some (.ref f1)))
    (l1 : K.lookup f1 = some ⟨oc1, od1, .func (PySem.W.fnOf (Str.ofString "is_number") (Str.ofString "is_number") (defArgs s1) (defBody s1) (defScope s1) .none kV1 dc1 pm1 an1 cd1 ct1), sl1⟩) (c1 : PySem.W.codeIn K cd1 (Str.ofString "is_number") = true) (k1 : PySem.W.keepIn K (.ref f1) = true)
    {f2 : Addr} {od2 an2 : Option Addr} {sl2 : Array (Option Value)} {oc2 kV2 dc2 pm2 cd2 ct2 : Value} (a2 : PySem.W.nsIn K mainGlobals (Str.ofString "is_rising") = some (some (.ref f2)))
    (l2 : K.lookup f2 = some ⟨oc2, od2, .func (PySem.W.fnOf (Str.ofString "is_rising") (Str.ofString "is_rising") (defArgs s2) (defBody s2) (defScope s2) .none kV2 dc2 pm2 an2 cd2 ct2), sl2⟩) (c2 : PySem.W.codeIn K cd2 (Str.ofString "is_rising") = true) (k2 : PySem.W.keepIn K (.ref f2) = true)
    {f3 : Addr} {od3 an3 : Option Addr} {sl3 : Array (Option Value)} {oc3 kV3 dc3 pm3 cd3 ct3 : Value} (a3 : PySem.W.nsIn K mainGlobals (Str.ofString "class_total") = some (some (.ref f3)))
    (l3 : K.lookup f3 = some ⟨oc3, od3, .func (PySem.W.fnOf (Str.ofString "class_total") (Str.ofString "class_total") (defArgs s3) (defBody s3) (defScope s3) .none kV3 dc3 pm3 an3 cd3 ct3), sl3⟩) (c3 : PySem.W.codeIn K cd3 (Str.ofString "class_total") = true) (k3 : PySem.W.keepIn K (.ref f3) = true)
    {f4 : Addr} {od4 an4 : Option Addr} {sl4 : Array (Option Value)} {oc4 kV4 dc4 pm4 cd4 ct4 : Value} (a4 : PySem.W.nsIn K mainGlobals (Str.ofString "all_arrangements") = some (some (.ref f4)))
    (l4 : K.lookup f4 = some ⟨oc4, od4, .func (PySem.W.fnOf (Str.ofString "all_arrangements") (Str.ofString "all_arrangements") (defArgs s4) (defBody s4) (defScope s4) .none kV4 dc4 pm4 an4 cd4 ct4), sl4⟩) (c4 : PySem.W.codeIn K cd4 (Str.ofString "all_arrangements") = true) (k4 : PySem.W.keepIn K (.ref f4) = true)
    {f5 : Addr} {od5 an5 : Option Addr} {sl5 : Array (Option Value)} {oc5 kV5 dc5 pm5 cd5 ct5 : Value} (a5 : PySem.W.nsIn K mainGlobals (Str.ofString "numbered") = some (some (.ref f5)))
    (l5 : K.lookup f5 = some ⟨oc5, od5, .func (PySem.W.fnOf (Str.ofString "numbered") (Str.ofString "numbered") (defArgs s5) (defBody s5) (defScope s5) .none kV5 dc5 pm5 an5 cd5 ct5), sl5⟩) (c5 : PySem.W.codeIn K cd5 (Str.ofString "numbered") = true) (k5 : PySem.W.keepIn K (.ref f5) = true)
    {f6 : Addr} {od6 an6 : Option Addr} {sl6 : Array (Option Value)} {oc6 kV6 dc6 pm6 cd6 ct6 : Value} (a6 : PySem.W.nsIn K mainGlobals (Str.ofString "finest_below") = some (some (.ref f6)))
    (l6 : K.lookup f6 = some ⟨oc6, od6, .func (PySem.W.fnOf (Str.ofString "finest_below") (Str.ofString "finest_below") (defArgs s6) (defBody s6) (defScope s6) .none kV6 dc6 pm6 an6 cd6 ct6), sl6⟩) (c6 : PySem.W.codeIn K cd6 (Str.ofString "finest_below") = true) (k6 : PySem.W.keepIn K (.ref f6) = true)
    {f7 : Addr} {od7 an7 : Option Addr} {sl7 : Array (Option Value)} {oc7 kV7 dc7 pm7 cd7 ct7 : Value} (a7 : PySem.W.nsIn K mainGlobals (Str.ofString "coarsest_above") = some (some (.ref f7)))
    (l7 : K.lookup f7 = some ⟨oc7, od7, .func (PySem.W.fnOf (Str.ofString "coarsest_above") (Str.ofString "coarsest_above") (defArgs s7) (defBody s7) (defScope s7) .none kV7 dc7 pm7 an7 cd7 ct7), sl7⟩) (c7 : PySem.W.codeIn K cd7 (Str.ofString "coarsest_above") = true) (k7 : PySem.W.keepIn K (.ref f7) = true)
    {f8 : Addr} {od8 an8 : Option Addr} {sl8 : Array (Option Value)} {oc8 kV8 dc8 pm8 cd8 ct8 : Value} (a8 : PySem.W.nsIn K mainGlobals (Str.ofString "refines") = some (some (.ref f8)))
    (l8 : K.lookup f8 = some ⟨oc8, od8, .func (PySem.W.fnOf (Str.ofString "refines") (Str.ofString "refines") (defArgs s8) (defBody s8) (defScope s8) .none kV8 dc8 pm8 an8 cd8 ct8), sl8⟩) (c8 : PySem.W.codeIn K cd8 (Str.ofString "refines") = true) (k8 : PySem.W.keepIn K (.ref f8) = true)
    {f9 : Addr} {od9 an9 : Option Addr} {sl9 : Array (Option Value)} {oc9 kV9 dc9 pm9 cd9 ct9 : Value} (a9 : PySem.W.nsIn K mainGlobals (Str.ofString "seen_at") = some (some (.ref f9)))
    (l9 : K.lookup f9 = some ⟨oc9, od9, .func (PySem.W.fnOf (Str.ofString "seen_at") (Str.ofString "seen_at") (defArgs s9) (defBody s9) (defScope s9) .none kV9 dc9 pm9 an9 cd9 ct9), sl9⟩) (c9 : PySem.W.codeIn K cd9 (Str.ofString "seen_at") = true) (k9 : PySem.W.keepIn K (.ref f9) = true)
    {f10 : Addr} {od10 an10 : Option Addr} {sl10 : Array (Option Value)} {oc10 kV10 dc10 pm10 cd10 ct10 : Value} (a10 : PySem.W.nsIn K mainGlobals (Str.ofString "arrangements") = some (some (.ref f10)))
    (l10 : K.lookup f10 = some ⟨oc10, od10, .func (PySem.W.fnOf (Str.ofString "arrangements") (Str.ofString "arrangements") (defArgs s10) (defBody s10) (defScope s10) .none kV10 dc10 pm10 an10 cd10 ct10), sl10⟩) (c10 : PySem.W.codeIn K cd10 (Str.ofString "arrangements") = true) (k10 : PySem.W.keepIn K (.ref f10) = true)
    {f11 : Addr} {od11 an11 : Option Addr} {sl11 : Array (Option Value)} {oc11 kV11 dc11 pm11 cd11 ct11 : Value} (a11 : PySem.W.nsIn K mainGlobals (Str.ofString "is_arrangement") = some (some (.ref f11)))
    (l11 : K.lookup f11 = some ⟨oc11, od11, .func (PySem.W.fnOf (Str.ofString "is_arrangement") (Str.ofString "is_arrangement") (defArgs s11) (defBody s11) (defScope s11) .none kV11 dc11 pm11 an11 cd11 ct11), sl11⟩) (c11 : PySem.W.codeIn K cd11 (Str.ofString "is_arrangement") = true) (k11 : PySem.W.keepIn K (.ref f11) = true)
    {f12 : Addr} {od12 an12 : Option Addr} {sl12 : Array (Option Value)} {oc12 kV12 dc12 pm12 cd12 ct12 : Value} (a12 : PySem.W.nsIn K mainGlobals (Str.ofString "check_arrangement") = some (some (.ref f12)))
    (l12 : K.lookup f12 = some ⟨oc12, od12, .func (PySem.W.fnOf (Str.ofString "check_arrangement") (Str.ofString "check_arrangement") (defArgs s12) (defBody s12) (defScope s12) .none kV12 dc12 pm12 an12 cd12 ct12), sl12⟩) (c12 : PySem.W.codeIn K cd12 (Str.ofString "check_arrangement") = true) (k12 : PySem.W.keepIn K (.ref f12) = true)
    {f13 : Addr} {od13 an13 : Option Addr} {sl13 : Array (Option Value)} {oc13 kV13 dc13 pm13 cd13 ct13 : Value} (a13 : PySem.W.nsIn K mainGlobals (Str.ofString "check_any") = some (some (.ref f13)))
    (l13 : K.lookup f13 = some ⟨oc13, od13, .func (PySem.W.fnOf (Str.ofString "check_any") (Str.ofString "check_any") (defArgs s13) (defBody s13) (defScope s13) .none kV13 dc13 pm13 an13 cd13 ct13), sl13⟩) (c13 : PySem.W.codeIn K cd13 (Str.ofString "check_any") = true) (k13 : PySem.W.keepIn K (.ref f13) = true)
    {f14 : Addr} {od14 an14 : Option Addr} {sl14 : Array (Option Value)} {oc14 kV14 dc14 pm14 cd14 ct14 : Value} (a14 : PySem.W.nsIn K mainGlobals (Str.ofString "meet_of") = some (some (.ref f14)))
    (l14 : K.lookup f14 = some ⟨oc14, od14, .func (PySem.W.fnOf (Str.ofString "meet_of") (Str.ofString "meet_of") (defArgs s14) (defBody s14) (defScope s14) .none kV14 dc14 pm14 an14 cd14 ct14), sl14⟩) (c14 : PySem.W.codeIn K cd14 (Str.ofString "meet_of") = true) (k14 : PySem.W.keepIn K (.ref f14) = true)
    {f15 : Addr} {od15 an15 : Option Addr} {sl15 : Array (Option Value)} {oc15 kV15 dc15 pm15 cd15 ct15 : Value} (a15 : PySem.W.nsIn K mainGlobals (Str.ofString "join_of") = some (some (.ref f15)))
    (l15 : K.lookup f15 = some ⟨oc15, od15, .func (PySem.W.fnOf (Str.ofString "join_of") (Str.ofString "join_of") (defArgs s15) (defBody s15) (defScope s15) .none kV15 dc15 pm15 an15 cd15 ct15), sl15⟩) (c15 : PySem.W.codeIn K cd15 (Str.ofString "join_of") = true) (k15 : PySem.W.keepIn K (.ref f15) = true)
    {f16 : Addr} {od16 an16 : Option Addr} {sl16 : Array (Option Value)} {oc16 kV16 dc16 pm16 cd16 ct16 : Value} (a16 : PySem.W.nsIn K mainGlobals (Str.ofString "is_finer") = some (some (.ref f16)))
    (l16 : K.lookup f16 = some ⟨oc16, od16, .func (PySem.W.fnOf (Str.ofString "is_finer") (Str.ofString "is_finer") (defArgs s16) (defBody s16) (defScope s16) .none kV16 dc16 pm16 an16 cd16 ct16), sl16⟩) (c16 : PySem.W.codeIn K cd16 (Str.ofString "is_finer") = true) (k16 : PySem.W.keepIn K (.ref f16) = true)
    {f17 : Addr} {od17 an17 : Option Addr} {sl17 : Array (Option Value)} {oc17 kV17 dc17 pm17 cd17 ct17 : Value} (a17 : PySem.W.nsIn K mainGlobals (Str.ofString "class_count") = some (some (.ref f17)))
    (l17 : K.lookup f17 = some ⟨oc17, od17, .func (PySem.W.fnOf (Str.ofString "class_count") (Str.ofString "class_count") (defArgs s17) (defBody s17) (defScope s17) .none kV17 dc17 pm17 an17 cd17 ct17), sl17⟩) (c17 : PySem.W.codeIn K cd17 (Str.ofString "class_count") = true) (k17 : PySem.W.keepIn K (.ref f17) = true)
    {f18 : Addr} {od18 an18 : Option Addr} {sl18 : Array (Option Value)} {oc18 kV18 dc18 pm18 cd18 ct18 : Value} (a18 : PySem.W.nsIn K mainGlobals (Str.ofString "part_of") = some (some (.ref f18)))
    (l18 : K.lookup f18 = some ⟨oc18, od18, .func (PySem.W.fnOf (Str.ofString "part_of") (Str.ofString "part_of") (defArgs s18) (defBody s18) (defScope s18) .none kV18 dc18 pm18 an18 cd18 ct18), sl18⟩) (c18 : PySem.W.codeIn K cd18 (Str.ofString "part_of") = true) (k18 : PySem.W.keepIn K (.ref f18) = true)
    {f19 : Addr} {od19 an19 : Option Addr} {sl19 : Array (Option Value)} {oc19 kV19 dc19 pm19 cd19 ct19 : Value} (a19 : PySem.W.nsIn K mainGlobals (Str.ofString "_law_draw") = some (some (.ref f19)))
    (l19 : K.lookup f19 = some ⟨oc19, od19, .func (PySem.W.fnOf (Str.ofString "_law_draw") (Str.ofString "_law_draw") (defArgs s19) (defBody s19) (defScope s19) .none kV19 dc19 pm19 an19 cd19 ct19), sl19⟩) (c19 : PySem.W.codeIn K cd19 (Str.ofString "_law_draw") = true) (k19 : PySem.W.keepIn K (.ref f19) = true)
    {f20 : Addr} {od20 an20 : Option Addr} {sl20 : Array (Option Value)} {oc20 kV20 dc20 pm20 cd20 ct20 : Value} (a20 : PySem.W.nsIn K mainGlobals (Str.ofString "_law_pick") = some (some (.ref f20)))
    (l20 : K.lookup f20 = some ⟨oc20, od20, .func (PySem.W.fnOf (Str.ofString "_law_pick") (Str.ofString "_law_pick") (defArgs s20) (defBody s20) (defScope s20) .none kV20 dc20 pm20 an20 cd20 ct20), sl20⟩) (c20 : PySem.W.codeIn K cd20 (Str.ofString "_law_pick") = true) (k20 : PySem.W.keepIn K (.ref f20) = true)
    {f21 : Addr} {od21 an21 : Option Addr} {sl21 : Array (Option Value)} {oc21 kV21 dc21 pm21 cd21 ct21 : Value} (a21 : PySem.W.nsIn K mainGlobals (Str.ofString "_law_arrangements") = some (some (.ref f21)))
    (l21 : K.lookup f21 = some ⟨oc21, od21, .func (PySem.W.fnOf (Str.ofString "_law_arrangements") (Str.ofString "_law_arrangements") (defArgs s21) (defBody s21) (defScope s21) .none kV21 dc21 pm21 an21 cd21 ct21), sl21⟩) (c21 : PySem.W.codeIn K cd21 (Str.ofString "_law_arrangements") = true) (k21 : PySem.W.keepIn K (.ref f21) = true)
    {f22 : Addr} {od22 an22 : Option Addr} {sl22 : Array (Option Value)} {oc22 kV22 dc22 pm22 cd22 ct22 : Value} (a22 : PySem.W.nsIn K mainGlobals (Str.ofString "_law_same_marks") = some (some (.ref f22)))
    (l22 : K.lookup f22 = some ⟨oc22, od22, .func (PySem.W.fnOf (Str.ofString "_law_same_marks") (Str.ofString "_law_same_marks") (defArgs s22) (defBody s22) (defScope s22) .none kV22 dc22 pm22 an22 cd22 ct22), sl22⟩) (c22 : PySem.W.codeIn K cd22 (Str.ofString "_law_same_marks") = true) (k22 : PySem.W.keepIn K (.ref f22) = true)
    {f23 : Addr} {od23 an23 : Option Addr} {sl23 : Array (Option Value)} {oc23 kV23 dc23 pm23 cd23 ct23 : Value} (a23 : PySem.W.nsIn K mainGlobals (Str.ofString "_law_same") = some (some (.ref f23)))
    (l23 : K.lookup f23 = some ⟨oc23, od23, .func (PySem.W.fnOf (Str.ofString "_law_same") (Str.ofString "_law_same") (defArgs s23) (defBody s23) (defScope s23) .none kV23 dc23 pm23 an23 cd23 ct23), sl23⟩) (c23 : PySem.W.codeIn K cd23 (Str.ofString "_law_same") = true) (k23 : PySem.W.keepIn K (.ref f23) = true)
    {f24 : Addr} {od24 an24 : Option Addr} {sl24 : Array (Option Value)} {oc24 kV24 dc24 pm24 cd24 ct24 : Value} (a24 : PySem.W.nsIn K mainGlobals (Str.ofString "_law_numbers") = some (some (.ref f24)))
    (l24 : K.lookup f24 = some ⟨oc24, od24, .func (PySem.W.fnOf (Str.ofString "_law_numbers") (Str.ofString "_law_numbers") (defArgs s24) (defBody s24) (defScope s24) .none kV24 dc24 pm24 an24 cd24 ct24), sl24⟩) (c24 : PySem.W.codeIn K cd24 (Str.ofString "_law_numbers") = true) (k24 : PySem.W.keepIn K (.ref f24) = true)
    {f25 : Addr} {od25 an25 : Option Addr} {sl25 : Array (Option Value)} {oc25 kV25 dc25 pm25 cd25 ct25 : Value} (a25 : PySem.W.nsIn K mainGlobals (Str.ofString "_law_right") = some (some (.ref f25)))
    (l25 : K.lookup f25 = some ⟨oc25, od25, .func (PySem.W.fnOf (Str.ofString "_law_right") (Str.ofString "_law_right") (defArgs s25) (defBody s25) (defScope s25) .none kV25 dc25 pm25 an25 cd25 ct25), sl25⟩) (c25 : PySem.W.codeIn K cd25 (Str.ofString "_law_right") = true) (k25 : PySem.W.keepIn K (.ref f25) = true)
    {f26 : Addr} {od26 an26 : Option Addr} {sl26 : Array (Option Value)} {oc26 kV26 dc26 pm26 cd26 ct26 : Value} (a26 : PySem.W.nsIn K mainGlobals (Str.ofString "_law_any") = some (some (.ref f26)))
    (l26 : K.lookup f26 = some ⟨oc26, od26, .func (PySem.W.fnOf (Str.ofString "_law_any") (Str.ofString "_law_any") (defArgs s26) (defBody s26) (defScope s26) .none kV26 dc26 pm26 an26 cd26 ct26), sl26⟩) (c26 : PySem.W.codeIn K cd26 (Str.ofString "_law_any") = true) (k26 : PySem.W.keepIn K (.ref f26) = true)
    {f27 : Addr} {od27 an27 : Option Addr} {sl27 : Array (Option Value)} {oc27 kV27 dc27 pm27 cd27 ct27 : Value} (a27 : PySem.W.nsIn K mainGlobals (Str.ofString "_law_tuples") = some (some (.ref f27)))
    (l27 : K.lookup f27 = some ⟨oc27, od27, .func (PySem.W.fnOf (Str.ofString "_law_tuples") (Str.ofString "_law_tuples") (defArgs s27) (defBody s27) (defScope s27) .none kV27 dc27 pm27 an27 cd27 ct27), sl27⟩) (c27 : PySem.W.codeIn K cd27 (Str.ofString "_law_tuples") = true) (k27 : PySem.W.keepIn K (.ref f27) = true)
    {f28 : Addr} {od28 an28 : Option Addr} {sl28 : Array (Option Value)} {oc28 kV28 dc28 pm28 cd28 ct28 : Value} (a28 : PySem.W.nsIn K mainGlobals (Str.ofString "_law_finer") = some (some (.ref f28)))
    (l28 : K.lookup f28 = some ⟨oc28, od28, .func (PySem.W.fnOf (Str.ofString "_law_finer") (Str.ofString "_law_finer") (defArgs s28) (defBody s28) (defScope s28) .none kV28 dc28 pm28 an28 cd28 ct28), sl28⟩) (c28 : PySem.W.codeIn K cd28 (Str.ofString "_law_finer") = true) (k28 : PySem.W.keepIn K (.ref f28) = true)
    {f29 : Addr} {od29 an29 : Option Addr} {sl29 : Array (Option Value)} {oc29 kV29 dc29 pm29 cd29 ct29 : Value} (a29 : PySem.W.nsIn K mainGlobals (Str.ofString "_law_bent") = some (some (.ref f29)))
    (l29 : K.lookup f29 = some ⟨oc29, od29, .func (PySem.W.fnOf (Str.ofString "_law_bent") (Str.ofString "_law_bent") (defArgs s29) (defBody s29) (defScope s29) .none kV29 dc29 pm29 an29 cd29 ct29), sl29⟩) (c29 : PySem.W.codeIn K cd29 (Str.ofString "_law_bent") = true) (k29 : PySem.W.keepIn K (.ref f29) = true)
    {f30 : Addr} {od30 an30 : Option Addr} {sl30 : Array (Option Value)} {oc30 kV30 dc30 pm30 cd30 ct30 : Value} (a30 : PySem.W.nsIn K mainGlobals (Str.ofString "_law_odd") = some (some (.ref f30)))
    (l30 : K.lookup f30 = some ⟨oc30, od30, .func (PySem.W.fnOf (Str.ofString "_law_odd") (Str.ofString "_law_odd") (defArgs s30) (defBody s30) (defScope s30) .none kV30 dc30 pm30 an30 cd30 ct30), sl30⟩) (c30 : PySem.W.codeIn K cd30 (Str.ofString "_law_odd") = true) (k30 : PySem.W.keepIn K (.ref f30) = true)
    {f31 : Addr} {od31 an31 : Option Addr} {sl31 : Array (Option Value)} {oc31 kV31 dc31 pm31 cd31 ct31 : Value} (a31 : PySem.W.nsIn K mainGlobals (Str.ofString "_law_bent_places") = some (some (.ref f31)))
    (l31 : K.lookup f31 = some ⟨oc31, od31, .func (PySem.W.fnOf (Str.ofString "_law_bent_places") (Str.ofString "_law_bent_places") (defArgs s31) (defBody s31) (defScope s31) .none kV31 dc31 pm31 an31 cd31 ct31), sl31⟩) (c31 : PySem.W.codeIn K cd31 (Str.ofString "_law_bent_places") = true) (k31 : PySem.W.keepIn K (.ref f31) = true)
    {f32 : Addr} {od32 an32 : Option Addr} {sl32 : Array (Option Value)} {oc32 kV32 dc32 pm32 cd32 ct32 : Value} (a32 : PySem.W.nsIn K mainGlobals (Str.ofString "_law_places_right") = some (some (.ref f32)))
    (l32 : K.lookup f32 = some ⟨oc32, od32, .func (PySem.W.fnOf (Str.ofString "_law_places_right") (Str.ofString "_law_places_right") (defArgs s32) (defBody s32) (defScope s32) .none kV32 dc32 pm32 an32 cd32 ct32), sl32⟩) (c32 : PySem.W.codeIn K cd32 (Str.ofString "_law_places_right") = true) (k32 : PySem.W.keepIn K (.ref f32) = true)
    {f33 : Addr} {od33 an33 : Option Addr} {sl33 : Array (Option Value)} {oc33 kV33 dc33 pm33 cd33 ct33 : Value} (a33 : PySem.W.nsIn K mainGlobals (Str.ofString "_law_ask") = some (some (.ref f33)))
    (l33 : K.lookup f33 = some ⟨oc33, od33, .func (PySem.W.fnOf (Str.ofString "_law_ask") (Str.ofString "_law_ask") (defArgs s33) (defBody s33) (defScope s33) .none kV33 dc33 pm33 an33 cd33 ct33), sl33⟩) (c33 : PySem.W.codeIn K cd33 (Str.ofString "_law_ask") = true) (k33 : PySem.W.keepIn K (.ref f33) = true)
    {f34 : Addr} {od34 an34 : Option Addr} {sl34 : Array (Option Value)} {oc34 kV34 dc34 pm34 cd34 ct34 : Value} (a34 : PySem.W.nsIn K mainGlobals (Str.ofString "_law_refused") = some (some (.ref f34)))
    (l34 : K.lookup f34 = some ⟨oc34, od34, .func (PySem.W.fnOf (Str.ofString "_law_refused") (Str.ofString "_law_refused") (defArgs s34) (defBody s34) (defScope s34) .none kV34 dc34 pm34 an34 cd34 ct34), sl34⟩) (c34 : PySem.W.codeIn K cd34 (Str.ofString "_law_refused") = true) (k34 : PySem.W.keepIn K (.ref f34) = true)
    {f35 : Addr} {od35 an35 : Option Addr} {sl35 : Array (Option Value)} {oc35 kV35 dc35 pm35 cd35 ct35 : Value} (a35 : PySem.W.nsIn K mainGlobals (Str.ofString "_law_all_told") = some (some (.ref f35)))
    (l35 : K.lookup f35 = some ⟨oc35, od35, .func (PySem.W.fnOf (Str.ofString "_law_all_told") (Str.ofString "_law_all_told") (defArgs s35) (defBody s35) (defScope s35) .none kV35 dc35 pm35 an35 cd35 ct35), sl35⟩) (c35 : PySem.W.codeIn K cd35 (Str.ofString "_law_all_told") = true) (k35 : PySem.W.keepIn K (.ref f35) = true)
    {f36 : Addr} {od36 an36 : Option Addr} {sl36 : Array (Option Value)} {oc36 kV36 dc36 pm36 cd36 ct36 : Value} (a36 : PySem.W.nsIn K mainGlobals (Str.ofString "_law_near_told") = some (some (.ref f36)))
    (l36 : K.lookup f36 = some ⟨oc36, od36, .func (PySem.W.fnOf (Str.ofString "_law_near_told") (Str.ofString "_law_near_told") (defArgs s36) (defBody s36) (defScope s36) .none kV36 dc36 pm36 an36 cd36 ct36), sl36⟩) (c36 : PySem.W.codeIn K cd36 (Str.ofString "_law_near_told") = true) (k36 : PySem.W.keepIn K (.ref f36) = true)
    {f37 : Addr} {od37 an37 : Option Addr} {sl37 : Array (Option Value)} {oc37 kV37 dc37 pm37 cd37 ct37 : Value} (a37 : PySem.W.nsIn K mainGlobals (Str.ofString "_law_pair_told") = some (some (.ref f37)))
    (l37 : K.lookup f37 = some ⟨oc37, od37, .func (PySem.W.fnOf (Str.ofString "_law_pair_told") (Str.ofString "_law_pair_told") (defArgs s37) (defBody s37) (defScope s37) .none kV37 dc37 pm37 an37 cd37 ct37), sl37⟩) (c37 : PySem.W.codeIn K cd37 (Str.ofString "_law_pair_told") = true) (k37 : PySem.W.keepIn K (.ref f37) = true)
    {f38 : Addr} {od38 an38 : Option Addr} {sl38 : Array (Option Value)} {oc38 kV38 dc38 pm38 cd38 ct38 : Value} (a38 : PySem.W.nsIn K mainGlobals (Str.ofString "_law_rows_told") = some (some (.ref f38)))
    (l38 : K.lookup f38 = some ⟨oc38, od38, .func (PySem.W.fnOf (Str.ofString "_law_rows_told") (Str.ofString "_law_rows_told") (defArgs s38) (defBody s38) (defScope s38) .none kV38 dc38 pm38 an38 cd38 ct38), sl38⟩) (c38 : PySem.W.codeIn K cd38 (Str.ofString "_law_rows_told") = true) (k38 : PySem.W.keepIn K (.ref f38) = true)
    {f39 : Addr} {od39 an39 : Option Addr} {sl39 : Array (Option Value)} {oc39 kV39 dc39 pm39 cd39 ct39 : Value} (a39 : PySem.W.nsIn K mainGlobals (Str.ofString "_law_part_told") = some (some (.ref f39)))
    (l39 : K.lookup f39 = some ⟨oc39, od39, .func (PySem.W.fnOf (Str.ofString "_law_part_told") (Str.ofString "_law_part_told") (defArgs s39) (defBody s39) (defScope s39) .none kV39 dc39 pm39 an39 cd39 ct39), sl39⟩) (c39 : PySem.W.codeIn K cd39 (Str.ofString "_law_part_told") = true) (k39 : PySem.W.keepIn K (.ref f39) = true)
    {f40 : Addr} {od40 an40 : Option Addr} {sl40 : Array (Option Value)} {oc40 kV40 dc40 pm40 cd40 ct40 : Value} (a40 : PySem.W.nsIn K mainGlobals (Str.ofString "_law_one_told") = some (some (.ref f40)))
    (l40 : K.lookup f40 = some ⟨oc40, od40, .func (PySem.W.fnOf (Str.ofString "_law_one_told") (Str.ofString "_law_one_told") (defArgs s40) (defBody s40) (defScope s40) .none kV40 dc40 pm40 an40 cd40 ct40), sl40⟩) (c40 : PySem.W.codeIn K cd40 (Str.ofString "_law_one_told") = true) (k40 : PySem.W.keepIn K (.ref f40) = true)
    {f41 : Addr} {od41 an41 : Option Addr} {sl41 : Array (Option Value)} {oc41 kV41 dc41 pm41 cd41 ct41 : Value} (a41 : PySem.W.nsIn K mainGlobals (Str.ofString "_law_two_refused") = some (some (.ref f41)))
    (l41 : K.lookup f41 = some ⟨oc41, od41, .func (PySem.W.fnOf (Str.ofString "_law_two_refused") (Str.ofString "_law_two_refused") (defArgs s41) (defBody s41) (defScope s41) .none kV41 dc41 pm41 an41 cd41 ct41), sl41⟩) (c41 : PySem.W.codeIn K cd41 (Str.ofString "_law_two_refused") = true) (k41 : PySem.W.keepIn K (.ref f41) = true)
    {fP : Addr} {odP anP : Option Addr} {slP : Array (Option Value)} {ocP kVP dcP pmP cdP ctP : Value} (aP : PySem.W.nsIn K mainGlobals (Str.ofString "_law_pot") = some (some (.ref fP)))
    (lP : K.lookup fP = some ⟨ocP, odP, .func (PySem.W.fnOf (Str.ofString "_law_pot") (Str.ofString "_law_pot") (defArgs sPot) (defBody sPot) (defScope sPot) .none kVP dcP pmP anP cdP ctP), slP⟩) (cP : PySem.W.codeIn K cdP (Str.ofString "_law_pot") = true) (kP : PySem.W.keepIn K (.ref fP) = true)
    {fL : Addr} {odL anL : Option Addr} {slL : Array (Option Value)} {ocL kVL dcL pmL cdL ctL : Value} (aL : PySem.W.nsIn K mainGlobals (Str.ofString "law") = some (some (.ref fL)))
    (lL : K.lookup fL = some ⟨ocL, odL, .func (PySem.W.fnOf (Str.ofString "law") (Str.ofString "law") (defArgs sLaw) (defBody sLaw) (defScope sLaw) .none kVL dcL pmL anL cdL ctL), slL⟩) (cL : PySem.W.codeIn K cdL (Str.ofString "law") = true) (kL : PySem.W.keepIn K (.ref fL) = true)
    (z0 : PySem.W.nsIn K mainGlobals (Str.ofString "len") = some none)
    (z1 : PySem.W.nsIn K mainGlobals (Str.ofString "abs") = some none)
    (z2 : PySem.W.nsIn K mainGlobals (Str.ofString "sum") = some none)
    (z3 : PySem.W.nsIn K mainGlobals (Str.ofString "max") = some none)
    (z4 : PySem.W.nsIn K mainGlobals (Str.ofString "min") = some none)
    (z5 : PySem.W.nsIn K mainGlobals (Str.ofString "int") = some none)
    (z6 : PySem.W.nsIn K mainGlobals (Str.ofString "bool") = some none)
    (z7 : PySem.W.nsIn K mainGlobals (Str.ofString "str") = some none)
    (z8 : PySem.W.nsIn K mainGlobals (Str.ofString "tuple") = some none)
    (z9 : PySem.W.nsIn K mainGlobals (Str.ofString "list") = some none)
    (z10 : PySem.W.nsIn K mainGlobals (Str.ofString "dict") = some none)
    (z11 : PySem.W.nsIn K mainGlobals (Str.ofString "range") = some none)
    (z12 : PySem.W.nsIn K mainGlobals (Str.ofString "isinstance") = some none)
    (z13 : PySem.W.nsIn K mainGlobals (Str.ofString "set") = some none)
    (z14 : PySem.W.nsIn K mainGlobals (Str.ofString "sorted") = some none)
    (z15 : PySem.W.nsIn K mainGlobals (Str.ofString "zip") = some none)
    (z16 : PySem.W.nsIn K mainGlobals (Str.ofString "reversed") = some none)
    (vE : PySem.W.nsIn K mainGlobals (Str.ofString "ValueError") = some none)
    {C_c0 : Addr} (ca_c0 : PySem.W.nsIn K mainGlobals (Str.ofString "HouseError") = some (some (.ref C_c0))) (cb_c0 : PySem.W.findIn K (.ref C_c0) "__getattribute__" = some (some (.builtin "BaseException.__getattribute__"))) (cc_c0 : PySem.W.findIn K (.ref C_c0) "__getattr__" = some none) (cd_c0 : PySem.W.subIn K (.ref C_c0) (.type "BaseException") = some true) (ce_c0 : PySem.W.hasDictIn K C_c0 = true)
    (cf_c0 : PySem.W.findIn K (.ref C_c0) "what" = some none) (cg_c0 : PySem.W.isClsIn K C_c0 = true) (ch_c0 : PySem.W.findIn K (.ref C_c0) "__class__" = some (some (.builtin "object.__class__"))) (ci_c0 : PySem.W.mroIn K C_c0 (.type "object") = some true) (cj_c0 : PySem.W.typeIn K (.ref C_c0) = some (.type "type")) (ck_c0 : PySem.W.subIn K (.ref C_c0) (.type "ValueError") = some true)
    {C_c1 : Addr} (ca_c1 : PySem.W.nsIn K mainGlobals (Str.ofString "BadValue") = some (some (.ref C_c1))) (cb_c1 : PySem.W.findIn K (.ref C_c1) "__getattribute__" = some (some (.builtin "BaseException.__getattribute__"))) (cc_c1 : PySem.W.findIn K (.ref C_c1) "__getattr__" = some none) (cd_c1 : PySem.W.subIn K (.ref C_c1) (.type "BaseException") = some true) (ce_c1 : PySem.W.hasDictIn K C_c1 = true)
    (cf_c1 : PySem.W.findIn K (.ref C_c1) "what" = some none) (cg_c1 : PySem.W.isClsIn K C_c1 = true) (ch_c1 : PySem.W.findIn K (.ref C_c1) "__class__" = some (some (.builtin "object.__class__"))) (ci_c1 : PySem.W.mroIn K C_c1 (.type "object") = some true) (cj_c1 : PySem.W.typeIn K (.ref C_c1) = some (.type "type")) (ck_c1 : PySem.W.subIn K (.ref C_c1) (.type "ValueError") = some true)
    {C_c2 : Addr} (ca_c2 : PySem.W.nsIn K mainGlobals (Str.ofString "TooLarge") = some (some (.ref C_c2))) (cb_c2 : PySem.W.findIn K (.ref C_c2) "__getattribute__" = some (some (.builtin "BaseException.__getattribute__"))) (cc_c2 : PySem.W.findIn K (.ref C_c2) "__getattr__" = some none) (cd_c2 : PySem.W.subIn K (.ref C_c2) (.type "BaseException") = some true) (ce_c2 : PySem.W.hasDictIn K C_c2 = true)
    (cf_c2 : PySem.W.findIn K (.ref C_c2) "what" = some none) (cg_c2 : PySem.W.isClsIn K C_c2 = true) (ch_c2 : PySem.W.findIn K (.ref C_c2) "__class__" = some (some (.builtin "object.__class__"))) (ci_c2 : PySem.W.mroIn K C_c2 (.type "object") = some true) (cj_c2 : PySem.W.typeIn K (.ref C_c2) = some (.type "type")) (ck_c2 : PySem.W.subIn K (.ref C_c2) (.type "ValueError") = some true)
    {C_c3 : Addr} (ca_c3 : PySem.W.nsIn K mainGlobals (Str.ofString "BadText") = some (some (.ref C_c3))) (cb_c3 : PySem.W.findIn K (.ref C_c3) "__getattribute__" = some (some (.builtin "BaseException.__getattribute__"))) (cc_c3 : PySem.W.findIn K (.ref C_c3) "__getattr__" = some none) (cd_c3 : PySem.W.subIn K (.ref C_c3) (.type "BaseException") = some true) (ce_c3 : PySem.W.hasDictIn K C_c3 = true)
    (cf_c3 : PySem.W.findIn K (.ref C_c3) "what" = some none) (cg_c3 : PySem.W.isClsIn K C_c3 = true) (ch_c3 : PySem.W.findIn K (.ref C_c3) "__class__" = some (some (.builtin "object.__class__"))) (ci_c3 : PySem.W.mroIn K C_c3 (.type "object") = some true) (cj_c3 : PySem.W.typeIn K (.ref C_c3) = some (.type "type")) (ck_c3 : PySem.W.subIn K (.ref C_c3) (.type "ValueError") = some true)
    {C_c4 : Addr} (ca_c4 : PySem.W.nsIn K mainGlobals (Str.ofString "Repeated") = some (some (.ref C_c4))) (cb_c4 : PySem.W.findIn K (.ref C_c4) "__getattribute__" = some (some (.builtin "BaseException.__getattribute__"))) (cc_c4 : PySem.W.findIn K (.ref C_c4) "__getattr__" = some none) (cd_c4 : PySem.W.subIn K (.ref C_c4) (.type "BaseException") = some true) (ce_c4 : PySem.W.hasDictIn K C_c4 = true)
    (cf_c4 : PySem.W.findIn K (.ref C_c4) "what" = some none) (cg_c4 : PySem.W.isClsIn K C_c4 = true) (ch_c4 : PySem.W.findIn K (.ref C_c4) "__class__" = some (some (.builtin "object.__class__"))) (ci_c4 : PySem.W.mroIn K C_c4 (.type "object") = some true) (cj_c4 : PySem.W.typeIn K (.ref C_c4) = some (.type "type")) (ck_c4 : PySem.W.subIn K (.ref C_c4) (.type "ValueError") = some true)
    {C_c5 : Addr} (ca_c5 : PySem.W.nsIn K mainGlobals (Str.ofString "NoLevel") = some (some (.ref C_c5))) (cb_c5 : PySem.W.findIn K (.ref C_c5) "__getattribute__" = some (some (.builtin "BaseException.__getattribute__"))) (cc_c5 : PySem.W.findIn K (.ref C_c5) "__getattr__" = some none) (cd_c5 : PySem.W.subIn K (.ref C_c5) (.type "BaseException") = some true) (ce_c5 : PySem.W.hasDictIn K C_c5 = true)
    (cf_c5 : PySem.W.findIn K (.ref C_c5) "what" = some none) (cg_c5 : PySem.W.isClsIn K C_c5 = true) (ch_c5 : PySem.W.findIn K (.ref C_c5) "__class__" = some (some (.builtin "object.__class__"))) (ci_c5 : PySem.W.mroIn K C_c5 (.type "object") = some true) (cj_c5 : PySem.W.typeIn K (.ref C_c5) = some (.type "type")) (ck_c5 : PySem.W.subIn K (.ref C_c5) (.type "ValueError") = some true)
    (cs_0_0 : PySem.W.subIn K (.ref C_c0) (.ref C_c0) = some true)
    (cs_0_1 : PySem.W.subIn K (.ref C_c0) (.ref C_c1) = some false)
    (cs_0_2 : PySem.W.subIn K (.ref C_c0) (.ref C_c2) = some false)
    (cs_0_3 : PySem.W.subIn K (.ref C_c0) (.ref C_c3) = some false)
    (cs_0_4 : PySem.W.subIn K (.ref C_c0) (.ref C_c4) = some false)
    (cs_0_5 : PySem.W.subIn K (.ref C_c0) (.ref C_c5) = some false)
    (cs_1_0 : PySem.W.subIn K (.ref C_c1) (.ref C_c0) = some true)
    (cs_1_1 : PySem.W.subIn K (.ref C_c1) (.ref C_c1) = some true)
    (cs_1_2 : PySem.W.subIn K (.ref C_c1) (.ref C_c2) = some false)
    (cs_1_3 : PySem.W.subIn K (.ref C_c1) (.ref C_c3) = some false)
    (cs_1_4 : PySem.W.subIn K (.ref C_c1) (.ref C_c4) = some false)
    (cs_1_5 : PySem.W.subIn K (.ref C_c1) (.ref C_c5) = some false)
    (cs_2_0 : PySem.W.subIn K (.ref C_c2) (.ref C_c0) = some true)
    (cs_2_1 : PySem.W.subIn K (.ref C_c2) (.ref C_c1) = some false)
    (cs_2_2 : PySem.W.subIn K (.ref C_c2) (.ref C_c2) = some true)
    (cs_2_3 : PySem.W.subIn K (.ref C_c2) (.ref C_c3) = some false)
    (cs_2_4 : PySem.W.subIn K (.ref C_c2) (.ref C_c4) = some false)
    (cs_2_5 : PySem.W.subIn K (.ref C_c2) (.ref C_c5) = some false)
    (cs_3_0 : PySem.W.subIn K (.ref C_c3) (.ref C_c0) = some true)
    (cs_3_1 : PySem.W.subIn K (.ref C_c3) (.ref C_c1) = some false)
    (cs_3_2 : PySem.W.subIn K (.ref C_c3) (.ref C_c2) = some false)
    (cs_3_3 : PySem.W.subIn K (.ref C_c3) (.ref C_c3) = some true)
    (cs_3_4 : PySem.W.subIn K (.ref C_c3) (.ref C_c4) = some false)
    (cs_3_5 : PySem.W.subIn K (.ref C_c3) (.ref C_c5) = some false)
    (cs_4_0 : PySem.W.subIn K (.ref C_c4) (.ref C_c0) = some true)
    (cs_4_1 : PySem.W.subIn K (.ref C_c4) (.ref C_c1) = some false)
    (cs_4_2 : PySem.W.subIn K (.ref C_c4) (.ref C_c2) = some false)
    (cs_4_3 : PySem.W.subIn K (.ref C_c4) (.ref C_c3) = some false)
    (cs_4_4 : PySem.W.subIn K (.ref C_c4) (.ref C_c4) = some true)
    (cs_4_5 : PySem.W.subIn K (.ref C_c4) (.ref C_c5) = some false)
    (cs_5_0 : PySem.W.subIn K (.ref C_c5) (.ref C_c0) = some true)
    (cs_5_1 : PySem.W.subIn K (.ref C_c5) (.ref C_c1) = some false)
    (cs_5_2 : PySem.W.subIn K (.ref C_c5) (.ref C_c2) = some false)
    (cs_5_3 : PySem.W.subIn K (.ref C_c5) (.ref C_c3) = some false)
    (cs_5_4 : PySem.W.subIn K (.ref C_c5) (.ref C_c4) = some false)
    (cs_5_5 : PySem.W.subIn K (.ref C_c5) (.ref C_c5) = some true)
    (cn : PySem.W.specialIn K (.builtin "object.__class__") "__get__" = some (some (.builtin "getset_descriptor.__get__"))) (ct : PySem.W.takesIn K (.builtin "object.__class__") = some true)
    (E0 : ExcAt l.prog K mg (Str.ofString "BadValue"))
    : ∃ fd : FuncData, (∀ (s : Shared) (u : Value), BindsTo s fd ⟨[u], []⟩ [(Str.ofString "script", u)]) ∧ ∀ base : Heap, K.In base → base.Ns mainGlobals mg → FnOk l.prog w K mg base (L2.CX l.prog w) 15 fa fd [Str.ofString "script"] (Ev.spLaw K) := by
  have e := hfa.symm.trans (PySem.W.mg_of X G aL)
  cases e
  have d0 := def_at (T := T) (st := s0) X G a0 l0 c0 k0 sc0 fun _ _ _ _ _ _ us hl => match us, hl with | [_], _ => rfl
  have d1 := def_at (T := T) (st := s1) X G a1 l1 c1 k1 sc1 fun _ _ _ _ _ _ us hl => match us, hl with | [_, _, _], _ => rfl
  have d2 := def_at (T := T) (st := s2) X G a2 l2 c2 k2 sc2 fun _ _ _ _ _ _ us hl => match us, hl with | [_], _ => rfl
  have d3 := def_at (T := T) (st := s3) X G a3 l3 c3 k3 sc3 fun _ _ _ _ _ _ us hl => match us, hl with | [_], _ => rfl
  have d4 := def_at (T := T) (st := s4) X G a4 l4 c4 k4 sc4 fun _ _ _ _ _ _ us hl => match us, hl with | [_], _ => rfl
  have d5 := def_at (T := T) (st := s5) X G a5 l5 c5 k5 sc5 fun _ _ _ _ _ _ us hl => match us, hl with | [_], _ => rfl
  have d6 := def_at (T := T) (st := s6) X G a6 l6 c6 k6 sc6 fun _ _ _ _ _ _ us hl => match us, hl with | [_, _], _ => rfl
  have d7 := def_at (T := T) (st := s7) X G a7 l7 c7 k7 sc7 fun _ _ _ _ _ _ us hl => match us, hl with | [_, _], _ => rfl
  have d8 := def_at (T := T) (st := s8) X G a8 l8 c8 k8 sc8 fun _ _ _ _ _ _ us hl => match us, hl with | [_, _], _ => rfl
  have d9 := def_at (T := T) (st := s9) X G a9 l9 c9 k9 sc9 fun _ _ _ _ _ _ us hl => match us, hl with | [_, _], _ => rfl
  have d10 := def_at (T := T) (st := s10) X G a10 l10 c10 k10 sc10 fun _ _ _ _ _ _ us hl => match us, hl with | [_], _ => rfl
  have d11 := def_at (T := T) (st := s11) X G a11 l11 c11 k11 sc11 fun _ _ _ _ _ _ us hl => match us, hl with | [_, _], _ => rfl
  have d12 := def_at (T := T) (st := s12) X G a12 l12 c12 k12 sc12 fun _ _ _ _ _ _ us hl => match us, hl with | [_, _], _ => rfl
  have d13 := def_at (T := T) (st := s13) X G a13 l13 c13 k13 sc13 fun _ _ _ _ _ _ us hl => match us, hl with | [_], _ => rfl
  have d14 := def_at (T := T) (st := s14) X G a14 l14 c14 k14 sc14 fun _ _ _ _ _ _ us hl => match us, hl with | [_, _], _ => rfl
  have d15 := def_at (T := T) (st := s15) X G a15 l15 c15 k15 sc15 fun _ _ _ _ _ _ us hl => match us, hl with | [_, _], _ => rfl
  have d16 := def_at (T := T) (st := s16) X G a16 l16 c16 k16 sc16 fun _ _ _ _ _ _ us hl => match us, hl with | [_, _], _ => rfl
  have d17 := def_at (T := T) (st := s17) X G a17 l17 c17 k17 sc17 fun _ _ _ _ _ _ us hl => match us, hl with | [_], _ => rfl
  have d18 := def_at (T := T) (st := s18) X G a18 l18 c18 k18 sc18 fun _ _ _ _ _ _ us hl => match us, hl with | [_, _], _ => rfl
  have d19 := def_at (T := T) (st := s19) X G a19 l19 c19 k19 sc19 fun _ _ _ _ _ _ us hl => match us, hl with | [_, _], _ => rfl
  have d20 := def_at (T := T) (st := s20) X G a20 l20 c20 k20 sc20 fun _ _ _ _ _ _ us hl => match us, hl with | [_, _], _ => rfl
  have d21 := def_at (T := T) (st := s21) X G a21 l21 c21 k21 sc21 fun _ _ _ _ _ _ us hl => match us, hl with | [_], _ => rfl
  have d22 := def_at (T := T) (st := s22) X G a22 l22 c22 k22 sc22 fun _ _ _ _ _ _ us hl => match us, hl with | [_], _ => rfl
  have d23 := def_at (T := T) (st := s23) X G a23 l23 c23 k23 sc23 fun _ _ _ _ _ _ us hl => match us, hl with | [_, _], _ => rfl
  have d24 := def_at (T := T) (st := s24) X G a24 l24 c24 k24 sc24 fun _ _ _ _ _ _ us hl => match us, hl with | [_], _ => rfl
  have d25 := def_at (T := T) (st := s25) X G a25 l25 c25 k25 sc25 fun _ _ _ _ _ _ us hl => match us, hl with | [_, _], _ => rfl
  have d26 := def_at (T := T) (st := s26) X G a26 l26 c26 k26 sc26 fun _ _ _ _ _ _ us hl => match us, hl with | [_], _ => rfl
  have d27 := def_at (T := T) (st := s27) X G a27 l27 c27 k27 sc27 fun _ _ _ _ _ _ us hl => match us, hl with | [_], _ => rfl
  have d28 := def_at (T := T) (st := s28) X G a28 l28 c28 k28 sc28 fun _ _ _ _ _ _ us hl => match us, hl with | [_, _], _ => rfl
  have d29 := def_at (T := T) (st := s29) X G a29 l29 c29 k29 sc29 fun _ _ _ _ _ _ us hl => match us, hl with | [_, _], _ => rfl
  have d30 := def_at (T := T) (st := s30) X G a30 l30 c30 k30 sc30 fun _ _ _ _ _ _ us hl => match us, hl with | [_], _ => rfl
  have d31 := def_at (T := T) (st := s31) X G a31 l31 c31 k31 sc31 fun _ _ _ _ _ _ us hl => match us, hl with | [_, _, _], _ => rfl
  have d32 := def_at (T := T) (st := s32) X G a32 l32 c32 k32 sc32 fun _ _ _ _ _ _ us hl => match us, hl with | [_, _], _ => rfl
  have d33 := def_at (T := T) (st := s33) X G a33 l33 c33 k33 sc33 fun _ _ _ _ _ _ us hl => match us, hl with | [_, _, _], _ => rfl
  have d34 := def_at (T := T) (st := s34) X G a34 l34 c34 k34 sc34 fun _ _ _ _ _ _ us hl => match us, hl with | [_, _, _, _], _ => rfl
  have d35 := def_at (T := T) (st := s35) X G a35 l35 c35 k35 sc35 fun _ _ _ _ _ _ us hl => match us, hl with | [_, _, _], _ => rfl
  have d36 := def_at (T := T) (st := s36) X G a36 l36 c36 k36 sc36 fun _ _ _ _ _ _ us hl => match us, hl with | [_, _], _ => rfl
  have d37 := def_at (T := T) (st := s37) X G a37 l37 c37 k37 sc37 fun _ _ _ _ _ _ us hl => match us, hl with | [_, _, _], _ => rfl
  have d38 := def_at (T := T) (st := s38) X G a38 l38 c38 k38 sc38 fun _ _ _ _ _ _ us hl => match us, hl with | [_, _], _ => rfl
  have d39 := def_at (T := T) (st := s39) X G a39 l39 c39 k39 sc39 fun _ _ _ _ _ _ us hl => match us, hl with | [_, _], _ => rfl
  have d40 := def_at (T := T) (st := s40) X G a40 l40 c40 k40 sc40 fun _ _ _ _ _ _ us hl => match us, hl with | [_], _ => rfl
  have d41 := def_at (T := T) (st := s41) X G a41 l41 c41 k41 sc41 fun _ _ _ _ _ _ us hl => match us, hl with | [_, _], _ => rfl
  have dP := def_at (T := T) (st := sPot) X G aP lP cP kP scP fun _ _ _ _ _ _ us hl => match us, hl with | [_], _ => rfl
  have dL := def_at (T := T) (st := sLaw) X G aL lL cL kL scL fun _ _ _ _ _ _ us hl => match us, hl with | [_], _ => rfl
  have EW : ExcW K mg PAR := excW_mk (Cs := [C_c0, C_c1, C_c2, C_c3, C_c4, C_c5]) (PySem.W.mg_none_of X G vE) (by decide +kernel) ⟨⟨PySem.W.mg_of X G ca_c0, ⟨cb_c0, cc_c0, cd_c0, ce_c0⟩, cf_c0, cg_c0, ch_c0, cn, ct, ci_c0, cj_c0, ck_c0, cs_0_0⟩, ⟨PySem.W.mg_of X G ca_c1, ⟨cb_c1, cc_c1, cd_c1, ce_c1⟩, cf_c1, cg_c1, ch_c1, cn, ct, ci_c1, cj_c1, ck_c1, cs_1_1⟩, ⟨PySem.W.mg_of X G ca_c2, ⟨cb_c2, cc_c2, cd_c2, ce_c2⟩, cf_c2, cg_c2, ch_c2, cn, ct, ci_c2, cj_c2, ck_c2, cs_2_2⟩, ⟨PySem.W.mg_of X G ca_c3, ⟨cb_c3, cc_c3, cd_c3, ce_c3⟩, cf_c3, cg_c3, ch_c3, cn, ct, ci_c3, cj_c3, ck_c3, cs_3_3⟩, ⟨PySem.W.mg_of X G ca_c4, ⟨cb_c4, cc_c4, cd_c4, ce_c4⟩, cf_c4, cg_c4, ch_c4, cn, ct, ci_c4, cj_c4, ck_c4, cs_4_4⟩, ⟨PySem.W.mg_of X G ca_c5, ⟨cb_c5, cc_c5, cd_c5, ce_c5⟩, cf_c5, cg_c5, ch_c5, cn, ct, ci_c5, cj_c5, ck_c5, cs_5_5⟩, trivial⟩ ⟨⟨cs_0_0.trans (by decide +kernel), cs_0_1.trans (by decide +kernel), cs_0_2.trans (by decide +kernel), cs_0_3.trans (by decide +kernel), cs_0_4.trans (by decide +kernel), cs_0_5.trans (by decide +kernel), trivial⟩, ⟨cs_1_0.trans (by decide +kernel), cs_1_1.trans (by decide +kernel), cs_1_2.trans (by decide +kernel), cs_1_3.trans (by decide +kernel), cs_1_4.trans (by decide +kernel), cs_1_5.trans (by decide +kernel), trivial⟩, ⟨cs_2_0.trans (by decide +kernel), cs_2_1.trans (by decide +kernel), cs_2_2.trans (by decide +kernel), cs_2_3.trans (by decide +kernel), cs_2_4.trans (by decide +kernel), cs_2_5.trans (by decide +kernel), trivial⟩, ⟨cs_3_0.trans (by decide +kernel), cs_3_1.trans (by decide +kernel), cs_3_2.trans (by decide +kernel), cs_3_3.trans (by decide +kernel), cs_3_4.trans (by decide +kernel), cs_3_5.trans (by decide +kernel), trivial⟩, ⟨cs_4_0.trans (by decide +kernel), cs_4_1.trans (by decide +kernel), cs_4_2.trans (by decide +kernel), cs_4_3.trans (by decide +kernel), cs_4_4.trans (by decide +kernel), cs_4_5.trans (by decide +kernel), trivial⟩, ⟨cs_5_0.trans (by decide +kernel), cs_5_1.trans (by decide +kernel), cs_5_2.trans (by decide +kernel), cs_5_3.trans (by decide +kernel), cs_5_4.trans (by decide +kernel), cs_5_5.trans (by decide +kernel), trivial⟩, trivial⟩
  have EX : ∀ x ∈ T.excs, ExcAt l.prog K mg x := ExcL.at ⟨E0, trivial⟩
  have W1 : World1 l.prog K mg T := w1_of ⟨PySem.W.mg_none_of X G z0, PySem.W.mg_none_of X G z1, PySem.W.mg_none_of X G z2, PySem.W.mg_none_of X G z3, PySem.W.mg_none_of X G z4, PySem.W.mg_none_of X G z5, PySem.W.mg_none_of X G z6, PySem.W.mg_none_of X G z7, PySem.W.mg_none_of X G z8, PySem.W.mg_none_of X G z9, PySem.W.mg_none_of X G z10, PySem.W.mg_none_of X G z11, PySem.W.mg_none_of X G z12, PySem.W.mg_none_of X G z13, PySem.W.mg_none_of X G z14, PySem.W.mg_none_of X G z15, PySem.W.mg_none_of X G z16, trivial⟩ trivial EW EX (fun _ => same_w d23 (by kernel_rfl) rfl rfl (by kernel_rfl) (by kernel_rfl) ⟨PySem.W.mg_none_of X G z12, PySem.W.mg_none_of X G z8, PySem.W.mg_none_of X G z6, PySem.W.mg_none_of X G z5, PySem.W.mg_none_of X G z7, trivial⟩ (by decide +kernel))
  have hT : TabAll K mg T D T.fns := ⟨⟨_, _, _, _, _, _, d0, rfl, rfl, rfl, 80, tr0⟩, ⟨_, _, _, _, _, _, d1, rfl, rfl, rfl, 80, tr1⟩, ⟨_, _, _, _, _, _, d2, rfl, rfl, rfl, 80, tr2⟩, ⟨_, _, _, _, _, _, d3, rfl, rfl, rfl, 80, tr3⟩, ⟨_, _, _, _, _, _, d4, rfl, rfl, rfl, 80, tr4⟩, ⟨_, _, _, _, _, _, d5, rfl, rfl, rfl, 80, tr5⟩, ⟨_, _, _, _, _, _, d6, rfl, rfl, rfl, 80, tr6⟩, ⟨_, _, _, _, _, _, d7, rfl, rfl, rfl, 80, tr7⟩, ⟨_, _, _, _, _, _, d8, rfl, rfl, rfl, 80, tr8⟩, ⟨_, _, _, _, _, _, d9, rfl, rfl, rfl, 80, tr9⟩, ⟨_, _, _, _, _, _, d10, rfl, rfl, rfl, 80, tr10⟩, ⟨_, _, _, _, _, _, d11, rfl, rfl, rfl, 80, tr11⟩, ⟨_, _, _, _, _, _, d12, rfl, rfl, rfl, 80, tr12⟩, ⟨_, _, _, _, _, _, d13, rfl, rfl, rfl, 80, tr13⟩, ⟨_, _, _, _, _, _, d14, rfl, rfl, rfl, 80, tr14⟩, ⟨_, _, _, _, _, _, d15, rfl, rfl, rfl, 80, tr15⟩, ⟨_, _, _, _, _, _, d16, rfl, rfl, rfl, 80, tr16⟩, ⟨_, _, _, _, _, _, d17, rfl, rfl, rfl, 80, tr17⟩, ⟨_, _, _, _, _, _, d18, rfl, rfl, rfl, 80, tr18⟩, ⟨_, _, _, _, _, _, d19, rfl, rfl, rfl, 80, tr19⟩, ⟨_, _, _, _, _, _, d20, rfl, rfl, rfl, 80, tr20⟩, ⟨_, _, _, _, _, _, d21, rfl, rfl, rfl, 80, tr21⟩, ⟨_, _, _, _, _, _, d22, rfl, rfl, rfl, 80, tr22⟩, ⟨_, _, _, _, _, _, d23, rfl, rfl, rfl, 80, tr23⟩, ⟨_, _, _, _, _, _, d24, rfl, rfl, rfl, 80, tr24⟩, ⟨_, _, _, _, _, _, d25, rfl, rfl, rfl, 80, tr25⟩, ⟨_, _, _, _, _, _, d26, rfl, rfl, rfl, 80, tr26⟩, ⟨_, _, _, _, _, _, d27, rfl, rfl, rfl, 80, tr27⟩, ⟨_, _, _, _, _, _, d28, rfl, rfl, rfl, 80, tr28⟩, ⟨_, _, _, _, _, _, d29, rfl, rfl, rfl, 80, tr29⟩, ⟨_, _, _, _, _, _, d30, rfl, rfl, rfl, 80, tr30⟩, ⟨_, _, _, _, _, _, d31, rfl, rfl, rfl, 80, tr31⟩, ⟨_, _, _, _, _, _, d32, rfl, rfl, rfl, 80, tr32⟩, ⟨_, _, _, _, _, _, d33, rfl, rfl, rfl, 80, tr33⟩, ⟨_, _, _, _, _, _, d34, rfl, rfl, rfl, 80, tr34⟩, ⟨_, _, _, _, _, _, d35, rfl, rfl, rfl, 80, tr35⟩, ⟨_, _, _, _, _, _, d36, rfl, rfl, rfl, 80, tr36⟩, ⟨_, _, _, _, _, _, d37, rfl, rfl, rfl, 80, tr37⟩, ⟨_, _, _, _, _, _, d38, rfl, rfl, rfl, 80, tr38⟩, ⟨_, _, _, _, _, _, d39, rfl, rfl, rfl, 80, tr39⟩, ⟨_, _, _, _, _, _, d40, rfl, rfl, rfl, 80, tr40⟩, ⟨_, _, _, _, _, _, d41, rfl, rfl, rfl, 80, tr41⟩, trivial⟩
  refine ⟨PySem.W.fnOf (Str.ofString "law") (Str.ofString "law") (defArgs sLaw) (defBody sLaw) (defScope sLaw) .none kVL dcL pmL anL cdL ctL, fun s v => .of_eq rfl, fun base _ _ => ?_⟩
  exact law_ok (m := 12) (T := T) (D := D) dL.fu scL rfl rfl rfl rfl rfl rfl dP.at_ kP dP.bd (pot_ok dP.fu scP rfl (by decide +kernel) rfl rfl rfl rfl (PySem.W.mg_none_of X G z1)) W1 (fun j x hx => hT.at j x hx) trL law_plain
end Lk
open PySem PySem.W PyProof.Rows in
set_option maxHeartbeats 0 in
theorem PySem.Challenge.cw_partnerlots_k01_arrangements_holds : PySem.Challenge.rw_partnerlots_k01_arrangements.Holds := by
  w_on; o_law; k_head; (case hw => w_witness2)
  k_fill
  refine L2.walk_of (l := PySem.Challenge.rw_partnerlots_k01_arrangements) (n := 63) (k := 15) (x := "script") (CX := fun w => L2.CX PySem.Challenge.rw_partnerlots_k01_arrangements.prog w) (sp := fun w => Ev.spLaw _) rfl (by decide) rfl ⟨rfl, by decide, by decide⟩ (fun w h Y => PySem.W.kIn_of Y) ?F (fun _ _ a ns hl _ hS => ⟨a, ns, rfl, hS, hl, fun _ => rfl⟩) (fun _ _ _ _ _ h => Ev.cx_none h)
  case F =>
    intro w mg fa h KX G hmg
    refine' Ev.with_ (Ev.exc_mk (P := PySem.Challenge.rw_partnerlots_k01_arrangements.prog) (x := (Str.ofString "BadValue")) (qual := (Str.ofString "BadValue.__init__")) (msg := (Str.ofString "not a right value")) (sI := Ev.clsInit (Lk.topS 2)) KX G ?e0a ?e0l ?e0r ?e0sa ?e0ex ?e0ty ?e0kp ?e0i ?e0ti ?e0f ?e0ci ?e0cd ?e0v2 ?e0fl ?e0ce ?e0mr ?e0ve ?e0su ?e0nx ?e0op ?e0nw ⟨_, _, _, _, _, _, _, _, _, _, _, rfl, rfl⟩ ⟨_, rfl, rfl⟩ rfl rfl rfl rfl (by decide +kernel) (by decide +kernel) rfl rfl rfl rfl (by decide) (fun _ _ _ _ _ _ us hl => match us, hl with | [_, _], _ => rfl)) (fun EE0 => ?rest0)
    (case e0a => k_is); (case e0l => k_is); (case e0r => decide +kernel); (case e0sa => k_is); (case e0ex => k_is); (case e0ty => k_is); (case e0kp => k_is); (case e0i => k_is); (case e0ti => k_is); (case e0f => k_is); (case e0ci => k_is); (case e0cd => k_is); (case e0v2 => rfl); (case e0fl => rfl); (case e0ce => k_is); (case e0mr => k_is); (case e0ve => k_is); (case e0su => k_is); (case e0nx => ks_is); (case e0op => k_is); (case e0nw => k_is)
    case rest0 =>
    refine' Lk.all_mk KX G hmg ?a0 ?l0 ?c0 ?k0 ?a1 ?l1 ?c1 ?k1 ?a2 ?l2 ?c2 ?k2 ?a3 ?l3 ?c3 ?k3 ?a4 ?l4 ?c4 ?k4 ?a5 ?l5 ?c5 ?k5 ?a6 ?l6 ?c6 ?k6 ?a7 ?l7 ?c7 ?k7 ?a8 ?l8 ?c8 ?k8 ?a9 ?l9 ?c9 ?k9 ?a10 ?l10 ?c10 ?k10 ?a11 ?l11 ?c11 ?k11 ?a12 ?l12 ?c12 ?k12 ?a13 ?l13 ?c13 ?k13 ?a14 ?l14 ?c14 ?k14 ?a15 ?l15 ?c15 ?k15 ?a16 ?l16 ?c16 ?k16 ?a17 ?l17 ?c17 ?k17 ?a18 ?l18 ?c18 ?k18 ?a19 ?l19 ?c19 ?k19 ?a20 ?l20 ?c20 ?k20 ?a21 ?l21 ?c21 ?k21 ?a22 ?l22 ?c22 ?k22 ?a23 ?l23 ?c23 ?k23 ?a24 ?l24 ?c24 ?k24 ?a25 ?l25 ?c25 ?k25 ?a26 ?l26 ?c26 ?k26 ?a27 ?l27 ?c27 ?k27 ?a28 ?l28 ?c28 ?k28 ?a29 ?l29 ?c29 ?k29 ?a30 ?l30 ?c30 ?k30 ?a31 ?l31 ?c31 ?k31 ?a32 ?l32 ?c32 ?k32 ?a33 ?l33 ?c33 ?k33 ?a34 ?l34 ?c34 ?k34 ?a35 ?l35 ?c35 ?k35 ?a36 ?l36 ?c36 ?k36 ?a37 ?l37 ?c37 ?k37 ?a38 ?l38 ?c38 ?k38 ?a39 ?l39 ?c39 ?k39 ?a40 ?l40 ?c40 ?k40 ?a41 ?l41 ?c41 ?k41 ?aP ?lP ?cP ?kP ?aL ?lL ?cL ?kL ?z0 ?z1 ?z2 ?z3 ?z4 ?z5 ?z6 ?z7 ?z8 ?z9 ?z10 ?z11 ?z12 ?z13 ?z14 ?z15 ?z16 ?vE ?ca_c0 ?cb_c0 ?cc_c0 ?cd_c0 ?ce_c0 ?cf_c0 ?cg_c0 ?ch_c0 ?ci_c0 ?cj_c0 ?ck_c0 ?ca_c1 ?cb_c1 ?cc_c1 ?cd_c1 ?ce_c1 ?cf_c1 ?cg_c1 ?ch_c1 ?ci_c1 ?cj_c1 ?ck_c1 ?ca_c2 ?cb_c2 ?cc_c2 ?cd_c2 ?ce_c2 ?cf_c2 ?cg_c2 ?ch_c2 ?ci_c2 ?cj_c2 ?ck_c2 ?ca_c3 ?cb_c3 ?cc_c3 ?cd_c3 ?ce_c3 ?cf_c3 ?cg_c3 ?ch_c3 ?ci_c3 ?cj_c3 ?ck_c3 ?ca_c4 ?cb_c4 ?cc_c4 ?cd_c4 ?ce_c4 ?cf_c4 ?cg_c4 ?ch_c4 ?ci_c4 ?cj_c4 ?ck_c4 ?ca_c5 ?cb_c5 ?cc_c5 ?cd_c5 ?ce_c5 ?cf_c5 ?cg_c5 ?ch_c5 ?ci_c5 ?cj_c5 ?ck_c5 ?cs_0_0 ?cs_0_1 ?cs_0_2 ?cs_0_3 ?cs_0_4 ?cs_0_5 ?cs_1_0 ?cs_1_1 ?cs_1_2 ?cs_1_3 ?cs_1_4 ?cs_1_5 ?cs_2_0 ?cs_2_1 ?cs_2_2 ?cs_2_3 ?cs_2_4 ?cs_2_5 ?cs_3_0 ?cs_3_1 ?cs_3_2 ?cs_3_3 ?cs_3_4 ?cs_3_5 ?cs_4_0 ?cs_4_1 ?cs_4_2 ?cs_4_3 ?cs_4_4 ?cs_4_5 ?cs_5_0 ?cs_5_1 ?cs_5_2 ?cs_5_3 ?cs_5_4 ?cs_5_5 ?cn ?ct EE0
    (case a0 => k_is); (case l0 => k_is); (case c0 => k_is); (case k0 => k_is); (case a1 => k_is); (case l1 => k_is); (case c1 => k_is); (case k1 => k_is); (case a2 => k_is); (case l2 => k_is); (case c2 => k_is); (case k2 => k_is); (case a3 => k_is); (case l3 => k_is); (case c3 => k_is); (case k3 => k_is); (case a4 => k_is); (case l4 => k_is); (case c4 => k_is); (case k4 => k_is); (case a5 => k_is); (case l5 => k_is); (case c5 => k_is); (case k5 => k_is); (case a6 => k_is); (case l6 => k_is); (case c6 => k_is); (case k6 => k_is); (case a7 => k_is); (case l7 => k_is); (case c7 => k_is); (case k7 => k_is); (case a8 => k_is); (case l8 => k_is); (case c8 => k_is); (case k8 => k_is); (case a9 => k_is); (case l9 => k_is); (case c9 => k_is); (case k9 => k_is); (case a10 => k_is); (case l10 => k_is); (case c10 => k_is); (case k10 => k_is); (case a11 => k_is); (case l11 => k_is); (case c11 => k_is); (case k11 => k_is); (case a12 => k_is); (case l12 => k_is); (case c12 => k_is); (case k12 => k_is); (case a13 => k_is); (case l13 => k_is); (case c13 => k_is); (case k13 => k_is); (case a14 => k_is); (case l14 => k_is); (case c14 => k_is); (case k14 => k_is); (case a15 => k_is); (case l15 => k_is); (case c15 => k_is); (case k15 => k_is); (case a16 => k_is); (case l16 => k_is); (case c16 => k_is); (case k16 => k_is); (case a17 => k_is); (case l17 => k_is); (case c17 => k_is); (case k17 => k_is); (case a18 => k_is); (case l18 => k_is); (case c18 => k_is); (case k18 => k_is); (case a19 => k_is); (case l19 => k_is); (case c19 => k_is); (case k19 => k_is); (case a20 => k_is); (case l20 => k_is); (case c20 => k_is); (case k20 => k_is); (case a21 => k_is); (case l21 => k_is); (case c21 => k_is); (case k21 => k_is); (case a22 => k_is); (case l22 => k_is); (case c22 => k_is); (case k22 => k_is); (case a23 => k_is); (case l23 => k_is); (case c23 => k_is); (case k23 => k_is); (case a24 => k_is); (case l24 => k_is); (case c24 => k_is); (case k24 => k_is); (case a25 => k_is); (case l25 => k_is); (case c25 => k_is); (case k25 => k_is); (case a26 => k_is); (case l26 => k_is); (case c26 => k_is); (case k26 => k_is); (case a27 => k_is); (case l27 => k_is); (case c27 => k_is); (case k27 => k_is); (case a28 => k_is); (case l28 => k_is); (case c28 => k_is); (case k28 => k_is); (case a29 => k_is); (case l29 => k_is); (case c29 => k_is); (case k29 => k_is); (case a30 => k_is); (case l30 => k_is); (case c30 => k_is); (case k30 => k_is); (case a31 => k_is); (case l31 => k_is); (case c31 => k_is); (case k31 => k_is); (case a32 => k_is); (case l32 => k_is); (case c32 => k_is); (case k32 => k_is); (case a33 => k_is); (case l33 => k_is); (case c33 => k_is); (case k33 => k_is); (case a34 => k_is); (case l34 => k_is); (case c34 => k_is); (case k34 => k_is); (case a35 => k_is); (case l35 => k_is); (case c35 => k_is); (case k35 => k_is); (case a36 => k_is); (case l36 => k_is); (case c36 => k_is); (case k36 => k_is); (case a37 => k_is); (case l37 => k_is); (case c37 => k_is); (case k37 => k_is); (case a38 => k_is); (case l38 => k_is); (case c38 => k_is); (case k38 => k_is); (case a39 => k_is); (case l39 => k_is); (case c39 => k_is); (case k39 => k_is); (case a40 => k_is); (case l40 => k_is); (case c40 => k_is); (case k40 => k_is); (case a41 => k_is); (case l41 => k_is); (case c41 => k_is); (case k41 => k_is); (case aP => k_is); (case lP => k_is); (case cP => k_is); (case kP => k_is); (case aL => k_is); (case lL => k_is); (case cL => k_is); (case kL => k_is); (case z0 => k_is); (case z1 => k_is); (case z2 => k_is); (case z3 => k_is); (case z4 => k_is); (case z5 => k_is); (case z6 => k_is); (case z7 => k_is); (case z8 => k_is); (case z9 => k_is); (case z10 => k_is); (case z11 => k_is); (case z12 => k_is); (case z13 => k_is); (case z14 => k_is); (case z15 => k_is); (case z16 => k_is); (case vE => k_is); (case ca_c0 => k_is); (case cb_c0 => k_is); (case cc_c0 => k_is); (case cd_c0 => k_is); (case ce_c0 => k_is); (case cf_c0 => k_is); (case cg_c0 => k_is); (case ch_c0 => k_is); (case ci_c0 => k_is); (case cj_c0 => k_is); (case ck_c0 => k_is); (case ca_c1 => k_is); (case cb_c1 => k_is); (case cc_c1 => k_is); (case cd_c1 => k_is); (case ce_c1 => k_is); (case cf_c1 => k_is); (case cg_c1 => k_is); (case ch_c1 => k_is); (case ci_c1 => k_is); (case cj_c1 => k_is); (case ck_c1 => k_is); (case ca_c2 => k_is); (case cb_c2 => k_is); (case cc_c2 => k_is); (case cd_c2 => k_is); (case ce_c2 => k_is); (case cf_c2 => k_is); (case cg_c2 => k_is); (case ch_c2 => k_is); (case ci_c2 => k_is); (case cj_c2 => k_is); (case ck_c2 => k_is); (case ca_c3 => k_is); (case cb_c3 => k_is); (case cc_c3 => k_is); (case cd_c3 => k_is); (case ce_c3 => k_is); (case cf_c3 => k_is); (case cg_c3 => k_is); (case ch_c3 => k_is); (case ci_c3 => k_is); (case cj_c3 => k_is); (case ck_c3 => k_is); (case ca_c4 => k_is); (case cb_c4 => k_is); (case cc_c4 => k_is); (case cd_c4 => k_is); (case ce_c4 => k_is); (case cf_c4 => k_is); (case cg_c4 => k_is); (case ch_c4 => k_is); (case ci_c4 => k_is); (case cj_c4 => k_is); (case ck_c4 => k_is); (case ca_c5 => k_is); (case cb_c5 => k_is); (case cc_c5 => k_is); (case cd_c5 => k_is); (case ce_c5 => k_is); (case cf_c5 => k_is); (case cg_c5 => k_is); (case ch_c5 => k_is); (case ci_c5 => k_is); (case cj_c5 => k_is); (case ck_c5 => k_is); (case cs_0_0 => first | k_is | rfl); (case cs_0_1 => first | k_is | rfl); (case cs_0_2 => first | k_is | rfl); (case cs_0_3 => first | k_is | rfl); (case cs_0_4 => first | k_is | rfl); (case cs_0_5 => first | k_is | rfl); (case cs_1_0 => first | k_is | rfl); (case cs_1_1 => first | k_is | rfl); (case cs_1_2 => first | k_is | rfl); (case cs_1_3 => first | k_is | rfl); (case cs_1_4 => first | k_is | rfl); (case cs_1_5 => first | k_is | rfl); (case cs_2_0 => first | k_is | rfl); (case cs_2_1 => first | k_is | rfl); (case cs_2_2 => first | k_is | rfl); (case cs_2_3 => first | k_is | rfl); (case cs_2_4 => first | k_is | rfl); (case cs_2_5 => first | k_is | rfl); (case cs_3_0 => first | k_is | rfl); (case cs_3_1 => first | k_is | rfl); (case cs_3_2 => first | k_is | rfl); (case cs_3_3 => first | k_is | rfl); (case cs_3_4 => first | k_is | rfl); (case cs_3_5 => first | k_is | rfl); (case cs_4_0 => first | k_is | rfl); (case cs_4_1 => first | k_is | rfl); (case cs_4_2 => first | k_is | rfl); (case cs_4_3 => first | k_is | rfl); (case cs_4_4 => first | k_is | rfl); (case cs_4_5 => first | k_is | rfl); (case cs_5_0 => first | k_is | rfl); (case cs_5_1 => first | k_is | rfl); (case cs_5_2 => first | k_is | rfl); (case cs_5_3 => first | k_is | rfl); (case cs_5_4 => first | k_is | rfl); (case cs_5_5 => first | k_is | rfl); (case cn => k_is); (case ct => k_is)
