import PyProof.Rows.All
import Wide.All
import OpenK.AllK
import Wide.FinOn
import HandS.ForMost
import HandS.ForExc
import HandS.HeadHook1
import HandS.Deep
import HandS.Flow
import HandS.Wide
import HandS.IsInst
import HandS.SortInts
import HandS.WordsDict
import HandS.ExcOwn
import HandS.Defaults
import HandS.WordsExc
import HandS.TryOnly
import HandS.Head0
import HandS.Head1
import HandS.Head2
import HandS.HeadEnd
import HandS.HeadHook2
import PySem.Challenge.RW_textoffers_k35_edits_led_past_edits
set_option Elab.async false
set_option linter.all false
set_option maxRecDepth 100000
/-! Dn0: plain data D, trees T (data that its holder alone may change), how values stand for them in an abstract heap. -/
namespace Dn
open PySem PySem.Spec L2

/-- plain data -/
inductive D where
  | non | bl (b : Bool) | int (i : Int) | str (s : Str)
  | lst (xs : List D) | tup (xs : List D)
  | dk (ks : List Key) (vs : List D)
  | obj (c : Str) (ns : List Str) (vs : List D)
  | scr (ns : List Int)
/-- data in one holder's hands -/
inductive T where
  | sh (d : D)
  | lst (ts : List T)
  | dk (ks : List Key) (ts : List T)
  | obj (c : Str) (ns : List Str) (ts : List T)
mutual
def frz : T → D
  | .sh d => d
  | .lst ts => .lst (frzL ts)
  | .dk ks ts => .dk ks (frzL ts)
  | .obj c ns ts => .obj c ns (frzL ts)
def frzL : List T → List D
  | [] => []
  | t :: ts => frz t :: frzL ts
end
theorem frzL_eq (ts : List T) : frzL ts = ts.map frz := by
  induction ts with
  | nil => rfl
  | cons t ts ih => rw [frzL, ih]; rfl

/-- the size that lists and texts may have -/
abbrev SL : Nat := 16777216
theorem SL_eq : sizeLine = SL := sizeLine_eq

/-- a text that is not too long, of signs that are signs -/
def sOk (s : Str) : Bool := decide (s.length ≤ 16777216) && PyData.strOk s
mutual
inductive Rp (K : PySem.W.Frag) (F : Hp) : V → D → Prop
  | non : Rp K F .non .non
  | bl (b : Bool) : Rp K F (.bl b) (.bl b)
  | int (i : Int) : Rp K F (.int i) (.int i)
  | str (s : Str) : sOk s = true → Rp K F (.str s) (.str s)
  | lst {a : Addr} {vs : List V} {ds : List D} : F a = some (.lst vs) → RpL K F vs ds → Rp K F (.ref a) (.lst ds)
  | scr {a : Addr} {ns : List Int} : SqL K F a (ns.map V.int) → Rp K F (.ref a) (.scr ns)
  | tup {a : Addr} {vs : List V} {ds : List D} : SqT K F a vs → RpL K F vs ds → Rp K F (.ref a) (.tup ds)
  | dk {a : Addr} {ks : List Key} {vs : List V} {ds : List D} : Rd F a (.dK (ks.zip vs)) → ks.length = vs.length → RpL K F vs ds → Rp K F (.ref a) (.dk ks ds)
  | obj {a dx : Addr} {c : Str} {ns : List Str} {vs : List V} {ds : List D} : F a = some (.ins (He.ga K c) dx (ns.zip vs)) → ns.length = vs.length → RpL K F vs ds → Rp K F (.ref a) (.obj c ns ds)
inductive RpL (K : PySem.W.Frag) (F : Hp) : List V → List D → Prop
  | nil : RpL K F [] []
  | cons {v : V} {vs : List V} {d : D} {ds : List D} : Rp K F v d → RpL K F vs ds → RpL K F (v :: vs) (d :: ds)
end

def isDK : HO → Bool
  | .dK _ => true
  | .dT _ => true
  | _ => false
/-- F stands in H; its dicts may be locked there -/
def Sub (F H : Hp) : Prop := ∀ a o, F a = some o → H a = some o ∨ (isDK o = true ∧ ∃ ob, H a = some (.frz ob o))
theorem Sub.refl {F : Hp} : Sub F F := fun _ _ e => .inl e
theorem Sub.of_same {F H : Hp} (s : Same F H) : Sub F H := fun a o e => .inl (s a o e)
theorem same_refl {F : Hp} : Same F F := fun _ _ e => e
theorem same_trans {F G H : Hp} (s : Same F G) (t : Same G H) : Same F H := fun a o e => t a o (s a o e)
theorem Sub.same {F H H' : Hp} (s : Sub F H) (t : Same H H') : Sub F H' := fun a o e => by
  rcases s a o e with h | ⟨hd, ob, h⟩
  · exact .inl (t a _ h)
  · exact .inr ⟨hd, ob, t a _ h⟩
theorem same_sub {F G H : Hp} (s : Same F G) (t : Sub G H) : Sub F H := fun a o e => t a o (s a o e)
theorem Sub.rd {F H : Hp} (s : Sub F H) {a : Addr} {u : HO} (h : Rd F a u) : Rd H a u := by
  rcases h with h | ⟨o, h⟩
  · rcases s a _ h with h | ⟨_, ob, h⟩
    · exact .inl h
    · exact .inr ⟨ob, h⟩
  · rcases s a _ h with h | ⟨hd, ob, h⟩
    · exact .inr ⟨o, h⟩
    · cases hd
theorem Sub.lst {F H : Hp} (s : Sub F H) {a : Addr} {xs : List V} (h : F a = some (.lst xs)) : H a = some (.lst xs) := by
  rcases s a _ h with h | ⟨hd, _⟩
  · exact h
  · cases hd
theorem Sub.sqL {K : PySem.W.Frag} {F H : Hp} (s : Sub F H) {a : Addr} {xs : List V} (h : SqL K F a xs) : SqL K H a xs := by
  rcases h with h | h
  · exact .inl (s.rd h)
  · exact .inr h
theorem Sub.sqT {K : PySem.W.Frag} {F H : Hp} (s : Sub F H) {a : Addr} {xs : List V} (h : SqT K F a xs) : SqT K H a xs := by
  rcases h with h | h
  · exact .inl (s.rd h)
  · exact .inr h
mutual
theorem Rp.sub {K : PySem.W.Frag} {F H : Hp} (s : Sub F H) : ∀ {d : D} {v : V}, Rp K F v d → Rp K H v d
  | .non, _, h => by cases h; exact .non
  | .bl _, _, h => by cases h; exact .bl _
  | .int _, _, h => by cases h; exact .int _
  | .str _, _, h => by cases h with | str _ e => exact .str _ e
  | .lst _, _, h => by cases h with | lst h1 h2 => exact .lst (s.lst h1) (RpL.sub s h2)
  | .scr _, _, h => by cases h with | scr h1 => exact .scr (s.sqL h1)
  | .tup _, _, h => by cases h with | tup h1 h2 => exact .tup (s.sqT h1) (RpL.sub s h2)
  | .dk _ _, _, h => by cases h with | dk h1 h2 h3 => exact .dk (s.rd h1) h2 (RpL.sub s h3)
  | .obj _ _ _, _, h => by
    cases h with
    | obj h1 h2 h3 =>
      rcases s _ _ h1 with h | ⟨hd, _⟩
      · exact .obj h h2 (RpL.sub s h3)
      · cases hd
theorem RpL.sub {K : PySem.W.Frag} {F H : Hp} (s : Sub F H) : ∀ {ds : List D} {vs : List V}, RpL K F vs ds → RpL K H vs ds
  | [], _, h => by cases h; exact .nil
  | _ :: _, _, h => by cases h with | cons h1 h2 => exact .cons (Rp.sub s h1) (RpL.sub s h2)
end
theorem Rp.same {K : PySem.W.Frag} {F H : Hp} (s : Same F H) {d : D} {v : V} (h : Rp K F v d) : Rp K H v d := h.sub (.of_same s)
theorem RpL.same {K : PySem.W.Frag} {F H : Hp} (s : Same F H) {d : List D} {v : List V} (h : RpL K F v d) : RpL K H v d := h.sub (.of_same s)
theorem RpL.length {K : PySem.W.Frag} {F : Hp} : ∀ {vs : List V} {ds : List D}, RpL K F vs ds → vs.length = ds.length
  | [], _, h => by cases h; rfl
  | _ :: _, _, h => by cases h with | cons h1 h2 => rw [List.length_cons, List.length_cons, RpL.length h2]
theorem RpL.get {K : PySem.W.Frag} {F : Hp} : ∀ {vs : List V} {ds : List D} {i : Nat} {v : V}, RpL K F vs ds → vs[i]? = some v → ∃ d, ds[i]? = some d ∧ Rp K F v d
  | [], _, _, _, _, e => by simp at e
  | _ :: _, _, 0, _, h, e => by
    cases h with
    | cons h1 h2 =>
      simp at e
      subst e
      exact ⟨_, rfl, h1⟩
  | _ :: _, _, i + 1, _, h, e => by
    cases h with
    | cons h1 h2 =>
      obtain ⟨d, e1, r⟩ := RpL.get (i := i) h2 (by simpa using e)
      exact ⟨d, by simpa using e1, r⟩
theorem RpL.get' {K : PySem.W.Frag} {F : Hp} : ∀ {vs : List V} {ds : List D} {i : Nat} {d : D}, RpL K F vs ds → ds[i]? = some d → ∃ v, vs[i]? = some v ∧ Rp K F v d
  | [], _, _, _, h, e => by cases h; simp at e
  | _ :: _, _, 0, _, h, e => by
    cases h with
    | cons h1 h2 =>
      simp at e
      subst e
      exact ⟨_, rfl, h1⟩
  | _ :: _, _, i + 1, _, h, e => by
    cases h with
    | cons h1 h2 =>
      obtain ⟨d, e1, r⟩ := RpL.get' (i := i) h2 (by simpa using e)
      exact ⟨d, by simpa using e1, r⟩
theorem RpL.append {K : PySem.W.Frag} {F : Hp} : ∀ {vs : List V} {ds : List D} {ws : List V} {es : List D}, RpL K F vs ds → RpL K F ws es → RpL K F (vs ++ ws) (ds ++ es)
  | [], _, _, _, h, k => by cases h; exact k
  | _ :: _, _, _, _, h, k => by cases h with | cons h1 h2 => exact .cons h1 (RpL.append h2 k)
theorem RpL.drop {K : PySem.W.Frag} {F : Hp} : ∀ (n : Nat) {vs : List V} {ds : List D}, RpL K F vs ds → RpL K F (vs.drop n) (ds.drop n)
  | 0, _, _, h => h
  | _ + 1, [], _, h => by cases h; exact .nil
  | n + 1, _ :: _, _, h => by cases h with | cons h1 h2 => exact RpL.drop n h2
theorem RpL.take {K : PySem.W.Frag} {F : Hp} : ∀ (n : Nat) {vs : List V} {ds : List D}, RpL K F vs ds → RpL K F (vs.take n) (ds.take n)
  | 0, _, _, h => .nil
  | _ + 1, [], _, h => by cases h; exact .nil
  | n + 1, _ :: _, _, h => by cases h with | cons h1 h2 => exact .cons h1 (RpL.take n h2)

/-! ### trees -/
mutual
inductive Own (K : PySem.W.Frag) (F H : Hp) : V → T → List Addr → Prop
  | sh {v : V} {d : D} : Rp K F v d → Own K F H v (.sh d) []
  | lst {a : Addr} {vs : List V} {ts : List T} {fp : List Addr} : H a = some (.lst vs) → F a = none → OwnL K F H vs ts fp → Own K F H (.ref a) (.lst ts) (a :: fp)
  | dk {a : Addr} {ks : List Key} {vs : List V} {ts : List T} {fp : List Addr} : H a = some (.dK (ks.zip vs)) → ks.length = vs.length → F a = none → OwnL K F H vs ts fp → Own K F H (.ref a) (.dk ks ts) (a :: fp)
  | obj {a dx : Addr} {c : Str} {ns : List Str} {vs : List V} {ts : List T} {fp : List Addr} : H a = some (.ins (He.ga K c) dx (ns.zip vs)) → ns.length = vs.length → F a = none → OwnL K F H vs ts fp → Own K F H (.ref a) (.obj c ns ts) (a :: fp)
inductive OwnL (K : PySem.W.Frag) (F H : Hp) : List V → List T → List Addr → Prop
  | nil : OwnL K F H [] [] []
  | cons {v : V} {vs : List V} {t : T} {ts : List T} {f g : List Addr} : Own K F H v t f → OwnL K F H vs ts g → OwnL K F H (v :: vs) (t :: ts) (f ++ g)
end
mutual
theorem Own.step {K : PySem.W.Frag} {F H F' H' : Hp} (hf : Same F F') : ∀ {t : T} {v : V} {fp : List Addr}, Own K F H v t fp → (∀ a ∈ fp, F' a = none ∧ H' a = H a) → Own K F' H' v t fp
  | .sh _, _, _, h, _ => by cases h with | sh h => exact .sh (h.same hf)
  | .lst _, _, _, h, k => by
    cases h with
    | lst h1 h2 h3 => exact .lst ((k _ List.mem_cons_self).2.trans h1) (k _ List.mem_cons_self).1 (OwnL.step hf h3 fun a ha => k a (List.mem_cons_of_mem _ ha))
  | .dk _ _, _, _, h, k => by
    cases h with
    | dk h1 h2 h3 h4 => exact .dk ((k _ List.mem_cons_self).2.trans h1) h2 (k _ List.mem_cons_self).1 (OwnL.step hf h4 fun a ha => k a (List.mem_cons_of_mem _ ha))
  | .obj _ _ _, _, _, h, k => by
    cases h with
    | obj h1 h2 h3 h4 => exact .obj ((k _ List.mem_cons_self).2.trans h1) h2 (k _ List.mem_cons_self).1 (OwnL.step hf h4 fun a ha => k a (List.mem_cons_of_mem _ ha))
theorem OwnL.step {K : PySem.W.Frag} {F H F' H' : Hp} (hf : Same F F') : ∀ {ts : List T} {vs : List V} {fp : List Addr}, OwnL K F H vs ts fp → (∀ a ∈ fp, F' a = none ∧ H' a = H a) → OwnL K F' H' vs ts fp
  | [], _, _, h, _ => by cases h; exact .nil
  | _ :: _, _, _, h, k => by
    cases h with
    | cons h1 h2 => exact .cons (Own.step hf h1 fun a ha => k a (List.mem_append_left _ ha)) (OwnL.step hf h2 fun a ha => k a (List.mem_append_right _ ha))
end
mutual
/-- what is owned stands in the heap, and is not shared -/
theorem Own.at {K : PySem.W.Frag} {F H : Hp} : ∀ {t : T} {v : V} {fp : List Addr}, Own K F H v t fp → ∀ a ∈ fp, H a ≠ none ∧ F a = none
  | .sh _, _, _, h, a, ha => by cases h; cases ha
  | .lst _, _, _, h, a, ha => by
    cases h with
    | lst h1 h2 h3 =>
      rcases List.mem_cons.mp ha with rfl | ha
      · exact ⟨fun z => (nomatch h1.symm.trans z), h2⟩
      · exact OwnL.at h3 a ha
  | .dk _ _, _, _, h, a, ha => by
    cases h with
    | dk h1 h2 h3 h4 =>
      rcases List.mem_cons.mp ha with rfl | ha
      · exact ⟨fun z => (nomatch h1.symm.trans z), h3⟩
      · exact OwnL.at h4 a ha
  | .obj _ _ _, _, _, h, a, ha => by
    cases h with
    | obj h1 h2 h3 h4 =>
      rcases List.mem_cons.mp ha with rfl | ha
      · exact ⟨fun z => (nomatch h1.symm.trans z), h3⟩
      · exact OwnL.at h4 a ha
theorem OwnL.at {K : PySem.W.Frag} {F H : Hp} : ∀ {ts : List T} {vs : List V} {fp : List Addr}, OwnL K F H vs ts fp → ∀ a ∈ fp, H a ≠ none ∧ F a = none
  | [], _, _, h, a, ha => by cases h; cases ha
  | _ :: _, _, _, h, a, ha => by
    cases h with
    | cons h1 h2 =>
      rcases List.mem_append.mp ha with ha | ha
      · exact Own.at h1 a ha
      · exact OwnL.at h2 a ha
end
mutual
/-- all of it shared -/
theorem Own.frzd {K : PySem.W.Frag} {F H G : Hp} (hs : Same F G) : ∀ {t : T} {v : V} {fp : List Addr}, Own K F H v t fp → (∀ a ∈ fp, ∀ o, H a = some o → G a = some o) → Rp K G v (frz t)
  | .sh _, _, _, h, _ => by cases h with | sh h => exact h.same hs
  | .lst _, _, _, h, k => by
    cases h with
    | lst h1 h2 h3 => exact .lst (k _ List.mem_cons_self _ h1) (OwnL.frzd hs h3 fun a ha => k a (List.mem_cons_of_mem _ ha))
  | .dk _ _, _, _, h, k => by
    cases h with
    | dk h1 h2 h3 h4 => exact .dk (.inl (k _ List.mem_cons_self _ h1)) h2 (OwnL.frzd hs h4 fun a ha => k a (List.mem_cons_of_mem _ ha))
  | .obj _ _ _, _, _, h, k => by
    cases h with
    | obj h1 h2 h3 h4 => exact .obj (k _ List.mem_cons_self _ h1) h2 (OwnL.frzd hs h4 fun a ha => k a (List.mem_cons_of_mem _ ha))
theorem OwnL.frzd {K : PySem.W.Frag} {F H G : Hp} (hs : Same F G) : ∀ {ts : List T} {vs : List V} {fp : List Addr}, OwnL K F H vs ts fp → (∀ a ∈ fp, ∀ o, H a = some o → G a = some o) → RpL K G vs (frzL ts)
  | [], _, _, h, _ => by cases h; exact .nil
  | _ :: _, _, _, h, k => by
    cases h with
    | cons h1 h2 => exact .cons (Own.frzd hs h1 fun a ha => k a (List.mem_append_left _ ha)) (OwnL.frzd hs h2 fun a ha => k a (List.mem_append_right _ ha))
end
mutual
/-- as it stands, read in the heap -/
theorem Own.view {K : PySem.W.Frag} {F H : Hp} (hs : Sub F H) : ∀ {t : T} {v : V} {fp : List Addr}, Own K F H v t fp → Rp K H v (frz t)
  | .sh _, _, _, h => by cases h with | sh h => exact h.sub hs
  | .lst _, _, _, h => by cases h with | lst h1 h2 h3 => exact .lst h1 (OwnL.view hs h3)
  | .dk _ _, _, _, h => by cases h with | dk h1 h2 h3 h4 => exact .dk (.inl h1) h2 (OwnL.view hs h4)
  | .obj _ _ _, _, _, h => by cases h with | obj h1 h2 h3 h4 => exact .obj h1 h2 (OwnL.view hs h4)
theorem OwnL.view {K : PySem.W.Frag} {F H : Hp} (hs : Sub F H) : ∀ {ts : List T} {vs : List V} {fp : List Addr}, OwnL K F H vs ts fp → RpL K H vs (frzL ts)
  | [], _, _, h => by cases h; exact .nil
  | _ :: _, _, _, h => by cases h with | cons h1 h2 => exact .cons (Own.view hs h1) (OwnL.view hs h2)
end

/-- from (F, H) on to (F', H') by what only adds -/
structure Ext (F H F' H' : Hp) : Prop where
  hh : Same H H'
  ff : Same F F'
  sub : Sub F' H'
  new : ∀ a, H a ≠ none → F a = none → F' a = none
theorem same_some {H H' : Hp} (s : Same H H') {a : Addr} (h : H a ≠ none) : H' a = H a := by
  cases e : H a with
  | none => exact absurd e h
  | some o => exact s a o e
theorem Ext.refl {F H : Hp} (s : Sub F H) : Ext F H F H := ⟨fun _ _ e => e, fun _ _ e => e, s, fun _ _ e => e⟩
theorem Ext.trans {F H F1 H1 F2 H2 : Hp} (a : Ext F H F1 H1) (b : Ext F1 H1 F2 H2) : Ext F H F2 H2 :=
  ⟨same_trans a.hh b.hh, same_trans a.ff b.ff, b.sub, fun x h1 h2 => b.new x (by rw [same_some a.hh h1]; exact h1) (a.new x h1 h2)⟩
theorem Ext.own {K : PySem.W.Frag} {F H F' H' : Hp} (x : Ext F H F' H') {v : V} {t : T} {fp : List Addr} (o : Own K F H v t fp) : Own K F' H' v t fp :=
  o.step x.ff fun a ha => ⟨x.new a (o.at a ha).1 (o.at a ha).2, same_some x.hh (o.at a ha).1⟩
theorem Ext.ownL {K : PySem.W.Frag} {F H F' H' : Hp} (x : Ext F H F' H') {v : List V} {t : List T} {fp : List Addr} (o : OwnL K F H v t fp) : OwnL K F' H' v t fp :=
  o.step x.ff fun a ha => ⟨x.new a (o.at a ha).1 (o.at a ha).2, same_some x.hh (o.at a ha).1⟩
/-- a new object that is not shared -/
theorem Ext.add {F H : Hp} (s : Sub F H) {p : Addr} {o : HO} (hp : H p = none) : Ext F H F (upd H p o) :=
  ⟨fun b x e => by rw [upd_ne (ne_of_none e hp)]; exact e, fun _ _ e => e, fun a u e => by
    rcases s a u e with h | ⟨hd, ob, h⟩
    · exact .inl (by rw [upd_ne (ne_of_none h hp)]; exact h)
    · exact .inr ⟨hd, ob, by rw [upd_ne (ne_of_none h hp)]; exact h⟩, fun _ _ e => e⟩
theorem Sub.none {F H : Hp} (s : Sub F H) {p : Addr} (hp : H p = none) : F p = none := by
  cases e : F p with
  | none => rfl
  | some o =>
    rcases s p o e with h | ⟨_, _, h⟩ <;> (rw [hp] at h; cases h)
/-- a new object that is shared -/
theorem Ext.addS {F H : Hp} (s : Sub F H) {p : Addr} {o : HO} (hp : H p = none) : Ext F H (upd F p o) (upd H p o) :=
  ⟨fun b x e => by rw [upd_ne (ne_of_none e hp)]; exact e, fun b x e => by rw [upd_ne (ne_of_none e (s.none hp))]; exact e, fun a u e => by
    by_cases z : a = p
    · subst z
      rw [upd_same] at e ⊢
      exact .inl e
    · rw [upd_ne z] at e
      rw [upd_ne z]
      exact s a u e, fun a h1 h2 => by
    have z : a ≠ p := fun z => by rw [z] at h1; exact h1 hp
    rw [upd_ne z]
    exact h2⟩
/-- what is owned is shared from now on -/
theorem frz_ext {K : PySem.W.Frag} {F H : Hp} (s : Sub F H) {v : V} {t : T} {fp : List Addr} (o : Own K F H v t fp) :
    ∃ F', Same F F' ∧ Sub F' H ∧ Rp K F' v (frz t) ∧ ∀ a, a ∉ fp → F' a = F a := by
  refine ⟨fun a => if a ∈ fp then H a else F a, fun a u e => ?_, fun a u e => ?_, ?_, fun a ha => if_neg ha⟩
  · by_cases h : a ∈ fp
    · rw [(o.at a h).2] at e; cases e
    · show (if a ∈ fp then H a else F a) = some u
      rw [if_neg h]; exact e
  · by_cases h : a ∈ fp
    · have e' : (if a ∈ fp then H a else F a) = some u := e
      rw [if_pos h] at e'
      exact .inl e'
    · have e' : (if a ∈ fp then H a else F a) = some u := e
      rw [if_neg h] at e'
      exact s a u e'
  · refine o.frzd (fun a u e => ?_) fun a ha u e => ?_
    · by_cases h : a ∈ fp
      · rw [(o.at a h).2] at e; cases e
      · show (if a ∈ fp then H a else F a) = some u
        rw [if_neg h]; exact e
    · show (if a ∈ fp then H a else F a) = some u
      rw [if_pos ha]; exact e
/-- .. in an expression: what is owned is new -/
theorem Ext.frz {K : PySem.W.Frag} {F H F1 H1 : Hp} (x : Ext F H F1 H1) {v : V} {t : T} {fp : List Addr} (o : Own K F1 H1 v t fp) (hn : ∀ a ∈ fp, H a = none) :
    ∃ F2, Ext F H F2 H1 ∧ Same F1 F2 ∧ Rp K F2 v (Dn.frz t) ∧ ∀ a, a ∉ fp → F2 a = F1 a := by
  obtain ⟨F2, h1, h2, h3, h4⟩ := frz_ext x.sub o
  refine ⟨F2, ⟨x.hh, same_trans x.ff h1, h2, fun a q1 q2 => ?_⟩, h1, h3, h4⟩
  rw [h4 a fun z => q1 (hn a z)]
  exact x.new a q1 q2

/-! ### slots -/
abbrev Env := List (Option T)
inductive OwnE (K : PySem.W.Frag) (F H : Hp) : St → Env → List Addr → Prop
  | nil : OwnE K F H [] [] []
  | skip {x : Option V} {σ : St} {ρ : Env} {fp : List Addr} : OwnE K F H σ ρ fp → OwnE K F H (x :: σ) (none :: ρ) fp
  | cons {v : V} {t : T} {σ : St} {ρ : Env} {f fp : List Addr} : Own K F H v t f → OwnE K F H σ ρ fp → OwnE K F H (some v :: σ) (some t :: ρ) (f ++ fp)
theorem OwnE.step {K : PySem.W.Frag} {F H F' H' : Hp} (hf : Same F F') {σ : St} {ρ : Env} {fp : List Addr} (h : OwnE K F H σ ρ fp) : (∀ a ∈ fp, F' a = none ∧ H' a = H a) → OwnE K F' H' σ ρ fp := by
  induction h with
  | nil => exact fun _ => .nil
  | skip h ih => exact fun k => .skip (ih k)
  | cons o h ih => exact fun k => .cons (o.step hf fun a ha => k a (List.mem_append_left _ ha)) (ih fun a ha => k a (List.mem_append_right _ ha))
theorem OwnE.at {K : PySem.W.Frag} {F H : Hp} {σ : St} {ρ : Env} {fp : List Addr} (h : OwnE K F H σ ρ fp) : ∀ a ∈ fp, H a ≠ none ∧ F a = none := by
  induction h with
  | nil => exact fun _ ha => by cases ha
  | skip h ih => exact ih
  | cons o h ih =>
    intro a ha
    rcases List.mem_append.mp ha with ha | ha
    · exact o.at a ha
    · exact ih a ha
theorem Ext.ownE {K : PySem.W.Frag} {F H F' H' : Hp} (x : Ext F H F' H') {σ : St} {ρ : Env} {fp : List Addr} (o : OwnE K F H σ ρ fp) : OwnE K F' H' σ ρ fp :=
  o.step x.ff fun a ha => ⟨x.new a (o.at a ha).1 (o.at a ha).2, same_some x.hh (o.at a ha).1⟩
theorem OwnE.length {K : PySem.W.Frag} {F H : Hp} {σ : St} {ρ : Env} {fp : List Addr} (h : OwnE K F H σ ρ fp) : σ.length = ρ.length := by
  induction h with
  | nil => rfl
  | skip h ih => rw [List.length_cons, List.length_cons, ih]
  | cons o h ih => rw [List.length_cons, List.length_cons, ih]
/-- a slot's tree, and the rest -/
theorem OwnE.get {K : PySem.W.Frag} {F H : Hp} {σ : St} {ρ : Env} {fp : List Addr} (h : OwnE K F H σ ρ fp) : ∀ {i : Nat} {t : T}, ρ[i]? = some (some t) →
    ∃ v f g1 g2, σ[i]? = some (some v) ∧ Own K F H v t f ∧ fp = g1 ++ (f ++ g2) ∧ OwnE K F H σ (ρ.set i none) (g1 ++ g2) := by
  induction h with
  | nil => intro i t e; simp at e
  | skip h ih =>
    intro i t e
    cases i with
    | zero => simp at e
    | succ i =>
      obtain ⟨v, f, g1, g2, e1, e2, e3, e4⟩ := ih (i := i) (by simpa using e)
      exact ⟨v, f, g1, g2, by simpa using e1, e2, e3, .skip e4⟩
  | @cons v0 t0 σ ρ f0 fp o h ih =>
    intro i t e
    cases i with
    | zero =>
      simp at e
      subst e
      exact ⟨v0, f0, [], fp, rfl, o, rfl, .skip h⟩
    | succ i =>
      obtain ⟨v, f, g1, g2, e1, e2, e3, e4⟩ := ih (i := i) (by simpa using e)
      refine ⟨v, f, f0 ++ g1, g2, by simpa using e1, e2, by rw [e3]; simp, ?_⟩
      have := OwnE.cons o e4
      simpa using this
/-- a slot is set -/
theorem OwnE.set {K : PySem.W.Frag} {F H : Hp} {σ : St} {ρ : Env} {fp : List Addr} (h : OwnE K F H σ ρ fp) : ∀ {i : Nat} {v : V} {t : T} {f : List Addr}, ρ[i]? = some none → Own K F H v t f →
    ∃ g1 g2, fp = g1 ++ g2 ∧ OwnE K F H (σ.set i (some v)) (ρ.set i (some t)) (g1 ++ (f ++ g2)) := by
  induction h with
  | nil => intro i v t f e; simp at e
  | @skip x σ ρ fp h ih =>
    intro i v t f e o
    cases i with
    | zero => exact ⟨[], fp, rfl, (OwnE.cons o h : OwnE K F H _ _ (f ++ fp))⟩
    | succ i =>
      obtain ⟨g1, g2, e1, e2⟩ := ih (i := i) (by simpa using e) o
      exact ⟨g1, g2, e1, .skip e2⟩
  | @cons v0 t0 σ ρ f0 fp o0 h ih =>
    intro i v t f e o
    cases i with
    | zero => simp at e
    | succ i =>
      obtain ⟨g1, g2, e1, e2⟩ := ih (i := i) (by simpa using e) o
      refine ⟨f0 ++ g1, g2, by rw [e1]; simp, ?_⟩
      have := OwnE.cons o0 e2
      simpa using this
/-- a slot is forgotten -/
theorem OwnE.drop {K : PySem.W.Frag} {F H : Hp} {σ : St} {ρ : Env} {fp : List Addr} (h : OwnE K F H σ ρ fp) (i : Nat) : ∃ g, OwnE K F H σ (ρ.set i none) g ∧ g.Sublist fp := by
  cases e : ρ[i]? with
  | none =>
    refine ⟨fp, ?_, List.Sublist.refl _⟩
    rw [List.set_eq_of_length_le (List.getElem?_eq_none_iff.mp e)]
    exact h
  | some o =>
    cases o with
    | none =>
      refine ⟨fp, ?_, List.Sublist.refl _⟩
      have : ρ.set i none = ρ := by
        apply List.ext_getElem?
        intro j
        by_cases hj : j = i
        · subst hj
          have hl : j < ρ.length := by
            have := (List.getElem?_eq_some_iff.mp e).1
            exact this
          rw [List.getElem?_set_self hl, e]
        · rw [List.getElem?_set_ne (Ne.symm hj)]
      rw [this]
      exact h
    | some t =>
      obtain ⟨v, f, g1, g2, _, _, e3, e4⟩ := h.get e
      refine ⟨g1 ++ g2, e4, ?_⟩
      rw [e3]
      exact List.Sublist.append (List.Sublist.refl _) (List.sublist_append_right _ _)
/-- V's slot may be anything where nothing is said of it -/
theorem OwnE.any {K : PySem.W.Frag} {F H : Hp} {σ : St} {ρ : Env} {fp : List Addr} (h : OwnE K F H σ ρ fp) : ∀ {i : Nat} (x : Option V), ρ[i]? = some none → OwnE K F H (σ.set i x) ρ fp := by
  induction h with
  | nil => intro i x e; simp at e
  | @skip x σ ρ fp h ih =>
    intro i y e
    cases i with
    | zero => exact .skip h
    | succ i => exact .skip (ih (i := i) y (by simpa using e))
  | @cons v0 t0 σ ρ f0 fp o0 h ih =>
    intro i y e
    cases i with
    | zero => simp at e
    | succ i => exact .cons o0 (ih (i := i) y (by simpa using e))
end Dn

/-! Dn1: what an expression yields as plain data (DJ); tests (DT); argument lists (DA). -/
namespace Dn
open PySem PySem.Spec L2

inductive Rs (α : Type) where
  | ok (a : α)
  | exn (c : Str) (l : Option Int)
  | bad
namespace Rs
variable {α β γ : Type}
def bind : Rs α → (α → Rs β) → Rs β
  | ok a, f => f a
  | exn c l, _ => exn c l
  | bad, _ => bad
@[simp] theorem bind_ok (a : α) (f : α → Rs β) : (ok a).bind f = f a := rfl
@[simp] theorem bind_exn (c : Str) (l : Option Int) (f : α → Rs β) : (exn c l).bind f = exn c l := rfl
@[simp] theorem bind_bad (f : α → Rs β) : (bad : Rs α).bind f = bad := rfl
def map (f : α → β) (r : Rs α) : Rs β := r.bind fun a => ok (f a)
@[simp] theorem map_ok (a : α) (f : α → β) : (ok a).map f = ok (f a) := rfl
@[simp] theorem map_exn (c : Str) (l : Option Int) (f : α → β) : (exn c l).map f = exn c l := rfl
@[simp] theorem map_bad (f : α → β) : (bad : Rs α).map f = bad := rfl
end Rs

/-- the dict of an exception: none, or the one field line -/
def ExR (H : Hp) : Option Int → Option Addr → Prop
  | none, d => d = none
  | some i, d => ∃ a, d = some a ∧ H a = some (.xd [(("line" : Str), .int i)])

abbrev K3 (α : Type) := Hp → Hp → Hp → V → α → Prop
inductive Rp1 (K : PySem.W.Frag) (F H : Hp) : V → D → Prop
  | at {v : V} {d : D} : Rp K F v d → Rp1 K F H v d
  | lst {a : Addr} {vs : List V} {ds : List D} : H a = some (.lst vs) → RpL K F vs ds → Rp1 K F H (.ref a) (.lst ds)
  | dk {a : Addr} {ks : List Key} {vs : List V} {ds : List D} : Rd H a (.dK (ks.zip vs)) → ks.length = vs.length → RpL K F vs ds → Rp1 K F H (.ref a) (.dk ks ds)
  | obj {a dx : Addr} {c : Str} {ns : List Str} {vs : List V} {ds : List D} : H a = some (.ins (He.ga K c) dx (ns.zip vs)) → ns.length = vs.length → RpL K F vs ds → Rp1 K F H (.ref a) (.obj c ns ds)
/-- seen in the heap -/
def rP (K : PySem.W.Frag) : K3 D := fun _ _ H v d => Rp K H v d
/-- seen in the heap, its parts shared -/
def rS (K : PySem.W.Frag) : K3 D := fun _ F H v d => Rp1 K F H v d
/-- shared -/
def rC (K : PySem.W.Frag) : K3 D := fun _ F _ v d => Rp K F v d
/-- new, in our hands -/
def rO (K : PySem.W.Frag) : K3 T := fun Hs F H v t => ∃ fp, Own K F H v t fp ∧ fp.Nodup ∧ ∀ a ∈ fp, Hs a = none

theorem Rd.same {H H' : Hp} (s : Same H H') {a : Addr} {u : HO} (h : Rd H a u) : Rd H' a u := by
  rcases h with h | ⟨o, h⟩
  · exact .inl (s _ _ h)
  · exact .inr ⟨o, s _ _ h⟩
theorem Rp1.ext {K : PySem.W.Frag} {F H F' H' : Hp} (x : Ext F H F' H') {v : V} {d : D} (h : Rp1 K F H v d) : Rp1 K F' H' v d := by
  cases h with
  | «at» h => exact .at (h.same x.ff)
  | lst h1 h2 => exact .lst (x.hh _ _ h1) (h2.same x.ff)
  | dk h1 h2 h3 => exact .dk (Rd.same x.hh h1) h2 (h3.same x.ff)
  | obj h1 h2 h3 => exact .obj (x.hh _ _ h1) h2 (h3.same x.ff)
theorem Rp1.view {K : PySem.W.Frag} {F H : Hp} (s : Sub F H) {v : V} {d : D} (h : Rp1 K F H v d) : Rp K H v d := by
  cases h with
  | «at» h => exact h.sub s
  | lst h1 h2 => exact .lst h1 (h2.sub s)
  | dk h1 h2 h3 => exact .dk h1 h2 (h3.sub s)
  | obj h1 h2 h3 => exact .obj h1 h2 (h3.sub s)
structure KOk {α : Type} (R : K3 α) : Prop where
  stb : ∀ {Hs F H F' H' : Hp} {v : V} {a : α}, Ext F H F' H' → R Hs F H v a → R Hs F' H' v a
  anti : ∀ {Hs Ht F H : Hp} {v : V} {a : α}, Same Hs Ht → R Ht F H v a → R Hs F H v a
section
variable {K : PySem.W.Frag}
theorem kP : KOk (rP K) := ⟨fun x h => Rp.same x.hh h, fun _ h => h⟩
theorem kS : KOk (rS K) := ⟨fun x h => Rp1.ext x h, fun _ h => h⟩
theorem kC : KOk (rC K) := ⟨fun x h => Rp.same x.ff h, fun _ h => h⟩
theorem none_of_same {Hs Ht : Hp} (s : Same Hs Ht) {a : Addr} (h : Ht a = none) : Hs a = none := by
  cases e : Hs a with
  | none => rfl
  | some o => rw [s a o e] at h; cases h
theorem kO : KOk (rO K) := ⟨fun x ⟨fp, o, n, f⟩ => ⟨fp, x.own o, n, f⟩, fun s ⟨fp, o, n, f⟩ => ⟨fp, o, n, fun a ha => none_of_same s (f a ha)⟩⟩
end

/-- what must hold behind r -/
def Wp {α : Type} (K : PySem.W.Frag) (W : WX) (F H : Hp) (σ : St) (r : Rs α) (k : α → Prop) : Prop :=
  match r with
  | .ok a => k a
  | .exn c l => ∀ d F' H', Ext F H F' H' → ExR H' l d → W (.ref (He.ga K c)) d σ H'
  | .bad => False
abbrev WpJ {α : Type} (K : PySem.W.Frag) (W : WX) (R : K3 α) (F H : Hp) (σ : St) (r : Rs α) (Q : VK) : Prop :=
  Wp K W F H σ r fun a => ∀ v F' H', Ext F H F' H' → R H F' H' v a → Q v H'
section
variable {K : PySem.W.Frag} {W : WX} {F H F1 H1 : Hp} {σ : St} {α β : Type}
theorem Wp.bind {r : Rs α} {f : α → Rs β} {k : β → Prop} (h : Wp K W F H σ (r.bind f) k) : Wp K W F H σ r fun a => Wp K W F H σ (f a) k := by
  cases r <;> exact h
theorem Wp.mono {r : Rs α} {k k' : α → Prop} (h : Wp K W F H σ r k) (m : ∀ a, k a → k' a) : Wp K W F H σ r k' := by
  cases r with
  | ok a => exact m a h
  | exn c l => exact h
  | bad => exact h
theorem Wp.ext {r : Rs α} {k : α → Prop} (x : Ext F H F1 H1) (h : Wp K W F H σ r k) : Wp K W F1 H1 σ r k := by
  cases r with
  | ok a => exact h
  | exn c l => exact fun d F' H' y e => h d F' H' (x.trans y) e
  | bad => exact h
end
def EnvI (K : PySem.W.Frag) (F : Hp) (σ : St) (ρ : Env) (H : Hp) : Prop := Sub F H ∧ ∃ fp, OwnE K F H σ ρ fp
theorem EnvI.ext {K : PySem.W.Frag} {F H F' H' : Hp} {σ : St} {ρ : Env} (x : Ext F H F' H') (h : EnvI K F σ ρ H) : EnvI K F' σ ρ H' :=
  let ⟨_, fp, o⟩ := h
  ⟨x.sub, fp, x.ownE o⟩

/-- the expression e yields g -/
structure DJ (X : Cx) (W : WX) {α : Type} (R : K3 α) (e : Expr) (g : Env → Rs α) : Prop where
  ex : ∃ t : TE, PE X e t ∧ ∀ F σ ρ H Q, EnvI X.K F σ ρ H → WpJ X.K W R F H σ (g ρ) Q → t σ H Q
structure DT (X : Cx) (W : WX) (e : Expr) (g : Env → Rs Bool) : Prop where
  ex : ∃ t : TT, PT X e t ∧ ∀ F σ ρ H (Q : Bool → Hp → Prop), EnvI X.K F σ ρ H → (Wp X.K W F H σ (g ρ) fun b => ∀ F' H', Ext F H F' H' → Q b H') → t σ H Q
structure DW (X : Cx) (W : WX) (e : Expr) (g : Env → Rs Bool) : Prop where
  ex : ∃ t : TT, PW X e t ∧ ∀ F σ ρ H (Q : Bool → Hp → Prop), EnvI X.K F σ ρ H → (Wp X.K W F H σ (g ρ) fun b => ∀ F' H', Ext F H F' H' → Q b H') → t σ H Q

section
variable {X : Cx} {W : WX} {α β : Type} {R : K3 α} {R' : K3 β} {e : Expr} {g : Env → Rs α}
/-- from one reading to another -/
theorem DJ.conv (h : DJ X W R e g) (f : α → Rs β)
    (c : ∀ {F H F' H' : Hp} {σ : St} {v : V} {a : α}, Ext F H F' H' → R H F' H' v a → ∀ {Q : VK}, WpJ X.K W R' F H σ (f a) Q → Q v H') : DJ X W R' e fun ρ => (g ρ).bind f := by
  obtain ⟨t, p, q⟩ := h.ex
  exact ⟨t, p, fun F σ ρ H Q I w => q F σ ρ H Q I (Wp.mono w.bind fun a k v F' H' x r => c x r k)⟩
theorem DJ.imp {R' : K3 α} (h : DJ X W R e g) (c : ∀ {F H F' H' : Hp} {v : V} {a : α}, Ext F H F' H' → R H F' H' v a → R' H F' H' v a) : DJ X W R' e g := by
  obtain ⟨t, p, q⟩ := h.ex
  exact ⟨t, p, fun F σ ρ H Q I w => q F σ ρ H Q I (Wp.mono w fun a k v F' H' x r => k v F' H' x (c x r))⟩
end
section
variable {X : Cx} {W : WX} {e : Expr}
theorem c2s {g : Env → Rs D} (h : DJ X W (rC X.K) e g) : DJ X W (rS X.K) e g := h.imp fun _ r => .at r
theorem s2p {g : Env → Rs D} (h : DJ X W (rS X.K) e g) : DJ X W (rP X.K) e g := h.imp fun x r => Rp1.view x.sub r
theorem c2p {g : Env → Rs D} (h : DJ X W (rC X.K) e g) : DJ X W (rP X.K) e g := s2p (c2s h)
theorem c2o {g : Env → Rs D} (h : DJ X W (rC X.K) e g) : DJ X W (rO X.K) e fun ρ => (g ρ).bind fun d => .ok (.sh d) :=
  DJ.conv (R' := rO X.K) h (fun d => .ok (.sh d)) fun x r _ k => k _ _ _ x ⟨[], .sh r, .nil, fun _ ha => by cases ha⟩
theorem o2c {g : Env → Rs T} (h : DJ X W (rO X.K) e g) : DJ X W (rC X.K) e fun ρ => (g ρ).bind fun t => .ok (frz t) :=
  h.conv (fun t => .ok (frz t)) fun x r _ k => by
    obtain ⟨fp, o, n, f⟩ := r
    obtain ⟨F2, x2, s2, r2, _⟩ := x.frz o f
    exact k _ _ _ x2 r2
/-- what bears no address -/
def flatD : D → Bool
  | .non => true
  | .bl _ => true
  | .int _ => true
  | .str _ => true
  | _ => false
theorem Rp.flat {K : PySem.W.Frag} {H F : Hp} {v : V} {d : D} (h : Rp K H v d) (f : flatD d = true) : Rp K F v d := by
  cases h with
  | non => exact .non
  | bl b => exact .bl b
  | int i => exact .int i
  | str s e => exact .str s e
  | _ => cases f
def flatR (d : D) : Rs D := if flatD d = true then .ok d else .bad
@[simp] theorem flatR_non : flatR .non = .ok .non := rfl
@[simp] theorem flatR_bl (b : Bool) : flatR (.bl b) = .ok (.bl b) := rfl
@[simp] theorem flatR_int (i : Int) : flatR (.int i) = .ok (.int i) := rfl
@[simp] theorem flatR_str (s : Str) : flatR (.str s) = .ok (.str s) := rfl
theorem p2c {g : Env → Rs D} (h : DJ X W (rP X.K) e g) : DJ X W (rC X.K) e fun ρ => (g ρ).bind flatR :=
  h.conv flatR fun {F H F' H' σ v a} x r Q k => by
    unfold flatR at k
    by_cases f : flatD a = true
    · rw [if_pos f] at k
      exact k _ _ _ x (Rp.flat r f)
    · rw [if_neg f] at k
      exact k.elim

/-! ### names and constants -/
def vP (ρ : Env) (i : Nat) : Rs D := match ρ[i]? with
  | some (some t) => .ok (frz t)
  | _ => .bad
def vC (ρ : Env) (i : Nat) : Rs D := match ρ[i]? with
  | some (some (.sh d)) => .ok d
  | _ => .bad
def leaf : T → Option D
  | .sh d => some d
  | _ => none
def leaves : List T → Option (List D)
  | [] => some []
  | t :: ts => match leaf t, leaves ts with
    | some d, some ds => some (d :: ds)
    | _, _ => none
def seen : T → Option D
  | .sh d => some d
  | .lst ts => (leaves ts).map .lst
  | .dk ks ts => (leaves ts).map (.dk ks)
  | .obj c ns ts => (leaves ts).map (.obj c ns)
def vS (ρ : Env) (i : Nat) : Rs D := match ρ[i]? with
  | some (some t) => (match seen t with
    | some d => .ok d
    | none => .bad)
  | _ => .bad
theorem leaves_map (ds : List D) : leaves (ds.map .sh) = some ds := by
  induction ds with
  | nil => rfl
  | cons d ds ih =>
    show (match leaf (.sh d), leaves (ds.map .sh) with
      | some d, some ds => some (d :: ds)
      | _, _ => none) = some (d :: ds)
    rw [ih]
    rfl
@[simp] theorem seen_lst (ds : List D) : seen (.lst (ds.map .sh)) = some (.lst ds) := by
  show (leaves (ds.map .sh)).map D.lst = _
  rw [leaves_map]; rfl
@[simp] theorem seen_sh (d : D) : seen (.sh d) = some d := rfl
theorem own_leaves {K : PySem.W.Frag} {F H : Hp} : ∀ {ts : List T} {vs : List V} {fp : List Addr} {ds : List D}, OwnL K F H vs ts fp → leaves ts = some ds → RpL K F vs ds
  | [], _, _, _, h, e => by
    cases h
    cases e
    exact .nil
  | t :: ts, _, _, _, h, e => by
    cases h with
    | cons h1 h2 =>
      cases t with
      | sh d =>
        cases q : leaves ts with
        | none =>
          have e' : (match leaf (.sh d), leaves ts with
            | some d, some ds => some (d :: ds)
            | _, _ => none) = some _ := e
          rw [q] at e'
          cases e'
        | some ds =>
          have e' : (match leaf (.sh d), leaves ts with
            | some d, some ds => some (d :: ds)
            | _, _ => none) = some _ := e
          rw [q] at e'
          cases e'
          cases h1 with
          | sh h1 => exact .cons h1 (own_leaves h2 q)
      | _ => cases e
theorem own_seen {K : PySem.W.Frag} {F H : Hp} {t : T} {v : V} {fp : List Addr} {d : D} (h : Own K F H v t fp) (e : seen t = some d) : Rp1 K F H v d := by
  cases h with
  | sh h =>
    cases e
    exact .at h
  | @lst a vs ts fp h1 h2 h3 =>
    obtain ⟨ds, e1, e2⟩ := Option.map_eq_some_iff.mp (show (leaves ts).map D.lst = some d from e)
    subst e2
    exact .lst h1 (own_leaves h3 e1)
  | @dk a ks vs ts fp h1 h2 h3 h4 =>
    obtain ⟨ds, e1, e2⟩ := Option.map_eq_some_iff.mp (show (leaves ts).map (D.dk ks) = some d from e)
    subst e2
    exact .dk (.inl h1) h2 (own_leaves h4 e1)
  | @obj a dx c ns vs ts fp h1 h2 h3 h4 =>
    obtain ⟨ds, e1, e2⟩ := Option.map_eq_some_iff.mp (show (leaves ts).map (D.obj c ns) = some d from e)
    subst e2
    exact .obj h1 h2 (own_leaves h4 e1)
theorem EnvI.get {K : PySem.W.Frag} {F H : Hp} {σ : St} {ρ : Env} {i : Nat} {t : T} (I : EnvI K F σ ρ H) (e : ρ[i]? = some (some t)) : ∃ v f, σ[i]? = some (some v) ∧ Own K F H v t f := by
  obtain ⟨_, fp, o⟩ := I
  obtain ⟨v, f, _, _, e1, e2, _⟩ := o.get e
  exact ⟨v, f, e1, e2⟩
theorem jvar {α : Type} {R : K3 α} {x : Str} {pos : Pos} {i : Nat} {g : Env → Rs α} (h : PE X (.Name x pos) (tVar i))
    (c : ∀ {F H : Hp} {σ : St} {ρ : Env} {a : α}, EnvI X.K F σ ρ H → g ρ = .ok a → ∃ v, σ[i]? = some (some v) ∧ R H F H v a)
    (n : ∀ ρ c l, g ρ ≠ .exn c l) : DJ X W R (.Name x pos) g := by
  refine ⟨_, h, fun F σ ρ H Q I w => ?_⟩
  cases q : g ρ with
  | ok a =>
    rw [q] at w
    obtain ⟨v, e1, r⟩ := c I q
    exact ⟨v, e1, w v F H (.refl I.1) r⟩
  | exn c l => exact absurd q (n ρ c l)
  | bad => rw [q] at w; exact w.elim
theorem vP_ok {ρ : Env} {i : Nat} {d : D} (h : vP ρ i = .ok d) : ∃ t, ρ[i]? = some (some t) ∧ d = frz t := by
  unfold vP at h
  split at h
  · rename_i t e
    cases h
    exact ⟨t, e, rfl⟩
  · cases h
theorem vC_ok {ρ : Env} {i : Nat} {d : D} (h : vC ρ i = .ok d) : ρ[i]? = some (some (.sh d)) := by
  unfold vC at h
  split at h
  · rename_i t e
    cases h
    exact e
  · cases h
theorem vS_ok {ρ : Env} {i : Nat} {d : D} (h : vS ρ i = .ok d) : ∃ t, ρ[i]? = some (some t) ∧ seen t = some d := by
  unfold vS at h
  split at h
  · rename_i t e
    split at h
    · rename_i d' e'
      cases h
      exact ⟨t, e, e'⟩
    · cases h
  · cases h
theorem jvP {x : Str} {pos : Pos} {i : Nat} (h : PE X (.Name x pos) (tVar i)) : DJ X W (rP X.K) (.Name x pos) fun ρ => vP ρ i :=
  jvar h (fun I e => by
    obtain ⟨t, e1, rfl⟩ := vP_ok e
    obtain ⟨v, f, e2, o⟩ := I.get e1
    exact ⟨v, e2, o.view I.1⟩) fun ρ c l e => by
      unfold vP at e
      split at e <;> cases e
theorem jvC {x : Str} {pos : Pos} {i : Nat} (h : PE X (.Name x pos) (tVar i)) : DJ X W (rC X.K) (.Name x pos) fun ρ => vC ρ i :=
  jvar h (fun I e => by
    obtain ⟨v, f, e2, o⟩ := I.get (vC_ok e)
    cases o with
    | sh r => exact ⟨v, e2, r⟩) fun ρ c l e => by
      unfold vC at e
      split at e <;> cases e
theorem jvS {x : Str} {pos : Pos} {i : Nat} (h : PE X (.Name x pos) (tVar i)) : DJ X W (rS X.K) (.Name x pos) fun ρ => vS ρ i :=
  jvar h (fun I e => by
    obtain ⟨t, e1, e3⟩ := vS_ok e
    obtain ⟨v, f, e2, o⟩ := I.get e1
    exact ⟨v, e2, own_seen o e3⟩) fun ρ c l e => by
      unfold vS at e
      split at e
      · split at e <;> cases e
      · cases e
/-- a value that bears no address -/
theorem jconst {e : Expr} {v : V} {d : D} (h : PE X e (tC v)) (r : ∀ F, Rp X.K F v d) : DJ X W (rC X.K) e fun _ => .ok d :=
  ⟨_, h, fun F σ ρ H Q I w => w v F H (.refl I.1) (r F)⟩
theorem jint {i : Int} {j pos} : DJ X W (rC X.K) (.Constant (.int i) j pos) fun _ => .ok (.int i) := jconst pe_int fun _ => .int i
theorem jbl {b : Bool} {j pos} : DJ X W (rC X.K) (.Constant (.bool b) j pos) fun _ => .ok (.bl b) := jconst pe_bl fun _ => .bl b
theorem jnon {j pos} : DJ X W (rC X.K) (.Constant .none j pos) fun _ => .ok .non := jconst pe_non fun _ => .non
theorem jstr {s : Str} {j pos} (h : sOk s = true := by decide +kernel) : DJ X W (rC X.K) (.Constant (.str s) j pos) fun _ => .ok (.str s) := jconst pe_str fun _ => .str s h
theorem jgint {x : Str} {i : Int} {pos : Pos} (hg : Gl X x) (hm : ∃ t, X.mg x = some (.int i t)) (hd : (x == ("__debug__" : Str)) = false := by decide) : DJ X W (rC X.K) (.Name x pos) fun _ => .ok (.int i) := by
  obtain ⟨t, hm⟩ := hm
  exact jconst (pe_glob (v := .int i) hg hm ⟨t, rfl⟩ hd) fun _ => .int i
theorem jgstr {x s : Str} {pos : Pos} (hg : Gl X x) (hm : ∃ t, X.mg x = some (.str s t)) (h : sOk s = true := by decide +kernel) (hd : (x == ("__debug__" : Str)) = false := by decide) : DJ X W (rC X.K) (.Name x pos) fun _ => .ok (.str s) := by
  obtain ⟨t, hm⟩ := hm
  exact jconst (pe_glob (v := .str s) hg hm ⟨t, rfl⟩ hd) fun _ => .str s h
end

/-! ### operations by values -/
def Wp0 {α : Type} (r : Rs α) (k : α → Prop) : Prop := match r with
  | .ok a => k a
  | _ => False
theorem Wp.of0 {K : PySem.W.Frag} {W : WX} {F H : Hp} {σ : St} {α : Type} {r : Rs α} {k : α → Prop} (n : ∀ c l, r ≠ .exn c l) (h : Wp K W F H σ r k) : Wp0 r k := by
  cases r with
  | ok a => exact h
  | exn c l => exact absurd rfl (n c l)
  | bad => exact h
structure OpD (r : R2) (R1 R2 : K3 D) {γ : Type} (R3 : K3 γ) (f : D → D → Rs γ) : Prop where
  run : ∀ {Hs Ht F H : Hp} {x y : V} {dx dy : D} {Q : VK}, Sub F H → R1 Hs F H x dx → R2 Ht F H y dy → Wp0 (f dx dy) (fun c => ∀ v F' H', Ext F H F' H' → R3 H F' H' v c → Q v H') → r x y H Q
  nx : ∀ x y c l, f x y ≠ .exn c l
theorem jop2 {X : Cx} {W : WX} {r : R2} {R1 R2 : K3 D} {γ : Type} {R3 : K3 γ} {f : D → D → Rs γ} {e a b : Expr} {ga gb : Env → Rs D} (mk : ∀ ta tb, PE X a ta → PE X b tb → PE X e (tOp r ta tb)) (ho : OpD r R1 R2 R3 f) (k1 : KOk R1) (k3 : KOk R3)
    (ha : DJ X W R1 a ga) (hb : DJ X W R2 b gb) : DJ X W R3 e fun ρ => (ga ρ).bind fun x => (gb ρ).bind fun y => f x y := by
  obtain ⟨ta, pa, qa⟩ := ha.ex
  obtain ⟨tb, pb, qb⟩ := hb.ex
  refine ⟨_, mk ta tb pa pb, fun F σ ρ H Q I w => ?_⟩
  refine qa F σ ρ H _ I (Wp.mono w.bind fun dx w v F1 H1 x1 r1 => ?_)
  refine qb F1 σ ρ H1 _ (I.ext x1) (Wp.mono (Wp.ext x1 w.bind) fun dy w u F2 H2 x2 r2 => ?_)
  refine ho.run x2.sub (k1.stb x2 r1) r2 ?_
  have w' : Wp0 (f dx dy) _ := Wp.of0 (ho.nx dx dy) w
  cases q : f dx dy with
  | ok c =>
    rw [q] at w'
    exact fun z F' H' x3 r3 => w' z F' H' ((x1.trans x2).trans x3) (k3.anti (same_trans x1.hh x2.hh) r3)
  | exn c l => rw [q] at w'; exact w'.elim
  | bad => rw [q] at w'; exact w'.elim
structure UnD (r : V → Hp → VK → Prop) (R1 : K3 D) {γ : Type} (R3 : K3 γ) (f : D → Rs γ) : Prop where
  run : ∀ {Hs F H : Hp} {x : V} {dx : D} {Q : VK}, Sub F H → R1 Hs F H x dx → Wp0 (f dx) (fun c => ∀ v F' H', Ext F H F' H' → R3 H F' H' v c → Q v H') → r x H Q
  nx : ∀ x c l, f x ≠ .exn c l
theorem jop1 {X : Cx} {W : WX} {r : V → Hp → VK → Prop} {R1 : K3 D} {γ : Type} {R3 : K3 γ} {f : D → Rs γ} {e a : Expr} {ga : Env → Rs D} (mk : ∀ ta, PE X a ta → PE X e (tUn r ta)) (ho : UnD r R1 R3 f) (k3 : KOk R3)
    (ha : DJ X W R1 a ga) : DJ X W R3 e fun ρ => (ga ρ).bind f := by
  obtain ⟨ta, pa, qa⟩ := ha.ex
  refine ⟨_, mk ta pa, fun F σ ρ H Q I w => ?_⟩
  refine qa F σ ρ H _ I (Wp.mono w.bind fun dx w v F1 H1 x1 r1 => ?_)
  refine ho.run x1.sub r1 ?_
  have w' : Wp0 (f dx) _ := Wp.of0 (ho.nx dx) w
  cases q : f dx with
  | ok c =>
    rw [q] at w'
    exact fun z F' H' x3 r3 => w' z F' H' (x1.trans x3) (k3.anti x1.hh r3)
  | exn c l => rw [q] at w'; exact w'.elim
  | bad => rw [q] at w'; exact w'.elim
/-- a call of a builtin with one argument -/
theorem jcall1 {X : Cx} {W : WX} {r : List V → Hp → VK → Prop} {R1 : K3 D} {γ : Type} {R3 : K3 γ} {f : D → Rs γ} {e a : Expr} {ga : Env → Rs D} (mk : ∀ ta, PE X a ta → PE X e (tCB r (tCons ta tNil))) (ho : UnD (fun x H Q => r [x] H Q) R1 R3 f) (k3 : KOk R3)
    (ha : DJ X W R1 a ga) : DJ X W R3 e fun ρ => (ga ρ).bind f :=
  jop1 (r := fun x H Q => r [x] H Q) mk ho k3 ha
theorem jcall2 {X : Cx} {W : WX} {r : List V → Hp → VK → Prop} {R1 R2 : K3 D} {γ : Type} {R3 : K3 γ} {f : D → D → Rs γ} {e a b : Expr} {ga gb : Env → Rs D} (mk : ∀ ta tb, PE X a ta → PE X b tb → PE X e (tCB r (tCons ta (tCons tb tNil)))) (ho : OpD (fun x y H Q => r [x, y] H Q) R1 R2 R3 f) (k1 : KOk R1) (k3 : KOk R3)
    (ha : DJ X W R1 a ga) (hb : DJ X W R2 b gb) : DJ X W R3 e fun ρ => (ga ρ).bind fun x => (gb ρ).bind fun y => f x y :=
  jop2 (r := fun x y H Q => r [x, y] H Q) mk ho k1 k3 ha hb
end Dn

/-! Dn2: operators, comparisons, tests. -/
namespace Dn
open PySem PySem.Spec L2

theorem sOk_len {s : Str} (h : sOk s = true) : s.length ≤ sizeLine := by
  rw [sizeLine_eq]
  exact of_decide_eq_true (Bool.and_eq_true_iff.mp h).1
theorem sOk_ok {s : Str} (h : sOk s = true) : PyData.strOk s = true := (Bool.and_eq_true_iff.mp h).2
mutual
def toP : D → PyData
  | .non => .none
  | .bl b => .bool b
  | .int i => .int i
  | .str s => .str s
  | .lst xs => .list (toPL xs)
  | .tup xs => .tuple (toPL xs)
  | _ => .none
def toPL : List D → List PyData
  | [] => []
  | d :: ds => toP d :: toPL ds
end
mutual
def isData : D → Bool
  | .non => true
  | .bl _ => true
  | .int _ => true
  | .str _ => true
  | .lst xs => isDataL xs
  | .tup xs => isDataL xs
  | _ => false
def isDataL : List D → Bool
  | [] => true
  | d :: ds => isData d && isDataL ds
end
mutual
theorem Rp.dp {K : PySem.W.Frag} {H : Hp} : ∀ {d : D} {v : V}, Rp K H v d → isData d = true → Dp K H v (toP d) ∧ (toP d).canLay0 = true
  | .non, _, h, _ => by cases h; exact ⟨.non, by simp [toP, PyData.canLay0]⟩
  | .bl _, _, h, _ => by cases h; exact ⟨.bl _, by simp [toP, PyData.canLay0]⟩
  | .int _, _, h, _ => by cases h; exact ⟨.int _, by simp [toP, PyData.canLay0]⟩
  | .str _, _, h, _ => by cases h with | str _ e => exact ⟨.str _, by simp [toP, PyData.canLay0, sOk_ok e]⟩
  | .lst _, _, h, k => by
    cases h with
    | lst h1 h2 =>
      obtain ⟨p, q⟩ := RpL.dp h2 (by simpa [isData] using k)
      exact ⟨.lst (.inl (.inl h1)) p, by simpa [toP, PyData.canLay0] using q⟩
  | .tup _, _, h, k => by
    cases h with
    | tup h1 h2 =>
      obtain ⟨p, q⟩ := RpL.dp h2 (by simpa [isData] using k)
      exact ⟨.tup h1 p, by simpa [toP, PyData.canLay0] using q⟩
  | .dk _ _, _, _, k => by simp [isData] at k
  | .obj _ _ _, _, _, k => by simp [isData] at k
  | .scr _, _, _, k => by simp [isData] at k
theorem RpL.dp {K : PySem.W.Frag} {H : Hp} : ∀ {ds : List D} {vs : List V}, RpL K H vs ds → isDataL ds = true → DpAll K H vs (toPL ds) ∧ PyData.canLayAll0 (toPL ds) = true
  | [], _, h, _ => by cases h; exact ⟨.nil, by simp [toPL, PyData.canLayAll0]⟩
  | _ :: _, _, h, k => by
    cases h with
    | cons h1 h2 =>
      rw [isDataL, Bool.and_eq_true] at k
      obtain ⟨p, q⟩ := Rp.dp h1 k.1
      obtain ⟨p2, q2⟩ := RpL.dp h2 k.2
      exact ⟨.cons p p2, by simp [toPL, PyData.canLayAll0, q, q2]⟩
end
/-- data that can be compared -/
def cmpD (d : D) : Bool := isData d && decide ((toP d).depth ≤ 64)
def eqv (d e : D) : Bool := PyData.eqv (toP d) (toP e)
def eqR (d e : D) : Rs D := if (cmpD d && cmpD e) = true then .ok (.bl (eqv d e)) else .bad
def neR (d e : D) : Rs D := if (cmpD d && cmpD e) = true then .ok (.bl (!eqv d e)) else .bad
theorem cmpD_shaped {K : PySem.W.Frag} {H : Hp} {d : D} {v : V} (h : Rp K H v d) (c : cmpD d = true) : Dp K H v (toP d) ∧ SeqAt.shaped (toP d) = true := by
  obtain ⟨c1, c2⟩ := Bool.and_eq_true_iff.mp c
  obtain ⟨p, q⟩ := h.dp c1
  exact ⟨p, Bool.and_eq_true_iff.mpr ⟨q, c2⟩⟩
theorem Wp0.ite {α : Type} {c : Prop} [Decidable c] {r : Rs α} {k : α → Prop} (h : Wp0 (if c then r else .bad) k) : c ∧ Wp0 r k := by
  by_cases z : c
  · rw [if_pos z] at h
    exact ⟨z, h⟩
  · rw [if_neg z] at h
    exact h.elim
section
variable {K : PySem.W.Frag}
theorem od_eq : OpD (rEqD K) (rP K) (rP K) (rC K) eqR where
  run := fun {Hs Ht F H x y dx dy Q} s r1 r2 w => by
    obtain ⟨c, w⟩ := Wp0.ite w
    obtain ⟨c1, c2⟩ := Bool.and_eq_true_iff.mp c
    obtain ⟨p1, q1⟩ := cmpD_shaped r1 c1
    obtain ⟨p2, q2⟩ := cmpD_shaped r2 c2
    exact ⟨_, _, p1, p2, q1, q2, w _ F H (.refl s) (.bl _)⟩
  nx := fun x y c l e => by unfold eqR at e; split at e <;> cases e
theorem od_ne : OpD (rNeD K) (rP K) (rP K) (rC K) neR where
  run := fun {Hs Ht F H x y dx dy Q} s r1 r2 w => by
    obtain ⟨c, w⟩ := Wp0.ite w
    obtain ⟨c1, c2⟩ := Bool.and_eq_true_iff.mp c
    obtain ⟨p1, q1⟩ := cmpD_shaped r1 c1
    obtain ⟨p2, q2⟩ := cmpD_shaped r2 c2
    exact ⟨_, _, p1, p2, q1, q2, w _ F H (.refl s) (.bl _)⟩
  nx := fun x y c l e => by unfold neR at e; split at e <;> cases e
/-! ints and texts -/
def int2 (f : Int → Int → D) : D → D → Rs D
  | .int i, .int j => .ok (f i j)
  | _, _ => .bad
theorem od_int (f : Int → Int → D) (fv : Int → Int → V) (hf : ∀ i j F, Rp K F (fv i j) (f i j)) : OpD (rI0 fv) (rP K) (rP K) (rC K) (int2 f) where
  run := fun {Hs Ht F H x y dx dy Q} s r1 r2 w => by
    unfold int2 at w
    split at w
    · cases r1
      cases r2
      exact ⟨_, _, rfl, rfl, w _ F H (.refl s) (hf _ _ _)⟩
    · exact w.elim
  nx := fun x y c l e => by unfold int2 at e; split at e <;> cases e
def intC (C : Int → Int → Prop) [∀ i j, Decidable (C i j)] (f : Int → Int → D) : D → D → Rs D
  | .int i, .int j => if C i j then .ok (f i j) else .bad
  | _, _ => .bad
theorem od_intC (C : Int → Int → Prop) [∀ i j, Decidable (C i j)] (f : Int → Int → D) (fv : Int → Int → V) (hf : ∀ i j F, Rp K F (fv i j) (f i j)) : OpD (rI C fv) (rP K) (rP K) (rC K) (intC C f) where
  run := fun {Hs Ht F H x y dx dy Q} s r1 r2 w => by
    unfold intC at w
    split at w
    · cases r1
      cases r2
      obtain ⟨c, w⟩ := Wp0.ite w
      exact ⟨_, _, rfl, rfl, c, w _ F H (.refl s) (hf _ _ _)⟩
    · exact w.elim
  nx := fun x y c l e => by
    unfold intC at e
    split at e
    · split at e <;> cases e
    · cases e
theorem sOk_append {a b : Str} (ha : sOk a = true) (hb : sOk b = true) (h : a.length + b.length ≤ 16777216) : sOk (a ++ b) = true := by
  unfold sOk
  rw [Bool.and_eq_true]
  have e : (a ++ b).cps = a.cps ++ b.cps := rfl
  refine ⟨decide_eq_true ?_, ?_⟩
  · show (a ++ b).cps.size ≤ 16777216
    rw [e, Array.size_append]
    exact h
  · have h1 := sOk_ok ha
    have h2 := sOk_ok hb
    unfold PyData.strOk at h1 h2 ⊢
    rw [e, Array.all_append, h1, h2]
    rfl
/-- + of ints, of texts -/
def addR : D → D → Rs D
  | .int i, .int j => .ok (.int (i + j))
  | .str a, .str b => if a.length + b.length ≤ 16777216 then .ok (.str (a ++ b)) else .bad
  | _, _ => .bad
abbrev rAddV : R2 := fun x y H Q => rI0 (fun i j => .int (i + j)) x y H Q ∨ ∃ i j, x = .str i ∧ y = .str j ∧ i.length + j.length ≤ sizeLine ∧ Q (.str (i ++ j)) H
theorem od_add : OpD rAddV (rP K) (rP K) (rC K) addR where
  run := fun {Hs Ht F H x y dx dy Q} s r1 r2 w => by
    unfold addR at w
    split at w
    · cases r1
      cases r2
      exact .inl ⟨_, _, rfl, rfl, w _ F H (.refl s) (.int _)⟩
    · cases r1 with
      | str _ e1 =>
        cases r2 with
        | str _ e2 =>
          obtain ⟨c, w⟩ := Wp0.ite w
          exact .inr ⟨_, _, rfl, rfl, by rw [sizeLine_eq]; exact c, w _ F H (.refl s) (.str _ (sOk_append e1 e2 c))⟩
    · exact w.elim
  nx := fun x y c l e => by
    unfold addR at e
    split at e
    · cases e
    · split at e <;> cases e
    · cases e

/-- an order of ints, of texts -/
def ordR (fi : Int → Int → Bool) (fs : List Nat → List Nat → Bool) : D → D → Rs D
  | .int i, .int j => .ok (.bl (fi i j))
  | .str a, .str b => .ok (.bl (fs a.cps.toList b.cps.toList))
  | _, _ => .bad
abbrev rOrdV (fi : Int → Int → Bool) (fs : List Nat → List Nat → Bool) : R2 := fun x y H Q => rI0 (fun i j => .bl (fi i j)) x y H Q ∨ ∃ i j, x = .str i ∧ y = .str j ∧ Q (.bl (fs i.cps.toList j.cps.toList)) H
theorem od_ord (fi : Int → Int → Bool) (fs : List Nat → List Nat → Bool) : OpD (rOrdV fi fs) (rP K) (rP K) (rC K) (ordR fi fs) where
  run := fun {Hs Ht F H x y dx dy Q} s r1 r2 w => by
    unfold ordR at w
    split at w
    · cases r1
      cases r2
      exact .inl ⟨_, _, rfl, rfl, w _ F H (.refl s) (.bl _)⟩
    · cases r1 with
      | str _ e1 =>
        cases r2 with
        | str _ e2 => exact .inr ⟨_, _, rfl, rfl, w _ F H (.refl s) (.bl _)⟩
    · exact w.elim
  nx := fun x y c l e => by unfold ordR at e; split at e <;> cases e
/-! is None -/
def isNR : D → D → Rs D
  | .non, .non => .ok (.bl true)
  | _, .non => .ok (.bl false)
  | _, _ => .bad
def notNR : D → D → Rs D
  | .non, .non => .ok (.bl false)
  | _, .non => .ok (.bl true)
  | _, _ => .bad
theorem Rp.isNon {H : Hp} {v : V} {d : D} (h : Rp K H v d) : decide (v = .non) = (match d with | .non => true | _ => false) := by
  cases h <;> simp
theorem od_isN : OpD (fun x y H Q => y = .non ∧ Q (.bl (decide (x = .non))) H) (rP K) (rP K) (rC K) isNR where
  run := fun {Hs Ht F H x y dx dy Q} s r1 r2 w => by
    have e := Rp.isNon r1
    unfold isNR at w
    split at w
    · cases r2
      rw [e]
      exact ⟨rfl, w _ F H (.refl s) (.bl _)⟩
    · rename_i n
      cases r2
      refine ⟨rfl, ?_⟩
      have e2 : decide (x = .non) = false := by
        rw [e]
        cases dx <;> first | rfl | exact absurd rfl n
      rw [e2]
      exact w _ F H (.refl s) (.bl _)
    · exact w.elim
  nx := fun x y c l e => by unfold isNR at e; split at e <;> cases e
theorem od_notN : OpD (fun x y H Q => y = .non ∧ Q (.bl (!decide (x = .non))) H) (rP K) (rP K) (rC K) notNR where
  run := fun {Hs Ht F H x y dx dy Q} s r1 r2 w => by
    have e := Rp.isNon r1
    unfold notNR at w
    split at w
    · cases r2
      rw [e]
      exact ⟨rfl, w _ F H (.refl s) (.bl _)⟩
    · rename_i n
      cases r2
      refine ⟨rfl, ?_⟩
      have e2 : decide (x = .non) = false := by
        rw [e]
        cases dx <;> first | rfl | exact absurd rfl n
      rw [e2]
      exact w _ F H (.refl s) (.bl _)
    · exact w.elim
  nx := fun x y c l e => by unfold notNR at e; split at e <;> cases e
/-! in -/
theorem eqV_eqv {H : Hp} {x y : V} {dx dy : D} (r1 : Rp K H x dx) (r2 : Rp K H y dy) (f1 : flatD dx = true) (f2 : flatD dy = true) : eqV x y = eqv dx dy ∧ flatV x = true ∧ flatV y = true := by
  cases r1 <;> first | (cases f1; done) | skip
  all_goals (cases r2 <;> first | (cases f2; done) | (refine ⟨?_, rfl, rfl⟩; simp [eqV, eqv, toP, PyData.eqv]))
theorem flats {H : Hp} : ∀ {vs : List V} {ds : List D}, RpL K H vs ds → ds.all flatD = true → vs.all flatV = true
  | [], _, _, _ => rfl
  | _ :: _, _, h, f => by
    cases h with
    | cons h1 h2 =>
      rw [List.all_cons, Bool.and_eq_true] at f
      rw [List.all_cons, Bool.and_eq_true]
      exact ⟨(eqV_eqv h1 h1 f.1 f.1).2.1, flats h2 f.2⟩
theorem inV_any {H : Hp} {x : V} {dx : D} (r : Rp K H x dx) (f : flatD dx = true) : ∀ {vs : List V} {ds : List D}, RpL K H vs ds → ds.all flatD = true → inV x vs = ds.any fun z => eqv z dx
  | [], _, h, _ => by cases h; rfl
  | _ :: _, _, h, g => by
    cases h with
    | cons h1 h2 =>
      rw [List.all_cons, Bool.and_eq_true] at g
      have ih := inV_any r f h2 g.2
      unfold inV at ih ⊢
      rw [List.any_cons, List.any_cons, (eqV_eqv h1 r g.1 f).1, ih]
def memD (ds : List D) (x : D) : Bool := ds.any fun z => eqv z x
/-- x in y: a list; a tuple of flat things; one sign in a text -/
def inR : D → D → Rs Bool
  | x, .lst ds => if (cmpD x && cmpD (.lst ds)) = true then .ok (memD ds x) else .bad
  | x, .tup ds => if (flatD x && ds.all flatD) = true then .ok (memD ds x) else .bad
  | .str c, .str z => if c.cps.size = 1 then .ok (decide (c.cps.getD 0 0 ∈ z.cps.toList)) else .bad
  | _, _ => .bad
theorem toPL_map (ds : List D) : toPL ds = ds.map toP := by
  induction ds with
  | nil => rfl
  | cons d ds ih => rw [toPL, ih]; rfl
abbrev rInV (K : PySem.W.Frag) (neg : Bool) : R2 := fun x y H Q => (∃ d ds, Dp K H x d ∧ Dp K H y (.list ds) ∧ SeqAt.shaped d = true ∧ SeqAt.shaped (.list ds) = true ∧ Q (.bl (if neg then !(ds.any fun z => PyData.eqv z d) else ds.any fun z => PyData.eqv z d)) H) ∨
  rIn K neg x y H Q ∨ ∃ (c : Nat) (z : Str), x = .str ⟨#[c]⟩ ∧ y = .str z ∧ Q (.bl (if neg then !decide (c ∈ z.cps.toList) else decide (c ∈ z.cps.toList))) H
theorem size_one {c : Str} (h : c.cps.size = 1) : c = ⟨#[c.cps.getD 0 0]⟩ := by
  obtain ⟨⟨l⟩⟩ := c
  match l, h with
  | [a], _ => rfl
theorem od_in (neg : Bool) : OpD (rInV K neg) (rP K) (rP K) (rC K) (fun x y => (inR x y).bind fun b => .ok (.bl (if neg then !b else b))) where
  run := fun {Hs Ht F H x y dx dy Q} s r1 r2 w => by
    unfold inR at w
    split at w
    · rename_i ds
      by_cases c : (cmpD dx && cmpD (.lst ds)) = true
      · rw [if_pos c] at w
        obtain ⟨c1, c2⟩ := Bool.and_eq_true_iff.mp c
        obtain ⟨p1, q1⟩ := cmpD_shaped r1 c1
        obtain ⟨p2, q2⟩ := cmpD_shaped r2 c2
        refine .inl ⟨toP dx, toPL ds, p1, by simpa [toP] using p2, q1, by simpa [toP] using q2, ?_⟩
        have e : ((toPL ds).any fun z => PyData.eqv z (toP dx)) = memD ds dx := by
          rw [toPL_map, List.any_map]
          rfl
        rw [e]
        exact w _ F H (.refl s) (.bl _)
      · rw [if_neg c] at w
        exact w.elim
    · rename_i ds
      by_cases c : (flatD dx && ds.all flatD) = true
      · rw [if_pos c] at w
        obtain ⟨c1, c2⟩ := Bool.and_eq_true_iff.mp c
        cases r2 with
        | @tup p vs _ h1 h2 =>
          refine .inr (.inl ⟨p, vs, rfl, .inr h1, (eqV_eqv r1 r1 c1 c1).2.1, flats h2 c2, ?_⟩)
          rw [inV_any r1 c1 h2 c2]
          exact w _ F H (.refl s) (.bl _)
      · rw [if_neg c] at w
        exact w.elim
    · rename_i c z
      by_cases h : c.cps.size = 1
      · rw [if_pos h] at w
        cases r1
        cases r2
        exact .inr (.inr ⟨c.cps.getD 0 0, z, congrArg V.str (size_one h), rfl, w _ F H (.refl s) (.bl _)⟩)
      · rw [if_neg h] at w
        exact w.elim
    · exact w.elim
  nx := fun x y c l e => by
    cases q : inR x y with
    | ok b => rw [q] at e; cases e
    | bad => rw [q] at e; cases e
    | exn c' l' =>
      unfold inR at q
      split at q <;> first | (split at q <;> cases q) | cases q
/-! subscripts -/
def ixR : D → D → Rs D
  | .lst ds, .int i => (match atI ds i with
    | some d => .ok d
    | none => .bad)
  | .tup ds, .int i => (match atI ds i with
    | some d => .ok d
    | none => .bad)
  | .scr ns, .int i => (match atI ns i with
    | some n => .ok (.int n)
    | none => .bad)
  | .str z, .int i => (match atI z.cps.toList i with
    | some c => .ok (.str ⟨#[c]⟩)
    | none => .bad)
  | _, _ => .bad
theorem atI_len {α β : Type} {xs : List α} {ys : List β} (h : xs.length = ys.length) {i : Int} {y : β} (e : atI ys i = some y) : ∃ (j : Nat) (x : α), xs[j]? = some x ∧ ys[j]? = some y ∧ atI xs i = some x := by
  unfold atI at e ⊢
  rw [h]
  cases q : ixN ys.length i with
  | none => rw [q] at e; cases e
  | some j =>
    rw [q] at e
    have e' : ys[j]? = some y := e
    have hj : j < xs.length := by
      rw [h]
      exact (List.getElem?_eq_some_iff.mp e').1
    exact ⟨j, xs[j], List.getElem?_eq_getElem hj, e', List.getElem?_eq_getElem hj⟩
theorem sOk_sign {z : Str} (h : sOk z = true) {i : Int} {c : Nat} (e : atI z.cps.toList i = some c) : sOk ⟨#[c]⟩ = true := by
  unfold sOk
  rw [Bool.and_eq_true]
  refine ⟨rfl, ?_⟩
  have h1 := sOk_ok h
  unfold PyData.strOk at h1 ⊢
  obtain ⟨j, _, e2, _⟩ := atI_get e
  have hm : c ∈ z.cps.toList := List.mem_of_getElem? e2
  have := (Array.all_eq_true_iff_forall_mem.mp h1) c (by simpa using hm)
  simp at this ⊢
  exact this
theorem od_ixS : OpD (rIx K) (rS K) (rP K) (rC K) ixR where
  run := fun {Hs Ht F H x y dx dy Q} s r1 r2 w => by
    unfold ixR at w
    split at w
    · rename_i ds i
      cases r2
      split at w
      · rename_i d e
        cases r1 with
        | «at» r1 =>
          cases r1 with
          | @lst p vs _ h1 h2 =>
            obtain ⟨j, v, e1, e2, e3⟩ := atI_len h2.length e
            obtain ⟨d', q1, q2⟩ := h2.get e1
            rw [e2] at q1
            cases q1
            exact .inl ⟨p, vs, i, v, rfl, rfl, .inl (s.rd (.inl h1)), e3, w _ F H (.refl s) q2⟩
        | @lst p vs _ h1 h2 =>
          obtain ⟨j, v, e1, e2, e3⟩ := atI_len h2.length e
          obtain ⟨d', q1, q2⟩ := h2.get e1
          rw [e2] at q1
          cases q1
          exact .inl ⟨p, vs, i, v, rfl, rfl, .inl (.inl h1), e3, w _ F H (.refl s) q2⟩
      · exact w.elim
    · rename_i ds i
      cases r2
      split at w
      · rename_i d e
        cases r1 with
        | «at» r1 =>
          cases r1 with
          | @tup p vs _ h1 h2 =>
            obtain ⟨j, v, e1, e2, e3⟩ := atI_len h2.length e
            obtain ⟨d', q1, q2⟩ := h2.get e1
            rw [e2] at q1
            cases q1
            exact .inr (.inl ⟨p, vs, i, v, rfl, rfl, s.sqT h1, e3, w _ F H (.refl s) q2⟩)
      · exact w.elim
    · rename_i ns i
      cases r2
      split at w
      · rename_i n e
        cases r1 with
        | «at» r1 =>
          cases r1 with
          | @scr p _ h1 =>
            obtain ⟨j, v, e1, e2, e3⟩ := atI_len (xs := ns.map V.int) (by simp) e
            have : v = .int n := by
              rw [List.getElem?_map, e2] at e1
              exact (Option.some.inj e1).symm
            subst this
            exact .inl ⟨p, _, i, _, rfl, rfl, s.sqL h1, e3, w _ F H (.refl s) (.int _)⟩
      · exact w.elim
    · rename_i z i
      cases r2
      split at w
      · rename_i c e
        cases r1 with
        | «at» r1 =>
          cases r1 with
          | str _ h1 => exact .inr (.inr ⟨z, i, c, rfl, rfl, sOk_len h1, e, w _ F H (.refl s) (.str _ (sOk_sign h1 e))⟩)
      · exact w.elim
    · exact w.elim
  nx := fun x y c l e => by unfold ixR at e; split at e <;> first | (split at e <;> cases e) | cases e
theorem od_ixP : OpD (rIx K) (rP K) (rP K) (rP K) ixR where
  run := fun {Hs Ht F H x y dx dy Q} s r1 r2 w => by
    refine (od_ixS (K := K)).run (Hs := Hs) (Ht := Ht) (F := H) (H := H) Sub.refl (show rS K Hs H H x dx from .at r1) r2 ?_
    cases q : ixR dx dy with
    | ok c =>
      rw [q] at w
      exact fun v F' H' x2 r3 => w v F H' ⟨x2.hh, fun _ _ e => e, s.same x2.hh, fun _ _ e => e⟩ (Rp.sub x2.sub r3)
    | exn c l => rw [q] at w; exact w.elim
    | bad => rw [q] at w; exact w.elim
  nx := (od_ixS (K := K)).nx
end
end Dn

/-! Dn3: dicts, slices, fields, builtins. -/
namespace Dn
open PySem PySem.Spec L2

/-- two readings of one expression -/
theorem PE.or {X : Cx} {e : Expr} {t u : TE} (h : PE X e t) (k : PE X e u) : PE X e fun σ H Q => t σ H Q ∨ u σ H Q :=
  ⟨fun pins s σ H Q I w => by
    rcases w with w | w
    · exact h.run pins s σ H Q I w
    · exact k.run pins s σ H Q I w⟩
theorem DJ.or {X : Cx} {W : WX} {α : Type} {R : K3 α} {e : Expr} {g g1 g2 : Env → Rs α} (h1 : DJ X W R e g1) (h2 : DJ X W R e g2) (c : ∀ ρ, g ρ = g1 ρ ∨ g ρ = g2 ρ) : DJ X W R e g := by
  obtain ⟨t1, p1, q1⟩ := h1.ex
  obtain ⟨t2, p2, q2⟩ := h2.ex
  refine ⟨_, PE.or p1 p2, fun F σ ρ H Q I w => ?_⟩
  rcases c ρ with e | e
  · rw [e] at w
    exact .inl (q1 F σ ρ H Q I w)
  · rw [e] at w
    exact .inr (q2 F σ ρ H Q I w)

/-! ### dicts -/
def dval {α : Type} : List Key → List α → Key → Option α
  | k :: ks, v :: vs, q => if k = q then some v else dval ks vs q
  | _, _, _ => none
theorem valV_zip : ∀ {ks : List Key} {vs : List V} {q : Key}, valV (ks.zip vs) q = dval ks vs q
  | [], _, _ => rfl
  | _ :: _, [], _ => rfl
  | k :: ks, v :: vs, q => by
    show valV ((k, v) :: ks.zip vs) q = if k = q then some v else dval ks vs q
    by_cases h : k = q
    · rw [valV_pos (by exact h), if_pos h]
    · rw [valV_neg (by exact h), if_neg h, valV_zip]
theorem dval_rp {K : PySem.W.Frag} {F : Hp} : ∀ {ks : List Key} {vs : List V} {ds : List D} {q : Key}, RpL K F vs ds → (∀ d, dval ks ds q = some d → ∃ v, dval ks vs q = some v ∧ Rp K F v d) ∧ (dval ks ds q = none → dval ks vs q = none)
  | [], _, _, _, _ => ⟨fun d e => (nomatch (show none = some d from e)), fun _ => rfl⟩
  | _ :: _, [], _, _, h => by
    cases h
    exact ⟨fun d e => (nomatch (show none = some d from e)), fun _ => rfl⟩
  | k :: ks, v :: vs, _, q, h => by
    cases h with
    | @cons _ _ d0 ds h1 h2 =>
      obtain ⟨a, b⟩ := dval_rp (ks := ks) (q := q) h2
      by_cases e : k = q
      · subst e
        refine ⟨fun d z => ?_, fun z => ?_⟩
        · rw [dval, if_pos rfl] at z
          cases z
          exact ⟨v, by rw [dval, if_pos rfl], h1⟩
        · rw [dval, if_pos rfl] at z
          cases z
      · refine ⟨fun d z => ?_, fun z => ?_⟩
        · rw [dval, if_neg e] at z
          obtain ⟨w, z1, z2⟩ := a d z
          exact ⟨w, by rw [dval, if_neg e]; exact z1, z2⟩
        · rw [dval, if_neg e] at z
          rw [dval, if_neg e]
          exact b z
def keyD : D → Option Key
  | .int i => some (.inl i)
  | .str s => some (.inr s)
  | _ => none
theorem keyD_rp {K : PySem.W.Frag} {F : Hp} {v : V} {d : D} {k : Key} (h : Rp K F v d) (e : keyD d = some k) : v = kV k := by
  cases h <;> cases e <;> rfl
def dixR : D → D → Rs D
  | .dk ks vs, d => (match keyD d with
    | some k => (match dval ks vs k with
      | some v => .ok v
      | none => .bad)
    | none => .bad)
  | _, _ => .bad
abbrev rDGet : R2 := fun x y H Q => ∃ a v, x = .ref a ∧ DGet H a y (some v) ∧ Q v H
section
variable {K : PySem.W.Frag}
theorem od_dixS : OpD rDGet (rS K) (rP K) (rC K) dixR where
  run := fun {Hs Ht F H x y dx dy Q} s r1 r2 w => by
    unfold dixR at w
    split at w
    · rename_i ks vs d
      split at w
      · rename_i k ek
        split at w
        · rename_i v ev
          have ey := keyD_rp r2 ek
          subst ey
          cases r1 with
          | «at» r1 =>
            cases r1 with
            | @dk a _ us _ h1 h2 h3 =>
              obtain ⟨u, e1, e2⟩ := (dval_rp h3).1 v ev
              exact ⟨a, u, rfl, .inl ⟨_, k, s.rd h1, rfl, by rw [valV_zip, e1]⟩, w _ F H (.refl s) e2⟩
          | @dk a _ us _ h1 h2 h3 =>
            obtain ⟨u, e1, e2⟩ := (dval_rp h3).1 v ev
            exact ⟨a, u, rfl, .inl ⟨_, k, h1, rfl, by rw [valV_zip, e1]⟩, w _ F H (.refl s) e2⟩
        · exact w.elim
      · exact w.elim
    · exact w.elim
  nx := fun x y c l e => by
    unfold dixR at e
    split at e
    · split at e
      · split at e <;> cases e
      · cases e
    · cases e
/-- from shared parts to what is seen -/
theorem OpD.view {r : R2} {R2' : K3 D} {f : D → D → Rs D} (h : OpD r (rS K) R2' (rC K) f) (n : ∀ {Hs Ht F G H : Hp} {v : V} {d : D}, R2' Hs F H v d → R2' Ht G H v d) : OpD r (rP K) R2' (rP K) f where
  run := fun {Hs Ht F H x y dx dy Q} s r1 r2 w => by
    refine h.run (Hs := Hs) (Ht := Ht) (F := H) (H := H) Sub.refl (show rS K Hs H H x dx from .at r1) (n r2) ?_
    cases q : f dx dy with
    | ok c =>
      rw [q] at w
      exact fun v F' H' x2 r3 => w v F H' ⟨x2.hh, fun _ _ e => e, s.same x2.hh, fun _ _ e => e⟩ (Rp.sub x2.sub r3)
    | exn c l => rw [q] at w; exact w.elim
    | bad => rw [q] at w; exact w.elim
  nx := h.nx
theorem od_dixP : OpD rDGet (rP K) (rP K) (rP K) dixR := od_dixS.view fun h => h
def ixA : D → D → Rs D
  | .dk ks vs, d => dixR (.dk ks vs) d
  | x, d => ixR x d
def isDk : D → Bool
  | .dk _ _ => true
  | _ => false
theorem ixA_or (x : Rs D) (y : Rs D) : (x.bind fun a => y.bind (ixA a)) = (x.bind fun a => y.bind (ixR a)) ∨ (x.bind fun a => y.bind (ixA a)) = (x.bind fun a => y.bind (dixR a)) := by
  cases x with
  | ok a => cases a <;> first | exact .inr rfl | exact .inl rfl
  | exn c l => exact .inl rfl
  | bad => exact .inl rfl
end
section
variable {X : Cx} {W : WX} {a b : Expr} {ga gb : Env → Rs D} {pos : Pos}
/-- a[b]: a list, a tuple, a text, a dict -/
theorem jix (hu : X.A.units + 1 < cLine) (ha : DJ X W (rS X.K) a ga) (hb : DJ X W (rP X.K) b gb) (hs : PlainIx b := by exact fun _ _ => rfl) : DJ X W (rC X.K) (.Subscript a b pos) fun ρ => (ga ρ).bind fun x => (gb ρ).bind (ixA x) :=
  DJ.or (jop2 (fun _ _ pa pb => pe_ix ix_seq pa pb hs) od_ixS kS kC ha hb) (jop2 (fun _ _ pa pb => pe_dget hu pa pb hs) od_dixS kS kC ha hb) fun ρ => ixA_or _ _
theorem jixP (hu : X.A.units + 1 < cLine) (ha : DJ X W (rP X.K) a ga) (hb : DJ X W (rP X.K) b gb) (hs : PlainIx b := by exact fun _ _ => rfl) : DJ X W (rP X.K) (.Subscript a b pos) fun ρ => (ga ρ).bind fun x => (gb ρ).bind (ixA x) :=
  DJ.or (jop2 (fun _ _ pa pb => pe_ix ix_seq pa pb hs) od_ixP kP kP ha hb) (jop2 (fun _ _ pa pb => pe_dget hu pa pb hs) od_dixP kP kP ha hb) fun ρ => ixA_or _ _
end

/-! ### in -/
def hasK (ks : List Key) (q : Key) : Bool := ks.any fun k => decide (k = q)
def dinR : D → D → Rs Bool
  | d, .dk ks _ => (match keyD d with
    | some k => .ok (hasK ks k)
    | none => .bad)
  | _, _ => .bad
theorem dval_none {α : Type} : ∀ {ks : List Key} {vs : List α} {q : Key}, ks.length = vs.length → (dval ks vs q).isSome = hasK ks q
  | [], [], _, _ => by simp [dval, hasK]
  | k :: ks, v :: vs, q, h => by
    by_cases e : k = q
    · subst e
      simp [dval, hasK]
    · rw [dval, if_neg e, dval_none (by simpa using h)]
      simp [hasK, e]
def inA (x y : D) : Rs Bool := match y with
  | .dk ks vs => dinR x (.dk ks vs)
  | y => inR x y
section
variable {K : PySem.W.Frag}
theorem od_din (neg : Bool) : OpD (fun y x H Q => ∃ a o, x = .ref a ∧ DGet H a y o ∧ Q (.bl (if neg then !o.isSome else o.isSome)) H) (rP K) (rP K) (rC K) (fun x y => (dinR x y).bind fun b => .ok (.bl (if neg then !b else b))) where
  run := fun {Hs Ht F H x y dx dy Q} s r1 r2 w => by
    unfold dinR at w
    split at w
    · rename_i d ks vs
      split at w
      · rename_i k ek
        have ex := keyD_rp r1 ek
        subst ex
        cases r2 with
        | @dk a _ us _ h1 h2 h3 =>
          refine ⟨a, _, rfl, .inl ⟨_, k, h1, rfl, rfl⟩, ?_⟩
          rw [valV_zip, dval_none h2]
          exact w _ F H (.refl s) (.bl _)
      · exact w.elim
    · exact w.elim
  nx := fun x y c l e => by
    cases q : dinR x y with
    | ok b => rw [q] at e; cases e
    | bad => rw [q] at e; cases e
    | exn c' l' =>
      unfold dinR at q
      split at q
      · split at q <;> cases q
      · cases q
end
theorem inA_or (neg : Bool) (x y : Rs D) : (x.bind fun a => y.bind fun b => (inA a b).bind fun c => Rs.ok (D.bl (if neg then !c else c))) = (x.bind fun a => y.bind fun b => (inR a b).bind fun c => Rs.ok (D.bl (if neg then !c else c))) ∨
    (x.bind fun a => y.bind fun b => (inA a b).bind fun c => Rs.ok (D.bl (if neg then !c else c))) = (x.bind fun a => y.bind fun b => (dinR a b).bind fun c => Rs.ok (D.bl (if neg then !c else c))) := by
  cases x with
  | ok a =>
    cases y with
    | ok b => cases b <;> first | exact .inr rfl | exact .inl rfl
    | exn c l => exact .inl rfl
    | bad => exact .inl rfl
  | exn c l => exact .inl rfl
  | bad => exact .inl rfl
section
variable {X : Cx} {W : WX} {a b : Expr} {ga gb : Env → Rs D} {pos : Pos}
theorem OpR.imp {X : Cx} {f : Value → Value → Sem Value} {r r' : R2} (h : OpR X f r) (c : ∀ x y H Q, r' x y H Q → r x y H Q) : OpR X f r' :=
  fun pins s σ H x y v u Q I rx ry q => h pins s σ H x y v u Q I rx ry (c _ _ _ _ q)
theorem opr_in (hu : X.A.units + 65 < cLine) : OpR X (compareOp .In) (rInV X.K false) :=
  (op_inD hu).or (op_in_seq.or op_in_sign)
theorem opr_notIn (hu : X.A.units + 65 < cLine) : OpR X (compareOp .NotIn) (rInV X.K true) :=
  (op_notInD hu).or (op_notIn_seq.or op_notIn_sign)
theorem jin (hu : X.A.units + 65 < cLine) (ha : DJ X W (rP X.K) a ga) (hb : DJ X W (rP X.K) b gb) (hm : behindInMarks .In b = false := by rfl) : DJ X W (rC X.K) (.Compare a [.In] [b] pos) fun ρ => (ga ρ).bind fun x => (gb ρ).bind fun y => (inA x y).bind fun c => .ok (.bl (if false then !c else c)) :=
  DJ.or (jop2 (fun _ _ pa pb => pe_cmpR (opr_in hu) pa pb hm) (od_in false) kP kC ha hb) (jop2 (fun _ _ pa pb => pe_cmp (pc_din (by omega) pa pb) hm) (od_din false) kP kC ha hb) fun ρ => inA_or false _ _
theorem jnotin (hu : X.A.units + 65 < cLine) (ha : DJ X W (rP X.K) a ga) (hb : DJ X W (rP X.K) b gb) (hm : behindInMarks .NotIn b = false := by rfl) : DJ X W (rC X.K) (.Compare a [.NotIn] [b] pos) fun ρ => (ga ρ).bind fun x => (gb ρ).bind fun y => (inA x y).bind fun c => .ok (.bl (if true then !c else c)) :=
  DJ.or (jop2 (fun _ _ pa pb => pe_cmpR (opr_notIn hu) pa pb hm) (od_in true) kP kC ha hb) (jop2 (fun _ _ pa pb => pe_cmp (pc_dnotin (by omega) pa pb) hm) (od_din true) kP kC ha hb) fun ρ => inA_or true _ _
/-! ### operators, applied -/
theorem jadd (ha : DJ X W (rP X.K) a ga) (hb : DJ X W (rP X.K) b gb) : DJ X W (rC X.K) (.BinOp a .Add b pos) fun ρ => (ga ρ).bind fun x => (gb ρ).bind fun y => addR x y :=
  jop2 (fun _ _ pa pb => pe_op (OpR.or op_add op_add_str) pa pb) od_add kP kC ha hb
def subR : D → D → Rs D := int2 fun i j => .int (i - j)
theorem jsub (ha : DJ X W (rP X.K) a ga) (hb : DJ X W (rP X.K) b gb) : DJ X W (rC X.K) (.BinOp a .Sub b pos) fun ρ => (ga ρ).bind fun x => (gb ρ).bind fun y => subR x y :=
  jop2 (fun _ _ pa pb => pe_op op_sub pa pb) (od_int _ _ fun _ _ _ => .int _) kP kC ha hb
instance (i j : Int) : Decidable (CMulW i j) := by unfold CMulW; infer_instance
instance (i j : Int) : Decidable (CDivW i j) := by unfold CDivW; infer_instance
def mulR : D → D → Rs D := intC CMulW fun i j => .int (i * j)
theorem jmul (ha : DJ X W (rP X.K) a ga) (hb : DJ X W (rP X.K) b gb) : DJ X W (rC X.K) (.BinOp a .Mult b pos) fun ρ => (ga ρ).bind fun x => (gb ρ).bind fun y => mulR x y :=
  jop2 (fun _ _ pa pb => pe_op op_mulW pa pb) (od_intC _ _ _ fun _ _ _ => .int _) kP kC ha hb
def modR : D → D → Rs D := intC (fun _ j => 0 < j) fun i j => .int (i % j)
theorem jmod (ha : DJ X W (rP X.K) a ga) (hb : DJ X W (rP X.K) b gb) : DJ X W (rC X.K) (.BinOp a .Mod b pos) fun ρ => (ga ρ).bind fun x => (gb ρ).bind fun y => modR x y :=
  jop2 (fun _ _ pa pb => pe_op op_mod pa pb) (od_intC _ _ _ fun _ _ _ => .int _) kP kC ha hb
def fdivR : D → D → Rs D := intC CDivW fun i j => .int (i / j)
theorem jfdiv (ha : DJ X W (rP X.K) a ga) (hb : DJ X W (rP X.K) b gb) : DJ X W (rC X.K) (.BinOp a .FloorDiv b pos) fun ρ => (ga ρ).bind fun x => (gb ρ).bind fun y => fdivR x y :=
  jop2 (fun _ _ pa pb => pe_op op_fdivW pa pb) (od_intC _ _ _ fun _ _ _ => .int _) kP kC ha hb
theorem jeq (hu : X.A.units + 64 < cLine) (ha : DJ X W (rP X.K) a ga) (hb : DJ X W (rP X.K) b gb) : DJ X W (rC X.K) (.Compare a [.Eq] [b] pos) fun ρ => (ga ρ).bind fun x => (gb ρ).bind fun y => eqR x y :=
  jop2 (fun _ _ pa pb => pe_cmpR (op_eqD hu) pa pb (nomark _)) od_eq kP kC ha hb
theorem jne (hu : X.A.units + 64 < cLine) (ha : DJ X W (rP X.K) a ga) (hb : DJ X W (rP X.K) b gb) : DJ X W (rC X.K) (.Compare a [.NotEq] [b] pos) fun ρ => (ga ρ).bind fun x => (gb ρ).bind fun y => neR x y :=
  jop2 (fun _ _ pa pb => pe_cmpR (op_neD hu) pa pb (nomark _)) od_ne kP kC ha hb
def ltR : D → D → Rs D := ordR (fun i j => decide (i < j)) fun i j => decide (i < j)
def leR : D → D → Rs D := ordR (fun i j => decide (i ≤ j)) fun i j => !decide (j < i)
def gtR : D → D → Rs D := ordR (fun i j => decide (j < i)) fun i j => decide (j < i)
def geR : D → D → Rs D := ordR (fun i j => decide (j ≤ i)) fun i j => !decide (i < j)
theorem jlt (ha : DJ X W (rP X.K) a ga) (hb : DJ X W (rP X.K) b gb) : DJ X W (rC X.K) (.Compare a [.Lt] [b] pos) fun ρ => (ga ρ).bind fun x => (gb ρ).bind fun y => ltR x y :=
  jop2 (fun _ _ pa pb => pe_cmpR (OpR.or op_lt op_lt_str) pa pb (nomark _)) (od_ord (fun i j => decide (i < j)) fun i j => decide (i < j)) kP kC ha hb
theorem jle (ha : DJ X W (rP X.K) a ga) (hb : DJ X W (rP X.K) b gb) : DJ X W (rC X.K) (.Compare a [.LtE] [b] pos) fun ρ => (ga ρ).bind fun x => (gb ρ).bind fun y => leR x y :=
  jop2 (fun _ _ pa pb => pe_cmpR (OpR.or op_le op_le_str) pa pb (nomark _)) (od_ord (fun i j => decide (i ≤ j)) fun i j => !decide (j < i)) kP kC ha hb
theorem jgt (ha : DJ X W (rP X.K) a ga) (hb : DJ X W (rP X.K) b gb) : DJ X W (rC X.K) (.Compare a [.Gt] [b] pos) fun ρ => (ga ρ).bind fun x => (gb ρ).bind fun y => gtR x y :=
  jop2 (fun _ _ pa pb => pe_cmpR (OpR.or op_gt op_gt_str) pa pb (nomark _)) (od_ord (fun i j => decide (j < i)) fun i j => decide (j < i)) kP kC ha hb
theorem jge (ha : DJ X W (rP X.K) a ga) (hb : DJ X W (rP X.K) b gb) : DJ X W (rC X.K) (.Compare a [.GtE] [b] pos) fun ρ => (ga ρ).bind fun x => (gb ρ).bind fun y => geR x y :=
  jop2 (fun _ _ pa pb => pe_cmpR (OpR.or op_ge op_ge_str) pa pb (nomark _)) (od_ord (fun i j => decide (j ≤ i)) fun i j => !decide (i < j)) kP kC ha hb
theorem jisN (ha : DJ X W (rP X.K) a ga) (hb : DJ X W (rP X.K) b gb) : DJ X W (rC X.K) (.Compare a [.Is] [b] pos) fun ρ => (ga ρ).bind fun x => (gb ρ).bind fun y => isNR x y :=
  jop2 (fun _ _ pa pb => pe_cmpR op_isN pa pb (nomark _)) od_isN kP kC ha hb
theorem jnotN (ha : DJ X W (rP X.K) a ga) (hb : DJ X W (rP X.K) b gb) : DJ X W (rC X.K) (.Compare a [.IsNot] [b] pos) fun ρ => (ga ρ).bind fun x => (gb ρ).bind fun y => notNR x y :=
  jop2 (fun _ _ pa pb => pe_cmpR op_notN pa pb (nomark _)) od_notN kP kC ha hb
def negR : D → Rs D
  | .int i => .ok (.int (-i))
  | _ => .bad
theorem ud_neg {K : PySem.W.Frag} : UnD (rU fun i => .int (-i)) (rP K) (rC K) negR where
  run := fun {Hs F H x dx Q} s r1 w => by
    unfold negR at w
    split at w
    · cases r1
      exact ⟨_, rfl, w _ F H (.refl s) (.int _)⟩
    · exact w.elim
  nx := fun x c l e => by unfold negR at e; split at e <;> cases e
theorem jneg (ha : DJ X W (rP X.K) a ga) : DJ X W (rC X.K) (.UnaryOp .USub a pos) fun ρ => (ga ρ).bind negR :=
  jop1 (fun _ pa => pe_un un_neg pa) ud_neg kC ha
end
end Dn

/-! Dn4: builtins, slices, fields, tests, displays. -/
namespace Dn
open PySem PySem.Spec L2

/-! ### len -/
def lenR : D → Rs D
  | .str s => .ok (.int s.length)
  | .lst ds => .ok (.int ds.length)
  | .tup ds => .ok (.int ds.length)
  | .scr ns => .ok (.int ns.length)
  | .dk ks _ => .ok (.int ks.length)
  | _ => .bad
theorem call_lenRd {X : Cx} : CallR X (.builtin "len") (fun xs H Q => ∃ a kvs, xs = [V.ref a] ∧ Rd H a (.dK kvs) ∧ Q (.int kvs.length) H) := by
  intro pins s σ H xs us Q I r h
  obtain ⟨a, kvs, rfl, ha, q⟩ := h
  cases r with
  | cons ru rn =>
    cases rn
    cases ru
    exact d_len I ha fun t s' I' => ⟨.int kvs.length, H, I', ⟨t, rfl⟩, q⟩
abbrev rLenA (K : PySem.W.Frag) : List V → Hp → VK → Prop := fun xs H Q => (∃ x n, xs = [x] ∧ LenV K x H n ∧ Q (.int n) H) ∨ ∃ a kvs, xs = [V.ref a] ∧ Rd H a (.dK kvs) ∧ Q (.int kvs.length) H
section
variable {K : PySem.W.Frag}
theorem ud_len : UnD (fun x H Q => rLenA K [x] H Q) (rP K) (rC K) lenR where
  run := fun {Hs F H x dx Q} s r1 w => by
    unfold lenR at w
    split at w
    · cases r1 with
      | str z h => exact .inl ⟨_, _, rfl, ⟨sOk_len h, rfl⟩, w _ F H (.refl s) (.int _)⟩
    · cases r1 with
      | @lst a vs ds h1 h2 => exact .inl ⟨_, _, rfl, .inl ⟨vs, .inl (.inl h1), h2.length.symm⟩, w _ F H (.refl s) (.int _)⟩
    · cases r1 with
      | @tup a vs ds h1 h2 => exact .inl ⟨_, _, rfl, .inr ⟨vs, h1, h2.length.symm⟩, w _ F H (.refl s) (.int _)⟩
    · cases r1 with
      | @scr a ns h1 => exact .inl ⟨_, _, rfl, .inl ⟨_, h1, by rw [List.length_map]⟩, w _ F H (.refl s) (.int _)⟩
    · cases r1 with
      | @dk a ks vs ds h1 h2 h3 =>
        refine .inr ⟨a, _, rfl, h1, ?_⟩
        rw [List.length_zip, ← h2, Nat.min_self]
        exact w _ F H (.refl s) (.int _)
    · exact w.elim
  nx := fun x c l e => by unfold lenR at e; split at e <;> cases e
/-! ### slices -/
def cut {α : Type} (xs : List α) (lo hi : Option Int) : List α := (xs.drop (HT.sIx xs.length 0 lo)).take (HT.sIx xs.length xs.length hi - HT.sIx xs.length 0 lo)
theorem cut_len {α β : Type} {xs : List α} {ys : List β} (h : xs.length = ys.length) (lo hi : Option Int) : HT.sIx xs.length 0 lo = HT.sIx ys.length 0 lo ∧ HT.sIx xs.length xs.length hi = HT.sIx ys.length ys.length hi := by rw [h]; exact ⟨rfl, rfl⟩
theorem RpL.cut {F : Hp} {vs : List V} {ds : List D} (h : RpL K F vs ds) (lo hi : Option Int) : RpL K F (cutV vs lo hi) (cut ds lo hi) := by
  unfold cutV Dn.cut
  rw [h.length]
  exact (h.drop _).take _
theorem own_shs {F H : Hp} : ∀ {vs : List V} {ds : List D}, RpL K F vs ds → OwnL K F H vs (ds.map T.sh) []
  | [], _, h => by cases h; exact .nil
  | _ :: _, _, h => by
    cases h with
    | cons h1 h2 =>
      have o := OwnL.cons (f := []) (Own.sh (H := H) h1) (own_shs (H := H) h2)
      exact o
/-- a new list of shared things -/
theorem new_lst {F H : Hp} (s : Sub F H) {p : Addr} (hp : H p = none) {vs : List V} {ds : List D} (h : RpL K F vs ds) : Ext F H F (upd H p (.lst vs)) ∧ rO K H F (upd H p (.lst vs)) (.ref p) (.lst (ds.map T.sh)) :=
  ⟨.add s hp, ⟨[p], .lst upd_same (s.none hp) (own_shs h), by simp, fun a ha => by rw [List.mem_singleton] at ha; rw [ha]; exact hp⟩⟩
/-- a new shared tuple -/
theorem new_tup {F H : Hp} (s : Sub F H) {p : Addr} (hp : H p = none) {vs : List V} {ds : List D} (h : RpL K F vs ds) : Ext F H (upd F p (.tup vs)) (upd H p (.tup vs)) ∧ Rp K (upd F p (.tup vs)) (.ref p) (.tup ds) :=
  have x := Ext.addS s hp (o := .tup vs)
  ⟨x, .tup (.inl (.inl upd_same)) (h.same x.ff)⟩
def slR (x : D) (lo hi : Option Int) : Rs T := match x with
  | .lst ds => .ok (.lst ((cut ds lo hi).map T.sh))
  | .tup ds => if HT.sIx ds.length 0 lo = 0 ∧ HT.sIx ds.length ds.length hi = ds.length then .bad else .ok (.sh (.tup (cut ds lo hi)))
  | .str z => .ok (.sh (.str (cutS z lo hi)))
  | _ => .bad
abbrev rSlA (K : PySem.W.Frag) : V → Option Int → Option Int → Hp → VK → Prop := fun x lo hi H Q => rSlL K x lo hi H Q ∨ rSlT K x lo hi H Q ∨ rSlS x lo hi H Q
theorem sOk_cut {z : Str} (h : sOk z = true) (lo hi : Option Int) : sOk (cutS z lo hi) = true := by
  unfold sOk
  rw [Bool.and_eq_true]
  refine ⟨decide_eq_true ?_, ?_⟩
  · have h1 := cutS_length z lo hi
    have h2 : z.length ≤ 16777216 := of_decide_eq_true (Bool.and_eq_true_iff.mp h).1
    omega
  · have h1 := sOk_ok h
    unfold PyData.strOk at h1 ⊢
    rw [Array.all_eq_true_iff_forall_mem] at h1 ⊢
    intro c hc
    refine h1 c ?_
    have hc' : c ∈ ((z.cps.toList.drop (HT.sIx z.length 0 lo)).take (HT.sIx z.length z.length hi - HT.sIx z.length 0 lo)).toArray := hc
    rw [List.mem_toArray] at hc'
    have := List.mem_of_mem_drop (List.mem_of_mem_take hc')
    simpa using this
theorem sl_run {Hs F H : Hp} {x : V} {d : D} {lo hi : Option Int} {Q : VK} (s : Sub F H) (r : rS K Hs F H x d) (w : Wp0 (slR d lo hi) fun c => ∀ v F' H', Ext F H F' H' → rO K H F' H' v c → Q v H') : rSlA K x lo hi H Q := by
  unfold slR at w
  split at w
  · rename_i ds
    have key : ∃ a vs, x = .ref a ∧ H a = some (.lst vs) ∧ RpL K F vs ds := by
      cases r with
      | «at» r => cases r with | lst h1 h2 => exact ⟨_, _, rfl, s.lst h1, h2⟩
      | lst h1 h2 => exact ⟨_, _, rfl, h1, h2⟩
    obtain ⟨a, vs, rfl, h1, h2⟩ := key
    refine .inl ⟨a, vs, rfl, .inl (.inl h1), fun p hp => ?_⟩
    obtain ⟨e, o⟩ := new_lst s hp (h2.cut lo hi)
    exact w _ _ _ e o
  · rename_i ds
    by_cases c : HT.sIx ds.length 0 lo = 0 ∧ HT.sIx ds.length ds.length hi = ds.length
    · rw [if_pos c] at w
      exact w.elim
    · rw [if_neg c] at w
      cases r with
      | «at» r =>
        cases r with
        | @tup a vs _ h1 h2 =>
          refine .inr (.inl ⟨a, vs, rfl, s.sqT h1, ?_, fun p hp => ?_⟩)
          · rw [h2.length]
            exact c
          · obtain ⟨e, o⟩ := new_tup s hp (h2.cut lo hi)
            exact w _ _ _ e ⟨[], .sh o, .nil, fun _ ha => by cases ha⟩
  · rename_i z
    cases r with
    | «at» r =>
      cases r with
      | str _ h => exact .inr (.inr ⟨z, rfl, sOk_len h, w _ F H (.refl s) ⟨[], .sh (.str _ (sOk_cut h lo hi)), .nil, fun _ ha => by cases ha⟩⟩)
  · exact w.elim
theorem slR_nx (d : D) (lo hi : Option Int) (c : Str) (l : Option Int) : slR d lo hi ≠ .exn c l := fun e => by
  unfold slR at e
  split at e <;> first | (split at e <;> cases e) | cases e
end
/-- a slice's part -/
structure DPo (X : Cx) (W : WX) (e : Option Expr) (g : Env → Rs (Option Int)) : Prop where
  ex : ∃ t : TO, PO X e t ∧ ∀ F σ ρ H (Q : Option Int → Hp → Prop), EnvI X.K F σ ρ H → (Wp X.K W F H σ (g ρ) fun b => ∀ F' H', Ext F H F' H' → Q b H') → t σ H Q
section
variable {X : Cx} {W : WX}
theorem jpo_none : DPo X W none fun _ => .ok none := ⟨_, po_none, fun F σ ρ H Q I w => w F H (.refl I.1)⟩
def intR : D → Rs (Option Int)
  | .int i => .ok (some i)
  | _ => .bad
theorem jpo_some {e : Expr} {g : Env → Rs D} (h : DJ X W (rP X.K) e g) : DPo X W (some e) fun ρ => (g ρ).bind intR := by
  obtain ⟨t, p, q⟩ := h.ex
  refine ⟨_, po_some p, fun F σ ρ H Q I w => q F σ ρ H _ I (Wp.mono w.bind fun d w v F1 H1 x1 r1 => ?_)⟩
  unfold intR at w
  split at w
  · cases r1
    exact ⟨_, rfl, w _ _ x1⟩
  · exact w.elim
theorem jsl {e : Expr} {lo hi : Option Expr} {p2 pos : Pos} {g : Env → Rs D} {gl gh : Env → Rs (Option Int)} (h : DJ X W (rS X.K) e g) (hl : DPo X W lo gl) (hh : DPo X W hi gh) :
    DJ X W (rO X.K) (.Subscript e (.Slice lo hi none p2) pos) fun ρ => (g ρ).bind fun x => (gl ρ).bind fun l => (gh ρ).bind fun u => slR x l u := by
  obtain ⟨t, p, q⟩ := h.ex
  obtain ⟨tl, pl, ql⟩ := hl.ex
  obtain ⟨th, ph, qh⟩ := hh.ex
  refine ⟨_, pe_slice (SlR.or sl_list (SlR.or sl_tup sl_str)) p pl ph, fun F σ ρ H Q I w => ?_⟩
  refine q F σ ρ H _ I (Wp.mono w.bind fun d w v F1 H1 x1 r1 => ?_)
  refine ql F1 σ ρ H1 _ (I.ext x1) (Wp.mono (Wp.ext x1 w.bind) fun l w F2 H2 x2 => ?_)
  refine qh F2 σ ρ H2 _ (I.ext (x1.trans x2)) (Wp.mono (Wp.ext (x1.trans x2) w.bind) fun u w F3 H3 x3 => ?_)
  refine sl_run (Hs := H3) x3.sub (kS.stb (x2.trans x3) r1) ?_
  have w' := Wp.of0 (slR_nx d l u) w
  cases e : slR d l u with
  | ok c =>
    rw [e] at w'
    exact fun z F' H' x4 r4 => w' z F' H' (((x1.trans x2).trans x3).trans x4) (kO.anti (same_trans (same_trans x1.hh x2.hh) x3.hh) r4)
  | exn c l => rw [e] at w'; exact w'.elim
  | bad => rw [e] at w'; exact w'.elim
end

/-! ### fields -/
def lookN : List Str → List D → Str → Option D
  | n :: ns, d :: ds, f => if f = n then some d else lookN ns ds f
  | _, _, _ => none
theorem lookN_rp {K : PySem.W.Frag} {F : Hp} {f : Str} : ∀ {ns : List Str} {vs : List V} {ds : List D}, RpL K F vs ds → ∀ d, lookN ns ds f = some d → ∃ v, List.lookup f (ns.zip vs) = some v ∧ Rp K F v d
  | [], _, _, _, d, e => (nomatch (show none = some d from e))
  | _ :: _, [], _, h, d, e => by
    cases h
    exact (nomatch (show none = some d from e))
  | n :: ns, v :: vs, _, h, d, e => by
    cases h with
    | @cons _ _ d0 ds h1 h2 =>
      by_cases z : f = n
      · subst z
        rw [lookN, if_pos rfl] at e
        cases e
        exact ⟨v, by simp [List.lookup], h1⟩
      · rw [lookN, if_neg z] at e
        obtain ⟨u, e1, e2⟩ := lookN_rp h2 d e
        refine ⟨u, ?_, e2⟩
        have zb : (f == n) = false := by simpa using z
        simp [List.lookup, zb, e1]
def fldR (c f : Str) : D → Rs D
  | .obj c' ns ds => if c' = c then (match lookN ns ds f with
    | some d => .ok d
    | none => .bad) else .bad
  | _ => .bad
abbrev rFld (K : PySem.W.Frag) (f : Str) : V → Hp → VK → Prop := fun x H1 Q => ∃ a C dx fs v, x = .ref a ∧ H1 a = some (.ins C dx fs) ∧ Cls K C ∧ NoAttr K C f ∧ fs.lookup f = some v ∧ Q v H1
theorem ud_fld {K : PySem.W.Frag} {c f : Str} (hc : Cls K (He.ga K c)) (hn : NoAttr K (He.ga K c) f) : UnD (rFld K f) (rS K) (rC K) (fldR c f) where
  run := fun {Hs F H x dx Q} s r1 w => by
    unfold fldR at w
    split at w
    · rename_i c' ns ds
      by_cases z : c' = c
      · subst z
        rw [if_pos rfl] at w
        have key : ∃ a dx vs, x = .ref a ∧ H a = some (.ins (He.ga K c') dx (ns.zip vs)) ∧ RpL K F vs ds := by
          cases r1 with
          | «at» r =>
            cases r with
            | obj h1 h2 h3 =>
              rcases s _ _ h1 with h | ⟨hd, _⟩
              · exact ⟨_, _, _, rfl, h, h3⟩
              · cases hd
          | obj h1 h2 h3 => exact ⟨_, _, _, rfl, h1, h3⟩
        obtain ⟨a, dx, vs, rfl, h1, h3⟩ := key
        split at w
        · rename_i d e
          obtain ⟨v, e1, e2⟩ := lookN_rp h3 d e
          exact ⟨a, _, dx, _, v, rfl, h1, hc, hn, e1, w _ F H (.refl s) e2⟩
        · exact w.elim
      · rw [if_neg z] at w
        exact w.elim
    · exact w.elim
  nx := fun x c' l e => by
    unfold fldR at e
    split at e
    · split at e
      · split at e <;> cases e
      · cases e
    · cases e
theorem UnD.view {K : PySem.W.Frag} {r : V → Hp → VK → Prop} {f : D → Rs D} (h : UnD r (rS K) (rC K) f) : UnD r (rP K) (rP K) f where
  run := fun {Hs F H x dx Q} s r1 w => by
    refine h.run (Hs := Hs) (F := H) (H := H) Sub.refl (show rS K Hs H H x dx from .at r1) ?_
    cases q : f dx with
    | ok c =>
      rw [q] at w
      exact fun v F' H' x2 r3 => w v F H' ⟨x2.hh, fun _ _ e => e, s.same x2.hh, fun _ _ e => e⟩ (Rp.sub x2.sub r3)
    | exn c l => rw [q] at w; exact w.elim
    | bad => rw [q] at w; exact w.elim
  nx := h.nx
section
variable {X : Cx} {W : WX} {a b : Expr} {ga gb : Env → Rs D} {pos : Pos}
theorem jfld {f : Str} (c : Str) (hc : Cls X.K (He.ga X.K c)) (hn : NoAttr X.K (He.ga X.K c) f) (ha : DJ X W (rS X.K) a ga) (hb : attributeBase a f X.env (eval a X.env) = eval a X.env := by rfl) : DJ X W (rC X.K) (.Attribute a f pos) fun ρ => (ga ρ).bind (fldR c f) :=
  jop1 (fun _ pa => pe_fld pa hb) (ud_fld hc hn) kC ha
theorem jfldP {f : Str} (c : Str) (hc : Cls X.K (He.ga X.K c)) (hn : NoAttr X.K (He.ga X.K c) f) (ha : DJ X W (rP X.K) a ga) (hb : attributeBase a f X.env (eval a X.env) = eval a X.env := by rfl) : DJ X W (rP X.K) (.Attribute a f pos) fun ρ => (ga ρ).bind (fldR c f) :=
  jop1 (fun _ pa => pe_fld pa hb) (ud_fld hc hn).view kP ha

/-! ### truth -/
def truR : D → Rs Bool
  | .non => .ok false
  | .bl b => .ok b
  | .int i => .ok (i != 0)
  | .str s => .ok ((s.length : Int) != 0)
  | .lst ds => .ok (!ds.isEmpty)
  | .tup ds => .ok (!ds.isEmpty)
  | .scr ns => .ok (!ns.isEmpty)
  | .dk ks _ => .ok (!ks.isEmpty)
  | _ => .bad
theorem RpL.empty {K : PySem.W.Frag} {H : Hp} {vs : List V} {ds : List D} (h : RpL K H vs ds) : ds.isEmpty = vs.isEmpty := by
  cases h <;> rfl
theorem truthy_rd {X : Cx} {pins : List (Addr × Obj)} {s : Shared} {σ : St} {H : Hp} {a : Addr} {kvs : List (Key × V)} {Q : Bool → Hp → Prop} (I : Inv X pins σ H s) (h : Rd H a (.dK kvs)) (q : Q (!kvs.isEmpty) H) : wpAny (model X.prog X.w) X.A (truthy (.ref a)) (TP X pins σ Q) X.xe s :=
  d_truth I h fun s' I' => ⟨H, I', q⟩
theorem tru_run {X : Cx} {pins : List (Addr × Obj)} {s : Shared} {σ : St} {F H : Hp} {x : V} {v : Value} {d : D} {Q : Bool → Hp → Prop} (I : Inv X pins σ H s) (rv : RelV x v) (r : Rp X.K H x d) (w : Wp0 (truR d) fun b => Q b H) : wpAny (model X.prog X.w) X.A (truthy v) (TP X pins σ Q) X.xe s := by
  unfold truR at w
  cases r with
  | non => exact tru_ok pins s σ H _ v Q I rv ⟨_, rfl, w⟩
  | bl b => exact tru_ok pins s σ H _ v Q I rv ⟨_, rfl, w⟩
  | int i => exact tru_ok pins s σ H _ v Q I rv ⟨_, rfl, w⟩
  | str z h => exact tru_ok pins s σ H _ v Q I rv ⟨_, ⟨sOk_len h, rfl⟩, w⟩
  | @lst a vs ds h1 h2 => exact tru_ok pins s σ H _ v Q I rv ⟨_, .inl ⟨vs, .inl (.inl h1), by rw [h2.empty]⟩, w⟩
  | @tup a vs ds h1 h2 => exact tru_ok pins s σ H _ v Q I rv ⟨_, .inr (.inl ⟨vs, h1, by rw [h2.empty]⟩), w⟩
  | @scr a ns h1 => exact tru_ok pins s σ H _ v Q I rv ⟨_, .inl ⟨_, h1, by cases ns <;> rfl⟩, w⟩
  | @dk a ks vs ds h1 h2 h3 =>
    cases rv
    refine truthy_rd I h1 ?_
    have e : (ks.zip vs).isEmpty = ks.isEmpty := by
      cases ks with
      | nil => rfl
      | cons k ks =>
        cases vs with
        | nil => cases h2
        | cons v vs => rfl
    rw [e]
    exact w
  | obj h1 h2 h3 => exact w.elim
/-- an expression as a test -/
theorem jtru (ha : DJ X W (rP X.K) a ga) (he : ∀ whole, isTrue a X.env whole = (do let v ← whole; standAt a.pos; holding [v] (truthy v)) := by intro _; rfl) : DT X W a fun ρ => (ga ρ).bind truR := by
  obtain ⟨t, p, q⟩ := ha.ex
  refine ⟨fun σ H Q => t σ H fun x H' => ∃ d, Rp X.K H' x d ∧ Wp0 (truR d) fun b => Q b H', ⟨fun pins s σ H Q I h => ?_⟩, fun F σ ρ H Q I w => ?_⟩
  · exact PyProof.Rows.isTrue_plain (thn (p.run pins s σ H _ I h) fun v s1 ⟨x, H1, I1, r1, d, r2, w⟩ => tru_run (F := H1) I1 r1 r2 w) (he _)
  · refine q F σ ρ H _ I (Wp.mono w.bind fun d w v F1 H1 x1 r1 => ⟨d, r1, ?_⟩)
    have w' := Wp.of0 (r := truR d) (fun c l e => by unfold truR at e; split at e <;> cases e) w
    cases e : truR d with
    | ok b => rw [e] at w'; exact w' F1 H1 x1
    | exn c l => rw [e] at w'; exact w'.elim
    | bad => rw [e] at w'; exact w'.elim
/-- a comparison as a test -/
def blR : D → Rs Bool
  | .bl b => .ok b
  | _ => .bad
@[simp] theorem blR_bl (b : Bool) : blR (.bl b) = .ok b := rfl
@[simp] theorem truR_bl (b : Bool) : truR (.bl b) = .ok b := rfl
theorem DT.or {e : Expr} {g g1 g2 : Env → Rs Bool} (h1 : DT X W e g1) (h2 : DT X W e g2) (c : ∀ ρ, g ρ = g1 ρ ∨ g ρ = g2 ρ) : DT X W e g := by
  obtain ⟨t1, p1, q1⟩ := h1.ex
  obtain ⟨t2, p2, q2⟩ := h2.ex
  refine ⟨fun σ H Q => t1 σ H Q ∨ t2 σ H Q, ⟨fun pins s σ H Q I w => ?_⟩, fun F σ ρ H Q I w => ?_⟩
  · rcases w with w | w
    · exact p1.run pins s σ H Q I w
    · exact p2.run pins s σ H Q I w
  · rcases c ρ with e | e
    · rw [e] at w
      exact .inl (q1 F σ ρ H Q I w)
    · rw [e] at w
      exact .inr (q2 F σ ρ H Q I w)

/-- a comparison as a test -/
theorem jop2T {r : R2} {R1 R2 : K3 D} {f : D → D → Rs D} {e a b : Expr} {ga gb : Env → Rs D} (mk : ∀ ta tb, PE X a ta → PE X b tb → PT X e (tTest (tOp r ta tb))) (ho : OpD r R1 R2 (rC X.K) f) (k1 : KOk R1)
    (ha : DJ X W R1 a ga) (hb : DJ X W R2 b gb) : DT X W e fun ρ => ((ga ρ).bind fun x => (gb ρ).bind fun y => f x y).bind blR := by
  obtain ⟨ta, pa, qa⟩ := ha.ex
  obtain ⟨tb, pb, qb⟩ := hb.ex
  refine ⟨_, mk ta tb pa pb, fun F σ ρ H Q I w => ?_⟩
  refine qa F σ ρ H _ I (Wp.mono w.bind.bind fun dx w v F1 H1 x1 r1 => ?_)
  refine qb F1 σ ρ H1 _ (I.ext x1) (Wp.mono (Wp.ext x1 w.bind) fun dy w u F2 H2 x2 r2 => ?_)
  refine ho.run x2.sub (k1.stb x2 r1) r2 ?_
  have w' := Wp.of0 (ho.nx dx dy) (Wp.mono w (fun _ h => h))
  cases q : f dx dy with
  | ok c =>
    rw [q] at w'
    intro z F' H' x3 r3
    have w2 : Wp X.K W F H σ (blR c) _ := w'
    unfold blR at w2
    split at w2
    · cases r3
      exact ⟨_, rfl, w2 _ _ ((x1.trans x2).trans x3)⟩
    · exact w2.elim
  | exn c l => rw [q] at w'; exact w'.elim
  | bad => rw [q] at w'; exact w'.elim
section
variable (ha : DJ X W (rP X.K) a ga) (hb : DJ X W (rP X.K) b gb)
include ha hb
theorem teq (hu : X.A.units + 64 < cLine) : DT X W (.Compare a [.Eq] [b] pos) fun ρ => ((ga ρ).bind fun x => (gb ρ).bind fun y => eqR x y).bind blR :=
  jop2T (fun _ _ pa pb => pt_cmpR (op_eqD hu) pa pb (nomark _)) od_eq kP ha hb
theorem tne (hu : X.A.units + 64 < cLine) : DT X W (.Compare a [.NotEq] [b] pos) fun ρ => ((ga ρ).bind fun x => (gb ρ).bind fun y => neR x y).bind blR :=
  jop2T (fun _ _ pa pb => pt_cmpR (op_neD hu) pa pb (nomark _)) od_ne kP ha hb
theorem tlt : DT X W (.Compare a [.Lt] [b] pos) fun ρ => ((ga ρ).bind fun x => (gb ρ).bind fun y => ltR x y).bind blR :=
  jop2T (fun _ _ pa pb => pt_cmpR (OpR.or op_lt op_lt_str) pa pb (nomark _)) (od_ord (fun i j => decide (i < j)) fun i j => decide (i < j)) kP ha hb
theorem tle : DT X W (.Compare a [.LtE] [b] pos) fun ρ => ((ga ρ).bind fun x => (gb ρ).bind fun y => leR x y).bind blR :=
  jop2T (fun _ _ pa pb => pt_cmpR (OpR.or op_le op_le_str) pa pb (nomark _)) (od_ord (fun i j => decide (i ≤ j)) fun i j => !decide (j < i)) kP ha hb
theorem tgt : DT X W (.Compare a [.Gt] [b] pos) fun ρ => ((ga ρ).bind fun x => (gb ρ).bind fun y => gtR x y).bind blR :=
  jop2T (fun _ _ pa pb => pt_cmpR (OpR.or op_gt op_gt_str) pa pb (nomark _)) (od_ord (fun i j => decide (j < i)) fun i j => decide (j < i)) kP ha hb
theorem tge : DT X W (.Compare a [.GtE] [b] pos) fun ρ => ((ga ρ).bind fun x => (gb ρ).bind fun y => geR x y).bind blR :=
  jop2T (fun _ _ pa pb => pt_cmpR (OpR.or op_ge op_ge_str) pa pb (nomark _)) (od_ord (fun i j => decide (j ≤ i)) fun i j => !decide (i < j)) kP ha hb
theorem tisN : DT X W (.Compare a [.Is] [b] pos) fun ρ => ((ga ρ).bind fun x => (gb ρ).bind fun y => isNR x y).bind blR :=
  jop2T (fun _ _ pa pb => pt_cmpR op_isN pa pb (nomark _)) od_isN kP ha hb
theorem tnotN : DT X W (.Compare a [.IsNot] [b] pos) fun ρ => ((ga ρ).bind fun x => (gb ρ).bind fun y => notNR x y).bind blR :=
  jop2T (fun _ _ pa pb => pt_cmpR op_notN pa pb (nomark _)) od_notN kP ha hb
theorem tin (hu : X.A.units + 65 < cLine) (hm : behindInMarks .In b = false := by rfl) : DT X W (.Compare a [.In] [b] pos) fun ρ => ((ga ρ).bind fun x => (gb ρ).bind fun y => (inA x y).bind fun c => .ok (.bl (if false then !c else c))).bind blR :=
  DT.or (jop2T (fun _ _ pa pb => pt_cmpR (opr_in hu) pa pb hm) (od_in false) kP ha hb) (jop2T (fun _ _ pa pb => pt_cmp (pc_din (by omega) pa pb) hm) (od_din false) kP ha hb) fun ρ => by
    rcases inA_or false (ga ρ) (gb ρ) with e | e
    · exact .inl (congrArg (fun r => Rs.bind r blR) e)
    · exact .inr (congrArg (fun r => Rs.bind r blR) e)
theorem tnotin (hu : X.A.units + 65 < cLine) (hm : behindInMarks .NotIn b = false := by rfl) : DT X W (.Compare a [.NotIn] [b] pos) fun ρ => ((ga ρ).bind fun x => (gb ρ).bind fun y => (inA x y).bind fun c => .ok (.bl (if true then !c else c))).bind blR :=
  DT.or (jop2T (fun _ _ pa pb => pt_cmpR (opr_notIn hu) pa pb hm) (od_in true) kP ha hb) (jop2T (fun _ _ pa pb => pt_cmp (pc_dnotin (by omega) pa pb) hm) (od_din true) kP ha hb) fun ρ => by
    rcases inA_or true (ga ρ) (gb ρ) with e | e
    · exact .inl (congrArg (fun r => Rs.bind r blR) e)
    · exact .inr (congrArg (fun r => Rs.bind r blR) e)
end
/-! ### and, or, not -/
section
variable {ta tb : Env → Rs Bool} {rest : List Expr}
theorem DW.dt {e : Expr} {g : Env → Rs Bool} (h : DW X W e g) : DT X W e g := by
  obtain ⟨t, p, q⟩ := h.ex
  exact ⟨t, p.pt, q⟩
theorem wand1 (h : DT X W a ta) : DW X W (.BoolOp .And [a] pos) ta := by
  obtain ⟨t, p, q⟩ := h.ex
  exact ⟨t, pw_and1 p, q⟩
theorem wor1 (h : DT X W a ta) : DW X W (.BoolOp .Or [a] pos) ta := by
  obtain ⟨t, p, q⟩ := h.ex
  exact ⟨t, pw_or1 p, q⟩
def andR (x y : Rs Bool) : Rs Bool := x.bind fun c => if c = true then y else .ok false
def orR (x y : Rs Bool) : Rs Bool := x.bind fun c => if c = true then .ok true else y
theorem wand (h : DT X W a ta) (k : DW X W (.BoolOp .And (b :: rest) pos) tb) : DW X W (.BoolOp .And (a :: b :: rest) pos) fun ρ => andR (ta ρ) (tb ρ) := by
  obtain ⟨t, p, q⟩ := h.ex
  obtain ⟨u, p2, q2⟩ := k.ex
  refine ⟨_, pw_and p p2, fun F σ ρ H Q I w => q F σ ρ H _ I (Wp.mono (Wp.bind w) fun c w F1 H1 x1 => ?_)⟩
  cases c with
  | true => exact q2 F1 σ ρ H1 _ (I.ext x1) (Wp.mono (Wp.ext x1 w) fun c k F2 H2 x2 => k _ _ (x1.trans x2))
  | false => exact w _ _ x1
theorem wor (h : DT X W a ta) (k : DW X W (.BoolOp .Or (b :: rest) pos) tb) : DW X W (.BoolOp .Or (a :: b :: rest) pos) fun ρ => orR (ta ρ) (tb ρ) := by
  obtain ⟨t, p, q⟩ := h.ex
  obtain ⟨u, p2, q2⟩ := k.ex
  refine ⟨_, pw_or p p2, fun F σ ρ H Q I w => q F σ ρ H _ I (Wp.mono (Wp.bind w) fun c w F1 H1 x1 => ?_)⟩
  cases c with
  | false => exact q2 F1 σ ρ H1 _ (I.ext x1) (Wp.mono (Wp.ext x1 w) fun c k F2 H2 x2 => k _ _ (x1.trans x2))
  | true => exact w _ _ x1
def notR (x : Rs Bool) : Rs Bool := x.bind fun c => .ok (!c)
theorem tnot (h : DT X W a ta) : DT X W (.UnaryOp .Not a pos) fun ρ => notR (ta ρ) := by
  obtain ⟨t, p, q⟩ := h.ex
  exact ⟨_, pt_not p, fun F σ ρ H Q I w => q F σ ρ H _ I (Wp.mono (Wp.bind w) fun c w F1 H1 x1 => w _ _ x1)⟩
end
/-! as values -/
theorem jnot (ha : DJ X W (rC X.K) a ga) : DJ X W (rC X.K) (.UnaryOp .Not a pos) fun ρ => (ga ρ).bind fun d => (blR d).bind fun c => .ok (.bl (!c)) := by
  obtain ⟨t, p, q⟩ := ha.ex
  refine ⟨_, pe_not p, fun F σ ρ H Q I w => q F σ ρ H _ I (Wp.mono (Wp.bind w) fun d w v F1 H1 x1 r1 => ?_)⟩
  unfold blR at w
  split at w
  · cases r1
    exact ⟨_, rfl, w _ _ _ x1 (.bl _)⟩
  · exact w.elim
theorem jand1 (ha : DJ X W (rC X.K) a ga) : DJ X W (rC X.K) (.BoolOp .And [a] pos) ga := by
  obtain ⟨t, p, q⟩ := ha.ex
  exact ⟨t, pe_one p, q⟩
theorem jor1 (ha : DJ X W (rC X.K) a ga) : DJ X W (rC X.K) (.BoolOp .Or [a] pos) ga := by
  obtain ⟨t, p, q⟩ := ha.ex
  exact ⟨t, pe_one p, q⟩
def andV (x y : Rs D) : Rs D := x.bind fun d => (blR d).bind fun c => if c = true then y else .ok (.bl false)
def orV (x y : Rs D) : Rs D := x.bind fun d => (blR d).bind fun c => if c = true then .ok (.bl true) else y
theorem jand {rest : List Expr} (ha : DJ X W (rC X.K) a ga) (hb : DJ X W (rC X.K) (.BoolOp .And (b :: rest) pos) gb) : DJ X W (rC X.K) (.BoolOp .And (a :: b :: rest) pos) fun ρ => andV (ga ρ) (gb ρ) := by
  obtain ⟨t, p, q⟩ := ha.ex
  obtain ⟨u, p2, q2⟩ := hb.ex
  refine ⟨_, pe_and p p2, fun F σ ρ H Q I w => q F σ ρ H _ I (Wp.mono (Wp.bind w) fun d w v F1 H1 x1 r1 => ?_)⟩
  unfold blR at w
  split at w
  · rename_i c
    cases r1
    refine ⟨c, rfl, ?_⟩
    cases c with
    | true => exact q2 F1 σ ρ H1 _ (I.ext x1) (Wp.mono (Wp.ext x1 w) fun c k v F2 H2 x2 r2 => k _ _ _ (x1.trans x2) r2)
    | false => exact w _ _ _ x1 (.bl _)
  · exact w.elim
theorem jor {rest : List Expr} (ha : DJ X W (rC X.K) a ga) (hb : DJ X W (rC X.K) (.BoolOp .Or (b :: rest) pos) gb) : DJ X W (rC X.K) (.BoolOp .Or (a :: b :: rest) pos) fun ρ => orV (ga ρ) (gb ρ) := by
  obtain ⟨t, p, q⟩ := ha.ex
  obtain ⟨u, p2, q2⟩ := hb.ex
  refine ⟨_, pe_or p p2, fun F σ ρ H Q I w => q F σ ρ H _ I (Wp.mono (Wp.bind w) fun d w v F1 H1 x1 r1 => ?_)⟩
  unfold blR at w
  split at w
  · rename_i c
    cases r1
    refine ⟨c, rfl, ?_⟩
    cases c with
    | false => exact q2 F1 σ ρ H1 _ (I.ext x1) (Wp.mono (Wp.ext x1 w) fun c k v F2 H2 x2 r2 => k _ _ _ (x1.trans x2) r2)
    | true => exact w _ _ _ x1 (.bl _)
  · exact w.elim
/-- a if t else b -/
theorem jifexp {α : Type} {R : K3 α} (kR : KOk R) {c : Expr} {tc : Env → Rs Bool} {ga gb : Env → Rs α} (hc : DT X W c tc) (ha : DJ X W R a ga) (hb : DJ X W R b gb) : DJ X W R (.IfExp c a b pos) fun ρ => (tc ρ).bind fun k => if k = true then ga ρ else gb ρ := by
  obtain ⟨t, p, q⟩ := hc.ex
  obtain ⟨u, p2, q2⟩ := ha.ex
  obtain ⟨u', p3, q3⟩ := hb.ex
  refine ⟨_, pe_ifExp p p2 p3, fun F σ ρ H Q I w => q F σ ρ H _ I (Wp.mono (Wp.bind w) fun k w F1 H1 x1 => ?_)⟩
  cases k with
  | true => exact q2 F1 σ ρ H1 _ (I.ext x1) (Wp.mono (Wp.ext x1 w) fun c k v F2 H2 x2 r2 => k _ _ _ (x1.trans x2) (kR.anti x1.hh r2))
  | false => exact q3 F1 σ ρ H1 _ (I.ext x1) (Wp.mono (Wp.ext x1 w) fun c k v F2 H2 x2 r2 => k _ _ _ (x1.trans x2) (kR.anti x1.hh r2))
end
end Dn

/-! Dn5: argument lists, displays, calls, what a loop walks, list comprehensions. -/
namespace Dn
open PySem PySem.Spec L2

/-! ### argument lists -/
structure DAC (X : Cx) (W : WX) (es : List Expr) (g : Env → Rs (List D)) : Prop where
  ex : ∃ t : TA, PA X es t ∧ ∀ F σ ρ H (Q : List V → Hp → Prop), EnvI X.K F σ ρ H → (Wp X.K W F H σ (g ρ) fun ds => ∀ vs F' H', Ext F H F' H' → RpL X.K F' vs ds → Q vs H') → t σ H Q
structure DAO (X : Cx) (W : WX) (es : List Expr) (g : Env → Rs (List T)) : Prop where
  ex : ∃ t : TA, PA X es t ∧ ∀ F σ ρ H (Q : List V → Hp → Prop), EnvI X.K F σ ρ H → (Wp X.K W F H σ (g ρ) fun ts => ∀ vs F' H' fp, Ext F H F' H' → OwnL X.K F' H' vs ts fp → fp.Nodup → (∀ a ∈ fp, H a = none) → Q vs H') → t σ H Q
def consR {α : Type} (x : Rs α) (y : Rs (List α)) : Rs (List α) := x.bind fun a => y.bind fun r => .ok (a :: r)
section
variable {X : Cx} {W : WX} {e : Expr} {es : List Expr}
theorem jac_nil : DAC X W [] fun _ => .ok [] := ⟨_, pa_nil, fun F σ ρ H Q I w => w _ F H (.refl I.1) .nil⟩
theorem jac_cons {g : Env → Rs D} {gs : Env → Rs (List D)} (h : DJ X W (rC X.K) e g) (k : DAC X W es gs) (hs : starEach (e :: es) X.env = (false, eval e X.env) :: starEach es X.env := by rfl) : DAC X W (e :: es) fun ρ => consR (g ρ) (gs ρ) := by
  obtain ⟨t, p, q⟩ := h.ex
  obtain ⟨u, p2, q2⟩ := k.ex
  refine ⟨_, pa_cons p p2 hs, fun F σ ρ H Q I w => q F σ ρ H _ I (Wp.mono (Wp.bind w) fun d w v F1 H1 x1 r1 => ?_)⟩
  refine q2 F1 σ ρ H1 _ (I.ext x1) (Wp.mono (Wp.ext x1 (Wp.bind w)) fun ds w vs F2 H2 x2 r2 => ?_)
  exact w _ F2 H2 (x1.trans x2) (.cons (r1.same x2.ff) r2)
theorem jao_nil : DAO X W [] fun _ => .ok [] := ⟨_, pa_nil, fun F σ ρ H Q I w => w _ F H [] (.refl I.1) .nil .nil fun _ ha => by cases ha⟩
theorem jao_cons {g : Env → Rs T} {gs : Env → Rs (List T)} (h : DJ X W (rO X.K) e g) (k : DAO X W es gs) (hs : starEach (e :: es) X.env = (false, eval e X.env) :: starEach es X.env := by rfl) : DAO X W (e :: es) fun ρ => consR (g ρ) (gs ρ) := by
  obtain ⟨t, p, q⟩ := h.ex
  obtain ⟨u, p2, q2⟩ := k.ex
  refine ⟨_, pa_cons p p2 hs, fun F σ ρ H Q I w => q F σ ρ H _ I (Wp.mono (Wp.bind w) fun d w v F1 H1 x1 r1 => ?_)⟩
  refine q2 F1 σ ρ H1 _ (I.ext x1) (Wp.mono (Wp.ext x1 (Wp.bind w)) fun ds w vs F2 H2 fp2 x2 r2 n2 f2 => ?_)
  obtain ⟨fp1, o1, n1, f1⟩ := r1
  refine w _ F2 H2 (fp1 ++ fp2) (x1.trans x2) (.cons (x2.own o1) r2) ?_ fun a ha => ?_
  · refine List.nodup_append.mpr ⟨n1, n2, fun a ha b hb e => ?_⟩
    subst e
    exact (o1.at a ha).1 (f2 a hb)
  · rcases List.mem_append.mp ha with ha | ha
    · exact f1 a ha
    · exact none_of_same x1.hh (f2 a ha)

/-- (a, b, ..) -/
def tupR (ds : List D) : Rs D := if ds.length ≤ 16777216 then .ok (.tup ds) else .bad
def lstR (ts : List T) : Rs T := if ts.length ≤ 16777216 then .ok (.lst ts) else .bad
theorem jtup {x1 : Nat} {pos : Pos} {g : Env → Rs (List D)} (h : DAC X W es g) : DJ X W (rC X.K) (.Tuple es x1 pos) fun ρ => (g ρ).bind tupR := by
  obtain ⟨t, p, q⟩ := h.ex
  refine ⟨_, pe_tup p, fun F σ ρ H Q I w => q F σ ρ H _ I (Wp.mono (Wp.bind w) fun ds w vs F1 H1 x1 r1 => ?_)⟩
  unfold tupR at w
  by_cases c : ds.length ≤ 16777216
  · rw [if_pos c] at w
    refine ⟨by rw [r1.length, sizeLine_eq]; exact c, fun p hp => ?_⟩
    obtain ⟨e, o⟩ := new_tup x1.sub hp r1
    exact w _ _ _ (x1.trans e) o
  · rw [if_neg c] at w
    exact w.elim
theorem OwnL.length {K : PySem.W.Frag} {F H : Hp} : ∀ {ts : List T} {vs : List V} {fp : List Addr}, OwnL K F H vs ts fp → vs.length = ts.length
  | [], _, _, h => by cases h; rfl
  | _ :: _, _, _, h => by cases h with | cons h1 h2 => rw [List.length_cons, List.length_cons, OwnL.length h2]
theorem jlst {pos : Pos} {g : Env → Rs (List T)} (h : DAO X W es g) : DJ X W (rO X.K) (.List es pos) fun ρ => (g ρ).bind lstR := by
  obtain ⟨t, p, q⟩ := h.ex
  refine ⟨_, pe_lst p, fun F σ ρ H Q I w => q F σ ρ H _ I (Wp.mono (Wp.bind w) fun ts w vs F1 H1 fp x1 r1 n1 f1 => ?_)⟩
  unfold lstR at w
  by_cases c : ts.length ≤ 16777216
  · rw [if_pos c] at w
    refine ⟨by rw [r1.length, sizeLine_eq]; exact c, fun p hp => ?_⟩
    have x2 : Ext F1 H1 F1 (upd H1 p (.lst vs)) := .add x1.sub hp
    refine w _ _ _ (x1.trans x2) ⟨p :: fp, .lst upd_same (x1.sub.none hp) (x2.ownL r1), ?_, fun a ha => ?_⟩
    · exact List.nodup_cons.mpr ⟨fun hm => (r1.at p hm).1 hp, n1⟩
    · rcases List.mem_cons.mp ha with e | ha
      · rw [e]; exact none_of_same x1.hh hp
      · exact f1 a ha
  · rw [if_neg c] at w
    exact w.elim
end

/-! ### defs -/
/-- the promise: from shared data to what f says -/
def spD (K : PySem.W.Frag) (f : List D → Rs T) : Sp := fun vs H Q E => ∃ F ds, Sub F H ∧ RpL K F vs ds ∧ match f ds with
  | .ok t => ∀ v F' H', Ext F H F' H' → rO K H F' H' v t → Q v H'
  | .exn c l => ∀ d F' H', Ext F H F' H' → ExR H' l d → E (.ref (He.ga K c)) d H'
  | .bad => False
structure FnD (P : Program) (w : World) (K : PySem.W.Frag) (mg : Str → Option Value) (base : Heap) (k : Nat) (x : Str) (f : List D → Rs T) : Prop where
  ex : ∃ (a : Addr) (fd : FuncData) (ps : List Str), FnOk P w K mg base (L2.CX P w) k a fd ps (spD K f) ∧ mg x = some (.ref a) ∧ PySem.W.keepIn K (.ref a) = true ∧ Binds K fd ps []
theorem sp_of {K : PySem.W.Frag} {W : WX} {F F1 H H1 : Hp} {σ : St} {f : List D → Rs T} {vs : List V} {ds : List D} {Q : VK} (x1 : Ext F H F1 H1) (r : RpL K F1 vs ds) (w : WpJ K W (rO K) F H σ (f ds) Q) : spD K f vs H1 Q (WE W σ) := by
  refine ⟨F1, ds, x1.sub, r, ?_⟩
  cases q : f ds with
  | ok t =>
    rw [q] at w
    exact fun v F' H' x2 o => w v F' H' (x1.trans x2) (kO.anti x1.hh o)
  | exn c l =>
    rw [q] at w
    exact fun d F' H' x2 e => w d F' H' (x1.trans x2) e
  | bad => rw [q] at w; exact w.elim
section
variable {X : Cx} {W : WX} {e o : Expr} {es : List Expr} {k : Nat} {x c m : Str} {p pos apos : Pos} {f : List D → Rs T} {g : Env → Rs (List D)}
/-- f(e, ..) -/
theorem jcall (G : FnD X.prog X.w X.K X.mg X.base k x f) (hr : Room k X.A) (tk : Takes X W) (ha : DAC X W (e :: es) g) (hg : Gl X x := by rfl) (hdb : (x == ("__debug__" : Str)) = false := by decide) (he : starEach (e :: es) X.env = (false, eval e X.env) :: starEach es X.env := by rfl)
    (hpl : (backTo pos (starEach es X.env)).any (·.1) = false := by rfl) : DJ X W (rO X.K) (.Call (.Name x p) (e :: es) [] pos) fun ρ => (g ρ).bind f := by
  obtain ⟨a, fd, ps, F, hm, hk, hb⟩ := G.ex
  obtain ⟨t, pa, q⟩ := ha.ex
  refine ⟨_, pe_callS F hr hg hm hk hb (fun σ => passAt tk σ) pa hdb he hpl, fun F0 σ ρ H Q I w => q F0 σ ρ H _ I (Wp.mono (Wp.bind w) fun ds w vs F1 H1 x1 r1 => ?_)⟩
  exact sp_of x1 r1 w
/-- a class's method -/
structure MtD (P : Program) (w : World) (K : PySem.W.Frag) (mg : Str → Option Value) (base : Heap) (k : Nat) (c m : Str) (f : List D → Rs T) : Prop where
  ex : ∃ (a : Addr) (fd : FuncData) (ps : List Str), FnOk P w K mg base (L2.CX P w) k a fd ps (spD K f) ∧ Cls K (He.ga K c) ∧ Meth K (He.ga K c) m a ∧ Binds K fd ps []
def meR (c m : Str) : D → Rs D
  | .obj c' ns ds => if c' = c ∧ lookN ns ds m = none then .ok (.obj c' ns ds) else .bad
  | _ => .bad
theorem lookN_none {K : PySem.W.Frag} {F : Hp} {f : Str} : ∀ {ns : List Str} {vs : List V} {ds : List D}, RpL K F vs ds → lookN ns ds f = none → List.lookup f (ns.zip vs) = none
  | [], _, _, _, _ => rfl
  | _ :: _, [], _, _, _ => rfl
  | n :: ns, v :: vs, _, h, e => by
    cases h with
    | @cons _ _ d0 ds h1 h2 =>
      by_cases z : f = n
      · rw [lookN, if_pos z] at e
        cases e
      · rw [lookN, if_neg z] at e
        have zb : (f == n) = false := by simpa using z
        simp [List.lookup, zb, lookN_none h2 e]
theorem me_at {K : PySem.W.Frag} {c m : Str} {F H : Hp} {v : V} {d d' : D} (s : Sub F H) (r : Rp K F v d) (e : meR c m d = .ok d') : d' = d ∧ ∃ a dx fs, v = .ref a ∧ H a = some (.ins (He.ga K c) dx fs) ∧ fs.lookup m = none := by
  unfold meR at e
  split at e
  · split at e
    · rename_i h
      cases e
      obtain ⟨rfl, h⟩ := h
      refine ⟨rfl, ?_⟩
      cases r with
      | obj h1 h2 h3 =>
        rcases s _ _ h1 with h' | ⟨hd, _⟩
        · exact ⟨_, _, _, rfl, h', lookN_none h3 h⟩
        · cases hd
    · cases e
  · cases e
theorem meR_nx (c m : Str) (d : D) (c' : Str) (l : Option Int) : meR c m d ≠ .exn c' l := fun e => by
  unfold meR at e
  split at e
  · split at e <;> cases e
  · cases e
/-- o.m(..) where what is raised is wished for at the slots -/
def tMethS (C : Addr) (m : Str) (sp : Sp) (E : St → XK) (ta : TE) (t : TA) : TE := fun σ H Q => ta σ H fun x H1 => ∃ a dx fs, x = .ref a ∧ H1 a = some (.ins C dx fs) ∧ fs.lookup m = none ∧ t σ H1 fun vs H2 => sp (x :: vs) H2 Q (E σ)
section
variable {C a : Addr} {fd : FuncData} {ps : List Str} {sp : Sp} {to : TE} {t : TA} {E : St → XK} {pl : Sem Bool}
theorem pe_methAt (ho : PE X o to) (hc : Cls X.K C) (hm : Meth X.K C m a) (F : FnOk X.prog X.w X.K X.mg X.base (L2.CX X.prog X.w) k a fd ps sp) (hr : Room k X.A) (hb : Binds X.K fd ps []) (hx : ∀ σ, PassesAt (L2.CX X.prog X.w) X σ (E σ)) (ha : PA X (e :: es) t)
    (hst : starEach (e :: es) X.env = (false, eval e X.env) :: starEach es X.env := by rfl) (hpl : (backTo pos (starEach es X.env)).any (·.1) = false := by rfl)
    (ht : eval (.Call (.Attribute o m apos) (e :: es) [] pos) X.env = (do
      let ov ← eval o X.env
      standAt apos.atName
      let (f, first) ← holding [ov] (getMethod ov m pl)
      callWith pos f first (backTo pos (starEach (e :: es) X.env)) (backToKw pos (keywordEach [] X.env))) := by rfl) : PE X (.Call (.Attribute o m apos) (e :: es) [] pos) (tMethS C m sp E to t) := by
  constructor
  intro pins s σ H Q I h
  refine PySem.W.methodCall_KW (pl := pl) (thn (ho.run pins s σ H _ I h) fun u s1 q => ?_) ht
  obtain ⟨v, H1, I1, rv, b, dx, fs, rfl, hat, hl, q⟩ := q
  cases (show u = Value.ref b from rv)
  refine getmeth_ok I1 hat hc hm hl (PySem.W.callWith_K (first := [.ref b]) (h₀ := X.base) I.ok.mod.kin hm.kp (thn (ha.run pos pins s1 σ H1 _ I1 q) fun us s2 z => ?_) hst hpl)
  obtain ⟨vs, H2, I2, r2, q2⟩ := z
  exact ⟨I2.kIn, run_fnS (us := .ref b :: us) (vs := .ref b :: vs) F hr hb (hx σ) I2 (.cons rfl r2) q2⟩
theorem pe_methAt0 (ho : PE X o to) (hc : Cls X.K C) (hm : Meth X.K C m a) (F : FnOk X.prog X.w X.K X.mg X.base (L2.CX X.prog X.w) k a fd ps sp) (hr : Room k X.A) (hb : Binds X.K fd ps []) (hx : ∀ σ, PassesAt (L2.CX X.prog X.w) X σ (E σ))
    (ht : eval (.Call (.Attribute o m apos) [] [] pos) X.env = (do
      let ov ← eval o X.env
      standAt apos.atName
      let (f, first) ← holding [ov] (getMethod ov m pl)
      callWith pos f first (backTo pos (starEach [] X.env)) (backToKw pos (keywordEach [] X.env))) := by rfl) : PE X (.Call (.Attribute o m apos) [] [] pos) (tMethS C m sp E to tNil) := by
  constructor
  intro pins s σ H Q I h
  refine PySem.W.methodCall_KW (pl := pl) (thn (ho.run pins s σ H _ I h) fun u s1 q => ?_) ht
  obtain ⟨v, H1, I1, rv, b, dx, fs, rfl, hat, hl, q⟩ := q
  cases (show u = Value.ref b from rv)
  exact getmeth_ok I1 hat hc hm hl (PySem.W.callWith_K0 (first := [.ref b]) I1.kIn hm.kp (run_fnS (us := [.ref b]) (vs := [.ref b]) F hr hb (hx σ) I1 (.cons rfl .nil) q))
end
/-- o.m(e, ..) -/
theorem jmeth {pl : Sem Bool} {go : Env → Rs D} (G : MtD X.prog X.w X.K X.mg X.base k c m f) (hr : Room k X.A) (tk : Takes X W) (ho : DJ X W (rC X.K) o go) (ha : DAC X W (e :: es) g)
    (hst : starEach (e :: es) X.env = (false, eval e X.env) :: starEach es X.env := by rfl) (hpl : (backTo pos (starEach es X.env)).any (·.1) = false := by rfl)
    (ht : eval (.Call (.Attribute o m apos) (e :: es) [] pos) X.env = (do
      let ov ← eval o X.env
      standAt apos.atName
      let (f, first) ← holding [ov] (getMethod ov m pl)
      callWith pos f first (backTo pos (starEach (e :: es) X.env)) (backToKw pos (keywordEach [] X.env))) := by rfl) :
    DJ X W (rO X.K) (.Call (.Attribute o m apos) (e :: es) [] pos) fun ρ => (go ρ).bind fun x => (meR c m x).bind fun x => (g ρ).bind fun ds => f (x :: ds) := by
  obtain ⟨a, fd, ps, F, hc, hm, hb⟩ := G.ex
  obtain ⟨to, po, qo⟩ := ho.ex
  obtain ⟨t, pa, q⟩ := ha.ex
  refine ⟨_, pe_methAt po hc hm F hr hb (fun σ => passAt tk σ) pa hst hpl ht, fun F0 σ ρ H Q I w => qo F0 σ ρ H _ I (Wp.mono (Wp.bind w) fun d w v F1 H1 x1 r1 => ?_)⟩
  cases z : meR c m d with
  | ok d' =>
    rw [z] at w
    obtain ⟨rfl, b, dx, fs, rfl, hat, hl⟩ := me_at x1.sub r1 z
    refine ⟨b, dx, fs, rfl, hat, hl, q F1 σ ρ H1 _ (I.ext x1) (Wp.mono (Wp.ext x1 (Wp.bind w)) fun ds w vs F2 H2 x2 r2 => ?_)⟩
    exact sp_of (x1.trans x2) (.cons (r1.same x2.ff) r2) w
  | exn c' l => exact absurd z (meR_nx _ _ _ _ _)
  | bad => rw [z] at w; exact w.elim
theorem jmeth0 {pl : Sem Bool} {go : Env → Rs D} (G : MtD X.prog X.w X.K X.mg X.base k c m f) (hr : Room k X.A) (tk : Takes X W) (ho : DJ X W (rC X.K) o go)
    (ht : eval (.Call (.Attribute o m apos) [] [] pos) X.env = (do
      let ov ← eval o X.env
      standAt apos.atName
      let (f, first) ← holding [ov] (getMethod ov m pl)
      callWith pos f first (backTo pos (starEach [] X.env)) (backToKw pos (keywordEach [] X.env))) := by rfl) :
    DJ X W (rO X.K) (.Call (.Attribute o m apos) [] [] pos) fun ρ => (go ρ).bind fun x => (meR c m x).bind fun x => f [x] := by
  obtain ⟨a, fd, ps, F, hc, hm, hb⟩ := G.ex
  obtain ⟨to, po, qo⟩ := ho.ex
  refine ⟨_, pe_methAt0 po hc hm F hr hb (fun σ => passAt tk σ) ht, fun F0 σ ρ H Q I w => qo F0 σ ρ H _ I (Wp.mono (Wp.bind w) fun d w v F1 H1 x1 r1 => ?_)⟩
  cases z : meR c m d with
  | ok d' =>
    rw [z] at w
    obtain ⟨rfl, b, dx, fs, rfl, hat, hl⟩ := me_at x1.sub r1 z
    exact ⟨b, dx, fs, rfl, hat, hl, sp_of x1 (.cons r1 .nil) w⟩
  | exn c' l => exact absurd z (meR_nx _ _ _ _ _)
  | bad => rw [z] at w; exact w.elim
end

/-! ### builtins -/
section
variable {X : Cx} {W : WX} {a b : Expr} {p pos : Pos} {ga gb : Env → Rs D}
theorem jlen (hm : X.mg "len" = none) (ha : DJ X W (rP X.K) a ga) (hg : Gl X "len" := by rfl) (he : starEach [a] X.env = (false, eval a X.env) :: starEach [] X.env := by rfl) : DJ X W (rC X.K) (.Call (.Name "len" p) [a] [] pos) fun ρ => (ga ρ).bind lenR :=
  jcall1 (fun _ pa => pe_callB (CallR.or call_len call_lenRd) hg hm PySem.boot_len (pa_cons pa pa_nil he) (by decide) (by decide) he) ud_len kC ha
def maxR : D → D → Rs D := int2 fun i j => .int (if j > i then j else i)
def minR : D → D → Rs D := int2 fun i j => .int (if j < i then j else i)
theorem od_max {K : PySem.W.Frag} : OpD (fun x y H Q => ∃ i j, [x, y] = [V.int i, V.int j] ∧ Q (.int (if j > i then j else i)) H) (rP K) (rP K) (rC K) maxR where
  run := fun {Hs Ht F H x y dx dy Q} s r1 r2 w => by
    obtain ⟨i, j, rfl, rfl, q⟩ := (od_int (K := K) (fun i j => .int (if j > i then j else i)) (fun i j => .int (if j > i then j else i)) fun _ _ _ => .int _).run (Hs := Hs) (Ht := Ht) s r1 r2 w
    exact ⟨i, j, rfl, q⟩
  nx := fun x y c l e => by unfold maxR int2 at e; split at e <;> cases e
theorem od_min {K : PySem.W.Frag} : OpD (fun x y H Q => ∃ i j, [x, y] = [V.int i, V.int j] ∧ Q (.int (if j < i then j else i)) H) (rP K) (rP K) (rC K) minR where
  run := fun {Hs Ht F H x y dx dy Q} s r1 r2 w => by
    obtain ⟨i, j, rfl, rfl, q⟩ := (od_int (K := K) (fun i j => .int (if j < i then j else i)) (fun i j => .int (if j < i then j else i)) fun _ _ _ => .int _).run (Hs := Hs) (Ht := Ht) s r1 r2 w
    exact ⟨i, j, rfl, q⟩
  nx := fun x y c l e => by unfold minR int2 at e; split at e <;> cases e
theorem jmax2 (hc : X.calm = true) (hm : X.mg "max" = none) (ha : DJ X W (rP X.K) a ga) (hb : DJ X W (rP X.K) b gb) (hg : Gl X "max" := by rfl) (he : starEach [a, b] X.env = (false, eval a X.env) :: starEach [b] X.env := by rfl) (he2 : starEach [b] X.env = (false, eval b X.env) :: starEach [] X.env := by rfl)
    (hpl : (backTo pos (starEach [b] X.env)).any (·.1) = false := by rfl) : DJ X W (rC X.K) (.Call (.Name "max" p) [a, b] [] pos) fun ρ => (ga ρ).bind fun x => (gb ρ).bind fun y => maxR x y :=
  jcall2 (fun _ _ pa pb => pe_callB (call_max2 hc) hg hm (by decide +kernel) (pa_cons pa (pa_cons pb pa_nil he2) he) (by decide) (by decide) he hpl) od_max kP kC ha hb
theorem jmin2 (hc : X.calm = true) (hm : X.mg "min" = none) (ha : DJ X W (rP X.K) a ga) (hb : DJ X W (rP X.K) b gb) (hg : Gl X "min" := by rfl) (he : starEach [a, b] X.env = (false, eval a X.env) :: starEach [b] X.env := by rfl) (he2 : starEach [b] X.env = (false, eval b X.env) :: starEach [] X.env := by rfl)
    (hpl : (backTo pos (starEach [b] X.env)).any (·.1) = false := by rfl) : DJ X W (rC X.K) (.Call (.Name "min" p) [a, b] [] pos) fun ρ => (ga ρ).bind fun x => (gb ρ).bind fun y => minR x y :=
  jcall2 (fun _ _ pa pb => pe_callB (call_min2 hc) hg hm (by decide +kernel) (pa_cons pa (pa_cons pb pa_nil he2) he) (by decide) (by decide) he hpl) od_min kP kC ha hb
/-- int(n), int(flag) -/
def int1R : D → Rs D
  | .int i => .ok (.int i)
  | .bl k => .ok (.int (if k then 1 else 0))
  | _ => .bad
theorem ud_int1 {K : PySem.W.Frag} : UnD (fun x H Q => (fun xs H Q => (∃ i, xs = [V.int i] ∧ Q (.int i) H) ∨ ∃ k, xs = [V.bl k] ∧ Q (.int (if k then 1 else 0)) H : List V → Hp → VK → Prop) [x] H Q) (rP K) (rC K) int1R where
  run := fun {Hs F H x dx Q} s r1 w => by
    unfold int1R at w
    split at w
    · cases r1
      exact .inl ⟨_, rfl, w _ F H (.refl s) (.int _)⟩
    · cases r1
      exact .inr ⟨_, rfl, w _ F H (.refl s) (.int _)⟩
    · exact w.elim
  nx := fun x c l e => by unfold int1R at e; split at e <;> cases e
theorem jint1 (hm : X.mg "int" = none) (ha : DJ X W (rP X.K) a ga) (hg : Gl X "int" := by rfl) (he : starEach [a] X.env = (false, eval a X.env) :: starEach [] X.env := by rfl) : DJ X W (rC X.K) (.Call (.Name "int" p) [a] [] pos) fun ρ => (ga ρ).bind int1R :=
  jcall1 (fun _ pa => pe_callTy call_int1 hg hm (by decide +kernel) (pa_cons pa pa_nil he) (by decide) (by decide) he) ud_int1 kC ha
/-- list(xs) -/
def listR : D → Rs T
  | .lst ds => .ok (.lst (ds.map T.sh))
  | .tup ds => .ok (.lst (ds.map T.sh))
  | _ => .bad
theorem ud_list {K : PySem.W.Frag} : UnD (fun x H Q => (fun xs H Q => ∃ p ys, xs = [V.ref p] ∧ (SqL K H p ys ∨ SqT K H p ys) ∧ ∀ l, H l = none → Q (.ref l) (upd H l (.lst ys)) : List V → Hp → VK → Prop) [x] H Q) (rS K) (rO K) listR where
  run := fun {Hs F H x dx Q} s r1 w => by
    unfold listR at w
    split at w
    · rename_i ds
      have key : ∃ a vs, x = .ref a ∧ H a = some (.lst vs) ∧ RpL K F vs ds := by
        cases r1 with
        | «at» r => cases r with | lst h1 h2 => exact ⟨_, _, rfl, s.lst h1, h2⟩
        | lst h1 h2 => exact ⟨_, _, rfl, h1, h2⟩
      obtain ⟨a, vs, rfl, h1, h2⟩ := key
      refine ⟨a, vs, rfl, .inl (.inl (.inl h1)), fun p hp => ?_⟩
      obtain ⟨e, o⟩ := new_lst s hp h2
      exact w _ _ _ e o
    · rename_i ds
      cases r1 with
      | «at» r =>
        cases r with
        | @tup a vs _ h1 h2 =>
          refine ⟨a, vs, rfl, .inr (s.sqT h1), fun p hp => ?_⟩
          obtain ⟨e, o⟩ := new_lst s hp h2
          exact w _ _ _ e o
    · exact w.elim
  nx := fun x c l e => by unfold listR at e; split at e <;> cases e
theorem jlist (hm : X.mg "list" = none) (ha : DJ X W (rS X.K) a ga) (hg : Gl X "list" := by rfl) (he : starEach [a] X.env = (false, eval a X.env) :: starEach [] X.env := by rfl) : DJ X W (rO X.K) (.Call (.Name "list" p) [a] [] pos) fun ρ => (ga ρ).bind listR :=
  jcall1 (fun _ pa => pe_callTy call_list_of hg hm (by decide +kernel) (pa_cons pa pa_nil he) (by decide) (by decide) he) ud_list kO ha
/-- all(..), any(..) of True and False -/
def bools : List D → Option (List Bool)
  | [] => some []
  | .bl b :: ds => (bools ds).map (b :: ·)
  | _ :: _ => none
theorem bools_rp {K : PySem.W.Frag} {F : Hp} : ∀ {ds : List D} {vs : List V} {bs : List Bool}, RpL K F vs ds → bools ds = some bs → vs = bs.map V.bl
  | [], _, _, h, e => by cases h; cases e; rfl
  | .bl b :: ds, _, _, h, e => by
    cases h with
    | cons h1 h2 =>
      obtain ⟨cs, e1, rfl⟩ := Option.map_eq_some_iff.mp (show (bools ds).map (b :: ·) = some _ from e)
      cases h1
      rw [bools_rp h2 e1]
      rfl
  | .non :: _, _, _, _, e => by cases e
  | .int _ :: _, _, _, _, e => by cases e
  | .str _ :: _, _, _, _, e => by cases e
  | .lst _ :: _, _, _, _, e => by cases e
  | .tup _ :: _, _, _, _, e => by cases e
  | .dk _ _ :: _, _, _, _, e => by cases e
  | .obj _ _ _ :: _, _, _, _, e => by cases e
  | .scr _ :: _, _, _, _, e => by cases e
@[simp] theorem bools_map (bs : List Bool) : bools (bs.map D.bl) = some bs := by
  induction bs with
  | nil => rfl
  | cons b bs ih =>
    show (bools (bs.map D.bl)).map (b :: ·) = _
    rw [ih]; rfl
def allR (k : List Bool → Bool) : D → Rs D
  | .lst ds => (match bools ds with
    | some bs => .ok (.bl (k bs))
    | none => .bad)
  | _ => .bad
theorem ud_all {K : PySem.W.Frag} (k : List Bool → Bool) : UnD (fun x H Q => (fun vs H Q => ∃ (a : Addr) (bs : List Bool), vs = [V.ref a] ∧ SqL K H a (bs.map V.bl) ∧ Q (.bl (k bs)) H : List V → Hp → VK → Prop) [x] H Q) (rP K) (rC K) (allR k) where
  run := fun {Hs F H x dx Q} s r1 w => by
    unfold allR at w
    split at w
    · split at w
      · rename_i bs e
        cases r1 with
        | @lst a vs ds h1 h2 =>
          have z := bools_rp h2 e
          subst z
          exact ⟨a, bs, rfl, .inl (.inl h1), w _ F H (.refl s) (.bl _)⟩
      · exact w.elim
    · exact w.elim
  nx := fun x c l e => by
    unfold allR at e
    split at e
    · split at e <;> cases e
    · cases e
theorem jall (hc : X.calm = true) (hm : X.mg "all" = none) (ha : DJ X W (rP X.K) a ga) (hg : Gl X "all" := by rfl) (he : starEach [a] X.env = (false, eval a X.env) :: starEach [] X.env := by rfl) : DJ X W (rC X.K) (.Call (.Name "all" p) [a] [] pos) fun ρ => (ga ρ).bind (allR fun bs => bs.all id) :=
  jcall1 (fun _ pa => pe_callB (cr_all hc) hg hm (by decide +kernel) (pa_cons pa pa_nil he) (by decide) (by decide) he) (ud_all _) kC ha
theorem jany (hc : X.calm = true) (hm : X.mg "any" = none) (ha : DJ X W (rP X.K) a ga) (hg : Gl X "any" := by rfl) (he : starEach [a] X.env = (false, eval a X.env) :: starEach [] X.env := by rfl) : DJ X W (rC X.K) (.Call (.Name "any" p) [a] [] pos) fun ρ => (ga ρ).bind (allR fun bs => bs.any id) :=
  jcall1 (fun _ pa => pe_callB (cr_any hc) hg hm (by decide +kernel) (pa_cons pa pa_nil he) (by decide) (by decide) he) (ud_all _) kC ha
/-! isinstance -/
inductive TN where
  | int | bool | str | list | tuple | dict
def TN.nm : TN → String
  | .int => "int"
  | .bool => "bool"
  | .str => "str"
  | .list => "list"
  | .tuple => "tuple"
  | .dict => "dict"
def isiR (n : TN) : D → Rs D
  | .non => .ok (.bl false)
  | .bl _ => (match n with
    | .int => .ok (.bl true)
    | .bool => .ok (.bl true)
    | _ => .ok (.bl false))
  | .int _ => (match n with
    | .int => .ok (.bl true)
    | _ => .ok (.bl false))
  | .str _ => (match n with
    | .str => .ok (.bl true)
    | _ => .ok (.bl false))
  | .lst _ => (match n with
    | .list => .ok (.bl true)
    | _ => .ok (.bl false))
  | .tup _ => (match n with
    | .tuple => .ok (.bl true)
    | _ => .ok (.bl false))
  | .dk _ _ => (match n with
    | .dict => .ok (.bl true)
    | _ => .ok (.bl false))
  | _ => .bad
def tyN : D → Option String
  | .non => some "NoneType"
  | .bl _ => some "bool"
  | .int _ => some "int"
  | .str _ => some "str"
  | .lst _ => some "list"
  | .tup _ => some "tuple"
  | .dk _ _ => some "dict"
  | _ => none
theorem Rp.tyx {K : PySem.W.Frag} {H : Hp} {v : V} {d : D} (r : Rp K H v d) {t : String} (e : tyN d = some t) : TyX K H v (.type t) := by
  cases r with
  | non => cases e; exact .base .non
  | bl b => cases e; exact .base (.bl b)
  | int i => cases e; exact .base (.int i)
  | str s _ => cases e; exact .base (.str s)
  | lst h1 h2 => cases e; exact .base (.lst h1)
  | tup h1 h2 =>
    cases e
    rcases h1 with (h | ⟨o, h⟩) | ⟨o, its, n, h, hc, _⟩
    · exact .base (.tup h)
    · exact .fTuple h
    · exact .kTuple h hc
  | dk h1 h2 h3 =>
    cases e
    rcases h1 with h | ⟨o, h⟩
    · exact .base (.dK h)
    · exact .fDict h
  | obj h1 h2 h3 => cases e
  | scr h1 => cases e
theorem kit_tab (t : String) (ht : t = "NoneType" ∨ t = "bool" ∨ t = "int" ∨ t = "str" ∨ t = "list" ∨ t = "tuple" ∨ t = "dict") (n : TN) :
    kitB t n.nm = some (decide (t = n.nm) || (decide (t = "bool") && decide (n.nm = "int"))) := by
  rcases ht with rfl | rfl | rfl | rfl | rfl | rfl | rfl <;> cases n <;> decide +kernel
theorem isi_run {K : PySem.W.Frag} {Hs F H : Hp} {x : V} {d : D} {n : TN} {Q : VK} (s : Sub F H) (r : rP K Hs F H x d) (w : Wp0 (isiR n d) fun c => ∀ v F' H', Ext F H F' H' → rC K H F' H' v c → Q v H') : rIsi K [x, .ty n.nm] H Q := by
  have key : ∃ t, tyN d = some t ∧ (t = "NoneType" ∨ t = "bool" ∨ t = "int" ∨ t = "str" ∨ t = "list" ∨ t = "tuple" ∨ t = "dict") ∧ isiR n d = .ok (.bl (decide (t = n.nm) || (decide (t = "bool") && decide (n.nm = "int")))) := by
    cases d <;> first
      | (exact w.elim)
      | (refine ⟨_, rfl, by simp, ?_⟩; cases n <;> rfl)
  obtain ⟨t, e1, e2, e3⟩ := key
  rw [e3] at w
  exact ⟨x, .ty n.nm, .type t, .type n.nm, _, rfl, .ty _, r.tyx e1, kit_ty (kit_tab t e2 n), w _ F H (.refl s) (.bl _)⟩
theorem jisi {x : Str} {p2 : Pos} (n : TN) (hm : X.mg "isinstance" = none) (hm2 : X.mg x = none) (hv : bootBuiltins x = some (.type n.nm)) (ha : DJ X W (rP X.K) a ga) (hg : Gl X "isinstance" := by rfl) (hg2 : Gl X x := by rfl)
    (hn2 : x ≠ "__name__" := by decide) (hd2 : (x == ("__debug__" : Str)) = false := by decide) (he : starEach [a, .Name x p2] X.env = (false, eval a X.env) :: starEach [.Name x p2] X.env := by rfl) (he2 : starEach [.Name x p2] X.env = (false, eval (.Name x p2) X.env) :: starEach [] X.env := by rfl)
    (hpl : (backTo pos (starEach [.Name x p2] X.env)).any (·.1) = false := by rfl) : DJ X W (rC X.K) (.Call (.Name "isinstance" p) [a, .Name x p2] [] pos) fun ρ => (ga ρ).bind (isiR n) := by
  obtain ⟨t, pa, q⟩ := ha.ex
  have pn : PE X (.Name x p2) (tC (.ty n.nm)) := pe_bltn hg2 hm2 hv rfl hn2 hd2
  refine ⟨_, pe_callB call_isi hg hm (by decide +kernel) (pa_cons pa (pa_cons pn pa_nil he2) he) (by decide) (by decide) he hpl, fun F σ ρ H Q I w => q F σ ρ H _ I (Wp.mono (Wp.bind w) fun d w v F1 H1 x1 r1 => ?_)⟩
  refine isi_run (Hs := H) x1.sub r1 ?_
  have w' := Wp.of0 (r := isiR n d) (fun c l e => by cases d <;> first | cases e | (cases n <;> cases e)) w
  cases z : isiR n d with
  | ok c => rw [z] at w'; exact fun v F' H' x2 r2 => w' v F' H' (x1.trans x2) r2
  | exn c l => rw [z] at w'; exact w'.elim
  | bad => rw [z] at w'; exact w'.elim
/-! join -/
def texts : List D → Option (List Str)
  | [] => some []
  | .str s :: ds => (texts ds).map (s :: ·)
  | _ :: _ => none
theorem texts_rp {K : PySem.W.Frag} {F : Hp} : ∀ {ds : List D} {vs : List V} {ss : List Str}, RpL K F vs ds → texts ds = some ss → vs = ss.map V.str ∧ ∀ s ∈ ss, sOk s = true
  | [], _, _, h, e => by cases h; cases e; exact ⟨rfl, fun _ hs => by cases hs⟩
  | .str b :: ds, _, _, h, e => by
    cases h with
    | cons h1 h2 =>
      obtain ⟨cs, e1, rfl⟩ := Option.map_eq_some_iff.mp (show (texts ds).map (b :: ·) = some _ from e)
      cases h1 with
      | str _ ok =>
        obtain ⟨e2, e3⟩ := texts_rp h2 e1
        rw [e2]
        exact ⟨rfl, fun s hs => by
          rcases List.mem_cons.mp hs with rfl | hs
          · exact ok
          · exact e3 s hs⟩
  | .non :: _, _, _, _, e => by cases e
  | .int _ :: _, _, _, _, e => by cases e
  | .bl _ :: _, _, _, _, e => by cases e
  | .lst _ :: _, _, _, _, e => by cases e
  | .tup _ :: _, _, _, _, e => by cases e
  | .dk _ _ :: _, _, _, _, e => by cases e
  | .obj _ _ _ :: _, _, _, _, e => by cases e
  | .scr _ :: _, _, _, _, e => by cases e
@[simp] theorem texts_map (ss : List Str) : texts (ss.map D.str) = some ss := by
  induction ss with
  | nil => rfl
  | cons b bs ih =>
    show (texts (bs.map D.str)).map (b :: ·) = _
    rw [ih]; rfl
end
end Dn

/-! Dn6: join, targets, what a loop walks, comprehensions. -/
namespace Dn
open PySem PySem.Spec L2

/-! ### join -/
def totalS (n : Nat) : List Str → Nat
  | [] => 0
  | s :: ss => s.length + n + totalS n ss
theorem totalS_eq (n : Nat) : ∀ ss : List Str, (ss.map (·.length)).sum + ss.length * n = totalS n ss
  | [] => by simp [totalS]
  | s :: ss => by
    have ih := totalS_eq n ss
    rw [List.map_cons, List.sum_cons, List.length_cons, totalS, Nat.add_mul]
    omega
theorem join_sOk {a : Str} (ha : sOk a = true) : ∀ {ss : List Str}, (∀ s ∈ ss, sOk s = true) → totalS a.length ss ≤ 16777216 → (Str.join a ss).length ≤ totalS a.length ss ∧ sOk (Str.join a ss) = true
  | [], _, _ => ⟨Nat.zero_le _, (by decide +kernel : sOk Str.empty = true)⟩
  | [s], h, _ => ⟨by show s.length ≤ s.length + a.length + 0; omega, h s (by simp)⟩
  | s :: z :: r, h, l => by
    have l2 : totalS a.length (s :: z :: r) = s.length + a.length + totalS a.length (z :: r) := rfl
    obtain ⟨i1, i2⟩ := join_sOk ha (ss := z :: r) (fun q hq => h q (List.mem_cons_of_mem _ hq)) (by omega)
    have la : (s ++ a).length = s.length + a.length := by
      show (s.cps ++ a.cps).size = _
      rw [Array.size_append]; rfl
    have e : Str.join a (s :: z :: r) = s ++ a ++ Str.join a (z :: r) := rfl
    have lb : (s ++ a ++ Str.join a (z :: r)).length = (s ++ a).length + (Str.join a (z :: r)).length := by
      show ((s ++ a).cps ++ (Str.join a (z :: r)).cps).size = _
      rw [Array.size_append]; rfl
    refine ⟨by rw [e, lb, la]; omega, ?_⟩
    rw [e]
    refine sOk_append (sOk_append (h s (by simp)) ha (by omega)) i2 ?_
    rw [la]
    omega
def isStr : D → Rs D
  | .str s => .ok (.str s)
  | _ => .bad
def joinR : D → D → Rs D
  | .str a, .lst ds => (match texts ds with
    | some ss => if totalS a.length ss ≤ 16777216 then .ok (.str (Str.join a ss)) else .bad
    | none => .bad)
  | _, _ => .bad
section
variable {X : Cx} {W : WX} {a b : Expr} {p pos apos : Pos} {ga gb : Env → Rs D}
theorem jjoin (ha : DJ X W (rP X.K) a ga) (hb : DJ X W (rP X.K) b gb) (hs : starEach [b] X.env = [(false, eval b X.env)] := by rfl) (hbase : attributeBase a "join" X.env (eval a X.env) = eval a X.env := by rfl) (hline : (apos.endLine == pos.line) = true := by rfl) :
    DJ X W (rC X.K) (.Call (.Attribute a "join" apos) [b] [] pos) fun ρ => (ga ρ).bind fun x => (isStr x).bind fun x => (gb ρ).bind fun y => joinR x y := by
  obtain ⟨t, pa, q⟩ := ha.ex
  obtain ⟨u, pb, q2⟩ := hb.ex
  refine ⟨_, pe_join pa pb hs hbase hline, fun F σ ρ H Q I w => q F σ ρ H _ I (Wp.mono (Wp.bind w) fun d w v F1 H1 x1 r1 => ?_)⟩
  cases r1 with
  | str z ok =>
    refine ⟨⟨z, rfl⟩, q2 F1 σ ρ H1 _ (I.ext x1) (Wp.mono (Wp.ext x1 (Wp.bind w)) fun d2 w v2 F2 H2 x2 r2 => ?_)⟩
    unfold joinR at w
    split at w
    · rename_i a' ds e1
      cases e1
      split at w
      · rename_i ss e
        cases r2 with
        | @lst p vs _ h1 h2 =>
          obtain ⟨e2, e3⟩ := texts_rp h2 e
          subst e2
          by_cases c : totalS z.length ss ≤ 16777216
          · rw [if_pos c] at w
            refine ⟨z, p, ss, rfl, rfl, .inl (.inl (.inl h1)), by rw [totalS_eq]; exact c, ?_⟩
            rw [TL.join_eq]
            exact w _ F2 H2 (x1.trans x2) (.str _ (join_sOk ok e3 c).2)
          · rw [if_neg c] at w
            exact w.elim
      · exact w.elim
    · exact w.elim
  | _ => exact w.elim
end

/-! ### targets: shared data goes into slots -/
/-- σ' is σ but for the slots is -/
def Out (is : List Nat) (σ σ' : St) : Prop := σ'.length = σ.length ∧ ∀ i, i ∉ is → σ'[i]? = σ[i]?
theorem Out.refl {is : List Nat} {σ : St} : Out is σ σ := ⟨rfl, fun _ _ => rfl⟩
theorem Out.trans {is : List Nat} {σ σ1 σ2 : St} (a : Out is σ σ1) (b : Out is σ1 σ2) : Out is σ σ2 := ⟨b.1.trans a.1, fun i h => (b.2 i h).trans (a.2 i h)⟩
theorem Out.set {is : List Nat} {σ : St} {i : Nat} {x : Option V} (h : i ∈ is) : Out is σ (σ.set i x) := ⟨List.length_set, fun j hj => List.getElem?_set_ne (fun e => hj (by rw [← e]; exact h))⟩
structure DG (X : Cx) (tg : Expr) (is : List Nat) (f : D → Env → Rs Env) : Prop where
  ex : ∃ t : TG, PG X tg t ∧ ∀ F H σ ρ fp v d Q, Sub F H → OwnE X.K F H σ ρ fp → Rp X.K F v d → Wp0 (f d ρ) (fun ρ' => ∀ σ' fp', OwnE X.K F H σ' ρ' fp' → fp'.Sublist fp → Out is σ σ' → Q σ' H) → t v σ H Q
structure DGs (X : Cx) (ts : List Expr) (is : List Nat) (f : List D → Env → Rs Env) : Prop where
  ex : ∃ t : TGs, PGs X ts t ∧ ∀ F H σ ρ fp vs ds Q, Sub F H → OwnE X.K F H σ ρ fp → RpL X.K F vs ds → Wp0 (f ds ρ) (fun ρ' => ∀ σ' fp', OwnE X.K F H σ' ρ' fp' → fp'.Sublist fp → Out is σ σ' → Q σ' H) → t vs σ H Q
theorem set_set_none (ρ : Env) (i : Nat) (t : T) : (ρ.set i none).set i (some t) = ρ.set i (some t) := by simp
theorem OwnE.put {K : PySem.W.Frag} {F H : Hp} {σ : St} {ρ : Env} {fp : List Addr} (o : OwnE K F H σ ρ fp) (i : Nat) {v : V} {d : D} (r : Rp K F v d) : ∃ fp', OwnE K F H (σ.set i (some v)) (ρ.set i (some (.sh d))) fp' ∧ fp'.Sublist fp := by
  by_cases h : i < ρ.length
  · obtain ⟨g, o1, s1⟩ := o.drop i
    have e : (ρ.set i none)[i]? = some none := by simp [h]
    obtain ⟨g1, g2, e1, o2⟩ := o1.set e (Own.sh r)
    rw [set_set_none] at o2
    refine ⟨_, o2, ?_⟩
    rw [e1] at s1
    simpa using s1
  · have hl := o.length
    rw [List.set_eq_of_length_le (by omega), List.set_eq_of_length_le (by omega)]
    exact ⟨fp, o, List.Sublist.refl _⟩
section
variable {X : Cx} {is : List Nat}
def setE (i : Nat) (d : D) (ρ : Env) : Rs Env := .ok (ρ.set i (some (.sh d)))
theorem gname {i : Nat} {x : Str} {pos : Pos} (h : PG X (.Name x pos) (gName i)) (hi : i ∈ is := by simp) : DG X (.Name x pos) is (setE i) :=
  ⟨_, h, fun F H σ ρ fp v d Q s o r w => by
    obtain ⟨fp', o2, s2⟩ := o.put i r
    exact w _ _ o2 s2 (.set hi)⟩
def nilE (ds : List D) (ρ : Env) : Rs Env := match ds with
  | [] => .ok ρ
  | _ => .bad
theorem gnil : DGs X [] is nilE := ⟨_, pgs_nil, fun F H σ ρ fp vs ds Q s o r w => by
      cases r with
      | nil => exact ⟨rfl, w _ _ o (List.Sublist.refl _) .refl⟩
      | cons _ _ => exact w.elim⟩
def consE (f : D → Env → Rs Env) (fs : List D → Env → Rs Env) (ds : List D) (ρ : Env) : Rs Env := match ds with
  | d :: ds => (f d ρ).bind fun ρ => fs ds ρ
  | [] => .bad
theorem gcons {e : Expr} {es : List Expr} {f : D → Env → Rs Env} {fs : List D → Env → Rs Env} (h : DG X e is f) (k : DGs X es is fs) (hs : (assignEach (e :: es) X.env).map (·.2) = assign e X.env :: (assignEach es X.env).map (·.2) := by rfl) : DGs X (e :: es) is (consE f fs) := by
  obtain ⟨t, p, q⟩ := h.ex
  obtain ⟨u, p2, q2⟩ := k.ex
  refine ⟨_, pgs_cons p p2 hs, fun F H σ ρ fp vs ds Q s o r w => ?_⟩
  cases r with
  | nil => exact w.elim
  | cons r1 r2 =>
    refine ⟨_, _, rfl, q F H σ ρ fp _ _ _ s o r1 ?_⟩
    rename_i d ds
    have w' : Wp0 ((f d ρ).bind fun ρ => fs ds ρ) _ := w
    cases z : f d ρ with
    | ok ρ' =>
      rw [z] at w'
      exact fun σ' fp' o' s' u' => q2 F H σ' ρ' fp' _ _ _ s o' r2 (by
        have w2 : Wp0 (fs ds ρ') _ := w'
        cases z2 : fs ds ρ' with
        | ok ρ2 =>
          rw [z2] at w2
          exact fun σ2 fp2 o2 s2 u2 => w2 σ2 fp2 o2 (s2.trans s') (u'.trans u2)
        | exn c l => rw [z2] at w2; exact w2.elim
        | bad => rw [z2] at w2; exact w2.elim)
    | exn c l => rw [z] at w'; exact w'.elim
    | bad => rw [z] at w'; exact w'.elim
def tupE (n : Nat) (fs : List D → Env → Rs Env) (d : D) (ρ : Env) : Rs Env := match d with
  | .tup ds => if ds.length = n then fs ds ρ else .bad
  | _ => .bad
theorem gtup {es : List Expr} {kk : Nat} {n : Nat} {pos : Pos} {fs : List D → Env → Rs Env} (hc : X.calm = true) (k : DGs X es is fs) (hn : (assignEach es X.env).length = n := by rfl) (hst : (assignEach es X.env).findIdx? (·.1) = none := by rfl) : DG X (.Tuple es kk pos) is (tupE n fs) := by
  obtain ⟨u, p2, q2⟩ := k.ex
  refine ⟨_, pg_tup hc p2 hn hst, fun F H σ ρ fp v d Q s o r w => ?_⟩
  cases r with
  | @tup a vs ds h1 h2 =>
    have w' : Wp0 (if ds.length = n then fs ds ρ else .bad) _ := w
    obtain ⟨c, w2⟩ := Wp0.ite w'
    exact ⟨a, vs, rfl, s.sqT h1, by rw [h2.length]; exact c, q2 F H σ ρ fp vs ds Q s o h2 w2⟩
  | _ => exact w.elim
end

/-! ### what is walked -/
structure ItD (K : PySem.W.Frag) (J : It) (F : Hp) (ds : List D) : Prop where
  go : ∀ i F' H, Same F F' → Sub F' H → i < ds.length → J.go i H
  stop : ∀ i F' H, Same F F' → Sub F' H → ds.length ≤ i → J.stop i H
  yld : ∀ i F' H x H', Same F F' → Sub F' H → i < ds.length → J.yld i H x H' → ∃ F'' d, ds[i]? = some d ∧ Ext F' H F'' H' ∧ Rp K F'' x d
theorem ItD.same {K : PySem.W.Frag} {J : It} {F G : Hp} {ds : List D} (h : ItD K J F ds) (s : Same F G) : ItD K J G ds :=
  ⟨fun i F' H a b => h.go i F' H (same_trans s a) b, fun i F' H a b => h.stop i F' H (same_trans s a) b, fun i F' H x H' a b => h.yld i F' H x H' (same_trans s a) b⟩
structure DI (X : Cx) (W : WX) (tg e : Expr) (g : Env → Rs (List D)) : Prop where
  ex : ∃ t : TI, PI X tg e t ∧ ∀ F σ ρ H (R : It → Hp → Prop), EnvI X.K F σ ρ H → (Wp X.K W F H σ (g ρ) fun ds => ∀ J F' H', Ext F H F' H' → ItD X.K J F' ds → R J H') → t σ H R
section
variable {K : PySem.W.Frag}
theorem itd_list {F : Hp} {a : Addr} {vs : List V} {ds : List D} (h : F a = some (.lst vs)) (r : RpL K F vs ds) : ItD K (Itl K a) F ds where
  go := fun i F' H s1 s2 hi => by
    have hi' : i < vs.length := by rw [r.length]; exact hi
    exact ⟨vs, vs[i], .inl (.inl (s2.lst (s1 _ _ h))), List.getElem?_eq_getElem hi'⟩
  stop := fun i F' H s1 s2 hi => ⟨vs, .inl (.inl (s2.lst (s1 _ _ h))), by rw [r.length]; exact hi⟩
  yld := fun i F' H x H' s1 s2 hi y => by
    obtain ⟨rfl, y⟩ := y
    obtain ⟨d, e, r2⟩ := r.get (y vs (.inl (.inl (s2.lst (s1 _ _ h)))))
    exact ⟨F', d, e, .refl s2, r2.same s1⟩
theorem itd_tup {F : Hp} {a : Addr} {vs : List V} {ds : List D} (h : SqT K F a vs) (r : RpL K F vs ds) : ItD K (Itt K a) F ds where
  go := fun i F' H s1 s2 hi => by
    have hi' : i < vs.length := by rw [r.length]; exact hi
    exact ⟨vs, vs[i], s2.sqT ((Sub.of_same s1).sqT h), List.getElem?_eq_getElem hi'⟩
  stop := fun i F' H s1 s2 hi => ⟨vs, s2.sqT ((Sub.of_same s1).sqT h), by rw [r.length]; exact hi⟩
  yld := fun i F' H x H' s1 s2 hi y => by
    obtain ⟨rfl, y⟩ := y
    obtain ⟨d, e, r2⟩ := r.get (y vs (s2.sqT ((Sub.of_same s1).sqT h)))
    exact ⟨F', d, e, .refl s2, r2.same s1⟩
theorem itd_scr {F : Hp} {a : Addr} {ns : List Int} (h : SqL K F a (ns.map V.int)) : ItD K (Itl K a) F (ns.map D.int) where
  go := fun i F' H s1 s2 hi => by
    have hi' : i < (ns.map V.int).length := by simpa using hi
    exact ⟨_, (ns.map V.int)[i], s2.sqL ((Sub.of_same s1).sqL h), List.getElem?_eq_getElem hi'⟩
  stop := fun i F' H s1 s2 hi => ⟨_, s2.sqL ((Sub.of_same s1).sqL h), by simpa using hi⟩
  yld := fun i F' H x H' s1 s2 hi y => by
    obtain ⟨rfl, y⟩ := y
    have e := y _ (s2.sqL ((Sub.of_same s1).sqL h))
    rw [List.getElem?_map] at e
    obtain ⟨n, e1, e2⟩ := Option.map_eq_some_iff.mp e
    subst e2
    exact ⟨F', .int n, by rw [List.getElem?_map, e1]; rfl, .refl s2, .int n⟩
/-- lo, lo + 1, .. -/
def intD (lo : Int) (n : Nat) : List D := (List.range n).map fun (i : Nat) => D.int (lo + i)
theorem itd_rng {F : Hp} {lo : Int} {n : Nat} : ItD K (Itr lo n) F (intD lo n) where
  go := fun i F' H s1 s2 hi => by
    unfold intD at hi
    show i < n
    simpa using hi
  stop := fun i F' H s1 s2 hi => by
    unfold intD at hi
    show n ≤ i
    simpa using hi
  yld := fun i F' H x H' s1 s2 hi y => by
    obtain ⟨rfl, rfl⟩ := y
    unfold intD at hi ⊢
    have hi' : i < n := by simpa using hi
    exact ⟨F', .int (lo + i), by simp [hi'], .refl s2, .int _⟩
theorem itd_str {F : Hp} {z : Str} (ok : sOk z = true) : ItD K (Its z) F (z.cps.toList.map fun c => D.str ⟨#[c]⟩) where
  go := fun i F' H s1 s2 hi => by
    show i < z.cps.size
    simpa using hi
  stop := fun i F' H s1 s2 hi => by
    show z.cps.size ≤ i
    simpa using hi
  yld := fun i F' H x H' s1 s2 hi y => by
    obtain ⟨rfl, c, e, rfl⟩ := y
    refine ⟨F', .str ⟨#[c]⟩, by simp [e], .refl s2, .str _ (sOk_sign (i := (i : Int)) ok (atI_nat (by simpa using e)))⟩
def enums : Nat → List D → List D
  | _, [] => []
  | i, d :: ds => .tup [.int i, d] :: enums (i + 1) ds
theorem enums_get : ∀ (k : Nat) (ds : List D) (i : Nat), (enums k ds)[i]? = (ds[i]?).map fun d => .tup [.int ((k + i : Nat) : Int), d]
  | _, [], _ => by simp [enums]
  | k, d :: ds, 0 => by simp [enums]
  | k, d :: ds, i + 1 => by
    rw [enums]
    simp only [List.getElem?_cons_succ]
    rw [enums_get (k + 1) ds i]
    have : k + 1 + i = k + (i + 1) := by omega
    rw [this]
theorem enums_length : ∀ (k : Nat) (ds : List D), (enums k ds).length = ds.length
  | _, [] => rfl
  | k, d :: ds => by rw [enums, List.length_cons, List.length_cons, enums_length]
theorem itd_enum {F : Hp} {a : Addr} {vs : List V} {ds : List D} (h : F a = some (.lst vs)) (r : RpL K F vs ds) : ItD K (Ite K a) F (enums 0 ds) where
  go := fun i F' H s1 s2 hi => by
    have hi' : i < vs.length := by rw [r.length]; rw [enums_length] at hi; exact hi
    exact ⟨vs, vs[i], .inl (.inl (s2.lst (s1 _ _ h))), List.getElem?_eq_getElem hi'⟩
  stop := fun i F' H s1 s2 hi => ⟨vs, .inl (.inl (s2.lst (s1 _ _ h))), by rw [r.length]; rw [enums_length] at hi; exact hi⟩
  yld := fun i F' H x H' s1 s2 hi y => by
    obtain ⟨p, u, rfl, hp, rfl, y⟩ := y
    obtain ⟨d, e, r2⟩ := r.get (y vs (.inl (.inl (s2.lst (s1 _ _ h)))))
    obtain ⟨x2, o⟩ := new_tup (K := K) s2 hp (vs := [.int (i : Nat), u]) (ds := [.int (i : Nat), d]) (.cons (.int _) (.cons (r2.same s1) .nil))
    exact ⟨_, .tup [.int (i : Nat), d], by rw [enums_get, e]; simp, x2, o⟩
def zips : List D → List D → List D
  | a :: as, b :: bs => .tup [a, b] :: zips as bs
  | _, _ => []
theorem zips_get : ∀ (as bs : List D) (i : Nat) (a b : D), as[i]? = some a → bs[i]? = some b → (zips as bs)[i]? = some (.tup [a, b])
  | [], _, _, _, _, e, _ => by simp at e
  | _ :: _, [], _, _, _, _, e => by simp at e
  | a :: as, b :: bs, 0, _, _, e, f => by simp at e f; subst e f; rfl
  | a :: as, b :: bs, i + 1, x, y, e, f => by
    rw [zips]
    simpa using zips_get as bs i x y (by simpa using e) (by simpa using f)
theorem zips_length : ∀ (as bs : List D), (zips as bs).length = min as.length bs.length
  | [], _ => by simp [zips]
  | _ :: _, [] => by simp [zips]
  | a :: as, b :: bs => by
    rw [zips, List.length_cons, List.length_cons, List.length_cons, zips_length]
    omega
theorem itd_zip {F : Hp} {a b : Addr} {vs ws : List V} {ds es : List D} (h : F a = some (.lst vs)) (r : RpL K F vs ds) (h' : F b = some (.lst ws)) (r' : RpL K F ws es) : ItD K (Itz K a b) F (zips ds es) where
  go := fun i F' H s1 s2 hi => by
    rw [zips_length] at hi
    have hi1 : i < vs.length := by rw [r.length]; omega
    have hi2 : i < ws.length := by rw [r'.length]; omega
    exact ⟨vs, ws, vs[i], ws[i], .inl (.inl (s2.lst (s1 _ _ h))), .inl (.inl (s2.lst (s1 _ _ h'))), List.getElem?_eq_getElem hi1, List.getElem?_eq_getElem hi2⟩
  stop := fun i F' H s1 s2 hi => by
    rw [zips_length] at hi
    refine ⟨vs, ws, .inl (.inl (s2.lst (s1 _ _ h))), .inl (.inl (s2.lst (s1 _ _ h'))), ?_⟩
    rw [r.length, r'.length]
    omega
  yld := fun i F' H x H' s1 s2 hi y => by
    obtain ⟨p, u, u', rfl, hp, rfl, y, y'⟩ := y
    obtain ⟨d, e, r2⟩ := r.get (y vs (.inl (.inl (s2.lst (s1 _ _ h)))))
    obtain ⟨d', e', r2'⟩ := r'.get (y' ws (.inl (.inl (s2.lst (s1 _ _ h')))))
    obtain ⟨x2, o⟩ := new_tup (K := K) s2 hp (vs := [u, u']) (ds := [d, d']) (.cons (r2.same s1) (.cons (r2'.same s1) .nil))
    exact ⟨_, .tup [d, d'], zips_get _ _ _ _ _ e e', x2, o⟩
end
end Dn

/-! Dn7: walks, list comprehensions. -/
namespace Dn
open PySem PySem.Spec L2
theorem PI.or {X : Cx} {tg e : Expr} {t u : TI} (h : PI X tg e t) (k : PI X tg e u) : PI X tg e fun σ H R => t σ H R ∨ u σ H R := by
  constructor
  intro pins s σ H R I w
  rcases w with w | w
  · exact h.run pins s σ H R I w
  · exact k.run pins s σ H R I w
/-- the items of a list, a tuple, a text, the script -/
def itemsR : D → Rs (List D)
  | .lst ds => .ok ds
  | .tup ds => .ok ds
  | .scr ns => .ok (ns.map D.int)
  | .str z => .ok (z.cps.toList.map fun c => D.str ⟨#[c]⟩)
  | _ => .bad
section
variable {X : Cx} {W : WX} {tg a b c : Expr} {p pos : Pos} {ga gb gc : Env → Rs D}
theorem dany (ha : DJ X W (rC X.K) a ga) : DI X W tg a fun ρ => (ga ρ).bind itemsR := by
  obtain ⟨t, pa, q⟩ := ha.ex
  refine ⟨_, PI.or (pi_list pa) (PI.or (pi_tup pa) (pi_str pa)), fun F σ ρ H R I w => ?_⟩
  have key : (∃ ds, ga ρ = .ok (.tup ds)) ∨ (∃ z, ga ρ = .ok (.str z)) ∨ (∀ ds, ga ρ ≠ .ok (.tup ds)) ∧ ∀ z, ga ρ ≠ .ok (.str z) := by
    cases ga ρ with
    | ok d => cases d <;> simp
    | exn c l => simp
    | bad => simp
  rcases key with ⟨ds, e⟩ | ⟨z, e⟩ | ⟨n1, n2⟩
  · rw [e] at w
    refine .inr (.inl (q F σ ρ H _ I ?_))
    rw [e]
    intro v F1 H1 x1 r1
    cases r1 with
    | @tup p vs _ h1 h2 => exact ⟨p, rfl, ⟨vs, x1.sub.sqT h1⟩, w _ F1 H1 x1 (itd_tup h1 h2)⟩
  · rw [e] at w
    refine .inr (.inr (q F σ ρ H _ I ?_))
    rw [e]
    intro v F1 H1 x1 r1
    cases r1 with
    | str _ ok => exact ⟨z, rfl, w _ F1 H1 x1 (itd_str ok)⟩
  · refine .inl (q F σ ρ H _ I ?_)
    cases e : ga ρ with
    | ok d =>
      rw [e] at w
      intro v F1 H1 x1 r1
      cases r1 with
      | @lst p vs ds h1 h2 => exact ⟨p, rfl, ⟨vs, .inl (.inl (x1.sub.lst h1))⟩, w _ F1 H1 x1 (itd_list h1 h2)⟩
      | @scr p ns h1 => exact ⟨p, rfl, ⟨_, x1.sub.sqL h1⟩, w _ F1 H1 x1 (itd_scr h1)⟩
      | tup h1 h2 => exact absurd e (n1 _)
      | str z ok => exact absurd e (n2 _)
      | _ => exact w.elim
    | exn c l => rw [e] at w; exact w
    | bad => rw [e] at w; exact w.elim
def okR (i : Int) : Bool := Nat.ble i.natAbs 4611686018427387903
theorem okR_of {i : Int} (h : okR i = true) : -(2 ^ 62) ≤ i ∧ i < 2 ^ 62 := by
  have := Nat.le_of_ble_eq_true h
  constructor <;> omega
def rng1R : D → Rs (List D)
  | .int j => if okR j = true then .ok (intD 0 j.toNat) else .bad
  | _ => .bad
def rng2R : D → D → Rs (List D)
  | .int i, .int j => if (okR i && okR j) = true then .ok (intD i (j - i).toNat) else .bad
  | _, _ => .bad
theorem drng1 (hm : X.mg "range" = none) (ha : DJ X W (rP X.K) a ga) (hg : Gl X "range" := by rfl) (hs : starEach [a] X.env = [(false, eval a X.env)] := by rfl) (he : starEach [a] X.env = (false, eval a X.env) :: starEach [] X.env := by rfl) : DI X W tg (.Call (.Name "range" p) [a] [] pos) fun ρ => (ga ρ).bind rng1R := by
  obtain ⟨t, pa, q⟩ := ha.ex
  refine ⟨_, pi_range1 hg hm (pa_cons pa pa_nil he) hs, fun F σ ρ H R I w => q F σ ρ H _ I (Wp.mono (Wp.bind w) fun d w v F1 H1 x1 r1 => ?_)⟩
  unfold rng1R at w
  split at w
  · rename_i j
    cases r1
    by_cases c : okR j = true
    · rw [if_pos c] at w
      obtain ⟨c1, c2⟩ := okR_of c
      exact ⟨j, rfl, c1, c2, w _ F1 H1 x1 itd_rng⟩
    · rw [if_neg c] at w
      exact w.elim
  · exact w.elim
theorem drng2 (hm : X.mg "range" = none) (ha : DJ X W (rP X.K) a ga) (hb : DJ X W (rP X.K) b gb) (hg : Gl X "range" := by rfl) (hs : starEach [a, b] X.env = [(false, eval a X.env), (false, eval b X.env)] := by rfl) (hs2 : starEach [b] X.env = [(false, eval b X.env)] := by rfl)
    (he : starEach [a, b] X.env = (false, eval a X.env) :: starEach [b] X.env := by rfl) (he2 : starEach [b] X.env = (false, eval b X.env) :: starEach [] X.env := by rfl) : DI X W tg (.Call (.Name "range" p) [a, b] [] pos) fun ρ => (ga ρ).bind fun x => (gb ρ).bind fun y => rng2R x y := by
  obtain ⟨t, pa, q⟩ := ha.ex
  obtain ⟨u, pb, q2⟩ := hb.ex
  refine ⟨_, pi_range2 hg hm (pa_cons pa (pa_cons pb pa_nil he2) he) hs hs2, fun F σ ρ H R I w => q F σ ρ H _ I (Wp.mono (Wp.bind w) fun d w v F1 H1 x1 r1 => ?_)⟩
  refine q2 F1 σ ρ H1 _ (I.ext x1) (Wp.mono (Wp.ext x1 (Wp.bind w)) fun d2 w v2 F2 H2 x2 r2 => ?_)
  unfold rng2R at w
  split at w
  · rename_i i j _
    cases r1
    cases r2
    by_cases c : (okR i && okR j) = true
    · rw [if_pos c] at w
      obtain ⟨c1, c2⟩ := Bool.and_eq_true_iff.mp c
      exact ⟨i, j, rfl, ⟨(okR_of c1).1, (okR_of c1).2, (okR_of c2).1, (okR_of c2).2⟩, w _ F2 H2 (x1.trans x2) itd_rng⟩
    · rw [if_neg c] at w
      exact w.elim
  · exact w.elim
def enumR : D → Rs (List D)
  | .lst ds => .ok (enums 0 ds)
  | _ => .bad
theorem denum {elts : List Expr} {kk : Nat} {tpos : Pos} (hm : X.mg "enumerate" = none) (ha : DJ X W (rC X.K) a ga) (hg : Gl X "enumerate" := by rfl) (hs : starEach [a] X.env = [(false, eval a X.env)] := by rfl) (he : starEach [a] X.env = (false, eval a X.env) :: starEach [] X.env := by rfl) :
    DI X W (.Tuple elts kk tpos) (.Call (.Name "enumerate" p) [a] [] pos) fun ρ => (ga ρ).bind enumR := by
  obtain ⟨t, pa, q⟩ := ha.ex
  refine ⟨_, pi_enum hg hm (pa_cons pa pa_nil he) hs, fun F σ ρ H R I w => q F σ ρ H _ I (Wp.mono (Wp.bind w) fun d w v F1 H1 x1 r1 => ?_)⟩
  unfold enumR at w
  split at w
  · cases r1 with
    | @lst p vs ds h1 h2 => exact ⟨p, vs, rfl, .inl (.inl (x1.sub.lst h1)), w _ F1 H1 x1 (itd_enum h1 h2)⟩
  · exact w.elim
def zipR : D → D → Rs (List D)
  | .lst as, .lst bs => .ok (zips as bs)
  | _, _ => .bad
theorem dzip {elts : List Expr} {kk : Nat} {tpos : Pos} (hm : X.mg "zip" = none) (ha : DJ X W (rC X.K) a ga) (hb : DJ X W (rC X.K) b gb) (hg : Gl X "zip" := by rfl) (he : starEach [a, b] X.env = (false, eval a X.env) :: starEach [b] X.env := by rfl) (he2 : starEach [b] X.env = (false, eval b X.env) :: starEach [] X.env := by rfl)
    (hpl : (backTo pos (starEach [b] X.env)).any (·.1) = false := by rfl) : DI X W (.Tuple elts kk tpos) (.Call (.Name "zip" p) [a, b] [] pos) fun ρ => (ga ρ).bind fun x => (gb ρ).bind fun y => zipR x y := by
  obtain ⟨t, pa, q⟩ := ha.ex
  obtain ⟨u, pb, q2⟩ := hb.ex
  refine ⟨_, pi_zip hg hm (pa_cons pa (pa_cons pb pa_nil he2) he) he hpl, fun F σ ρ H R I w => q F σ ρ H _ I (Wp.mono (Wp.bind w) fun d w v F1 H1 x1 r1 => ?_)⟩
  refine q2 F1 σ ρ H1 _ (I.ext x1) (Wp.mono (Wp.ext x1 (Wp.bind w)) fun d2 w v2 F2 H2 x2 r2 => ?_)
  unfold zipR at w
  split at w
  · cases r1 with
    | @lst p vs ds h1 h2 =>
      cases r2 with
      | @lst p2 vs2 ds2 k1 k2 => exact ⟨p, p2, vs, vs2, rfl, .inl (.inl (x2.sub.lst (x2.ff _ _ h1))), .inl (.inl (x2.sub.lst k1)), w _ F2 H2 (x1.trans x2) (itd_zip (x2.ff _ _ h1) (h2.same x2.ff) k1 k2)⟩
  · exact w.elim
end

/-! ### list comprehensions -/
def noX {α : Type} : Rs α → Rs α
  | .ok a => .ok a
  | _ => .bad
@[simp] theorem noX_ok {α : Type} (a : α) : noX (.ok a) = .ok a := rfl
@[simp] theorem noX_bad {α : Type} : noX (.bad : Rs α) = .bad := rfl
theorem Wp.noX {K : PySem.W.Frag} {W W' : WX} {F H : Hp} {σ σ' : St} {α : Type} {r : Rs α} {k : α → Prop} (h : Wp K W F H σ (Dn.noX r) k) : Wp K W' F H σ' r k := by
  cases r with
  | ok a => exact h
  | exn c l => exact h.elim
  | bad => exact h.elim
def wipeE (ρ : Env) : List Nat → Env
  | [] => ρ
  | v :: vs => (wipeE ρ vs).set v none
theorem OwnE.forget {K : PySem.W.Frag} {F H : Hp} {σ : St} {ρ : Env} {fp : List Addr} (o : OwnE K F H σ ρ fp) (i : Nat) : ∃ g, OwnE K F H (σ.set i none) (ρ.set i none) g ∧ g.Sublist fp := by
  obtain ⟨g, o1, s1⟩ := o.drop i
  by_cases h : i < ρ.length
  · exact ⟨g, o1.any none (by simp [h]), s1⟩
  · have hl := o.length
    rw [List.set_eq_of_length_le (by omega : σ.length ≤ i)]
    exact ⟨g, o1, s1⟩
theorem OwnE.wipe {K : PySem.W.Frag} {F H : Hp} {σ : St} {ρ : Env} {fp : List Addr} (o : OwnE K F H σ ρ fp) : ∀ vs : List Nat, ∃ g, OwnE K F H (L2.wipe σ vs) (wipeE ρ vs) g ∧ g.Sublist fp
  | [] => ⟨fp, o, List.Sublist.refl _⟩
  | v :: vs => by
    obtain ⟨g, o1, s1⟩ := OwnE.wipe o vs
    obtain ⟨g2, o2, s2⟩ := o1.forget v
    exact ⟨g2, o2, s2.trans s1⟩
theorem wipe_get (σ : St) (i : Nat) : ∀ vs : List Nat, (L2.wipe σ vs)[i]? = if i ∈ vs then (σ[i]?).map fun _ => none else σ[i]?
  | [] => by simp [L2.wipe]
  | v :: vs => by
    rw [L2.wipe]
    have ih := wipe_get σ i vs
    by_cases e : v = i
    · subst e
      rw [List.getElem?_set]
      rw [if_pos rfl]
      by_cases h : v < σ.length
      · rw [if_pos (by rw [wipe_length]; exact h), if_pos (by simp)]
        simp [h]
      · rw [if_neg (by rw [wipe_length]; exact h), if_pos (by simp)]
        simp [h]
    · rw [List.getElem?_set_ne e, ih]
      have e2 : i ≠ v := Ne.symm e
      simp [e2]
theorem Out.wipe {is vs : List Nat} {σ σ2 : St} (h : Out is (L2.wipe σ vs) σ2) (hs : ∀ i ∈ is, i ∈ vs) : L2.wipe σ2 vs = L2.wipe σ vs := by
  have hl := h.1
  rw [wipe_length] at hl
  apply List.ext_getElem?
  intro i
  rw [wipe_get, wipe_get]
  by_cases c : i ∈ vs
  · rw [if_pos c, if_pos c]
    by_cases q : i < σ.length
    · simp [q, show i < σ2.length by omega]
    · simp [q, show ¬ i < σ2.length by omega]
  · rw [if_neg c, if_neg c, h.2 i (fun z => c (hs i z)), wipe_get, if_neg c]
def lcR (vs : List Nat) (f : D → Env → Rs Env) (tt : Env → Rs Bool) (te : Env → Rs T) (ρ : Env) : List D → Rs (List T)
  | [] => .ok []
  | d :: ds => (noX (f d (wipeE ρ vs))).bind fun ρ1 => (noX (tt ρ1)).bind fun b => if b = true then (noX (te ρ1)).bind fun t => (lcR vs f tt te ρ ds).bind fun ts => .ok (t :: ts) else lcR vs f tt te ρ ds
structure DTs (X : Cx) (W : WX) (ifs : List Expr) (g : Env → Rs Bool) : Prop where
  ex : ∃ t : TT, PTs X ifs t ∧ ∀ F σ ρ H (Q : Bool → Hp → Prop), EnvI X.K F σ ρ H → (Wp X.K W F H σ (g ρ) fun b => ∀ F' H', Ext F H F' H' → Q b H') → t σ H Q
theorem dts_nil {X : Cx} {W : WX} : DTs X W [] fun _ => .ok true := ⟨_, pts_nil, fun F σ ρ H Q I w => w F H (.refl I.1)⟩
theorem dts_one {X : Cx} {W : WX} {c : Expr} {g : Env → Rs Bool} (h : DT X W c g) : DTs X W [c] g := by
  obtain ⟨t, p, q⟩ := h.ex
  exact ⟨t, pts_one p, q⟩
abbrev W0 : WX := fun _ _ _ _ => False
theorem own_snoc {K : PySem.W.Frag} {F H : Hp} : ∀ {vs : List V} {ts : List T} {fp : List Addr} {v : V} {t : T} {f : List Addr}, OwnL K F H vs ts fp → Own K F H v t f → OwnL K F H (vs ++ [v]) (ts ++ [t]) (fp ++ f)
  | [], [], _, _, _, f, h, o => by
    cases h
    have q := OwnL.cons o OwnL.nil
    rw [List.append_nil] at q
    exact q
  | [], _ :: _, _, _, _, _, h, _ => by cases h
  | _ :: _, [], _, _, _, _, h, _ => by cases h
  | _ :: _, _ :: _, _, _, _, _, h, o => by
    cases h with
    | cons h1 h2 =>
      have q := OwnL.cons h1 (own_snoc h2 o)
      rw [← List.append_assoc] at q
      exact q
theorem Rs.bind_eq {α β : Type} {r : Rs α} {f : α → Rs β} {b : β} (h : r.bind f = .ok b) : ∃ a, r = .ok a ∧ f a = .ok b := by
  cases r with
  | ok a => exact ⟨a, rfl, h⟩
  | exn c l => cases h
  | bad => cases h
theorem noX_eq {α : Type} {r : Rs α} {a : α} (h : noX r = .ok a) : r = .ok a := by
  cases r with
  | ok b => exact h
  | exn c l => cases h
  | bad => cases h
theorem lcR_nx {vs : List Nat} {f : D → Env → Rs Env} {tt : Env → Rs Bool} {te : Env → Rs T} {ρ : Env} : ∀ (ds : List D) (c : Str) (l : Option Int), lcR vs f tt te ρ ds ≠ .exn c l
  | [], c, l, e => by cases e
  | d :: ds, c, l, e => by
    unfold lcR at e
    cases h1 : noX (f d (wipeE ρ vs)) with
    | ok ρ1 =>
      rw [h1, Rs.bind_ok] at e
      cases h2 : noX (tt ρ1) with
      | ok b =>
        rw [h2, Rs.bind_ok] at e
        cases b with
        | true =>
          rw [if_pos rfl] at e
          cases h3 : noX (te ρ1) with
          | ok t =>
            rw [h3, Rs.bind_ok] at e
            cases h4 : lcR vs f tt te ρ ds with
            | ok ts => rw [h4] at e; cases e
            | exn c' l' => exact lcR_nx ds _ _ h4
            | bad => rw [h4] at e; cases e
          | exn c' l' => cases q : te ρ1 <;> rw [q] at h3 <;> cases h3
          | bad => rw [h3] at e; cases e
        | false => exact lcR_nx ds c l e
      | exn c' l' => cases q : tt ρ1 <;> rw [q] at h2 <;> cases h2
      | bad => rw [h2] at e; cases e
    | exn c' l' => cases q : f d (wipeE ρ vs) <;> rw [q] at h1 <;> cases h1
    | bad => rw [h1] at e; cases e
/-- the state ahead of a turn -/
structure LcAt (K : PySem.W.Frag) (F1 H1 : Hp) (D : Addr) (rest : Rs (List T)) (all : List T) (H : Hp) : Prop where
  ex : ∃ F av at' fp, Ext F1 H1 F H ∧ F D = none ∧ H D = some (.lst av) ∧ OwnL K F H av at' fp ∧ D ∉ fp ∧ fp.Nodup ∧ (∀ a ∈ fp, H1 a = none) ∧ ∃ r, rest = .ok r ∧ at' ++ r = all
theorem lc_run {is vs : List Nat} {f : D → Env → Rs Env} {gt : Env → Rs Bool} {ge : Env → Rs T} {g : TG} {tt : TT} {te : TE} {K : PySem.W.Frag}
    (hg : ∀ F H σ ρ fp v d Q, Sub F H → OwnE K F H σ ρ fp → Rp K F v d → Wp0 (f d ρ) (fun ρ' => ∀ σ' fp', OwnE K F H σ' ρ' fp' → fp'.Sublist fp → Out is σ σ' → Q σ' H) → g v σ H Q)
    (ht : ∀ F σ ρ H (Q : Bool → Hp → Prop), EnvI K F σ ρ H → (Wp K W0 F H σ (gt ρ) fun b => ∀ F' H', Ext F H F' H' → Q b H') → tt σ H Q)
    (he : ∀ F σ ρ H Q, EnvI K F σ ρ H → WpJ K W0 (rO K) F H σ (ge ρ) Q → te σ H Q) (his : ∀ i ∈ is, i ∈ vs)
    {J : It} {F1 H1 : Hp} {σ : St} {ρ : Env} {ds : List D} {all : List T} {Q : VK} {D : Addr} (hJ : ItD K J F1 ds) (I : EnvI K F1 σ ρ H1) (hD : H1 D = none) (hall : lcR vs f gt ge ρ ds = .ok all) (hlen : all.length ≤ 16777216)
    (q : ∀ H' F' fp, Ext F1 H1 F' H' → Own K F' H' (.ref D) (.lst all) fp → fp.Nodup → (∀ a ∈ fp, H1 a = none) → Q (.ref D) H') :
    ∃ W : Nat → Nat → Hp → Prop, (∃ m, W 0 m (upd H1 D (.lst []))) ∧ ∀ i m H, W i m H →
  (J.stop i H ∧ Q (.ref D) H) ∨ (J.go i H ∧ ∃ Nx : Hp → Prop, (∀ H', Nx H' → ∃ m', m' < m ∧ W (i + 1) m' H') ∧ ∀ x H', J.yld i H x H' → g x (wipe σ vs) H' fun σ2 H2 => wipe σ2 vs = wipe σ vs ∧ tt σ2 H2 fun b H3 =>
    if b = true then te σ2 H3 fun y H4 => ∃ acc, H4 D = some (.lst acc) ∧ acc.length < sizeLine ∧ Nx (upd H4 D (.lst (acc ++ [y]))) else Nx H3) := by
  refine ⟨fun i m H => m = ds.length - i ∧ i ≤ ds.length ∧ LcAt K F1 H1 D (lcR vs f gt ge ρ (ds.drop i)) all H, ⟨ds.length, by simp, Nat.zero_le _, ⟨F1, [], [], [], .add I.1 hD, I.1.none hD, upd_same, .nil, by simp, .nil, by simp, all, hall, rfl⟩⟩, ?_⟩
  rintro i m H ⟨rfl, hi, F, av, at', fp, x, fD, hDH, o, nD, nd, fr, r, er, eall⟩
  by_cases hlt : i < ds.length
  · have ed : ds.drop i = ds[i] :: ds.drop (i + 1) := List.drop_eq_getElem_cons hlt
    rw [ed] at er
    unfold lcR at er
    obtain ⟨ρ1, e1, er⟩ := Rs.bind_eq er
    obtain ⟨b, e2, er⟩ := Rs.bind_eq er
    have e1 := noX_eq e1
    have e2 := noX_eq e2
    refine .inr ⟨hJ.go i F H x.ff x.sub hlt, fun H' => LcAt K F1 H1 D (lcR vs f gt ge ρ (ds.drop (i + 1))) all H', fun H' p => ⟨ds.length - (i + 1), by omega, rfl, hlt, p⟩, fun v H' y => ?_⟩
    obtain ⟨F2, d, ed2, x2, rv⟩ := hJ.yld i F H v H' x.ff x.sub hlt y
    have ed3 : d = ds[i] := by
      rw [List.getElem?_eq_getElem hlt] at ed2
      exact (Option.some.inj ed2).symm
    subst ed3
    obtain ⟨_, fpe, oe⟩ := I.ext (x.trans x2)
    obtain ⟨ge', oe2, _⟩ := oe.wipe vs
    refine hg F2 H' _ _ ge' v _ _ x2.sub oe2 rv ?_
    rw [e1]
    intro σ2 fp2 o2 _ out
    refine ⟨out.wipe his, ?_⟩
    have I2 : EnvI K F2 σ2 ρ1 H' := ⟨x2.sub, fp2, o2⟩
    refine ht F2 σ2 ρ1 H' _ I2 ?_
    rw [e2]
    intro F3 H3 x3
    have x13 := (x.trans x2).trans x3
    have xa := x2.trans x3
    have fD3 : F3 D = none := xa.new D (by rw [hDH]; simp) fD
    have hD3 : H3 D = some (.lst av) := xa.hh _ _ hDH
    cases b with
    | false =>
      rw [if_neg Bool.false_ne_true] at er ⊢
      exact ⟨F3, av, at', fp, x13, fD3, hD3, xa.ownL o, nD, nd, fr, r, er, eall⟩
    | true =>
      rw [if_pos rfl] at er ⊢
      obtain ⟨t, e3, er⟩ := Rs.bind_eq er
      obtain ⟨ts, e4, er⟩ := Rs.bind_eq er
      cases er
      refine he F3 σ2 ρ1 H3 _ (I2.ext x3) ?_
      rw [noX_eq e3]
      intro w F4 H4 x4 ⟨fw, ow, nw, frw⟩
      have hD4 : H4 D = some (.lst av) := x4.hh _ _ hD3
      have fD4 : F4 D = none := x4.new D (by rw [hD3]; simp) fD3
      have nDw : D ∉ fw := fun z => by rw [frw D z] at hD3; cases hD3
      have oL := (xa.trans x4).ownL o
      refine ⟨av, hD4, ?_, F4, av ++ [w], at' ++ [t], fp ++ fw, ?_, fD4, upd_same, ?_, ?_, ?_, ?_, ts, e4, by rw [← eall]; simp⟩
      · rw [sizeLine_eq]
        have h1 := o.length
        have h2 : all.length = at'.length + (ts.length + 1) := by rw [← eall]; simp
        omega
      · have x14 := x13.trans x4
        refine ⟨fun b ob e => ?_, x14.ff, fun b ob e => ?_, x14.new⟩
        · have nb : b ≠ D := fun z => by rw [z, hD] at e; cases e
          rw [upd_ne nb]
          exact x14.hh _ _ e
        · have nb : b ≠ D := fun z => by rw [z, fD4] at e; cases e
          rw [upd_ne nb]
          exact x14.sub _ _ e
      · refine (own_snoc oL ow).step (fun _ _ e => e) fun a ha => ?_
        have na : a ≠ D := fun z => by
          subst z
          rcases List.mem_append.mp ha with h | h
          · exact nD h
          · exact nDw h
        refine ⟨?_, upd_ne na⟩
        rcases List.mem_append.mp ha with h | h
        · exact (oL.at a h).2
        · exact (ow.at a h).2
      · intro h
        rcases List.mem_append.mp h with h | h
        · exact nD h
        · exact nDw h
      · refine List.nodup_append.mpr ⟨nd, nw, fun a ha b hb e => ?_⟩
        subst e
        have := (xa.ownL o).at a ha
        exact this.1 (frw a hb)
      · intro a ha
        rcases List.mem_append.mp ha with h | h
        · exact fr a h
        · exact none_of_same x13.hh (frw a h)
  · have e : ds.drop i = [] := List.drop_eq_nil_of_le (by omega)
    rw [e] at er
    have er' : Rs.ok [] = Rs.ok r := er
    cases er'
    refine .inl ⟨hJ.stop i F H x.ff x.sub (by omega), q H F (D :: fp) x ?_ (List.nodup_cons.mpr ⟨nD, nd⟩) fun a ha => ?_⟩
    · rw [List.append_nil] at eall
      subst eall
      exact .lst hDH fD o
    · rcases List.mem_cons.mp ha with z | ha
      · rw [z]; exact hD
      · exact fr a ha
def lstF (ts : List T) : Rs T := if ts.length ≤ 16777216 then .ok (.lst ts) else .bad
theorem PE.weak {X : Cx} {e : Expr} {t u : TE} (h : PE X e t) (c : ∀ σ H Q, u σ H Q → t σ H Q) : PE X e u := ⟨fun pins s σ H Q I w => h.run pins s σ H Q I (c _ _ _ w)⟩
/-- one reading for all contexts -/
theorem unifE {ι : Type} {X : ι → Cx} {e : Expr} {A : TE → Prop} (h : ∀ p, ∃ t, PE (X p) e t ∧ A t) (hA : ∀ (ts : ι → TE), (∀ p, A (ts p)) → A fun σ H Q => ∀ p, ts p σ H Q) : ∃ t, (∀ p, PE (X p) e t) ∧ A t := by
  refine ⟨fun σ H Q => ∀ p, (Classical.choose (h p)) σ H Q, fun p => ?_, hA _ fun p => (Classical.choose_spec (h p)).2⟩
  exact PE.weak (Classical.choose_spec (h p)).1 fun σ H Q w => w p
theorem unifTs {ι : Type} {X : ι → Cx} {e : List Expr} {A : TT → Prop} (h : ∀ p, ∃ t, PTs (X p) e t ∧ A t) (hA : ∀ (ts : ι → TT), (∀ p, A (ts p)) → A fun σ H Q => ∀ p, ts p σ H Q) : ∃ t, (∀ p, PTs (X p) e t) ∧ A t := by
  refine ⟨fun σ H Q => ∀ p, (Classical.choose (h p)) σ H Q, fun p => ⟨fun pins s σ H Q I w => ?_⟩, hA _ fun p => (Classical.choose_spec (h p)).2⟩
  exact (Classical.choose_spec (h p)).1.run pins s σ H Q I (w p)
theorem unifG {ι : Type} {X : ι → Cx} {e : Expr} {A : TG → Prop} (h : ∀ p, ∃ t, PG (X p) e t ∧ A t) (hA : ∀ (ts : ι → TG), (∀ p, A (ts p)) → A fun v σ H Q => ∀ p, ts p v σ H Q) : ∃ t, (∀ p, PG (X p) e t) ∧ A t := by
  refine ⟨fun v σ H Q => ∀ p, (Classical.choose (h p)) v σ H Q, fun p => ⟨fun pins s σ H v u Q I r w => ?_⟩, hA _ fun p => (Classical.choose_spec (h p)).2⟩
  exact (Classical.choose_spec (h p)).1.run pins s σ H v u Q I r (w p)
abbrev BP := Shared × Hp × Addr × List (Str × Addr) × List Addr
abbrev blkX (X : Cx) (scope : Scope) (p : BP) : Cx := X.blk p.1 p.2.1 scope (compEnvC scope p.2.2.2.1 p.2.2.1 X.env) p.2.2.2.2
section
variable {X : Cx} {W : WX} {tg iter elt : Expr} {ifs : List Expr} {scope : Scope} {own : List (Str × Nat)} {is : List Nat} {pos : Pos} {gi : Env → Rs (List D)} {f : D → Env → Rs Env} {gt : Env → Rs Bool} {ge : Env → Rs T}
/-- [elt for tg in iter if ..] -/
theorem jlc (hc : X.calm = true) (hN : X.N.Nodup) (hi : DI X W tg iter gi) (ok : blkC X.N X.env.scope scope own = true) (his : ∀ i ∈ is, i ∈ own.map (·.2))
    (hg : ∀ p : BP, DG (blkX X scope p) tg is f) (ht : ∀ p : BP, DTs (blkX X scope p) W0 ifs gt) (he : ∀ p : BP, DJ (blkX X scope p) W0 (rO X.K) elt ge) (hs : ∀ x, foldedSetIterable iter X.env x = pure x := by intro _; rfl) :
    DJ X W (rO X.K) (.ListComp elt [⟨tg, iter, ifs, 0⟩] scope pos) fun ρ => (gi ρ).bind fun ds => (lcR (own.map (·.2)) f gt ge ρ ds).bind lstF := by
  obtain ⟨ti, pi, qi⟩ := hi.ex
  obtain ⟨tg', pg, qg⟩ := unifG (A := fun t => ∀ F H σ ρ fp v d (Q : L2.St → Hp → Prop), Sub F H → OwnE X.K F H σ ρ fp → Rp X.K F v d → Wp0 (f d ρ) (fun ρ' => ∀ σ' fp', OwnE X.K F H σ' ρ' fp' → fp'.Sublist fp → Out is σ σ' → Q σ' H) → t v σ H Q) (fun p => (hg p).ex) fun ts h F H σ ρ fp v d Q s o r w p => h p F H σ ρ fp v d Q s o r w
  obtain ⟨tt, pt, qt⟩ := unifTs (A := fun t => ∀ F σ ρ H (Q : Bool → Hp → Prop), EnvI X.K F σ ρ H → (Wp X.K W0 F H σ (gt ρ) fun b => ∀ F' H', Ext F H F' H' → Q b H') → t σ H Q) (fun p => (ht p).ex) fun ts h F σ ρ H Q I w p => h p F σ ρ H Q I w
  obtain ⟨te, pe, qe⟩ := unifE (A := fun t => ∀ F σ ρ H Q, EnvI X.K F σ ρ H → WpJ X.K W0 (rO X.K) F H σ (ge ρ) Q → t σ H Q) (fun p => (he p).ex) fun ts h F σ ρ H Q I w p => h p F σ ρ H Q I w
  refine ⟨_, pe_lc hc hN pi (blkOk_by ok) (fun s H C cl fp => pg (s, H, C, cl, fp)) (fun s H C cl fp => pt (s, H, C, cl, fp)) (fun s H C cl fp => pe (s, H, C, cl, fp)) hs, fun F σ ρ H Q I w => qi F σ ρ H _ I (Wp.mono (Wp.bind w) fun ds w J F1 H1 x1 hJ D hD => ?_)⟩
  cases e : lcR (own.map (·.2)) f gt ge ρ ds with
  | ok all =>
    rw [e] at w
    have w' : Wp X.K W F H σ (if all.length ≤ 16777216 then Rs.ok (T.lst all) else Rs.bad) _ := w
    by_cases c : all.length ≤ 16777216
    · rw [if_pos c] at w'
      refine lc_run qg qt qe his hJ (I.ext x1) hD e c fun H' F' fp x o nd fr => ?_
      exact w' _ F' H' (x1.trans x) ⟨fp, o, nd, fun a ha => none_of_same x1.hh (fr a ha)⟩
    · rw [if_neg c] at w'
      exact w'.elim
  | exn c l => exact absurd e (lcR_nx _ _ _)
  | bad => rw [e] at w; exact w.elim
end
end Dn

/-! Dn8: statements. -/
namespace Dn
open PySem PySem.Spec L2
inductive So where
  | nx (ρ : Env)
  | rt (t : T)
  | bk (ρ : Env)
  | ct (ρ : Env)
  | xn (c : Str) (l : Option Int) (ρ : Env)
  | bad
/-- the state within a body: from (F0, H0) on -/
structure EnvOk (K : PySem.W.Frag) (F0 H0 F H : Hp) (σ : St) (ρ : Env) : Prop where
  hh : Same H0 H
  ff : Same F0 F
  sub : Sub F H
  new : ∀ a, H0 a ≠ none → F0 a = none → F a = none
  own : ∃ fp, OwnE K F H σ ρ fp ∧ fp.Nodup ∧ ∀ a ∈ fp, H0 a = none
section
variable {K : PySem.W.Frag} {F0 H0 F H F' H' : Hp} {σ : St} {ρ : Env}
theorem EnvOk.env (e : EnvOk K F0 H0 F H σ ρ) : EnvI K F σ ρ H := ⟨e.sub, let ⟨fp, o, _⟩ := e.own; ⟨fp, o⟩⟩
theorem EnvOk.toExt (e : EnvOk K F0 H0 F H σ ρ) : Ext F0 H0 F H := ⟨e.hh, e.ff, e.sub, e.new⟩
theorem EnvOk.ext (e : EnvOk K F0 H0 F H σ ρ) (x : Ext F H F' H') : EnvOk K F0 H0 F' H' σ ρ := by
  obtain ⟨fp, o, n, f⟩ := e.own
  have y := e.toExt.trans x
  exact ⟨y.hh, y.ff, y.sub, y.new, fp, x.ownE o, n, f⟩
/-- a slot gets what is new -/
theorem EnvOk.put (e : EnvOk K F0 H0 F H σ ρ) (x : Ext F H F' H') {v : V} {t : T} {f : List Addr} (o : Own K F' H' v t f) (n : f.Nodup) (fr : ∀ a ∈ f, H a = none) (i : Nat) : EnvOk K F0 H0 F' H' (σ.set i (some v)) (ρ.set i (some t)) := by
  obtain ⟨fp, oe, ne, fe⟩ := e.own
  have y := e.toExt.trans x
  refine ⟨y.hh, y.ff, y.sub, y.new, ?_⟩
  by_cases h : i < ρ.length
  · obtain ⟨g, o1, s1⟩ := (x.ownE oe).drop i
    obtain ⟨g1, g2, e1, o2⟩ := o1.set (i := i) (by simp [h]) o
    rw [set_set_none] at o2
    subst e1
    have ng := ne.sublist s1
    have dis : ∀ a ∈ f, a ∉ g1 ++ g2 := fun a ha hg => (oe.at a (s1.subset hg)).1 (fr a ha)
    refine ⟨_, o2, ?_, fun a ha => ?_⟩
    · rw [List.nodup_append] at ng ⊢
      obtain ⟨n1, n2, n3⟩ := ng
      refine ⟨n1, ?_, fun a ha b hb => ?_⟩
      · rw [List.nodup_append]
        exact ⟨n, n2, fun a ha b hb z => dis a ha (List.mem_append_right _ (z ▸ hb))⟩
      · rcases List.mem_append.mp hb with hb | hb
        · exact fun z => dis b hb (List.mem_append_left _ (z ▸ ha))
        · exact n3 a ha b hb
    · rcases List.mem_append.mp ha with ha | ha
      · exact fe a (s1.subset (List.mem_append_left _ ha))
      · rcases List.mem_append.mp ha with ha | ha
        · exact none_of_same e.hh (fr a ha)
        · exact fe a (s1.subset (List.mem_append_right _ ha))
  · have hl := oe.length
    rw [List.set_eq_of_length_le (by omega), List.set_eq_of_length_le (by omega)]
    exact ⟨fp, x.ownE oe, ne, fe⟩
/-- slots get shared things -/
theorem EnvOk.sets (e : EnvOk K F0 H0 F H σ ρ) {σ' : St} {ρ' : Env} (h : ∀ fp, OwnE K F H σ ρ fp → ∃ fp', OwnE K F H σ' ρ' fp' ∧ fp'.Sublist fp) : EnvOk K F0 H0 F H σ' ρ' := by
  obtain ⟨fp, oe, ne, fe⟩ := e.own
  obtain ⟨g, o, s⟩ := h fp oe
  exact ⟨e.hh, e.ff, e.sub, e.new, g, o, ne.sublist s, fun a ha => fe a (s.subset ha)⟩
end
/-- what must hold behind a statement that begins where Fc is shared -/
def WpS (K : PySem.W.Frag) (W : WX) (F0 H0 Fc : Hp) (o : So) (D : Ends) : Prop :=
  match o with
  | .nx ρ => ∀ σ F H, Same Fc F → EnvOk K F0 H0 F H σ ρ → D.nx σ H
  | .rt t => ∀ v F H, Ext F0 H0 F H → rO K H0 F H v t → D.rt v H
  | .bk ρ => ∀ σ F H, Same Fc F → EnvOk K F0 H0 F H σ ρ → D.bk σ H
  | .ct ρ => ∀ σ F H, Same Fc F → EnvOk K F0 H0 F H σ ρ → D.ct σ H
  | .xn c l ρ => ∀ d σ F H, Same Fc F → EnvOk K F0 H0 F H σ ρ → ExR H l d → W (.ref (He.ga K c)) d σ H
  | .bad => False
theorem WpS.later {K : PySem.W.Frag} {W : WX} {F0 H0 Fc Fd : Hp} {o : So} {D : Ends} (h : WpS K W F0 H0 Fc o D) (s : Same Fc Fd) : WpS K W F0 H0 Fd o D := by
  cases o with
  | nx ρ => exact fun σ F H q e => h σ F H (same_trans s q) e
  | rt t => exact h
  | bk ρ => exact fun σ F H q e => h σ F H (same_trans s q) e
  | ct ρ => exact fun σ F H q e => h σ F H (same_trans s q) e
  | xn c l ρ => exact fun d σ F H q e x => h d σ F H (same_trans s q) e x
  | bad => exact h
structure DS (X : Cx) (W : WX) (st : Stmt) (g : Env → So) : Prop where
  ex : ∃ t : TS, PS X st t ∧ ∀ F0 H0 F σ ρ H D, EnvOk X.K F0 H0 F H σ ρ → WpS X.K W F0 H0 F (g ρ) D → t D σ H
structure DSs (X : Cx) (W : WX) (sts : List Stmt) (g : Env → So) : Prop where
  ex : ∃ t : TS, PSs X sts t ∧ ∀ F0 H0 F σ ρ H D, EnvOk X.K F0 H0 F H σ ρ → WpS X.K W F0 H0 F (g ρ) D → t D σ H
/-- an expression's answer, gone on with -/
def So.of {α : Type} (r : Rs α) (ρ : Env) (k : α → So) : So := match r with
  | .ok a => k a
  | .exn c l => .xn c l ρ
  | .bad => .bad
@[simp] theorem So.of_ok {α : Type} (a : α) (ρ : Env) (k : α → So) : So.of (.ok a) ρ k = k a := rfl
@[simp] theorem So.of_exn {α : Type} (c : Str) (l : Option Int) (ρ : Env) (k : α → So) : So.of (.exn c l : Rs α) ρ k = .xn c l ρ := rfl
@[simp] theorem So.of_bad {α : Type} (ρ : Env) (k : α → So) : So.of (.bad : Rs α) ρ k = .bad := rfl
theorem WpS.split {K : PySem.W.Frag} {W : WX} {F0 H0 F H : Hp} {σ : St} {ρ : Env} {α : Type} {r : Rs α} {k : α → So} {D : Ends} (e : EnvOk K F0 H0 F H σ ρ) (h : WpS K W F0 H0 F (So.of r ρ k) D) : Wp K W F H σ r fun a => WpS K W F0 H0 F (k a) D := by
  cases r with
  | ok a => exact h
  | exn c l => exact fun d F' H' x ex => h d σ F' H' x.ff (e.ext x) ex
  | bad => exact h
section
variable {X : Cx} {W : WX} {st : Stmt} {sts : List Stmt} {e : Expr} {g gs : Env → So} {pos : Pos}
def seqS (g gs : Env → So) (ρ : Env) : So := match g ρ with
  | .nx ρ' => gs ρ'
  | o => o
theorem ss_nil : DSs X W [] .nx := ⟨_, pss_nil, fun F0 H0 F σ ρ H D e w => w σ F H same_refl e⟩
theorem ss_cons (h : DS X W st g) (k : DSs X W sts gs) : DSs X W (st :: sts) (seqS g gs) := by
  obtain ⟨t, p, q⟩ := h.ex
  obtain ⟨u, p2, q2⟩ := k.ex
  refine ⟨_, pss_cons p p2, fun F0 H0 F σ ρ H D e w => q F0 H0 F σ ρ H _ e ?_⟩
  unfold seqS at w
  cases z : g ρ with
  | nx ρ' => rw [z] at w; exact fun σ' F' H' s e' => q2 F0 H0 F' σ' ρ' H' D e' (w.later s)
  | rt t => rw [z] at w; exact w
  | bk ρ' => rw [z] at w; exact w
  | ct ρ' => rw [z] at w; exact w
  | xn c l ρ' => rw [z] at w; exact w
  | bad => rw [z] at w; exact w.elim
theorem ss_one (h : DS X W st g) : DSs X W [st] g := by
  obtain ⟨t, p, q⟩ := h.ex
  exact ⟨t, pss_one p, q⟩
/-- a slot's own thing is shared from here on -/
def frzE (i : Nat) (ρ : Env) : Env := match ρ[i]? with
  | some (some t) => ρ.set i (some (.sh (frz t)))
  | _ => ρ
theorem EnvOk.frzd {K : PySem.W.Frag} {F0 H0 F H : Hp} {σ : St} {ρ : Env} (e : EnvOk K F0 H0 F H σ ρ) (i : Nat) : ∃ F', Same F F' ∧ EnvOk K F0 H0 F' H σ (frzE i ρ) := by
  unfold frzE
  split
  · rename_i t et
    obtain ⟨fp, oe, ne, fe⟩ := e.own
    obtain ⟨v, f, g1, g2, ev, o, e1, o2⟩ := oe.get et
    obtain ⟨F', h1, h2, h3, h4⟩ := frz_ext e.sub o
    subst e1
    have hi : i < ρ.length := (List.getElem?_eq_some_iff.mp et).1
    rw [List.nodup_append, List.nodup_append] at ne
    obtain ⟨n1, ⟨n2, n3, n4⟩, n5⟩ := ne
    have dis : ∀ a ∈ g1 ++ g2, a ∉ f := fun a ha hf => by
      rcases List.mem_append.mp ha with ha | ha
      · exact n5 a ha a (List.mem_append_left _ hf) rfl
      · exact n4 a hf a ha rfl
    have o3 : OwnE K F' H σ (ρ.set i none) (g1 ++ g2) := o2.step h1 fun a ha => ⟨by rw [h4 a (dis a ha)]; exact (o2.at a ha).2, rfl⟩
    obtain ⟨k1, k2, e2, o4⟩ := o3.set (i := i) (by simp [hi]) (Own.sh h3)
    rw [set_set_none] at o4
    have es : σ.set i (some v) = σ := by
      apply List.ext_getElem?
      intro j
      by_cases hj : j = i
      · subst hj
        rw [ev, List.getElem?_set_self (List.getElem?_eq_some_iff.mp ev).1]
      · rw [List.getElem?_set_ne (Ne.symm hj)]
    rw [es] at o4
    rw [List.nil_append] at o4
    refine ⟨F', h1, e.hh, same_trans e.ff h1, h2, fun a p q => ?_, k1 ++ k2, o4, ?_, fun a ha => ?_⟩
    · rw [h4 a fun hf => p (fe a (by simp [hf]))]
      exact e.new a p q
    · rw [← e2, List.nodup_append]
      exact ⟨n1, n3, fun a ha b hb => n5 a ha b (List.mem_append_right _ hb)⟩
    · rw [← e2] at ha
      refine fe a ?_
      rcases List.mem_append.mp ha with ha | ha
      · simp [ha]
      · simp [ha]
  · exact ⟨F, same_refl, e⟩
theorem s_frz (i : Nat) (h : DS X W st g) : DS X W st fun ρ => g (frzE i ρ) := by
  obtain ⟨t, p, q⟩ := h.ex
  refine ⟨t, p, fun F0 H0 F σ ρ H D e w => ?_⟩
  obtain ⟨F', s, e'⟩ := e.frzd i
  exact q F0 H0 F' σ _ H D e' (w.later s)
theorem ss_frz (i : Nat) (h : DSs X W sts g) : DSs X W sts fun ρ => g (frzE i ρ) := by
  obtain ⟨t, p, q⟩ := h.ex
  refine ⟨t, p, fun F0 H0 F σ ρ H D e w => ?_⟩
  obtain ⟨F', s, e'⟩ := e.frzd i
  exact q F0 H0 F' σ _ H D e' (w.later s)
/-- x = e -/
def setS (i : Nat) (ge : Env → Rs T) (ρ : Env) : So := So.of (ge ρ) ρ fun t => .nx (ρ.set i (some t))
theorem s_set {i : Nat} {x : Str} {pos' : Pos} {ge : Env → Rs T} (hN : X.N.Nodup) (hi : X.N[i]? = some x) (hx : Loc X.env.scope x) (h : DJ X W (rO X.K) e ge) (hs : swapsWith e (some (.Name x pos')) pos.line X.env = pure false := by rfl)
    (hf : X.fn x = true ∨ X.env.scope.names.lookup x = some .local := by first | exact .inl rfl | exact .inr rfl) : DS X W (.Assign [.Name x pos'] e pos) (setS i ge) := by
  obtain ⟨t, p, q⟩ := h.ex
  refine ⟨_, ps_set hN hi hx p hs hf, fun F0 H0 F σ ρ H D e w => q F σ ρ H _ e.env (Wp.mono (WpS.split e w) fun t w v F' H' x ⟨fp, o, n, fr⟩ => ?_)⟩
  exact w _ F' H' x.ff (e.put x o n fr i)
/-- a, b = e -/
def tgtS (f : D → Env → Rs Env) (ge : Env → Rs D) (ρ : Env) : So := So.of (ge ρ) ρ fun d => So.of (noX (f d ρ)) ρ .nx
theorem s_tgt {tg : Expr} {is : List Nat} {f : D → Env → Rs Env} {ge : Env → Rs D} (hg : DG X tg is f) (h : DJ X W (rC X.K) e ge) (hs : swapsWithSole [tg] e pos.line X.env = pure false := by rfl) (hw : swappedStores [tg] e X.env = pure none := by rfl)
    (h1 : (assignEach [tg] X.env).map (·.2) = [assign tg X.env] := by rfl) : DS X W (.Assign [tg] e pos) (tgtS f ge) := by
  obtain ⟨t, p, q⟩ := h.ex
  obtain ⟨u, p2, q2⟩ := hg.ex
  refine ⟨_, ps_asg p p2 hs hw h1, fun F0 H0 F σ ρ H D e w => q F σ ρ H _ e.env (Wp.mono (WpS.split e w) fun d w v F' H' x r => ?_)⟩
  have e' := e.ext x
  obtain ⟨fp, oe, ne, fe⟩ := e'.own
  refine q2 F' H' σ ρ fp v d _ x.sub oe r ?_
  cases z : f d ρ with
  | ok ρ' =>
    rw [z] at w
    exact fun σ' fp' o' s' _ => w σ' F' H' x.ff ⟨e'.hh, e'.ff, e'.sub, e'.new, fp', o', ne.sublist s', fun a ha => fe a (s'.subset ha)⟩
  | exn c l => rw [z] at w; exact w.elim
  | bad => rw [z] at w; exact w.elim
/-- e, dropped -/
def exprS {α : Type} (ge : Env → Rs α) (ρ : Env) : So := So.of (ge ρ) ρ fun _ => .nx ρ
theorem s_expr {α : Type} {R : K3 α} {ge : Env → Rs α} (h : DJ X W R e ge) (hs : swapsWith e none pos.line X.env = pure false := by rfl) : DS X W (.Expr e pos) (exprS ge) := by
  obtain ⟨t, p, q⟩ := h.ex
  exact ⟨_, ps_expr p hs, fun F0 H0 F σ ρ H D e w => q F σ ρ H _ e.env (Wp.mono (WpS.split e w) fun t w v F' H' x _ => w σ F' H' x.ff (e.ext x))⟩
/-- return -/
def retS (ge : Env → Rs T) (ρ : Env) : So := So.of (ge ρ) ρ .rt
theorem s_ret {ge : Env → Rs T} (h : DJ X W (rO X.K) e ge) : DS X W (.Return (some e) pos) (retS ge) := by
  obtain ⟨t, p, q⟩ := h.ex
  exact ⟨_, ps_ret p, fun F0 H0 F σ ρ H D e w => q F σ ρ H _ e.env (Wp.mono (WpS.split e w) fun t w v F' H' x o => w v F' H' (e.toExt.trans x) (kO.anti e.hh o))⟩
/-- return x, x our own -/
def retV (i : Nat) (ρ : Env) : So := match ρ[i]? with
  | some (some t) => .rt t
  | _ => .bad
theorem s_retV {x : Str} {p2 : Pos} {i : Nat} (h : PE X (.Name x p2) (tVar i)) : DS X W (.Return (some (.Name x p2)) pos) (retV i) := by
  refine ⟨_, ps_ret h, fun F0 H0 F σ ρ H D e w => ?_⟩
  unfold retV at w
  split at w
  · rename_i t et
    obtain ⟨fp, oe, ne, fe⟩ := e.own
    obtain ⟨v, f, g1, g2, ev, o, e1, o2⟩ := oe.get et
    subst e1
    rw [List.nodup_append, List.nodup_append] at ne
    exact ⟨v, ev, w v F H e.toExt ⟨f, o, ne.2.1.1, fun a ha => fe a (by simp [ha])⟩⟩
  · exact w.elim
def retN (ρ : Env) : So := .rt (.sh .non)
theorem s_retN : DS X W (.Return none pos) retN := ⟨_, ps_retN, fun F0 H0 F σ ρ H D e w => w _ F H e.toExt ⟨[], .sh .non, .nil, fun _ ha => by cases ha⟩⟩
theorem s_pass : DS X W (.Pass pos) .nx := ⟨_, ps_pass, fun F0 H0 F σ ρ H D e w => w σ F H same_refl e⟩
theorem s_break : DS X W (.Break pos) .bk := ⟨_, ps_break, fun F0 H0 F σ ρ H D e w => w σ F H same_refl e⟩
theorem s_continue : DS X W (.Continue pos) .ct := ⟨_, ps_continue, fun F0 H0 F σ ρ H D e w => w σ F H same_refl e⟩
/-- if -/
def ifS (gc : Env → Rs Bool) (g gs : Env → So) (ρ : Env) : So := So.of (gc ρ) ρ fun b => if b = true then g ρ else gs ρ
theorem s_if {c : Expr} {a b : List Stmt} {gc : Env → Rs Bool} (hc : DT X W c gc) (h : DSs X W a g) (k : DSs X W b gs) : DS X W (.If c a b pos) (ifS gc g gs) := by
  obtain ⟨tc, pc, qc⟩ := hc.ex
  obtain ⟨t, p, q⟩ := h.ex
  obtain ⟨u, p2, q2⟩ := k.ex
  refine ⟨_, ps_if pc p p2, fun F0 H0 F σ ρ H D e w => qc F σ ρ H _ e.env (Wp.mono (WpS.split e w) fun b w F' H' x => ?_)⟩
  cases b with
  | true => exact q F0 H0 F' σ ρ H' D (e.ext x) (w.later x.ff)
  | false => exact q2 F0 H0 F' σ ρ H' D (e.ext x) (w.later x.ff)
/-- raise C('..') -/
def raiseS (c : Str) (ρ : Env) : So := .xn c none ρ
theorem s_raise {x m : Str} {jj : Nat} {p p2 cpos : Pos} (hc : X.calm = true) (tk : Takes X W) (q : PySem.W.excIn X.K (He.ga X.K x) He.veBase "ValueError.__new__" = true) (gC : X.mg x = some (.ref (He.ga X.K x))) (kC : PySem.W.keepIn X.K (.ref (He.ga X.K x)) = true)
    (sC : PySem.W.subIn X.K (.ref (He.ga X.K x)) (.type "BaseException") = some true) (tC : PySem.W.typeIn X.K (.ref (He.ga X.K x)) = some (.type "type")) (hg : Gl X x := by rfl) (hd : (x == ("__debug__" : Str)) = false := by decide) :
    DS X W (.Raise (some (.Call (.Name x p) [.Constant (.str m) jj p2] [] cpos)) none pos) (raiseS x) :=
  ⟨_, ps_raise hc tk (pmk_own PySem.F.excBase_ValueError q gC kC (raises_own sC tC) hg hd), fun F0 H0 F σ ρ H D e w => w none σ F H same_refl e rfl⟩
/-- for -/
def forR (f : D → Env → Rs Env) (g : Env → So) : List D → Env → So
  | [], ρ => .nx ρ
  | d :: ds, ρ => match f d ρ with
    | .ok ρ1 => (match g ρ1 with
      | .nx ρ' => forR f g ds ρ'
      | .ct ρ' => forR f g ds ρ'
      | .bk ρ' => .nx ρ'
      | o => o)
    | _ => .bad
def forS (gi : Env → Rs (List D)) (f : D → Env → Rs Env) (g : Env → So) (ρ : Env) : So := So.of (gi ρ) ρ fun ds => forR f g ds ρ
theorem for_run {K : PySem.W.Frag} {is : List Nat} {f : D → Env → Rs Env} {J : It} {F0 H0 F1 H1 : Hp} {σ : St} {ρ : Env} {ds : List D} {D : Ends} {tg : TG} {tb : TS}
    (hg : ∀ F H σ ρ fp v d (Q : L2.St → Hp → Prop), Sub F H → OwnE K F H σ ρ fp → Rp K F v d → Wp0 (f d ρ) (fun ρ' => ∀ σ' fp', OwnE K F H σ' ρ' fp' → fp'.Sublist fp → Out is σ σ' → Q σ' H) → tg v σ H Q)
    (hb : ∀ F0 H0 F σ ρ H D, EnvOk K F0 H0 F H σ ρ → WpS K W F0 H0 F (g ρ) D → tb D σ H) (hJ : ItD K J F1 ds) (e : EnvOk K F0 H0 F1 H1 σ ρ) (w : WpS K W F0 H0 F1 (forR f g ds ρ) D) :
    ∃ W' : Nat → Nat → St → Hp → Prop, (∃ m, W' 0 m σ H1) ∧ ∀ i m σ H, W' i m σ H →
  (J.stop i H ∧ D.nx σ H) ∨ (J.go i H ∧ ∃ N : St → Hp → Prop, (∀ σ' H', N σ' H' → ∃ m', m' < m ∧ W' (i + 1) m' σ' H') ∧ ∀ x H', J.yld i H x H' → tg x σ H' fun σ2 H2 => tb { D with nx := N, ct := N, bk := D.nx } σ2 H2) := by
  refine ⟨fun i m σ H => m = ds.length - i ∧ i ≤ ds.length ∧ ∃ F ρ, Same F1 F ∧ EnvOk K F0 H0 F H σ ρ ∧ WpS K W F0 H0 F (forR f g (ds.drop i) ρ) D, ⟨ds.length, by simp, Nat.zero_le _, F1, ρ, same_refl, e, w⟩, ?_⟩
  rintro i m σ H ⟨rfl, hi, F, ρ, s1, e, w⟩
  by_cases hlt : i < ds.length
  · have ed : ds.drop i = ds[i] :: ds.drop (i + 1) := List.drop_eq_getElem_cons hlt
    rw [ed] at w
    unfold forR at w
    refine .inr ⟨hJ.go i F H s1 e.sub hlt, fun σ' H' => ∃ F' ρ', Same F1 F' ∧ EnvOk K F0 H0 F' H' σ' ρ' ∧ WpS K W F0 H0 F' (forR f g (ds.drop (i + 1)) ρ') D, fun σ' H' h => ⟨ds.length - (i + 1), by omega, rfl, hlt, h⟩, fun v H' y => ?_⟩
    obtain ⟨F2, d, ed2, x2, rv⟩ := hJ.yld i F H v H' s1 e.sub hlt y
    have ed3 : d = ds[i] := by
      rw [List.getElem?_eq_getElem hlt] at ed2
      exact (Option.some.inj ed2).symm
    subst ed3
    have e2 := e.ext x2
    obtain ⟨fp, oe, ne, fe⟩ := e2.own
    refine hg F2 H' σ ρ fp v _ _ x2.sub oe rv ?_
    cases z : f ds[i] ρ with
    | ok ρ1 =>
      rw [z] at w
      dsimp only at w
      intro σ1 fp1 o1 s1' _
      have e3 : EnvOk K F0 H0 F2 H' σ1 ρ1 := ⟨e2.hh, e2.ff, e2.sub, e2.new, fp1, o1, ne.sublist s1', fun a ha => fe a (s1'.subset ha)⟩
      have s2 : Same F1 F2 := same_trans s1 x2.ff
      refine hb F0 H0 F2 σ1 ρ1 H' _ e3 ?_
      cases zz : g ρ1 with
      | nx ρ' => rw [zz] at w; exact fun σ' F' H'' s' e' => ⟨F', ρ', same_trans s2 s', e', w.later (same_trans x2.ff s')⟩
      | ct ρ' => rw [zz] at w; exact fun σ' F' H'' s' e' => ⟨F', ρ', same_trans s2 s', e', w.later (same_trans x2.ff s')⟩
      | bk ρ' => rw [zz] at w; exact fun σ' F' H'' s' e' => w σ' F' H'' (same_trans x2.ff s') e'
      | rt t => rw [zz] at w; exact w
      | xn c l ρ' => rw [zz] at w; exact fun d σ' F' H'' s' e' x => w d σ' F' H'' (same_trans x2.ff s') e' x
      | bad => rw [zz] at w; exact w.elim
    | exn c l => rw [z] at w; exact w.elim
    | bad => rw [z] at w; exact w.elim
  · have ez : ds.drop i = [] := List.drop_eq_nil_of_le (by omega)
    rw [ez] at w
    exact .inl ⟨hJ.stop i F H s1 e.sub (by omega), w σ F H same_refl e⟩
theorem s_for {tg iter : Expr} {body : List Stmt} {is : List Nat} {f : D → Env → Rs Env} {gi : Env → Rs (List D)} (hp : PassesOwn (model X.prog X.w) X.A X.env X.xe) (hc : X.calm = true) (hi : DI X W tg iter gi) (hg : DG X tg is f) (hb : DSs X W body g)
    (hs : ∀ x, foldedSetIterable iter X.env x = pure x := by intro _; rfl) : DS X W (.For tg iter body [] pos) (forS gi f g) := by
  obtain ⟨ti, pi, qi⟩ := hi.ex
  obtain ⟨t, p, q⟩ := hg.ex
  obtain ⟨tb, pb, qb⟩ := hb.ex
  refine ⟨_, ps_for hp hc pi p pb hs, fun F0 H0 F σ ρ H D e w => qi F σ ρ H _ e.env (Wp.mono (WpS.split e w) fun ds w J F1 H1 x1 hJ => ?_)⟩
  exact for_run q qb hJ (e.ext x1) (w.later x1.ff)
/-- while, at most n turns -/
def whileR (gc : Env → Rs Bool) (g : Env → So) : Nat → Env → So
  | 0, _ => .bad
  | n + 1, ρ => So.of (gc ρ) ρ fun b => if b = true then (match g ρ with
      | .nx ρ' => whileR gc g n ρ'
      | .ct ρ' => whileR gc g n ρ'
      | .bk ρ' => .nx ρ'
      | o => o) else .nx ρ
theorem s_while {c : Expr} {body : List Stmt} {gc : Env → Rs Bool} (n : Nat) (hp : PassesOwn (model X.prog X.w) X.A X.env X.xe) (hc : DT X W c gc) (hb : DSs X W body g) : DS X W (.While c body [] pos) (whileR gc g n) := by
  obtain ⟨tc, pc, qc⟩ := hc.ex
  obtain ⟨tb, pb, qb⟩ := hb.ex
  refine ⟨_, ps_while hp pc pb, fun F0 H0 F σ ρ H D e w => ⟨fun m σ H => ∃ F ρ, EnvOk X.K F0 H0 F H σ ρ ∧ WpS X.K W F0 H0 F (whileR gc g m ρ) D, ⟨n, F, ρ, e, w⟩, ?_⟩⟩
  rintro m σ H ⟨F, ρ, e, w⟩
  cases m with
  | zero => exact w.elim
  | succ m =>
    unfold whileR at w
    refine qc F σ ρ H _ e.env (Wp.mono (WpS.split e w) fun b w F' H' x => ?_)
    cases b with
    | false => exact w σ F' H' x.ff (e.ext x)
    | true =>
      rw [if_pos rfl] at w ⊢
      refine ⟨fun σ' H' => ∃ F ρ, EnvOk X.K F0 H0 F H' σ' ρ ∧ WpS X.K W F0 H0 F (whileR gc g m ρ) D, fun σ' H' h => ⟨m, Nat.lt_succ_self _, h⟩, qb F0 H0 F' σ ρ H' _ (e.ext x) ?_⟩
      cases zz : g ρ with
      | nx ρ' => rw [zz] at w; exact fun σ' F2 H'' s' e' => ⟨F2, ρ', e', w.later (same_trans x.ff s')⟩
      | ct ρ' => rw [zz] at w; exact fun σ' F2 H'' s' e' => ⟨F2, ρ', e', w.later (same_trans x.ff s')⟩
      | bk ρ' => rw [zz] at w; exact fun σ' F2 H'' s' e' => w σ' F2 H'' (same_trans x.ff s') e'
      | rt t => rw [zz] at w; exact w
      | xn c l ρ' => rw [zz] at w; exact fun d σ' F2 H'' s' e' y => w d σ' F2 H'' (same_trans x.ff s') e' y
      | bad => rw [zz] at w; exact w.elim
end
end Dn

/-! Dn9: defs; changes of one's own things. -/
namespace Dn
open PySem PySem.Spec L2

/-! ### a def's body -/
def args0 (ds : List D) (n : Nat) : Env := ds.map (fun d => some (.sh d)) ++ List.replicate n none
def runD (np nl : Nat) (g : Env → So) (ds : List D) : Rs T :=
  if ds.length = np then (match g (args0 ds (nl - np)) with
    | .nx _ => .ok (.sh .non)
    | .rt t => .ok t
    | .xn c l _ => .exn c l
    | _ => .bad) else .bad
theorem own_args {K : PySem.W.Frag} {F H : Hp} : ∀ {vs : List V} {ds : List D} (n : Nat), RpL K F vs ds → OwnE K F H (vs.map some ++ List.replicate n none) (args0 ds n) []
  | [], _, n, h => by
    cases h
    show OwnE K F H (List.replicate n none) (List.replicate n none) []
    induction n with
    | zero => exact .nil
    | succ n ih => rw [List.replicate_succ, List.replicate_succ]; exact .skip ih
  | _ :: _, _, n, h => by
    cases h with
    | cons h1 h2 =>
      have q := OwnE.cons (Own.sh (H := H) h1) (own_args (H := H) n h2)
      exact q
section
variable {P : Program} {w : World} {K : PySem.W.Frag} {mg : Str → Option Value} {base : Heap} {x qual : Str} {params : Arguments} {body : List Stmt} {scope : Scope} {a : Addr} {fd : FuncData} {N ps : List Str} {k : Nat} {g : Env → So}
/-- what a body may use -/
structure Bd (X : Cx) (W : WX) (k : Nat) : Prop where
  hr : Room k X.A
  tk : Takes X W
  hp : PassesOwn (model X.prog X.w) X.A X.env X.xe
  hc : X.calm = true
  nd : X.N.Nodup
theorem Bd.u {X : Cx} {W : WX} {k : Nat} (B : Bd X W k) : X.A.units + 65 < cLine := by
  have := B.hr.un
  omega
theorem Bd.u1 {X : Cx} {W : WX} {k : Nat} (B : Bd X W k) : X.A.units + 1 < cLine := by
  have := B.hr.un
  omega
theorem Bd.u64 {X : Cx} {W : WX} {k : Nat} (B : Bd X W k) : X.A.units + 64 < cLine := by
  have := B.hr.un
  omega
theorem spD_len {f : List D → Rs T} {np nl : Nat} (hf : ∀ ds, ds.length ≠ np → f ds = .bad) {vs : List V} {H : Hp} {Q : VK} {E : XK} (h : spD K f vs H Q E) : vs.length = np := by
  obtain ⟨F, ds, s, r, m⟩ := h
  by_cases e : ds.length = np
  · rw [r.length, e]
  · rw [hf ds e] at m
    exact m.elim
theorem okD_of (F : FunD K x qual params body scope [] [] a fd) (S : FnScope N ps scope)
    (h : ∀ (cdv : Value) (A : Around) (outer : List PySem.Env) (s : Shared) (H : Hp) (E : XK), Bd (cxOf (L2.CX P w) P w K mg base N qual scope a cdv A outer s H E) (fun cls d _ H => E cls d H) k →
      DSs (cxOf (L2.CX P w) P w K mg base N qual scope a cdv A outer s H E) (fun cls d _ H => E cls d H) body g) :
    FnOk P w K mg base (L2.CX P w) (k + 1) a fd ps (spD K (runD ps.length N.length g)) := by
  have hl : ∀ ds, ds.length ≠ ps.length → runD ps.length N.length g ds = .bad := fun ds e => if_neg e
  refine F.ok S (fun vs H Q E q => spD_len (nl := 0) hl q) (fun cdv A outer s H vs Q E hr q => ?_)
  obtain ⟨t, p, rd⟩ := (h cdv A outer s H E ⟨hr, takes_of rfl rfl rfl rfl, passes_of (K := fun e s'' => L2.CX P w outer H s E e s'') rfl, rfl, S.nd⟩).ex
  refine ⟨t, p, ?_⟩
  obtain ⟨F0, ds, sb, r, m⟩ := q
  have hd : ds.length = ps.length := by
    by_cases e : ds.length = ps.length
    · exact e
    · rw [hl ds e] at m
      exact m.elim
  have hv : vs.length = ps.length := by rw [r.length, hd]
  have e0 : EnvOk K F0 H F0 H (L2.start N vs) (args0 ds (N.length - ps.length)) := by
    refine ⟨fun _ _ e => e, fun _ _ e => e, sb, fun _ _ e => e, [], ?_, .nil, fun _ ha => by cases ha⟩
    unfold L2.start
    rw [hv]
    exact own_args _ r
  refine rd F0 H F0 _ _ H _ e0 ?_
  have er : runD ps.length N.length g ds = (match g (args0 ds (N.length - ps.length)) with
    | .nx _ => .ok (.sh .non)
    | .rt t => .ok t
    | .xn c l _ => .exn c l
    | _ => .bad) := if_pos hd
  rw [er] at m
  cases z : g (args0 ds (N.length - ps.length)) with
  | nx ρ => rw [z] at m; exact fun σ F H' s' e => m _ F H' e.toExt ⟨[], .sh .non, .nil, fun _ ha => by cases ha⟩
  | rt t => rw [z] at m; exact fun v F H' x o => m v F H' x o
  | xn c l ρ => rw [z] at m; exact fun d σ F H' s' e y => m d F H' e.toExt y
  | bk ρ => rw [z] at m; exact m.elim
  | ct ρ => rw [z] at m; exact m.elim
  | bad => rw [z] at m; exact m.elim
/-- a def of the module -/
theorem fnD_of (F : FunD K x qual params body scope [] [] a fd) (S : FnScope N ps scope) (hm : mg x = some (.ref a)) (hb : Binds K fd ps [])
    (h : ∀ (cdv : Value) (A : Around) (outer : List PySem.Env) (s : Shared) (H : Hp) (E : XK), Bd (cxOf (L2.CX P w) P w K mg base N qual scope a cdv A outer s H E) (fun cls d _ H => E cls d H) k →
      DSs (cxOf (L2.CX P w) P w K mg base N qual scope a cdv A outer s H E) (fun cls d _ H => E cls d H) body g) :
    FnD P w K mg base (k + 1) x (runD ps.length N.length g) :=
  ⟨a, fd, ps, okD_of F S h, hm, F.kp, hb⟩
theorem FnD.mono {f : List D → Rs T} {j : Nat} (F : FnD P w K mg base j x f) (h : j ≤ k) : FnD P w K mg base k x f := by
  obtain ⟨a, fd, ps, F, hm, hk, hb⟩ := F.ex
  exact ⟨a, fd, ps, F.mono h, hm, hk, hb⟩
/-- a method -/
theorem mtD_of {c m : Str} (F : FunD K x qual params body scope [] [] a fd) (S : FnScope N ps scope) (hc : Cls K (He.ga K c)) (hm : Meth K (He.ga K c) m a) (hb : Binds K fd ps [])
    (h : ∀ (cdv : Value) (A : Around) (outer : List PySem.Env) (s : Shared) (H : Hp) (E : XK), Bd (cxOf (L2.CX P w) P w K mg base N qual scope a cdv A outer s H E) (fun cls d _ H => E cls d H) k →
      DSs (cxOf (L2.CX P w) P w K mg base N qual scope a cdv A outer s H E) (fun cls d _ H => E cls d H) body g) :
    MtD P w K mg base (k + 1) c m (runD ps.length N.length g) :=
  ⟨a, fd, ps, okD_of F S h, hc, hm, hb⟩
end

/-! ### x.append(e), x our own -/
section
variable {X : Cx} {W : WX} {e : Expr} {pos pos' : Pos}
/-- the list in a slot -/
def lstE (i : Nat) (ρ : Env) : Rs (List T) := match ρ[i]? with
  | some (some (.lst ts)) => .ok ts
  | _ => .bad
theorem lstE_ok {ρ : Env} {i : Nat} {ts : List T} (h : lstE i ρ = .ok ts) : ρ[i]? = some (some (.lst ts)) := by
  unfold lstE at h
  split at h
  · rename_i t' e
    cases h
    exact e
  · cases h
theorem lstE_nx {ρ : Env} {i : Nat} {c : Str} {l : Option Int} : lstE i ρ ≠ .exn c l := fun e => by
  unfold lstE at e
  split at e <;> cases e
theorem WpS.got {K : PySem.W.Frag} {W : WX} {F0 H0 F : Hp} {α : Type} {r : Rs α} {ρ : Env} {k : α → So} {D : Ends} (w : WpS K W F0 H0 F (So.of r ρ k) D) (n : ∀ c l, r ≠ .exn c l) : ∃ a, r = .ok a ∧ WpS K W F0 H0 F (k a) D := by
  cases r with
  | ok a => exact ⟨a, rfl, w⟩
  | exn c l => exact absurd rfl (n c l)
  | bad => exact w.elim
/-- slot i's own tree is changed, at its own addresses alone -/
theorem EnvOk.change {K : PySem.W.Frag} {F0 H0 F H F1 H1 : Hp} {σ : St} {ρ : Env} (e : EnvOk K F0 H0 F H σ ρ) (x : Ext F H F1 H1) {i : Nat} {t : T} (et : ρ[i]? = some (some t)) :
    ∃ v f, σ[i]? = some (some v) ∧ Own K F H v t f ∧ f.Nodup ∧ ∀ (H' : Hp) (t' : T) (f' : List Addr), (∀ b, b ∉ f → H' b = H1 b) → Own K F1 H' v t' f' → f'.Nodup → (∀ b ∈ f', b ∈ f ∨ H b = none) → EnvOk K F0 H0 F1 H' σ (ρ.set i (some t')) := by
  obtain ⟨fp, oe, ne, fe⟩ := e.own
  obtain ⟨v, f, g1, g2, ev, o, e1, o2⟩ := oe.get et
  subst e1
  have hi : i < ρ.length := (List.getElem?_eq_some_iff.mp et).1
  rw [List.nodup_append, List.nodup_append] at ne
  obtain ⟨n1, ⟨n2, n3, n4⟩, n5⟩ := ne
  have dis : ∀ a ∈ g1 ++ g2, a ∉ f := fun a ha hf => by
    rcases List.mem_append.mp ha with ha | ha
    · exact n5 a ha a (List.mem_append_left _ hf) rfl
    · exact n4 a hf a ha rfl
  refine ⟨v, f, ev, o, n2, fun H' t' f' k1 o' n' k2 => ?_⟩
  have y := e.toExt.trans x
  have of1 := x.own o
  refine ⟨fun b u hb => ?_, y.ff, fun b u hb => ?_, y.new, ?_⟩
  · have nb : b ∉ f := fun hf => by rw [fe b (by simp [hf])] at hb; cases hb
    rw [k1 b nb]
    exact y.hh b u hb
  · have nb : b ∉ f := fun hf => by rw [(of1.at b hf).2] at hb; cases hb
    rw [k1 b nb]
    exact y.sub b u hb
  · have o3 : OwnE K F1 H' σ (ρ.set i none) (g1 ++ g2) := (x.ownE o2).step (fun _ _ h => h) fun a ha => ⟨((x.ownE o2).at a ha).2, k1 a (dis a ha)⟩
    obtain ⟨m1, m2, e2, o4⟩ := o3.set (i := i) (by simp [hi]) o'
    rw [set_set_none] at o4
    have es : σ.set i (some v) = σ := by
      apply List.ext_getElem?
      intro j
      by_cases hj : j = i
      · subst hj
        rw [ev, List.getElem?_set_self (List.getElem?_eq_some_iff.mp ev).1]
      · rw [List.getElem?_set_ne (Ne.symm hj)]
    rw [es] at o4
    have dis2 : ∀ a ∈ m1 ++ m2, a ∉ f' := fun a ha hf => by
      rw [← e2] at ha
      rcases k2 a hf with h | h
      · exact dis a ha h
      · exact (o2.at a ha).1 h
    have ng : (m1 ++ m2).Nodup := by
      rw [← e2, List.nodup_append]
      exact ⟨n1, n3, fun a ha b hb => n5 a ha b (List.mem_append_right _ hb)⟩
    refine ⟨_, o4, ?_, fun a ha => ?_⟩
    · rw [List.nodup_append] at ng
      obtain ⟨q1, q2, q3⟩ := ng
      rw [List.nodup_append, List.nodup_append]
      refine ⟨q1, ⟨n', q2, fun a ha b hb z => dis2 b (List.mem_append_right _ hb) (z ▸ ha)⟩, fun a ha b hb => ?_⟩
      rcases List.mem_append.mp hb with hb | hb
      · exact fun z => dis2 a (List.mem_append_left _ ha) (z ▸ hb)
      · exact q3 a ha b hb
    · have old : ∀ a, a ∈ m1 ++ m2 → H0 a = none := fun a ha => by
        rw [← e2] at ha
        refine fe a ?_
        rcases List.mem_append.mp ha with h | h
        · simp [h]
        · simp [h]
      rcases List.mem_append.mp ha with ha | ha
      · exact old a (List.mem_append_left _ ha)
      · rcases List.mem_append.mp ha with ha | ha
        · rcases k2 a ha with h | h
          · exact fe a (by simp [h])
          · exact none_of_same e.hh h
        · exact old a (List.mem_append_right _ ha)
def appS (i : Nat) (ge : Env → Rs T) (ρ : Env) : So := So.of (lstE i ρ) ρ fun ts => So.of (ge ρ) ρ fun t => if ts.length < 16777216 then .nx (ρ.set i (some (.lst (ts ++ [t])))) else .bad
theorem s_app {x : Str} {p2 apos cpos : Pos} {i : Nat} {ge : Env → Rs T} (hx : PE X (.Name x p2) (tVar i)) (h : DJ X W (rO X.K) e ge) (he : starEach [e] X.env = (false, eval e X.env) :: starEach [] X.env := by rfl)
    (hs : swapsWith (.Call (.Attribute (.Name x p2) "append" apos) [e] [] cpos) none pos.line X.env = pure false := by rfl) (hbase : attributeBase (.Name x p2) "append" X.env (eval (.Name x p2) X.env) = eval (.Name x p2) X.env := by rfl)
    (hfew : ((backTo cpos (starEach [e] X.env)).all (fun x => !x.1) && (backToKw cpos (keywordEach [] X.env)).all (fun x => x.1.isSome) && decide ([e].length + ([] : List Keyword).length + (if ([] : List Keyword).isEmpty then 0 else 1) < 30)) = true := by rfl)
    (hline : (apos.endLine == cpos.line) = true := by rfl) (hpl : (backTo cpos (starEach [] X.env)).any (·.1) = false := by rfl) :
    DS X W (.Expr (.Call (.Attribute (.Name x p2) "append" apos) [e] [] cpos) pos) (appS i ge) := by
  obtain ⟨t, p, q⟩ := h.ex
  refine ⟨_, ps_expr (pe_bm PySem.F.plainAttrs_list PySem.F.slot_list_append PySem.F.type_list_append mt_append hx (pa_cons p pa_nil he) hbase hfew hline he hpl) hs, fun F0 H0 F σ ρ H D ev w => ?_⟩
  obtain ⟨ts, ets, w⟩ := w.got fun _ _ => lstE_nx
  have et := lstE_ok ets
  obtain ⟨_, _, es, o0, _, _⟩ := ev.change (.refl ev.sub) et
  cases o0 with
  | @lst a vs _ fp0 h1 _ _ =>
    refine ⟨_, es, .inl ⟨rfl, vs, .inl (.inl h1)⟩, q F σ ρ H _ ev.env (Wp.mono (WpS.split ev w) fun t w v F1 H1 x1 o1 => ?_)⟩
    obtain ⟨fp2, o2, n2, f2⟩ := o1
    obtain ⟨v', f, es', of, nf, fin⟩ := ev.change x1 et
    rw [es] at es'
    cases es'
    by_cases c : ts.length < 16777216
    · rw [if_pos c] at w
      have of1 := x1.own of
      cases of1 with
      | @lst _ vs1 _ fp h3 h4 h5 =>
        have e1 := x1.hh _ _ h1
        rw [h3] at e1
        cases e1
        have na : a ∉ fp := (List.nodup_cons.mp nf).1
        have na2 : a ∉ fp2 := fun z => by rw [f2 a z] at h1; cases h1
        refine ⟨a, vs, v, rfl, rfl, h3, by rw [h5.length, sizeLine_eq]; exact c, w σ F1 _ x1.ff (fin (upd H1 a (.lst (vs ++ [v]))) (.lst (ts ++ [t])) (a :: (fp ++ fp2)) (fun b hb => upd_ne fun z => hb (z ▸ List.mem_cons_self)) ?_ ?_ ?_)⟩
        · refine .lst upd_same h4 ((own_snoc h5 o2).step (fun _ _ h => h) fun b hb => ?_)
          rcases List.mem_append.mp hb with hb | hb
          · exact ⟨(h5.at b hb).2, upd_ne fun z => na (z ▸ hb)⟩
          · exact ⟨(o2.at b hb).2, upd_ne fun z => na2 (z ▸ hb)⟩
        · refine List.nodup_cons.mpr ⟨fun hb => ?_, List.nodup_append.mpr ⟨(List.nodup_cons.mp nf).2, n2, fun b hb c hc z => ?_⟩⟩
          · rcases List.mem_append.mp hb with hb | hb
            · exact na hb
            · exact na2 hb
          · subst z
            exact (of.at b (List.mem_cons_of_mem _ hb)).1 (f2 b hc)
        · intro b hb
          rcases List.mem_cons.mp hb with z | hb
          · exact .inl (by rw [z]; exact List.mem_cons_self)
          · rcases List.mem_append.mp hb with hb | hb
            · exact .inl (List.mem_cons_of_mem _ hb)
            · exact .inr (f2 b hb)
    · rw [if_neg c] at w
      exact w.elim
end
end Dn

/-! Dn10: short names for what expressions yield; op= ; try. -/
namespace Dn
open PySem PySem.Spec L2
section
variable {α β : Type}
abbrev kX (d : D) : Env → Rs D := fun _ => .ok d
abbrev pX (i : Nat) : Env → Rs D := fun ρ => vP ρ i
abbrev cX (i : Nat) : Env → Rs D := fun ρ => vC ρ i
abbrev sX (i : Nat) : Env → Rs D := fun ρ => vS ρ i
abbrev op1 (f : D → Rs α) (ga : Env → Rs D) : Env → Rs α := fun ρ => (ga ρ).bind f
abbrev op2 (f : D → D → Rs α) (ga gb : Env → Rs D) : Env → Rs α := fun ρ => (ga ρ).bind fun x => (gb ρ).bind fun y => f x y
abbrev inX (neg : Bool) (ga gb : Env → Rs D) : Env → Rs D := fun ρ => (ga ρ).bind fun x => (gb ρ).bind fun y => (inA x y).bind fun c => .ok (.bl (if neg then !c else c))
abbrev slX (g : Env → Rs D) (gl gh : Env → Rs (Option Int)) : Env → Rs T := fun ρ => (g ρ).bind fun x => (gl ρ).bind fun l => (gh ρ).bind fun u => slR x l u
abbrev noI : Env → Rs (Option Int) := fun _ => .ok none
abbrev toI (g : Env → Rs D) : Env → Rs (Option Int) := fun ρ => (g ρ).bind intR
abbrev toO (ga : Env → Rs D) : Env → Rs T := fun ρ => (ga ρ).bind fun d => .ok (.sh d)
abbrev toC (go : Env → Rs T) : Env → Rs D := fun ρ => (go ρ).bind fun t => .ok (frz t)
abbrev flt (ga : Env → Rs D) : Env → Rs D := fun ρ => (ga ρ).bind flatR
abbrev tst (g : Env → Rs D) : Env → Rs Bool := fun ρ => (g ρ).bind blR
abbrev tru (g : Env → Rs D) : Env → Rs Bool := fun ρ => (g ρ).bind truR
abbrev andT (ta tb : Env → Rs Bool) : Env → Rs Bool := fun ρ => andR (ta ρ) (tb ρ)
abbrev orT (ta tb : Env → Rs Bool) : Env → Rs Bool := fun ρ => orR (ta ρ) (tb ρ)
abbrev notT (ta : Env → Rs Bool) : Env → Rs Bool := fun ρ => notR (ta ρ)
abbrev andX (ta tb : Env → Rs D) : Env → Rs D := fun ρ => andV (ta ρ) (tb ρ)
abbrev orX (ta tb : Env → Rs D) : Env → Rs D := fun ρ => orV (ta ρ) (tb ρ)
abbrev notX (ga : Env → Rs D) : Env → Rs D := fun ρ => (ga ρ).bind fun d => (blR d).bind fun c => .ok (.bl (!c))
abbrev ifX (tc : Env → Rs Bool) (ga gb : Env → Rs α) : Env → Rs α := fun ρ => (tc ρ).bind fun k => if k = true then ga ρ else gb ρ
abbrev nilA : Env → Rs (List α) := fun _ => .ok []
abbrev consA (g : Env → Rs α) (gs : Env → Rs (List α)) : Env → Rs (List α) := fun ρ => consR (g ρ) (gs ρ)
abbrev tupX (gs : Env → Rs (List D)) : Env → Rs D := fun ρ => (gs ρ).bind tupR
abbrev lstX (gs : Env → Rs (List T)) : Env → Rs T := fun ρ => (gs ρ).bind lstR
abbrev callX (f : List D → Rs T) (gs : Env → Rs (List D)) : Env → Rs T := fun ρ => (gs ρ).bind f
abbrev methX (c m : Str) (f : List D → Rs T) (go : Env → Rs D) (gs : Env → Rs (List D)) : Env → Rs T := fun ρ => (go ρ).bind fun x => (meR c m x).bind fun x => (gs ρ).bind fun ds => f (x :: ds)
abbrev meth0X (c m : Str) (f : List D → Rs T) (go : Env → Rs D) : Env → Rs T := fun ρ => (go ρ).bind fun x => (meR c m x).bind fun x => f [x]
abbrev joinX (ga gb : Env → Rs D) : Env → Rs D := fun ρ => (ga ρ).bind fun x => (isStr x).bind fun x => (gb ρ).bind fun y => joinR x y
abbrev itX (f : D → Rs (List D)) (ga : Env → Rs D) : Env → Rs (List D) := fun ρ => (ga ρ).bind f
abbrev it2X (f : D → D → Rs (List D)) (ga gb : Env → Rs D) : Env → Rs (List D) := fun ρ => (ga ρ).bind fun x => (gb ρ).bind fun y => f x y
abbrev yesT : Env → Rs Bool := fun _ => .ok true
abbrev lcX (vs : List Nat) (f : D → Env → Rs Env) (gt : Env → Rs Bool) (ge : Env → Rs T) (gi : Env → Rs (List D)) : Env → Rs T := fun ρ => (gi ρ).bind fun ds => (lcR vs f gt ge ρ ds).bind lstF
abbrev chX (f f' : D → D → Rs D) (ga gb gc : Env → Rs D) : Env → Rs D := fun ρ => (ga ρ).bind fun x => (gb ρ).bind fun y => (f x y).bind fun z => (blR z).bind fun k => if k = true then (gc ρ).bind fun u => f' y u else .ok (.bl false)
end
/-! ### x op= e -/
section
variable {X : Cx} {W : WX} {e : Expr} {pos pos' : Pos}
theorem PIp.or {op : Operator} {t u : TIp} (h : PIp X op t) (k : PIp X op u) : PIp X op fun x y H Q => t x y H Q ∨ u x y H Q := by
  intro pins s σ H x y v u' Q I r1 r2 w
  rcases w with w | w
  · exact h pins s σ H x y v u' Q I r1 r2 w
  · exact k pins s σ H x y v u' Q I r1 r2 w
def augS (i : Nat) (f : D → D → Rs D) (ge : Env → Rs D) (ρ : Env) : So := So.of (vC ρ i) ρ fun x => So.of (ge ρ) ρ fun y => So.of (f x y) ρ fun z => .nx (ρ.set i (some (.sh z)))
theorem vC_nx {ρ : Env} {i : Nat} {c : Str} {l : Option Int} : vC ρ i ≠ .exn c l := fun e => by
  unfold vC at e
  split at e <;> cases e
theorem s_aug {i : Nat} {x : Str} {op : Operator} {ti : TIp} {f : D → D → Rs D} {ge : Env → Rs D} (hN : X.N.Nodup) (hi : X.N[i]? = some x) (hx : Loc X.env.scope x) (ho : PIp X op ti) (hd : OpD ti (rP X.K) (rP X.K) (rC X.K) f) (h : DJ X W (rP X.K) e ge)
    (hf : X.fn x = true ∨ X.env.scope.names.lookup x = some .local := by first | exact .inl rfl | exact .inr rfl) : DS X W (.AugAssign (.Name x pos') op e pos) (augS i f ge) := by
  obtain ⟨t, p, q⟩ := h.ex
  refine ⟨_, ps_aug hN hi hx p ho hf, fun F0 H0 F σ ρ H D ev w => ?_⟩
  obtain ⟨d, ed, w⟩ := w.got fun _ _ => vC_nx
  have er := vC_ok ed
  obtain ⟨v, f1, es, o⟩ := ev.env.get er
  cases o with
  | sh r =>
    refine ⟨v, es, q F σ ρ H _ ev.env (Wp.mono (WpS.split ev w) fun d2 w v2 F1 H1 x1 r2 => ?_)⟩
    refine hd.run (Hs := H1) (Ht := H1) x1.sub (Rp.sub (.of_same x1.hh) (r.sub ev.sub)) r2 ?_
    obtain ⟨z, ez, w⟩ := w.got (hd.nx d d2)
    rw [ez]
    intro v3 F3 H3 x3 r3
    exact w _ F3 H3 (same_trans x1.ff x3.ff) (ev.put (x1.trans x3) (Own.sh r3) .nil (fun _ ha => by cases ha) i)
theorem ip_addA {X : Cx} : PIp X .Add rAddV :=
  PIp.or (fun pins s σ H x y v u Q I r1 r2 h => ip_add pins s σ H x y v u Q I r1 r2 h) fun pins s σ H x y v u Q I r1 r2 h => iop_add_str pins s σ H x y v u Q I r1 r2 h
theorem s_augAdd {i : Nat} {x : Str} {ge : Env → Rs D} (hN : X.N.Nodup) (hi : X.N[i]? = some x) (hx : Loc X.env.scope x) (h : DJ X W (rP X.K) e ge)
    (hf : X.fn x = true ∨ X.env.scope.names.lookup x = some .local := by first | exact .inl rfl | exact .inr rfl) : DS X W (.AugAssign (.Name x pos') .Add e pos) (augS i addR ge) := s_aug hN hi hx ip_addA od_add h hf
theorem s_augSub {i : Nat} {x : Str} {ge : Env → Rs D} (hN : X.N.Nodup) (hi : X.N[i]? = some x) (hx : Loc X.env.scope x) (h : DJ X W (rP X.K) e ge)
    (hf : X.fn x = true ∨ X.env.scope.names.lookup x = some .local := by first | exact .inl rfl | exact .inr rfl) : DS X W (.AugAssign (.Name x pos') .Sub e pos) (augS i subR ge) :=
  s_aug hN hi hx (fun pins s σ H x y v u Q I r1 r2 h => ip_sub pins s σ H x y v u Q I r1 r2 h) (od_int _ (fun i j => .int (i - j)) fun _ _ _ => .int _) h hf
/-! ### chains a op b op' c -/
theorem jchain {r r' : R2} {f f' : D → D → Rs D} {a b c e : Expr} {ga gb gc : Env → Rs D} (mk : ∀ ta tb tc, PE X a ta → PE X b tb → PE X c tc → PE X e (tChain r r' ta tb tc)) (ho : OpD r (rP X.K) (rP X.K) (rC X.K) f) (ho' : OpD r' (rP X.K) (rP X.K) (rC X.K) f')
    (ha : DJ X W (rP X.K) a ga) (hb : DJ X W (rP X.K) b gb) (hc : DJ X W (rP X.K) c gc) : DJ X W (rC X.K) e (chX f f' ga gb gc) := by
  obtain ⟨ta, pa, qa⟩ := ha.ex
  obtain ⟨tb, pb, qb⟩ := hb.ex
  obtain ⟨tc, pc, qc⟩ := hc.ex
  refine ⟨_, mk ta tb tc pa pb pc, fun F σ ρ H Q I w => ?_⟩
  refine qa F σ ρ H _ I (Wp.mono w.bind fun dx w v F1 H1 x1 r1 => ?_)
  refine qb F1 σ ρ H1 _ (I.ext x1) (Wp.mono (Wp.ext x1 w.bind) fun dy w u F2 H2 x2 r2 => ?_)
  refine ho.run (Hs := H2) (Ht := H2) x2.sub (Rp.same x2.hh r1) r2 ?_
  have x12 := x1.trans x2
  cases q : f dx dy with
  | ok z =>
    rw [q] at w
    intro v3 F3 H3 x3 r3
    have w2 : Wp X.K W F H σ ((blR z).bind fun k => if k = true then (gc ρ).bind fun u => f' dy u else .ok (.bl false)) _ := w
    unfold blR at w2
    split at w2
    · rename_i k
      cases r3
      refine ⟨k, rfl, ?_⟩
      have w3 : Wp X.K W F H σ (if k = true then (gc ρ).bind fun u => f' dy u else .ok (.bl false)) _ := w2
      have x13 := x12.trans x3
      cases k with
      | false => exact w3 _ _ _ x13 (.bl _)
      | true =>
        rw [if_pos rfl] at w3 ⊢
        refine qc F3 σ ρ H3 _ (I.ext x13) (Wp.mono (Wp.ext x13 w3.bind) fun dz w v4 F4 H4 x4 r4 => ?_)
        refine ho'.run (Hs := H4) (Ht := H4) x4.sub (Rp.same x4.hh (Rp.same x3.hh r2)) r4 ?_
        have w4 := Wp.of0 (ho'.nx dy dz) w
        cases q2 : f' dy dz with
        | ok z2 => rw [q2] at w4; exact fun v5 F5 H5 x5 r5 => w4 v5 F5 H5 ((x13.trans x4).trans x5) r5
        | exn c l => rw [q2] at w4; exact w4.elim
        | bad => rw [q2] at w4; exact w4.elim
    · exact w2.elim
  | exn c l => exact absurd q (ho.nx _ _ _ _)
  | bad => rw [q] at w; exact w.elim
theorem jchainT {r r' : R2} {f f' : D → D → Rs D} {a b c e : Expr} {ga gb gc : Env → Rs D} (mk : ∀ ta tb tc, PE X a ta → PE X b tb → PE X c tc → PT X e (tTest (tChain r r' ta tb tc))) (ho : OpD r (rP X.K) (rP X.K) (rC X.K) f) (ho' : OpD r' (rP X.K) (rP X.K) (rC X.K) f')
    (ha : DJ X W (rP X.K) a ga) (hb : DJ X W (rP X.K) b gb) (hc : DJ X W (rP X.K) c gc) : DT X W e (tst (chX f f' ga gb gc)) := by
  obtain ⟨ta, pa, qa⟩ := ha.ex
  obtain ⟨tb, pb, qb⟩ := hb.ex
  obtain ⟨tc, pc, qc⟩ := hc.ex
  refine ⟨_, mk ta tb tc pa pb pc, fun F σ ρ H Q I w => ?_⟩
  refine qa F σ ρ H _ I (Wp.mono w.bind.bind fun dx w v F1 H1 x1 r1 => ?_)
  refine qb F1 σ ρ H1 _ (I.ext x1) (Wp.mono (Wp.ext x1 w.bind) fun dy w u F2 H2 x2 r2 => ?_)
  refine ho.run (Hs := H2) (Ht := H2) x2.sub (Rp.same x2.hh r1) r2 ?_
  have x12 := x1.trans x2
  cases q : f dx dy with
  | ok z =>
    rw [q] at w
    intro v3 F3 H3 x3 r3
    have w2 : Wp X.K W F H σ ((blR z).bind fun k => if k = true then (gc ρ).bind fun u => f' dy u else .ok (.bl false)) _ := w
    unfold blR at w2
    split at w2
    · rename_i k
      cases r3
      refine ⟨k, rfl, ?_⟩
      have w3 : Wp X.K W F H σ (if k = true then (gc ρ).bind fun u => f' dy u else .ok (.bl false)) _ := w2
      have x13 := x12.trans x3
      cases k with
      | false => exact ⟨false, rfl, w3 _ _ x13⟩
      | true =>
        rw [if_pos rfl] at w3 ⊢
        refine qc F3 σ ρ H3 _ (I.ext x13) (Wp.mono (Wp.ext x13 w3.bind) fun dz w v4 F4 H4 x4 r4 => ?_)
        refine ho'.run (Hs := H4) (Ht := H4) x4.sub (Rp.same x4.hh (Rp.same x3.hh r2)) r4 ?_
        have w4 := Wp.of0 (ho'.nx dy dz) w
        cases q2 : f' dy dz with
        | ok z2 =>
          rw [q2] at w4
          intro v5 F5 H5 x5 r5
          have w5 : Wp X.K W F H σ (blR z2) _ := w4
          unfold blR at w5
          split at w5
          · cases r5
            exact ⟨_, rfl, w5 _ _ ((x13.trans x4).trans x5)⟩
          · exact w5.elim
        | exn c l => rw [q2] at w4; exact w4.elim
        | bad => rw [q2] at w4; exact w4.elim
    · exact w2.elim
  | exn c l => exact absurd q (ho.nx _ _ _ _)
  | bad => rw [q] at w; exact w.elim
section
variable {a b c : Expr} {ga gb gc : Env → Rs D} (ha : DJ X W (rP X.K) a ga) (hb : DJ X W (rP X.K) b gb) (hc : DJ X W (rP X.K) c gc)
include ha hb hc
abbrev opr_lt {X : Cx} : OpR X (compareOp .Lt) (rOrdV (fun i j => decide (i < j)) fun i j => decide (i < j)) := OpR.or op_lt op_lt_str
abbrev opr_le {X : Cx} : OpR X (compareOp .LtE) (rOrdV (fun i j => decide (i ≤ j)) fun i j => !decide (j < i)) := OpR.or op_le op_le_str
theorem jltlt (hm : lastMarks [.Lt, .Lt] [b, c] = false := by with_unfolding_all rfl) : DJ X W (rC X.K) (.Compare a [.Lt, .Lt] [b, c] pos) (chX ltR ltR ga gb gc) := jchain (fun _ _ _ pa pb pc => pe_chain opr_lt opr_lt pa pb pc hm) (od_ord _ _) (od_ord _ _) ha hb hc
theorem jlele (hm : lastMarks [.LtE, .LtE] [b, c] = false := by with_unfolding_all rfl) : DJ X W (rC X.K) (.Compare a [.LtE, .LtE] [b, c] pos) (chX leR leR ga gb gc) := jchain (fun _ _ _ pa pb pc => pe_chain opr_le opr_le pa pb pc hm) (od_ord _ _) (od_ord _ _) ha hb hc
theorem jlelt (hm : lastMarks [.LtE, .Lt] [b, c] = false := by with_unfolding_all rfl) : DJ X W (rC X.K) (.Compare a [.LtE, .Lt] [b, c] pos) (chX leR ltR ga gb gc) := jchain (fun _ _ _ pa pb pc => pe_chain opr_le opr_lt pa pb pc hm) (od_ord _ _) (od_ord _ _) ha hb hc
theorem tltlt (hm : lastMarks [.Lt, .Lt] [b, c] = false := by with_unfolding_all rfl) : DT X W (.Compare a [.Lt, .Lt] [b, c] pos) (tst (chX ltR ltR ga gb gc)) := jchainT (fun _ _ _ pa pb pc => pt_chain opr_lt opr_lt pa pb pc hm) (od_ord _ _) (od_ord _ _) ha hb hc
theorem tlele (hm : lastMarks [.LtE, .LtE] [b, c] = false := by with_unfolding_all rfl) : DT X W (.Compare a [.LtE, .LtE] [b, c] pos) (tst (chX leR leR ga gb gc)) := jchainT (fun _ _ _ pa pb pc => pt_chain opr_le opr_le pa pb pc hm) (od_ord _ _) (od_ord _ _) ha hb hc
theorem tlelt (hm : lastMarks [.LtE, .Lt] [b, c] = false := by with_unfolding_all rfl) : DT X W (.Compare a [.LtE, .Lt] [b, c] pos) (tst (chX leR ltR ga gb gc)) := jchainT (fun _ _ _ pa pb pc => pt_chain opr_le opr_lt pa pb pc hm) (od_ord _ _) (od_ord _ _) ha hb hc
end
end

/-! ### try .. except C: .. -/
section
variable {X : Cx} {W : WX} {body : List Stmt} {pos pos' : Pos} {k : Nat}
theorem PSs.weak {X : Cx} {e : List Stmt} {t u : TS} (h : PSs X e t) (c : ∀ D σ H, u D σ H → t D σ H) : PSs X e u := ⟨fun pins s σ H D I w => h.run pins s σ H D I (c _ _ _ w)⟩
theorem unifS {ι : Type} {X : ι → Cx} {e : List Stmt} {A : TS → Prop} (h : ∀ p, ∃ t, PSs (X p) e t ∧ A t) (hA : ∀ (ts : ι → TS), (∀ p, A (ts p)) → A fun D σ H => ∀ p, ts p D σ H) : ∃ t, (∀ p, PSs (X p) e t) ∧ A t := by
  refine ⟨fun D σ H => ∀ p, (Classical.choose (h p)) D σ H, fun p => ?_, hA _ fun p => (Classical.choose_spec (h p)).2⟩
  exact PSs.weak (Classical.choose_spec (h p)).1 fun D σ H w => w p
theorem Bd.tr {X : Cx} {W : WX} {k : Nat} (B : Bd X W k) {W' : WX} {pn : List (Addr × Obj)} {xe : Value → Shared → Prop} (tk : Takes (X.tr pn xe) W') (hp : PassesOwn (model X.prog X.w) X.A X.env xe) : Bd (X.tr pn xe) W' k := ⟨B.hr, tk, hp, B.hc, B.nd⟩
/-- a body, in any try -/
theorem try_body {g : Env → So} (h : ∀ (W : WX) (pn : List (Addr × Obj)) (xe : Value → Shared → Prop), Takes (X.tr pn xe) W → PassesOwn (model X.prog X.w) X.A X.env xe → DSs (X.tr pn xe) W body g) :
    ∃ tb : WX → TS, (∀ (W : WX) (pn : List (Addr × Obj)) (xe : Value → Shared → Prop), Takes (X.tr pn xe) W → PassesOwn (model X.prog X.w) X.A X.env xe → PSs (X.tr pn xe) body (tb W)) ∧ ∀ W F0 H0 F σ ρ H D, EnvOk X.K F0 H0 F H σ ρ → WpS X.K W F0 H0 F (g ρ) D → tb W D σ H := by
  have key : ∀ W : WX, ∃ t : TS, (∀ p : {p : List (Addr × Obj) × (Value → Shared → Prop) // Takes (X.tr p.1 p.2) W ∧ PassesOwn (model X.prog X.w) X.A X.env p.2}, PSs (X.tr p.1.1 p.1.2) body t) ∧ ∀ F0 H0 F σ ρ H D, EnvOk X.K F0 H0 F H σ ρ → WpS X.K W F0 H0 F (g ρ) D → t D σ H := fun W =>
    unifS (X := fun p : {p : List (Addr × Obj) × (Value → Shared → Prop) // Takes (X.tr p.1 p.2) W ∧ PassesOwn (model X.prog X.w) X.A X.env p.2} => X.tr p.1.1 p.1.2) (A := fun t => ∀ F0 H0 F σ ρ H D, EnvOk X.K F0 H0 F H σ ρ → WpS X.K W F0 H0 F (g ρ) D → t D σ H)
      (fun p => (h W p.1.1 p.1.2 p.2.1 p.2.2).ex) fun ts q F0 H0 F σ ρ H D e w p => q p F0 H0 F σ ρ H D e w
  exact ⟨fun W => Classical.choose (key W), fun W pn xe tk hp => (Classical.choose_spec (key W)).1 ⟨(pn, xe), tk, hp⟩, fun W => (Classical.choose_spec (key W)).2⟩
def nxS : So → So
  | .xn _ _ _ => .bad
  | o => o
theorem WpS.calm {K : PySem.W.Frag} {W W' : WX} {F0 H0 F : Hp} {o : So} {D : Ends} (h : WpS K W F0 H0 F (nxS o) D) : WpS K W' F0 H0 F o D := by
  cases o with
  | xn c l ρ => exact h.elim
  | bad => exact h
  | nx ρ => exact h
  | rt t => exact h
  | bk ρ => exact h
  | ct ρ => exact h
def tryS (kt : Str → Option Bool) (gb : Env → So) (gs : Env → So) (ρ : Env) : So := match gb ρ with
  | .xn c l ρ' => (match kt c with
    | some true => nxS (gs ρ')
    | some false => .xn c l ρ'
    | none => .bad)
  | o => o
/-- try: body / except x: suite -/
theorem s_try {x : Str} {np : Pos} {b₀ : Stmt} {suite : List Stmt} {gb gs : Env → So} (kt : Str → Option Bool) (hs : X.stack = X.env :: X.outer) (hf : X.env.frame = some X.env.locals) (hc : Names X x (.ref (He.ga X.K x))) (tk : Takes X W)
    (hk : ∀ c b, kt c = some b → PySem.W.exmOne X.K (.ref (He.ga X.K c)) (.ref (He.ga X.K x)) = some b)
    (hb : ∀ (W : WX) (pn : List (Addr × Obj)) (xe : Value → Shared → Prop), Takes (X.tr pn xe) W → PassesOwn (model X.prog X.w) X.A X.env xe → DSs (X.tr pn xe) W body gb)
    (hsu : ∀ (a : Addr) (oe : Obj) (pn : List (Addr × Obj)), DSs (X.suite a ((a, oe) :: pn)) W0 (b₀ :: suite) gs) :
    DS X W (.Try body [.ExceptHandler (some (.Name x np)) none (b₀ :: suite) pos'] [] [] pos) (tryS kt gb gs) := by
  obtain ⟨tb, p1, q1⟩ := try_body hb
  obtain ⟨ts, p2, q2⟩ := unifS (X := fun p : Addr × Obj × List (Addr × Obj) => X.suite p.1 ((p.1, p.2.1) :: p.2.2)) (A := fun t => ∀ F0 H0 F σ ρ H D, EnvOk X.K F0 H0 F H σ ρ → WpS X.K W0 F0 H0 F (gs ρ) D → t D σ H)
    (fun p => (hsu p.1 p.2.1 p.2.2).ex) fun ts q F0 H0 F σ ρ H D e w p => q p F0 H0 F σ ρ H D e w
  refine ⟨_, ps_try_only (ts := fun _ _ _ => ts) hs hf hc tk p1 (fun a oe cls d pn _ _ => p2 (a, oe, pn)), fun F0 H0 F σ ρ H D e w => q1 _ F0 H0 F σ ρ H D e ?_⟩
  unfold tryS at w
  cases z : gb ρ with
  | xn c l ρ' =>
    rw [z] at w
    dsimp only at w
    intro d σ' F' H' s' e' x'
    cases y : kt c with
    | none => rw [y] at w; exact w.elim
    | some b =>
      rw [y] at w
      refine ⟨b, hk c b y, fun eb a _ => ?_, fun eb => ?_⟩
      · subst eb
        exact q2 F0 H0 F' σ' ρ' H' D e' (WpS.later (WpS.calm w) s')
      · subst eb
        exact w d σ' F' H' s' e' x'
  | nx ρ' => rw [z] at w; exact w
  | rt t => rw [z] at w; exact w
  | bk ρ' => rw [z] at w; exact w
  | ct ρ' => rw [z] at w; exact w
  | bad => rw [z] at w; exact w.elim
end
end Dn

/-! Dn11: more of builtins and lists. -/
namespace Dn
open PySem PySem.Spec L2
theorem boot_intT : bootBuiltins "int" = some (.type TN.int.nm) := by decide +kernel
theorem boot_boolT : bootBuiltins "bool" = some (.type TN.bool.nm) := by decide +kernel
theorem boot_strT : bootBuiltins "str" = some (.type TN.str.nm) := by decide +kernel
theorem boot_listT : bootBuiltins "list" = some (.type TN.list.nm) := by decide +kernel
theorem boot_tupleT : bootBuiltins "tuple" = some (.type TN.tuple.nm) := by decide +kernel
theorem boot_dictT : bootBuiltins "dict" = some (.type TN.dict.nm) := by decide +kernel
/-! ### 'a' * n -/
def repS (s : Str) (n : Nat) : Str := ⟨((List.replicate n s.cps.toList).flatten).toArray⟩
theorem fold_flat (a : Array Nat) : ∀ (n : Nat) (b : Array Nat), (List.replicate n a).foldl (· ++ ·) b = b ++ ((List.replicate n a.toList).flatten).toArray
  | 0, b => by simp
  | n + 1, b => by
    rw [List.replicate_succ, List.foldl_cons, fold_flat a n (b ++ a), List.replicate_succ, List.flatten_cons]
    apply Array.ext'
    simp [Array.toList_append, List.append_assoc]
theorem repS_eq (s : Str) (n : Nat) : (⟨(List.replicate n s.cps).foldl (· ++ ·) #[]⟩ : Str) = repS s n := by
  unfold repS
  rw [fold_flat]
  congr 1
  apply Array.ext'
  simp
theorem repS_len (s : Str) (n : Nat) : (repS s n).length = n * s.length := by
  show (((List.replicate n s.cps.toList).flatten).toArray).size = n * s.cps.size
  rw [List.size_toArray, List.length_flatten, List.map_replicate, List.sum_replicate_nat, Array.length_toList]
theorem repS_ok {s : Str} (h : sOk s = true) {n : Nat} (l : n * s.length ≤ 16777216) : sOk (repS s n) = true := by
  unfold sOk
  rw [Bool.and_eq_true]
  refine ⟨decide_eq_true (by rw [repS_len]; exact l), ?_⟩
  have h1 := sOk_ok h
  unfold PyData.strOk at h1 ⊢
  rw [Array.all_eq_true_iff_forall_mem] at h1 ⊢
  intro c hc
  have hc' : c ∈ ((List.replicate n s.cps.toList).flatten).toArray := hc
  rw [List.mem_toArray, List.mem_flatten] at hc'
  obtain ⟨l, hl, hc2⟩ := hc'
  rw [List.eq_of_mem_replicate hl] at hc2
  exact h1 c (by simpa using hc2)
def mulS : D → D → Rs D
  | .str s, .int n => if (Nat.ble n.natAbs 999999999 && decide (n.toNat * s.length ≤ 16777216)) = true then .ok (.str (repS s n.toNat)) else .bad
  | _, _ => .bad
theorem opr_mulS {X : Cx} : OpR X (binaryOp .Mult) (fun x y H Q => ∃ s n, x = .str s ∧ y = .int n ∧ n < 1000000000 ∧ n.toNat * s.length ≤ 16777216 ∧ -1000000000 < n ∧ Q (.str (repS s n.toNat)) H) := by
  intro pins s σ H x y v u Q I rx ry h
  obtain ⟨z, n, rfl, rfl, h1, h2, h3, q⟩ := h
  obtain ⟨t, rfl⟩ := rx
  obtain ⟨t', rfl⟩ := ry
  refine PySem.P.mul_str ?_ (fun a b c => ?_) (fun a b => ?_) ?_
  · have e1 : decide (n < -(2 ^ 63 : Int)) = false := decide_eq_false (by omega)
    have e2 : decide (n ≥ 2 ^ 63) = false := decide_eq_false (by omega)
    rw [e1, e2]; rfl
  · have k1 : z.length ≤ 16777216 := by
      have : 1 ≤ n.toNat := by omega
      have := Nat.mul_le_mul_right z.length this
      omega
    have k2 : (2 ^ 63 - 1 : Int) / n ≥ 16777216 := by
      apply Int.le_ediv_of_mul_le (by omega)
      omega
    omega
  · unfold Builtin.Str.tooLong
    rw [sizeLine_eq]
    exact decide_eq_false (by rw [Nat.mul_comm]; omega)
  · split
    · rename_i hn
      have e : n.toNat = 0 := by omega
      rw [e] at q
      refine ⟨by decide, ⟨.str _, H, I.tok _, ⟨_, rfl⟩, ?_⟩⟩
      have : repS z 0 = Str.empty := by unfold repS; rfl
      rw [this] at q
      exact q
    · split
      · rename_i hn hc
        have e : repS z n.toNat = z := by
          rcases Bool.or_eq_true_iff.mp hc with c | c
          · have : n = 1 := by simpa using c
            subst this
            unfold repS
            simp
          · have c' : z.cps.size = 0 := by
              have : z.length = 0 := by simpa using c
              exact this
            have e0 : z.cps = #[] := Array.eq_empty_of_size_eq_zero c'
            unfold repS
            obtain ⟨zc⟩ := z
            simp only at e0
            subst e0
            simp
        rw [e] at q
        exact ⟨.str z, H, I, ⟨t, rfl⟩, q⟩
      · refine ⟨?_, ⟨.str _, H, I.tok _, ⟨_, rfl⟩, by rw [repS_eq]; exact q⟩⟩
        rw [repS_eq]
        first | decide | trivial | exact rfl | (show (repS z n.toNat).length ≤ sizeLine; rw [sizeLine_eq, repS_len]; exact h2)
section
variable {K : PySem.W.Frag}
theorem od_mulS : OpD (fun x y H Q => ∃ s n, x = .str s ∧ y = .int n ∧ n < 1000000000 ∧ n.toNat * s.length ≤ 16777216 ∧ -1000000000 < n ∧ Q (.str (repS s n.toNat)) H) (rP K) (rP K) (rC K) mulS where
  run := fun {Hs Ht F H x y dx dy Q} s r1 r2 w => by
    unfold mulS at w
    split at w
    · cases r1 with
      | str z e1 =>
        cases r2
        obtain ⟨c, w⟩ := Wp0.ite w
        simp only [Bool.and_eq_true, decide_eq_true_eq] at c
        have cn := Nat.le_of_ble_eq_true c.1
        exact ⟨_, _, rfl, rfl, by omega, c.2, by omega, w _ F H (.refl s) (.str _ (repS_ok e1 c.2))⟩
    · exact w.elim
  nx := fun x y c l e => by
    unfold mulS at e
    split at e
    · split at e <;> cases e
    · cases e
/-! ### lists -/
def catR : D → D → Rs T
  | .lst xs, .lst ys => if xs.length + ys.length ≤ 16777216 then .ok (.lst ((xs ++ ys).map T.sh)) else .bad
  | _, _ => .bad
theorem rS_lst {Hs F H : Hp} {x : V} {ds : List D} (s : Sub F H) (r : rS K Hs F H x (.lst ds)) : ∃ a vs, x = .ref a ∧ H a = some (.lst vs) ∧ RpL K F vs ds := by
  cases r with
  | «at» r => cases r with | lst h1 h2 => exact ⟨_, _, rfl, s.lst h1, h2⟩
  | lst h1 h2 => exact ⟨_, _, rfl, h1, h2⟩
theorem od_cat : OpD rCat (rS K) (rS K) (rO K) catR where
  run := fun {Hs Ht F H x y dx dy Q} s r1 r2 w => by
    unfold catR at w
    split at w
    · obtain ⟨c, w⟩ := Wp0.ite w
      obtain ⟨a, vs, rfl, h1, h2⟩ := rS_lst s r1
      obtain ⟨b, ws, rfl, h3, h4⟩ := rS_lst s r2
      refine ⟨a, b, vs, ws, rfl, rfl, h1, h3, by rw [h2.length, h4.length, sizeLine_eq]; exact c, fun p hp => ?_⟩
      obtain ⟨e, o⟩ := new_lst s hp (h2.append h4)
      exact w _ _ _ e o
    · exact w.elim
  nx := fun x y c l e => by
    unfold catR at e
    split at e
    · split at e <;> cases e
    · cases e
def repR : D → D → Rs T
  | .lst xs, .int k => if (okR k && decide (xs.length * k.toNat ≤ 16777216)) = true then .ok (.lst (((List.replicate k.toNat xs).flatten).map T.sh)) else .bad
  | _, _ => .bad
theorem RpL.rep {F : Hp} {vs : List V} {ds : List D} (h : RpL K F vs ds) : ∀ n, RpL K F (List.replicate n vs).flatten (List.replicate n ds).flatten
  | 0 => .nil
  | n + 1 => by
    rw [List.replicate_succ, List.replicate_succ, List.flatten_cons, List.flatten_cons]
    exact h.append (RpL.rep h n)
theorem od_rep : OpD rRep (rS K) (rP K) (rO K) repR where
  run := fun {Hs Ht F H x y dx dy Q} s r1 r2 w => by
    unfold repR at w
    split at w
    · rename_i xs k
      obtain ⟨c, w⟩ := Wp0.ite w
      obtain ⟨c1, c2⟩ := Bool.and_eq_true_iff.mp c
      obtain ⟨k1, k2⟩ := okR_of c1
      obtain ⟨a, vs, rfl, h1, h2⟩ := rS_lst s r1
      cases r2
      refine ⟨a, k, vs, rfl, rfl, h1, by omega, by omega, by rw [h2.length, sizeLine_eq]; exact of_decide_eq_true c2, fun p hp => ?_⟩
      obtain ⟨e, o⟩ := new_lst s hp (h2.rep k.toNat)
      exact w _ _ _ e o
    · exact w.elim
  nx := fun x y c l e => by
    unfold repR at e
    split at e
    · split at e <;> cases e
    · cases e
/-! sorted ints, sums -/
def intsOf : List D → Option (List Int)
  | [] => some []
  | .int i :: ds => (intsOf ds).map (i :: ·)
  | _ :: _ => none
theorem intsOf_rp {F : Hp} : ∀ {ds : List D} {vs : List V} {ns : List Int}, RpL K F vs ds → intsOf ds = some ns → vs = ns.map V.int
  | [], _, _, h, e => by cases h; cases e; rfl
  | .int b :: ds, _, _, h, e => by
    cases h with
    | cons h1 h2 =>
      obtain ⟨cs, e1, rfl⟩ := Option.map_eq_some_iff.mp (show (intsOf ds).map (b :: ·) = some _ from e)
      cases h1
      rw [intsOf_rp h2 e1]
      rfl
  | .non :: _, _, _, _, e => by cases e
  | .bl _ :: _, _, _, _, e => by cases e
  | .str _ :: _, _, _, _, e => by cases e
  | .lst _ :: _, _, _, _, e => by cases e
  | .tup _ :: _, _, _, _, e => by cases e
  | .dk _ _ :: _, _, _, _, e => by cases e
  | .obj _ _ _ :: _, _, _, _, e => by cases e
  | .scr _ :: _, _, _, _, e => by cases e
@[simp] theorem intsOf_map (ns : List Int) : intsOf (ns.map D.int) = some ns := by
  induction ns with
  | nil => rfl
  | cons b bs ih =>
    show (intsOf (bs.map D.int)).map (b :: ·) = _
    rw [ih]; rfl
def insI (x : Int) : List Int → List Int
  | [] => [x]
  | y :: ys => if x ≤ y then x :: y :: ys else y :: insI x ys
def sortI : List Int → List Int
  | [] => []
  | x :: xs => insI x (sortI xs)
theorem insI_perm (x : Int) : ∀ ys, (insI x ys).Perm (x :: ys)
  | [] => List.Perm.refl _
  | y :: ys => by
    unfold insI
    split
    · exact List.Perm.refl _
    · exact ((insI_perm x ys).cons y).trans (List.Perm.swap x y ys)
theorem sortI_perm : ∀ xs, (sortI xs).Perm xs
  | [] => List.Perm.refl _
  | x :: xs => (insI_perm x _).trans ((sortI_perm xs).cons x)
theorem insI_sorted (x : Int) : ∀ {ys : List Int}, ys.Pairwise (· ≤ ·) → (insI x ys).Pairwise (· ≤ ·)
  | [], _ => by simp [insI]
  | y :: ys, h => by
    unfold insI
    rw [List.pairwise_cons] at h
    split
    · rename_i c
      rw [List.pairwise_cons, List.pairwise_cons]
      exact ⟨fun z hz => by
        rcases List.mem_cons.mp hz with e | hz
        · rw [e]; exact c
        · exact Int.le_trans c (h.1 z hz), h.1, h.2⟩
    · rename_i c
      rw [List.pairwise_cons]
      refine ⟨fun z hz => ?_, insI_sorted x h.2⟩
      rcases List.mem_cons.mp ((insI_perm x ys).mem_iff.mp hz) with e | hz
      · rw [e]; omega
      · exact h.1 z hz
theorem sortI_sorted : ∀ xs, (sortI xs).Pairwise (· ≤ ·)
  | [] => .nil
  | x :: xs => insI_sorted x (sortI_sorted xs)
theorem sorted_one : ∀ {xs ys : List Int}, xs.Perm ys → xs.Pairwise (· ≤ ·) → ys.Pairwise (· ≤ ·) → xs = ys
  | [], ys, p, _, _ => by rw [List.nil_perm.mp p]
  | x :: xs, [], p, _, _ => by simpa using p.length_eq
  | x :: xs, y :: ys, p, h, k => by
    rw [List.pairwise_cons] at h k
    have e : x = y := by
      have h1 : x ∈ y :: ys := p.mem_iff.mp List.mem_cons_self
      have h2 : y ∈ x :: xs := p.mem_iff.mpr List.mem_cons_self
      rcases List.mem_cons.mp h1 with e | h1
      · exact e
      · rcases List.mem_cons.mp h2 with e | h2
        · exact e.symm
        · have a := k.1 x h1
          have b := h.1 y h2
          omega
    subst e
    rw [sorted_one (List.Perm.cons_inv p) h.2 k.2]
def sortR : D → Rs T
  | .lst ds => (match intsOf ds with
    | some ns => .ok (.lst ((sortI ns).map fun i => T.sh (.int i)))
    | none => .bad)
  | _ => .bad
theorem shs_map (ns : List Int) : (ns.map fun i => T.sh (.int i)) = (ns.map D.int).map T.sh := by rw [List.map_map]; rfl
theorem rp_ints {F : Hp} : ∀ ns : List Int, RpL K F (ns.map V.int) (ns.map D.int)
  | [] => .nil
  | n :: ns => .cons (.int n) (rp_ints ns)
theorem ud_sorted : UnD (fun x H Q => rSortedI K [x] H Q) (rS K) (rO K) sortR where
  run := fun {Hs F H x dx Q} s r1 w => by
    unfold sortR at w
    split at w
    · split at w
      · rename_i ns e
        obtain ⟨a, vs, rfl, h1, h2⟩ := rS_lst s r1
        have e2 := intsOf_rp h2 e
        subst e2
        refine ⟨a, ns, rfl, .inl (.inl h1), fun ns' p hp hs hn => ?_⟩
        have e3 : ns' = sortI ns := sorted_one (hp.trans (sortI_perm ns).symm) hs (sortI_sorted ns)
        subst e3
        obtain ⟨x2, o⟩ := new_lst s hn (rp_ints (K := K) (sortI ns))
        rw [← shs_map] at o
        exact w _ _ _ x2 o
      · exact w.elim
    · exact w.elim
  nx := fun x c l e => by
    unfold sortR at e
    split at e
    · split at e <;> cases e
    · cases e
def sumR : D → Rs D
  | .lst ds => (match intsOf ds with
    | some ns => .ok (.int ns.sum)
    | none => .bad)
  | _ => .bad
theorem ud_sum : UnD (fun x H Q => rSum K [x] H Q) (rP K) (rC K) sumR where
  run := fun {Hs F H x dx Q} s r1 w => by
    unfold sumR at w
    split at w
    · split at w
      · rename_i ns e
        cases r1 with
        | @lst a vs _ h1 h2 =>
          have e2 := intsOf_rp h2 e
          subst e2
          exact ⟨a, ns, rfl, .inl (.inl h1), w _ F H (.refl s) (.int _)⟩
      · exact w.elim
    · exact w.elim
  nx := fun x c l e => by
    unfold sumR at e
    split at e
    · split at e <;> cases e
    · cases e
end
section
variable {X : Cx} {W : WX} {a b : Expr} {p pos : Pos} {ga gb : Env → Rs D}
theorem jmulS (ha : DJ X W (rP X.K) a ga) (hb : DJ X W (rP X.K) b gb) : DJ X W (rC X.K) (.BinOp a .Mult b pos) (op2 mulS ga gb) := jop2 (fun _ _ pa pb => pe_op opr_mulS pa pb) od_mulS kP kC ha hb
theorem jcat (ha : DJ X W (rS X.K) a ga) (hb : DJ X W (rS X.K) b gb) : DJ X W (rO X.K) (.BinOp a .Add b pos) (op2 catR ga gb) := jop2 (fun _ _ pa pb => pe_op op_cat pa pb) od_cat kS kO ha hb
theorem jrep (ha : DJ X W (rS X.K) a ga) (hb : DJ X W (rP X.K) b gb) : DJ X W (rO X.K) (.BinOp a .Mult b pos) (op2 repR ga gb) := jop2 (fun _ _ pa pb => pe_op op_rep pa pb) od_rep kS kO ha hb
theorem jsorted (hm : X.mg "sorted" = none) (ha : DJ X W (rS X.K) a ga) (hg : Gl X "sorted" := by rfl) (he : starEach [a] X.env = (false, eval a X.env) :: starEach [] X.env := by rfl) : DJ X W (rO X.K) (.Call (.Name "sorted" p) [a] [] pos) (op1 sortR ga) :=
  jcall1 (fun _ pa => pe_callB cr_sortedI hg hm (by decide +kernel) (pa_cons pa pa_nil he) (by decide) (by decide) he) ud_sorted kO ha
theorem jsum (hc : X.calm = true) (hm : X.mg "sum" = none) (ha : DJ X W (rP X.K) a ga) (hg : Gl X "sum" := by rfl) (he : starEach [a] X.env = (false, eval a X.env) :: starEach [] X.env := by rfl) : DJ X W (rC X.K) (.Call (.Name "sum" p) [a] [] pos) (op1 sumR ga) :=
  jcall1 (fun _ pa => pe_callB (cr_sum hc) hg hm (by decide +kernel) (pa_cons pa pa_nil he) (by decide) (by decide) he) ud_sum kC ha
end
end Dn

/-! Dn12: a law's end. -/
namespace Dn
open PySem PySem.Spec L2
theorem FnOk.still {P : Program} {w : World} {K : PySem.W.Frag} {mg : Str → Option Value} {base : Heap} {k : Nat} {a : Addr} {fd : FuncData} {ps : List Str} {sp : Sp} (F : FnOk P w K mg base (L2.CX P w) k a fd ps sp) :
    FnOk P w K mg base CX0 k a fd ps fun vs H Q _ => sp vs H Q fun _ _ _ => False :=
  ⟨fun vs H Q _ q => F.len vs H Q _ q, fun A outer s H args us vs Q E hr he hb hv hs => codeAny_mono (F.run A outer s H args us vs Q _ hr he hb hv hs) fun rr s' hq => by
    cases rr with
    | error e =>
      obtain ⟨_, _, _, _, _, _, _, _, _, _, _, _, z⟩ := hq
      exact z.elim
    | ok fl =>
      cases fl with
      | ret u => exact hq
      | _ => exact hq.elim⟩
/-- f answers True at every script of at most n ints -/
def LawD (n : Nat) (f : List D → Rs T) : Prop := ∀ ns : List Int, ns.length ≤ n → f [.scr ns] = .ok (.sh (.bl true))
theorem spD_law {K : PySem.W.Frag} {n : Nat} {f : List D → Rs T} (h : LawD n f) {H : Hp} {a : Addr} {ns : List Int} (hl : ns.length ≤ n) (hS : SqL K H a (ns.map V.int)) : spD K f [.ref a] H (fun v _ => v = .bl true) fun _ _ _ => False := by
  refine ⟨H, [.scr ns], fun _ _ e => .inl e, .cons (.scr hS) .nil, ?_⟩
  rw [h ns hl]
  intro v F' H' x o
  obtain ⟨fp, o, _⟩ := o
  cases o with
  | sh r => cases r; rfl
end Dn

/-! Pl0: to evaluate what a def yields. -/
namespace Dn
open PySem PySem.Spec L2
def retR : So → Rs T
  | .nx _ => .ok (.sh .non)
  | .rt t => .ok t
  | .xn c l _ => .exn c l
  | _ => .bad
theorem runD_of {np nl : Nat} {g : Env → So} {ds : List D} {ρ : Env} (h : ds.length = np) (e : args0 ds (nl - np) = ρ) : runD np nl g ds = retR (g ρ) := by
  subst e
  show (if ds.length = np then _ else _) = _
  rw [if_pos h]
  cases g (args0 ds (nl - np)) <;> rfl
theorem retR_nx {ρ : Env} : retR (.nx ρ) = .ok (.sh .non) := rfl
theorem retR_rt {t : T} : retR (.rt t) = .ok t := rfl
theorem retR_xn {c : Str} {l : Option Int} {ρ : Env} : retR (.xn c l ρ) = .exn c l := rfl
theorem vC_0 {d : D} {ρ : Env} : vC (some (.sh d) :: ρ) 0 = .ok d := rfl
theorem vC_s {x : Option T} {ρ : Env} {i : Nat} : vC (x :: ρ) (i + 1) = vC ρ i := rfl
theorem vP_0 {t : T} {ρ : Env} : vP (some t :: ρ) 0 = .ok (frz t) := rfl
theorem vP_s {x : Option T} {ρ : Env} {i : Nat} : vP (x :: ρ) (i + 1) = vP ρ i := rfl
theorem vS_0 {d : D} {ρ : Env} : vS (some (.sh d) :: ρ) 0 = .ok d := rfl
theorem vS_0l {ds : List D} {ρ : Env} : vS (some (.lst (ds.map .sh)) :: ρ) 0 = .ok (.lst ds) := by
  show (match seen (.lst (ds.map .sh)) with | some d => Rs.ok d | none => .bad) = _
  rw [seen_lst]
theorem vS_s {x : Option T} {ρ : Env} {i : Nat} : vS (x :: ρ) (i + 1) = vS ρ i := rfl
theorem frz_sh {d : D} : frz (.sh d) = d := rfl
theorem frzL_map (ds : List D) : frzL (ds.map .sh) = ds := by
  induction ds with
  | nil => rfl
  | cons d ds ih => rw [List.map_cons, frzL, ih]; rfl
theorem frz_lst (ds : List D) : frz (.lst (ds.map .sh)) = .lst ds := by rw [frz, frzL_map]
theorem frz_l {ts : List T} : frz (.lst ts) = .lst (frzL ts) := rfl
theorem frzL_nil : frzL [] = [] := rfl
theorem frzL_cons {t : T} {ts : List T} : frzL (t :: ts) = frz t :: frzL ts := rfl
theorem lstE_0 {ts : List T} {ρ : Env} : lstE 0 (some (.lst ts) :: ρ) = .ok ts := rfl
theorem lstE_s {x : Option T} {ρ : Env} {i : Nat} : lstE (i + 1) (x :: ρ) = lstE i ρ := rfl
theorem retV_0 {t : T} {ρ : Env} : retV 0 (some t :: ρ) = .rt t := rfl
theorem frzE_0 {t : T} {ρ : Env} : frzE 0 (some t :: ρ) = some (.sh (frz t)) :: ρ := rfl
theorem frzE_s {x : Option T} {ρ : Env} {i : Nat} : frzE (i + 1) (x :: ρ) = x :: frzE i ρ := by
  unfold frzE
  rw [List.getElem?_cons_succ]
  cases ρ[i]? with
  | none => rfl
  | some o => cases o <;> rfl
theorem retV_s {x : Option T} {ρ : Env} {i : Nat} : retV (i + 1) (x :: ρ) = retV i ρ := rfl
theorem seqS_eq {g gs : Env → So} {ρ : Env} : seqS g gs ρ = (match g ρ with
  | .nx ρ' => gs ρ'
  | o => o) := rfl
theorem setS_eq {i : Nat} {ge : Env → Rs T} {ρ : Env} : setS i ge ρ = So.of (ge ρ) ρ fun t => .nx (ρ.set i (some t)) := rfl
theorem tgtS_eq {f : D → Env → Rs Env} {ge : Env → Rs D} {ρ : Env} : tgtS f ge ρ = So.of (ge ρ) ρ fun d => So.of (noX (f d ρ)) ρ .nx := rfl
theorem exprS_eq {α : Type} {ge : Env → Rs α} {ρ : Env} : exprS ge ρ = So.of (ge ρ) ρ fun _ => .nx ρ := rfl
theorem retS_eq {ge : Env → Rs T} {ρ : Env} : retS ge ρ = So.of (ge ρ) ρ .rt := rfl
theorem retN_eq {ρ : Env} : retN ρ = .rt (.sh .non) := rfl
theorem ifS_eq {gc : Env → Rs Bool} {g gs : Env → So} {ρ : Env} : ifS gc g gs ρ = So.of (gc ρ) ρ fun b => if b = true then g ρ else gs ρ := rfl
theorem raiseS_eq {c : Str} {ρ : Env} : raiseS c ρ = .xn c none ρ := rfl
theorem appS_eq {i : Nat} {ge : Env → Rs T} {ρ : Env} : appS i ge ρ = So.of (lstE i ρ) ρ fun ts => So.of (ge ρ) ρ fun t => if ts.length < 16777216 then .nx (ρ.set i (some (.lst (ts ++ [t])))) else .bad := rfl
theorem augS_eq {i : Nat} {f : D → D → Rs D} {ge : Env → Rs D} {ρ : Env} : augS i f ge ρ = So.of (vC ρ i) ρ fun x => So.of (ge ρ) ρ fun y => So.of (f x y) ρ fun z => .nx (ρ.set i (some (.sh z))) := rfl
theorem forS_eq {gi : Env → Rs (List D)} {f : D → Env → Rs Env} {g : Env → So} {ρ : Env} : forS gi f g ρ = So.of (gi ρ) ρ fun ds => forR f g ds ρ := rfl
theorem forR_nil {f : D → Env → Rs Env} {g : Env → So} {ρ : Env} : forR f g [] ρ = .nx ρ := rfl
theorem forR_cons {f : D → Env → Rs Env} {g : Env → So} {d : D} {ds : List D} {ρ : Env} : forR f g (d :: ds) ρ = (match f d ρ with
    | .ok ρ1 => (match g ρ1 with
      | .nx ρ' => forR f g ds ρ'
      | .ct ρ' => forR f g ds ρ'
      | .bk ρ' => .nx ρ'
      | o => o)
    | _ => .bad) := rfl
theorem setE_eq {i : Nat} {d : D} {ρ : Env} : setE i d ρ = .ok (ρ.set i (some (.sh d))) := rfl
theorem nilE_eq {ρ : Env} : nilE [] ρ = .ok ρ := rfl
theorem consE_eq {f : D → Env → Rs Env} {fs : List D → Env → Rs Env} {d : D} {ds : List D} {ρ : Env} : consE f fs (d :: ds) ρ = (f d ρ).bind fun ρ => fs ds ρ := rfl
theorem tupE_eq {n : Nat} {fs : List D → Env → Rs Env} {ds : List D} {ρ : Env} : tupE n fs (.tup ds) ρ = if ds.length = n then fs ds ρ else .bad := rfl
theorem tryS_eq {kt : Str → Option Bool} {gb gs : Env → So} {ρ : Env} : tryS kt gb gs ρ = (match gb ρ with
  | .xn c l ρ' => (match kt c with
    | some true => nxS (gs ρ')
    | some false => .xn c l ρ'
    | none => .bad)
  | o => o) := rfl
theorem nxS_rt {t : T} : nxS (.rt t) = .rt t := rfl
theorem nxS_nx {ρ : Env} : nxS (.nx ρ) = .nx ρ := rfl
/-! ### texts as lists of signs -/
def tx (l : List Nat) : D := .str ⟨l.toArray⟩
theorem tx_str (s : Str) : D.str s = tx s.cps.toList := rfl
theorem tup_k {ds : List D} : tupR ds = if ds.length ≤ 16777216 then .ok (.tup ds) else .bad := rfl
theorem lst_k {ts : List T} : lstR ts = if ts.length ≤ 16777216 then .ok (.lst ts) else .bad := rfl
theorem intR_i {i : Int} : intR (.int i) = .ok (some i) := rfl
/-! ### integers -/
theorem add_i {i j : Int} : addR (.int i) (.int j) = .ok (.int (i + j)) := rfl
theorem sub_i {i j : Int} : subR (.int i) (.int j) = .ok (.int (i - j)) := rfl
theorem neg_i {i : Int} : negR (.int i) = .ok (.int (-i)) := rfl
theorem min_i {i j : Int} : minR (.int i) (.int j) = .ok (.int (if j < i then j else i)) := rfl
theorem max_i {i j : Int} : maxR (.int i) (.int j) = .ok (.int (if j > i then j else i)) := rfl
theorem lt_i {i j : Int} : ltR (.int i) (.int j) = .ok (.bl (decide (i < j))) := rfl
theorem le_i {i j : Int} : leR (.int i) (.int j) = .ok (.bl (decide (i ≤ j))) := rfl
theorem gt_i {i j : Int} : gtR (.int i) (.int j) = .ok (.bl (decide (j < i))) := rfl
theorem ge_i {i j : Int} : geR (.int i) (.int j) = .ok (.bl (decide (j ≤ i))) := rfl
theorem int1_i {i : Int} : int1R (.int i) = .ok (.int i) := rfl
theorem int1_b {k : Bool} : int1R (.bl k) = .ok (.int (if k then 1 else 0)) := rfl
theorem log2_lt {n k : Nat} (h : n < 2 ^ k) (hk : 0 < k) : n.log2 < k := by
  by_cases e : n = 0
  · subst e; simpa using hk
  · exact (Nat.log2_lt e).mpr h
theorem mul_i {i j : Int} (hi : i.natAbs < 1000000000000) (hj : j.natAbs < 1000000000000) : mulR (.int i) (.int j) = .ok (.int (i * j)) := by
  have h : CMulW i j := by
    have h1 := log2_lt (k := 40) (n := i.natAbs) (Nat.lt_trans hi (by decide)) (by decide)
    have h2 := log2_lt (k := 40) (n := j.natAbs) (Nat.lt_trans hj (by decide)) (by decide)
    unfold CMulW
    omega
  exact if_pos h
theorem emod_rng (a : Int) {m : Int} (h : 0 < m) : 0 ≤ a % m ∧ a % m < m := ⟨Int.emod_nonneg _ (by omega), Int.emod_lt_of_pos _ h⟩
theorem mod_i {i j : Int} (h : 0 < j) : modR (.int i) (.int j) = .ok (.int (i % j)) := if_pos h
theorem fdiv_i {i j : Int} (h : 0 < j) (hj : j.natAbs < 1000000000000) : fdivR (.int i) (.int j) = .ok (.int (i / j)) := by
  have h2 : CDivW i j := ⟨h, by have := log2_lt (k := 40) (n := j.natAbs) (Nat.lt_trans hj (by decide)) (by decide); omega⟩
  exact if_pos h2
/-! ### == -/
theorem eqv_int (i j : Int) : eqv (.int i) (.int j) = decide (i = j) := by
  show (i == j) = decide (i = j)
  rfl
theorem eq_i {i j : Int} : eqR (.int i) (.int j) = .ok (.bl (decide (i = j))) := by
  show (if (cmpD (.int i) && cmpD (.int j)) = true then Rs.ok (D.bl (eqv (.int i) (.int j))) else .bad) = _
  rw [eqv_int]
  rfl
theorem ne_i {i j : Int} : neR (.int i) (.int j) = .ok (.bl (!decide (i = j))) := by
  show (if (cmpD (.int i) && cmpD (.int j)) = true then Rs.ok (D.bl (!eqv (.int i) (.int j))) else .bad) = _
  rw [eqv_int]
  rfl
theorem eqv_bl (a b : Bool) : eqv (.bl a) (.bl b) = decide (a = b) := by cases a <;> cases b <;> rfl
theorem eq_b {a b : Bool} : eqR (.bl a) (.bl b) = .ok (.bl (decide (a = b))) := by cases a <;> cases b <;> rfl
theorem ne_b {a b : Bool} : neR (.bl a) (.bl b) = .ok (.bl (!decide (a = b))) := by cases a <;> cases b <;> rfl
theorem eqv_str (a b : List Nat) : eqv (tx a) (tx b) = decide (a = b) := by
  show ((⟨a.toArray⟩ : Str) == ⟨b.toArray⟩) = _
  rw [Bool.eq_iff_iff, beq_iff_eq, decide_eq_true_iff]
  constructor
  · intro h
    have h2 := congrArg Str.cps h
    simpa using h2
  · intro h
    rw [h]
theorem eq_s {a b : List Nat} : eqR (tx a) (tx b) = .ok (.bl (decide (a = b))) := by
  show (if (cmpD (tx a) && cmpD (tx b)) = true then Rs.ok (D.bl (eqv (tx a) (tx b))) else .bad) = _
  rw [eqv_str]
  rfl
theorem ne_s {a b : List Nat} : neR (tx a) (tx b) = .ok (.bl (!decide (a = b))) := by
  show (if (cmpD (tx a) && cmpD (tx b)) = true then Rs.ok (D.bl (!eqv (tx a) (tx b))) else .bad) = _
  rw [eqv_str]
  rfl
/-! ### texts -/
theorem tx_len (a : List Nat) : (⟨a.toArray⟩ : Str).length = a.length := by
  show a.toArray.size = a.length
  simp
theorem len_s {a : List Nat} : lenR (tx a) = .ok (.int a.length) := by
  show Rs.ok (D.int ((⟨a.toArray⟩ : Str).length : Nat)) = _
  rw [tx_len]
theorem tx_app (a b : List Nat) : (⟨a.toArray⟩ : Str) ++ (⟨b.toArray⟩ : Str) = ⟨(a ++ b).toArray⟩ := by
  show (⟨a.toArray ++ b.toArray⟩ : Str) = _
  simp
theorem add_s {a b : List Nat} (h : a.length + b.length ≤ 16777216) : addR (tx a) (tx b) = .ok (tx (a ++ b)) := by
  show (if (⟨a.toArray⟩ : Str).length + (⟨b.toArray⟩ : Str).length ≤ 16777216 then Rs.ok (D.str ((⟨a.toArray⟩ : Str) ++ (⟨b.toArray⟩ : Str))) else .bad) = _
  rw [tx_len, tx_len, if_pos h, tx_app]
  rfl
theorem ix_s {a : List Nat} {i : Int} {k : Nat} (e : i = k) {c : Nat} (h : a[k]? = some c) : ixA (tx a) (.int i) = .ok (tx [c]) := by
  subst e
  show (match atI (⟨a.toArray⟩ : Str).cps.toList (k : Int) with
    | some c => Rs.ok (D.str ⟨#[c]⟩)
    | none => .bad) = _
  rw [show (⟨a.toArray⟩ : Str).cps.toList = a by simp, atI_nat h]
  rfl
theorem ix_l {ds : List D} {i : Int} {k : Nat} (e : i = k) {d : D} (h : ds[k]? = some d) : ixA (.lst ds) (.int i) = .ok d := by
  subst e
  show (match atI ds (k : Int) with
    | some d => Rs.ok d
    | none => .bad) = _
  rw [atI_nat h]
theorem ix_scr {ns : List Int} {i : Int} {k : Nat} (e : i = k) {d : Int} (h : ns[k]? = some d) : ixA (.scr ns) (.int i) = .ok (.int d) := by
  subst e
  show (match atI ns (k : Int) with
    | some d => Rs.ok (D.int d)
    | none => .bad) = _
  rw [atI_nat h]
theorem ix_t {ds : List D} {i : Int} {k : Nat} (e : i = k) {d : D} (h : ds[k]? = some d) : ixA (.tup ds) (.int i) = .ok d := by
  subst e
  show (match atI ds (k : Int) with
    | some d => Rs.ok d
    | none => .bad) = _
  rw [atI_nat h]
theorem ix_t0 {a : D} {r : List D} : ixA (.tup (a :: r)) (.int 0) = .ok a := ix_t (k := 0) rfl rfl
theorem ix_t1 {a b : D} {r : List D} : ixA (.tup (a :: b :: r)) (.int 1) = .ok b := ix_t (k := 1) rfl rfl
theorem ix_t2 {a b c : D} {r : List D} : ixA (.tup (a :: b :: c :: r)) (.int 2) = .ok c := ix_t (k := 2) rfl rfl
theorem ix_t3 {a b c d : D} {r : List D} : ixA (.tup (a :: b :: c :: d :: r)) (.int 3) = .ok d := ix_t (k := 3) rfl rfl
theorem ix_t4 {a b c d e : D} {r : List D} : ixA (.tup (a :: b :: c :: d :: e :: r)) (.int 4) = .ok e := ix_t (k := 4) rfl rfl
theorem ix_l0 {a : D} {r : List D} : ixA (.lst (a :: r)) (.int 0) = .ok a := ix_l (k := 0) rfl rfl
theorem ix_l1 {a b : D} {r : List D} : ixA (.lst (a :: b :: r)) (.int 1) = .ok b := ix_l (k := 1) rfl rfl
theorem cutS_eq (a : List Nat) (lo hi : Option Int) : cutS ⟨a.toArray⟩ lo hi = ⟨(cut a lo hi).toArray⟩ := by
  unfold cutS cut
  simp [tx_len]
theorem sl_s {a : List Nat} {lo hi : Option Int} : slR (tx a) lo hi = .ok (.sh (tx (cut a lo hi))) := by
  show Rs.ok (T.sh (.str (cutS ⟨a.toArray⟩ lo hi))) = _
  rw [cutS_eq]
  rfl
theorem sl_t {ds : List D} {lo hi : Option Int} (h : ¬ (HT.sIx ds.length 0 lo = 0 ∧ HT.sIx ds.length ds.length hi = ds.length)) : slR (.tup ds) lo hi = .ok (.sh (.tup (cut ds lo hi))) := if_neg h
theorem len_l {ds : List D} : lenR (.lst ds) = .ok (.int ds.length) := rfl
theorem len_t {ds : List D} : lenR (.tup ds) = .ok (.int ds.length) := rfl
theorem ite_bl {c : Prop} [Decidable c] {x : Bool} : (if c then Rs.ok (D.bl x) else Rs.ok (D.bl false)) = Rs.ok (D.bl (decide c && x)) := by by_cases h : c <;> simp [h]
theorem ite_blt {c : Prop} [Decidable c] {x : Bool} : (if c then Rs.ok (D.bl true) else Rs.ok (D.bl x)) = Rs.ok (D.bl (decide c || x)) := by by_cases h : c <;> simp [h]
theorem ite_b {c : Prop} [Decidable c] {x : Bool} : (if c then Rs.ok x else Rs.ok false) = Rs.ok (decide c && x) := by by_cases h : c <;> simp [h]
theorem ite_bt {c : Prop} [Decidable c] {x : Bool} : (if c then Rs.ok true else Rs.ok x) = Rs.ok (decide c || x) := by by_cases h : c <;> simp [h]
theorem isStr_tx {a : List Nat} : isStr (tx a) = .ok (tx a) := rfl
theorem tru_i {i : Int} : truR (.int i) = .ok (i != 0) := rfl
theorem tru_b {i : Bool} : truR (.bl i) = .ok i := rfl
theorem sl_l {ds : List D} {lo hi : Option Int} : slR (.lst ds) lo hi = .ok (.lst ((cut ds lo hi).map T.sh)) := rfl
theorem cut_hi {α : Type} {a : List α} {i : Int} {k : Nat} (e : i = k) : cut a none (some i) = a.take k := by
  subst e
  unfold cut
  rw [HT.sIx_nat, HT.sIx_none]
  simp only [List.drop_zero, Nat.sub_zero]
  rw [← List.take_take, List.take_length]
theorem cut_lo {α : Type} {a : List α} {i : Int} {k : Nat} (e : i = k) : cut a (some i) none = a.drop k := by
  subst e
  unfold cut
  rw [HT.sIx_nat, HT.sIx_none]
  by_cases h : k ≤ a.length
  · rw [Nat.min_eq_left h, List.take_of_length_le]
    simp
  · rw [Nat.min_eq_right (by omega), Nat.sub_self, List.take_zero, List.drop_eq_nil_of_le (by omega)]
theorem cut_both {α : Type} {a : List α} {i j : Int} {k l : Nat} (e : i = k) (e2 : j = l) : cut a (some i) (some j) = (a.drop k).take (l - k) := by
  subst e e2
  unfold cut
  rw [HT.sIx_nat, HT.sIx_nat]
  by_cases h : k ≤ a.length
  · rw [Nat.min_eq_left h]
    by_cases h2 : l ≤ a.length
    · rw [Nat.min_eq_left h2]
    · rw [Nat.min_eq_right (by omega), List.take_of_length_le (by simp), List.take_of_length_le (by simp; omega)]
  · rw [List.drop_eq_nil_of_le (by omega), List.drop_eq_nil_of_le (by omega)]
    simp
end Dn

/-! Pl1: loops, comprehensions; the script's numbers. -/
namespace Dn
open PySem PySem.Spec L2
theorem and_t {y : Rs D} : andV (.ok (.bl true)) y = y := by
  show (Rs.ok (D.bl true)).bind _ = y
  rfl
/-- a loop, by an invariant -/
theorem forR_inv {f : D → Dn.Env → Rs Dn.Env} {g : Dn.Env → So} (I : List D → Dn.Env → Prop) (h : ∀ d ds ρ, I (d :: ds) ρ → ∃ ρ1, f d ρ = .ok ρ1 ∧ ∃ ρ', (g ρ1 = .nx ρ' ∨ g ρ1 = .ct ρ') ∧ I ds ρ') :
    ∀ ds ρ, I ds ρ → ∃ ρ', forR f g ds ρ = .nx ρ' ∧ I [] ρ'
  | [], ρ, i => ⟨ρ, rfl, i⟩
  | d :: ds, ρ, i => by
    obtain ⟨ρ1, e, ρ', e2, i2⟩ := h d ds ρ i
    obtain ⟨ρ2, e3, i3⟩ := forR_inv I h ds ρ' i2
    refine ⟨ρ2, ?_, i3⟩
    rw [forR_cons, e]
    rcases e2 with e2 | e2
    · dsimp only; rw [e2]; exact e3
    · dsimp only; rw [e2]; exact e3
/-- .. over a counter -/
theorem intD_cons (lo : Int) (n : Nat) : intD lo (n + 1) = .int lo :: intD (lo + 1) n := by
  unfold intD
  rw [List.range_succ_eq_map, List.map_cons, List.map_map]
  congr 1
  · simp
  · apply List.map_congr_left
    intro a _
    show D.int (lo + ((a + 1 : Nat) : Int)) = D.int (lo + 1 + (a : Int))
    congr 1
    omega
theorem intD_zero (lo : Int) : intD lo 0 = [] := rfl
theorem forR_cnt {f : D → Dn.Env → Rs Dn.Env} {g : Dn.Env → So} (lo : Int) (I : Nat → Dn.Env → Prop) (m : Nat) (h : ∀ k ρ, k < m → I k ρ → ∃ ρ1, f (.int (lo + k)) ρ = .ok ρ1 ∧ ∃ ρ', (g ρ1 = .nx ρ' ∨ g ρ1 = .ct ρ') ∧ I (k + 1) ρ')
    (ρ : Dn.Env) (i : I 0 ρ) : ∃ ρ', forR f g (intD lo m) ρ = .nx ρ' ∧ I m ρ' := by
  obtain ⟨ρ', e, i'⟩ := forR_inv (f := f) (g := g) (fun ds ρ => ∃ k, k ≤ m ∧ ds = intD (lo + k) (m - k) ∧ I k ρ) (fun d ds ρ ⟨k, hk, e, i⟩ => by
    have hk2 : k < m := by
      rcases Nat.lt_or_ge k m with h | h
      · exact h
      · rw [show m - k = 0 by omega] at e
        cases e
    rw [show m - k = (m - (k + 1)) + 1 by omega, intD_cons] at e
    cases e
    obtain ⟨ρ1, e1, ρ', e2, i2⟩ := h k ρ hk2 i
    exact ⟨ρ1, e1, ρ', e2, k + 1, hk2, by congr 1; omega, i2⟩) (intD lo m) ρ ⟨0, Nat.zero_le _, by simp, i⟩
  obtain ⟨k, hk, e2, i2⟩ := i'
  have : k = m := by
    rcases Nat.lt_or_ge k m with h | h
    · rw [show m - k = (m - (k + 1)) + 1 by omega, intD_cons] at e2
      cases e2
    · omega
  subst this
  exact ⟨ρ', e, i2⟩
theorem items_l {ds : List D} : itemsR (.lst ds) = .ok ds := rfl
theorem items_t {ds : List D} : itemsR (.tup ds) = .ok ds := rfl
theorem items_scr {ns : List Int} : itemsR (.scr ns) = .ok (ns.map D.int) := rfl
theorem okR_i {j : Int} (h : j.natAbs ≤ 4611686018427387903) : okR j = true := Nat.ble_eq_true_of_le h
theorem rng1_i {j : Int} (h : j.natAbs ≤ 4611686018427387903) : rng1R (.int j) = .ok (intD 0 j.toNat) := if_pos (okR_i h)
theorem rng2_i {i j : Int} (h : i.natAbs ≤ 4611686018427387903) (h2 : j.natAbs ≤ 4611686018427387903) : rng2R (.int i) (.int j) = .ok (intD i (j - i).toNat) := if_pos (by rw [okR_i h, okR_i h2]; rfl)
/-! ### comprehensions -/
theorem lc_eq {vs : List Nat} {f : D → Dn.Env → Rs Dn.Env} {gt : Dn.Env → Rs Bool} {ge : Dn.Env → Rs T} {gi : Dn.Env → Rs (List D)} {ρ : Dn.Env} : lcX vs f gt ge gi ρ = (gi ρ).bind fun ds => (lcR vs f gt ge ρ ds).bind lstF := rfl
theorem lcR_ex {vs : List Nat} {i : Nat} {ge : Dn.Env → Rs T} {ρ : Dn.Env} {P : D → D → Prop} : ∀ {ds : List D}, (∀ d ∈ ds, ∃ t, ge ((wipeE ρ vs).set i (some (.sh d))) = .ok (.sh t) ∧ P d t) →
    ∃ ts : List D, lcR vs (setE i) yesT ge ρ ds = .ok (ts.map T.sh) ∧ ts.length = ds.length ∧ ∀ (k : Nat) (d t : D), ds[k]? = some d → ts[k]? = some t → P d t
  | [], _ => ⟨[], rfl, rfl, fun k d t e => by simp at e⟩
  | d :: ds, h => by
    obtain ⟨t, e, p⟩ := h d List.mem_cons_self
    obtain ⟨ts, e2, l, q⟩ := lcR_ex (ds := ds) fun x hx => h x (List.mem_cons_of_mem _ hx)
    refine ⟨t :: ts, ?_, by simp [l], fun k x y e3 e4 => ?_⟩
    · rw [lcR, setE_eq, noX_ok, Rs.bind_ok, yesT, noX_ok, Rs.bind_ok, if_pos rfl, e, noX_ok, Rs.bind_ok, e2, Rs.bind_ok]
      rfl
    · cases k with
      | zero => cases e3; cases e4; exact p
      | succ k => exact q k x y (by simpa using e3) (by simpa using e4)
theorem lcR_map {vs : List Nat} {i : Nat} {ge : Dn.Env → Rs T} {ρ : Dn.Env} {α : Type} {inj : α → D} {h : α → D} : ∀ {xs : List α}, (∀ x ∈ xs, ge ((wipeE ρ vs).set i (some (.sh (inj x)))) = .ok (.sh (h x))) →
    lcR vs (setE i) yesT ge ρ (xs.map inj) = .ok ((xs.map h).map T.sh)
  | [], _ => rfl
  | x :: xs, H => by
    rw [List.map_cons, lcR, setE_eq, noX_ok, Rs.bind_ok, yesT, noX_ok, Rs.bind_ok, if_pos rfl, H x List.mem_cons_self, noX_ok, Rs.bind_ok, lcR_map (xs := xs) fun y hy => H y (List.mem_cons_of_mem _ hy), Rs.bind_ok]
    rfl
theorem lstF_ok {ts : List T} (h : ts.length ≤ 16777216) : lstF ts = .ok (.lst ts) := if_pos h
/-- ''.join of single signs -/
theorem texts_tx (cs : List (List Nat)) : texts (cs.map tx) = some (cs.map fun c => ⟨c.toArray⟩) := by
  induction cs with
  | nil => rfl
  | cons c cs ih =>
    show (texts (cs.map tx)).map (_ :: ·) = _
    rw [ih]
    rfl
/-! ### the numbers -/
def g1_numbers : Dn.Env → So := seqS (setS 3 (toO (op2 modR (op1 int1R (op2 addR (op2 mulR (cX 3) (kX (.int 31))) (cX 4))) (kX (.int 2147483647)))))
 .nx
def g2_numbers : Dn.Env → So := seqS (ifS (tst (op2 gtR (cX 5) (kX (.int 0)))) (seqS (appS 2 (toO (op2 modR (cX 5) (kX (.int 10007)))))
 (seqS (setS 5 (toO (op2 fdivR (cX 5) (kX (.int 10007)))))
 .nx)) (seqS (setS 7 (toO (kX (.int 0))))
 (seqS (ifS (tst (op2 gtR (op1 lenR (cX 0)) (kX (.int 0)))) (seqS (setS 7 (toO (op1 int1R (op2 ixA (cX 0) (op2 modR (cX 6) (op1 lenR (cX 0)))))))
 .nx) .nx)
 (seqS (setS 3 (toO (op2 modR (op1 int1R (op2 addR (op2 addR (op2 mulR (cX 3) (kX (.int 48271))) (cX 7)) (cX 6))) (kX (.int 2147483647)))))
 (seqS (appS 2 (toO (op2 modR (op2 fdivR (op2 modR (op1 int1R (op2 addR (op2 mulR (cX 3) (kX (.int 69621))) (op2 mulR (cX 6) (kX (.int 16807))))) (kX (.int 2147483629))) (kX (.int 7))) (kX (.int 10007)))))
 .nx)))))
 .nx
def if_numbers : Dn.Env → So := ifS (andT (tst (op2 gtR (op1 lenR (cX 0)) (kX (.int 0)))) (tst (op2 geR (op2 ixA (cX 0) (kX (.int 0))) (kX (.int 1000000000000000000))))) (seqS (setS 5 (toO (op2 ixA (cX 0) (kX (.int 0)))))
 .nx) .nx
def b_numbers : Dn.Env → So :=
(seqS (setS 2 (lstX nilA))
 (seqS (setS 3 (toO (kX (.int 7))))
 (seqS (forS (itX itemsR (cX 0)) (setE 4) g1_numbers)
 (seqS (setS 5 (toO (kX (.int 0))))
 (seqS if_numbers
 (seqS (forS (itX rng1R (cX 1)) (setE 6) g2_numbers)
 (seqS (retV 2)
 .nx)))))))
def ixs (xs : List Int) : D := .lst (xs.map D.int)
def Num (xs : List Int) : Prop := ∀ x ∈ xs, 0 ≤ x ∧ x < 10007
theorem len_scr {ns : List Int} : lenR (.scr ns) = .ok (.int ns.length) := rfl
theorem seqS_nx {g gs : Dn.Env → So} {ρ ρ' : Dn.Env} (h : g ρ = .nx ρ') : seqS g gs ρ = gs ρ' := by rw [seqS_eq, h]
theorem seqS_rt {g gs : Dn.Env → So} {ρ : Dn.Env} {t : T} (h : g ρ = .rt t) : seqS g gs ρ = .rt t := by rw [seqS_eq, h]
theorem seqS_xn {g gs : Dn.Env → So} {ρ ρ' : Dn.Env} {c : Str} {l : Option Int} (h : g ρ = .xn c l ρ') : seqS g gs ρ = .xn c l ρ' := by rw [seqS_eq, h]
def RtP (o : So) (P : T → Prop) : Prop := ∃ t, o = .rt t ∧ P t
theorem RtP.seq {g gs : Dn.Env → So} {ρ : Dn.Env} {P : T → Prop} (ρ' : Dn.Env) (h : g ρ = .nx ρ') (k : RtP (gs ρ') P) : RtP (seqS g gs ρ) P := by rw [seqS_nx h]; exact k
theorem num_loop1 (ns : List Int) (c : Int) : ∃ (seed : Int) (o : Option T), (0 ≤ seed ∧ seed < 2147483647) ∧ forR (setE 4) g1_numbers (ns.map D.int) [some (.sh (.scr ns)), some (.sh (.int c)), some (.lst []), some (.sh (.int 7)), none, none, none, none] = .nx [some (.sh (.scr ns)), some (.sh (.int c)), some (.lst []), some (.sh (.int seed)), o, none, none, none] := by
  have m31 : ∀ i : Int, 0 ≤ i ∧ i < 2147483647 → mulR (.int i) (.int 31) = .ok (.int (i * 31)) := fun i h => mul_i (by omega) (by omega)
  obtain ⟨ρ1, e1, _, seed, o, hs, r1⟩ := forR_inv (f := setE 4) (g := g1_numbers)
    (fun ds ρ => (∃ ms : List Int, ds = ms.map D.int) ∧ ∃ (seed : Int) (o : Option T), (0 ≤ seed ∧ seed < 2147483647) ∧ ρ = [some (.sh (.scr ns)), some (.sh (.int c)), some (.lst []), some (.sh (.int seed)), o, none, none, none]) (fun d ds ρ ⟨⟨ms, hm⟩, seed, o, hs, e⟩ => by
      subst e
      cases ms with
      | nil => cases hm
      | cons m ms =>
        cases hm
        refine ⟨_, rfl, ?_⟩
        unfold g1_numbers
        simp only [retR_nx, retR_rt, retR_xn, vC_0, vC_s, vP_0, vP_s, vS_0, vS_0l, vS_s, frz_sh, frz_l, frzL_nil, frzL_cons, frzL_map, lstE_0, lstE_s, retV_0, retV_s, frzE_0, frzE_s, seqS_eq, setS_eq, tgtS_eq, exprS_eq, retS_eq, retN_eq, ifS_eq, raiseS_eq, appS_eq, augS_eq, forS_eq, setE_eq, nilE_eq, consE_eq, tupE_eq, tryS_eq, nxS_rt, nxS_nx, kX, pX, cX, sX, op1, op2, inX, slX, noI, toI, toO, toC, flt, tst, tru, andT, orT, notT, andX, orX, notX, ifX, nilA, consA, tupX, lstX, callX, methX, meth0X, joinX, itX, it2X, yesT, chX, consR, andR, orR, notR, andV, orV, blR_bl, truR_bl, Rs.bind_ok, Rs.bind_exn, Rs.bind_bad, So.of_ok, So.of_exn, So.of_bad, noX_ok, tup_k, lst_k, intR_i, List.set_cons_zero, List.set_cons_succ, List.length_cons, List.length_nil, Nat.reduceAdd, Nat.reduceEqDiff, Nat.reduceLeDiff, reduceIte, if_true, if_false, Bool.not_true, Bool.not_false, decide_eq_true_eq, Bool.not_eq_true', decide_eq_false_iff_not, decide_true, decide_false, ite_self, Bool.false_eq_true, Bool.true_and, Bool.and_true, Bool.false_and, Bool.and_false, Bool.true_or, Bool.or_true, Bool.false_or, Bool.or_false, Bool.and_eq_true, Bool.or_eq_true, true_and, and_true, false_and, and_false, true_or, or_true, false_or, or_false, not_true_eq_false, not_false_eq_true, and_self, or_self, eq_self, add_i, sub_i, neg_i, min_i, max_i, lt_i, le_i, gt_i, ge_i, int1_i, int1_b, eq_i, ne_i, eq_b, ne_b, eq_s, ne_s, len_s, sl_s, sl_l, ix_t0, ix_t1, ix_t2, ix_t3, ix_t4, ix_l0, ix_l1, len_l, len_t, isStr_tx, ite_bl, ite_blt, ite_b, ite_bt, tru_i, tru_b, m31 seed hs, mod_i (show (0 : Int) < 2147483647 by decide)]
        exact ⟨_, .inl rfl, ⟨ms, rfl⟩, (seed * 31 + m) % 2147483647, some (.sh (.int m)), emod_rng _ (by decide), rfl⟩) (ns.map D.int)
      [some (.sh (.scr ns)), some (.sh (.int c)), some (.lst []), some (.sh (.int 7)), none, none, none, none] ⟨⟨ns, rfl⟩, 7, none, by decide, rfl⟩
  subst r1
  exact ⟨seed, o, hs, e1⟩
theorem num_if (ns : List Int) (c : Int) (seed : Int) (o : Option T) : ∃ left : Int, 0 ≤ left ∧ if_numbers [some (.sh (.scr ns)), some (.sh (.int c)), some (.lst []), some (.sh (.int seed)), o, some (.sh (.int 0)), none, none] = So.nx [some (.sh (.scr ns)), some (.sh (.int c)), some (.lst []), some (.sh (.int seed)), o, some (.sh (.int left)), none, none] := by
  unfold if_numbers
  cases ns with
  | nil =>
    refine ⟨0, by omega, ?_⟩
    simp only [retR_nx, retR_rt, retR_xn, vC_0, vC_s, vP_0, vP_s, vS_0, vS_0l, vS_s, frz_sh, frz_l, frzL_nil, frzL_cons, frzL_map, lstE_0, lstE_s, retV_0, retV_s, frzE_0, frzE_s, seqS_eq, setS_eq, tgtS_eq, exprS_eq, retS_eq, retN_eq, ifS_eq, raiseS_eq, appS_eq, augS_eq, forS_eq, setE_eq, nilE_eq, consE_eq, tupE_eq, tryS_eq, nxS_rt, nxS_nx, kX, pX, cX, sX, op1, op2, inX, slX, noI, toI, toO, toC, flt, tst, tru, andT, orT, notT, andX, orX, notX, ifX, nilA, consA, tupX, lstX, callX, methX, meth0X, joinX, itX, it2X, yesT, chX, consR, andR, orR, notR, andV, orV, blR_bl, truR_bl, Rs.bind_ok, Rs.bind_exn, Rs.bind_bad, So.of_ok, So.of_exn, So.of_bad, noX_ok, tup_k, lst_k, intR_i, List.set_cons_zero, List.set_cons_succ, List.length_cons, List.length_nil, Nat.reduceAdd, Nat.reduceEqDiff, Nat.reduceLeDiff, reduceIte, if_true, if_false, Bool.not_true, Bool.not_false, decide_eq_true_eq, Bool.not_eq_true', decide_eq_false_iff_not, decide_true, decide_false, ite_self, Bool.false_eq_true, Bool.true_and, Bool.and_true, Bool.false_and, Bool.and_false, Bool.true_or, Bool.or_true, Bool.false_or, Bool.or_false, Bool.and_eq_true, Bool.or_eq_true, true_and, and_true, false_and, and_false, true_or, or_true, false_or, or_false, not_true_eq_false, not_false_eq_true, and_self, or_self, eq_self, add_i, sub_i, neg_i, min_i, max_i, lt_i, le_i, gt_i, ge_i, int1_i, int1_b, eq_i, ne_i, eq_b, ne_b, eq_s, ne_s, len_s, sl_s, sl_l, ix_t0, ix_t1, ix_t2, ix_t3, ix_t4, ix_l0, ix_l1, len_l, len_t, isStr_tx, ite_bl, ite_blt, ite_b, ite_bt, tru_i, tru_b, len_scr, show ¬ ((0 : Int) < ((0 : Nat) : Int)) by decide]
  | cons m ms =>
    have h1 : (0 : Int) < ((ms.length + 1 : Nat) : Int) := by omega
    have h2 : ixA (.scr (m :: ms)) (.int 0) = .ok (.int m) := ix_scr (k := 0) rfl rfl
    by_cases h : (1000000000000000000 : Int) ≤ m
    · refine ⟨m, by omega, ?_⟩
      simp only [retR_nx, retR_rt, retR_xn, vC_0, vC_s, vP_0, vP_s, vS_0, vS_0l, vS_s, frz_sh, frz_l, frzL_nil, frzL_cons, frzL_map, lstE_0, lstE_s, retV_0, retV_s, frzE_0, frzE_s, seqS_eq, setS_eq, tgtS_eq, exprS_eq, retS_eq, retN_eq, ifS_eq, raiseS_eq, appS_eq, augS_eq, forS_eq, setE_eq, nilE_eq, consE_eq, tupE_eq, tryS_eq, nxS_rt, nxS_nx, kX, pX, cX, sX, op1, op2, inX, slX, noI, toI, toO, toC, flt, tst, tru, andT, orT, notT, andX, orX, notX, ifX, nilA, consA, tupX, lstX, callX, methX, meth0X, joinX, itX, it2X, yesT, chX, consR, andR, orR, notR, andV, orV, blR_bl, truR_bl, Rs.bind_ok, Rs.bind_exn, Rs.bind_bad, So.of_ok, So.of_exn, So.of_bad, noX_ok, tup_k, lst_k, intR_i, List.set_cons_zero, List.set_cons_succ, List.length_cons, List.length_nil, Nat.reduceAdd, Nat.reduceEqDiff, Nat.reduceLeDiff, reduceIte, if_true, if_false, Bool.not_true, Bool.not_false, decide_eq_true_eq, Bool.not_eq_true', decide_eq_false_iff_not, decide_true, decide_false, ite_self, Bool.false_eq_true, Bool.true_and, Bool.and_true, Bool.false_and, Bool.and_false, Bool.true_or, Bool.or_true, Bool.false_or, Bool.or_false, Bool.and_eq_true, Bool.or_eq_true, true_and, and_true, false_and, and_false, true_or, or_true, false_or, or_false, not_true_eq_false, not_false_eq_true, and_self, or_self, eq_self, add_i, sub_i, neg_i, min_i, max_i, lt_i, le_i, gt_i, ge_i, int1_i, int1_b, eq_i, ne_i, eq_b, ne_b, eq_s, ne_s, len_s, sl_s, sl_l, ix_t0, ix_t1, ix_t2, ix_t3, ix_t4, ix_l0, ix_l1, len_l, len_t, isStr_tx, ite_bl, ite_blt, ite_b, ite_bt, tru_i, tru_b, len_scr, decide_eq_true h1, h2, h]
    · refine ⟨0, by omega, ?_⟩
      simp only [retR_nx, retR_rt, retR_xn, vC_0, vC_s, vP_0, vP_s, vS_0, vS_0l, vS_s, frz_sh, frz_l, frzL_nil, frzL_cons, frzL_map, lstE_0, lstE_s, retV_0, retV_s, frzE_0, frzE_s, seqS_eq, setS_eq, tgtS_eq, exprS_eq, retS_eq, retN_eq, ifS_eq, raiseS_eq, appS_eq, augS_eq, forS_eq, setE_eq, nilE_eq, consE_eq, tupE_eq, tryS_eq, nxS_rt, nxS_nx, kX, pX, cX, sX, op1, op2, inX, slX, noI, toI, toO, toC, flt, tst, tru, andT, orT, notT, andX, orX, notX, ifX, nilA, consA, tupX, lstX, callX, methX, meth0X, joinX, itX, it2X, yesT, chX, consR, andR, orR, notR, andV, orV, blR_bl, truR_bl, Rs.bind_ok, Rs.bind_exn, Rs.bind_bad, So.of_ok, So.of_exn, So.of_bad, noX_ok, tup_k, lst_k, intR_i, List.set_cons_zero, List.set_cons_succ, List.length_cons, List.length_nil, Nat.reduceAdd, Nat.reduceEqDiff, Nat.reduceLeDiff, reduceIte, if_true, if_false, Bool.not_true, Bool.not_false, decide_eq_true_eq, Bool.not_eq_true', decide_eq_false_iff_not, decide_true, decide_false, ite_self, Bool.false_eq_true, Bool.true_and, Bool.and_true, Bool.false_and, Bool.and_false, Bool.true_or, Bool.or_true, Bool.false_or, Bool.or_false, Bool.and_eq_true, Bool.or_eq_true, true_and, and_true, false_and, and_false, true_or, or_true, false_or, or_false, not_true_eq_false, not_false_eq_true, and_self, or_self, eq_self, add_i, sub_i, neg_i, min_i, max_i, lt_i, le_i, gt_i, ge_i, int1_i, int1_b, eq_i, ne_i, eq_b, ne_b, eq_s, ne_s, len_s, sl_s, sl_l, ix_t0, ix_t1, ix_t2, ix_t3, ix_t4, ix_l0, ix_l1, len_l, len_t, isStr_tx, ite_bl, ite_blt, ite_b, ite_bt, tru_i, tru_b, len_scr, decide_eq_true h1, h2, h]
theorem num_loop2 (ns : List Int) (c : Nat) (hc : c ≤ 100000) (seed left : Int) (o : Option T) (hs : 0 ≤ seed ∧ seed < 2147483647) (hl : 0 ≤ left) : ∃ (xs : List Int) (ρ : Dn.Env), xs.length = c ∧ Num xs ∧ forR (setE 6) g2_numbers (intD 0 c) [some (.sh (.scr ns)), some (.sh (.int c)), some (.lst []), some (.sh (.int seed)), o, some (.sh (.int left)), none, none] = .nx ρ ∧ retV 2 ρ = .rt (.lst ((xs.map D.int).map T.sh)) := by
  have m48 : ∀ i : Int, 0 ≤ i ∧ i < 2147483647 → mulR (.int i) (.int 48271) = .ok (.int (i * 48271)) := fun i h => mul_i (by omega) (by omega)
  have m69 : ∀ i : Int, 0 ≤ i ∧ i < 2147483647 → mulR (.int i) (.int 69621) = .ok (.int (i * 69621)) := fun i h => mul_i (by omega) (by omega)
  have m16 : ∀ i : Int, 0 ≤ i ∧ i < 2147483647 → mulR (.int i) (.int 16807) = .ok (.int (i * 16807)) := fun i h => mul_i (by omega) (by omega)
  obtain ⟨ρ3, e3, xs, seed3, left3, o4, o6, o7, hx, hN, hs3, hl3, r3⟩ := forR_cnt 0 (f := setE 6) (g := g2_numbers)
    (fun k ρ => ∃ (xs : List Int) (seed left : Int) (o4 o6 o7 : Option T), xs.length = k ∧ Num xs ∧ (0 ≤ seed ∧ seed < 2147483647) ∧ 0 ≤ left ∧ ρ = [some (.sh (.scr ns)), some (.sh (.int c)), some (.lst ((xs.map D.int).map T.sh)), some (.sh (.int seed)), o4, some (.sh (.int left)), o6, o7]) c
    (fun k ρ hk ⟨xs, seed, left, o4, o6, o7, hx, hN, hs, hl, e⟩ => by
      subst e
      refine ⟨_, rfl, ?_⟩
      unfold g2_numbers
      have hx2 : ((xs.map D.int).map T.sh).length < 16777216 := by simp; omega
      have num1 : ∀ y : Int, 0 ≤ y ∧ y < 10007 → Num (xs ++ [y]) := fun y hy z hz => by
        rcases List.mem_append.mp hz with hz | hz
        · exact hN z hz
        · rw [List.mem_singleton.mp hz]; exact hy
      have fin : ∀ y : Int, ((xs ++ [y]).map D.int).map T.sh = (xs.map D.int).map T.sh ++ [T.sh (D.int y)] := fun y => by simp
      by_cases h : 0 < left
      · simp only [retR_nx, retR_rt, retR_xn, vC_0, vC_s, vP_0, vP_s, vS_0, vS_0l, vS_s, frz_sh, frz_l, frzL_nil, frzL_cons, frzL_map, lstE_0, lstE_s, retV_0, retV_s, frzE_0, frzE_s, seqS_eq, setS_eq, tgtS_eq, exprS_eq, retS_eq, retN_eq, ifS_eq, raiseS_eq, appS_eq, augS_eq, forS_eq, setE_eq, nilE_eq, consE_eq, tupE_eq, tryS_eq, nxS_rt, nxS_nx, kX, pX, cX, sX, op1, op2, inX, slX, noI, toI, toO, toC, flt, tst, tru, andT, orT, notT, andX, orX, notX, ifX, nilA, consA, tupX, lstX, callX, methX, meth0X, joinX, itX, it2X, yesT, chX, consR, andR, orR, notR, andV, orV, blR_bl, truR_bl, Rs.bind_ok, Rs.bind_exn, Rs.bind_bad, So.of_ok, So.of_exn, So.of_bad, noX_ok, tup_k, lst_k, intR_i, List.set_cons_zero, List.set_cons_succ, List.length_cons, List.length_nil, Nat.reduceAdd, Nat.reduceEqDiff, Nat.reduceLeDiff, reduceIte, if_true, if_false, Bool.not_true, Bool.not_false, decide_eq_true_eq, Bool.not_eq_true', decide_eq_false_iff_not, decide_true, decide_false, ite_self, Bool.false_eq_true, Bool.true_and, Bool.and_true, Bool.false_and, Bool.and_false, Bool.true_or, Bool.or_true, Bool.false_or, Bool.or_false, Bool.and_eq_true, Bool.or_eq_true, true_and, and_true, false_and, and_false, true_or, or_true, false_or, or_false, not_true_eq_false, not_false_eq_true, and_self, or_self, eq_self, add_i, sub_i, neg_i, min_i, max_i, lt_i, le_i, gt_i, ge_i, int1_i, int1_b, eq_i, ne_i, eq_b, ne_b, eq_s, ne_s, len_s, sl_s, sl_l, ix_t0, ix_t1, ix_t2, ix_t3, ix_t4, ix_l0, ix_l1, len_l, len_t, isStr_tx, ite_bl, ite_blt, ite_b, ite_bt, tru_i, tru_b, h, hx2, mod_i (show (0 : Int) < 10007 by decide), fdiv_i (show (0 : Int) < 10007 by decide) (by decide)]
        refine ⟨_, .inl rfl, xs ++ [left % 10007], seed, left / 10007, o4, some (.sh (.int (0 + (k : Int)))), o7, by simp [hx], num1 _ (emod_rng _ (by decide)), hs, Int.ediv_nonneg hl (by decide), ?_⟩
        rw [fin]
      · cases ns with
        | nil =>
          have h1 : ¬ (0 : Int) < ((0 : Nat) : Int) := by decide
          simp only [retR_nx, retR_rt, retR_xn, vC_0, vC_s, vP_0, vP_s, vS_0, vS_0l, vS_s, frz_sh, frz_l, frzL_nil, frzL_cons, frzL_map, lstE_0, lstE_s, retV_0, retV_s, frzE_0, frzE_s, seqS_eq, setS_eq, tgtS_eq, exprS_eq, retS_eq, retN_eq, ifS_eq, raiseS_eq, appS_eq, augS_eq, forS_eq, setE_eq, nilE_eq, consE_eq, tupE_eq, tryS_eq, nxS_rt, nxS_nx, kX, pX, cX, sX, op1, op2, inX, slX, noI, toI, toO, toC, flt, tst, tru, andT, orT, notT, andX, orX, notX, ifX, nilA, consA, tupX, lstX, callX, methX, meth0X, joinX, itX, it2X, yesT, chX, consR, andR, orR, notR, andV, orV, blR_bl, truR_bl, Rs.bind_ok, Rs.bind_exn, Rs.bind_bad, So.of_ok, So.of_exn, So.of_bad, noX_ok, tup_k, lst_k, intR_i, List.set_cons_zero, List.set_cons_succ, List.length_cons, List.length_nil, Nat.reduceAdd, Nat.reduceEqDiff, Nat.reduceLeDiff, reduceIte, if_true, if_false, Bool.not_true, Bool.not_false, decide_eq_true_eq, Bool.not_eq_true', decide_eq_false_iff_not, decide_true, decide_false, ite_self, Bool.false_eq_true, Bool.true_and, Bool.and_true, Bool.false_and, Bool.and_false, Bool.true_or, Bool.or_true, Bool.false_or, Bool.or_false, Bool.and_eq_true, Bool.or_eq_true, true_and, and_true, false_and, and_false, true_or, or_true, false_or, or_false, not_true_eq_false, not_false_eq_true, and_self, or_self, eq_self, add_i, sub_i, neg_i, min_i, max_i, lt_i, le_i, gt_i, ge_i, int1_i, int1_b, eq_i, ne_i, eq_b, ne_b, eq_s, ne_s, len_s, sl_s, sl_l, ix_t0, ix_t1, ix_t2, ix_t3, ix_t4, ix_l0, ix_l1, len_l, len_t, isStr_tx, ite_bl, ite_blt, ite_b, ite_bt, tru_i, tru_b, h, hx2, len_scr, h1, m48 _ hs, add_i, Int.zero_add, Int.add_zero]
          have hs2 := emod_rng (seed * 48271 + (k : Int)) (show (0 : Int) < 2147483647 by decide)
          have hk2 : 0 ≤ (k : Int) ∧ (k : Int) < 2147483647 := ⟨by omega, by omega⟩
          simp only [retR_nx, retR_rt, retR_xn, vC_0, vC_s, vP_0, vP_s, vS_0, vS_0l, vS_s, frz_sh, frz_l, frzL_nil, frzL_cons, frzL_map, lstE_0, lstE_s, retV_0, retV_s, frzE_0, frzE_s, seqS_eq, setS_eq, tgtS_eq, exprS_eq, retS_eq, retN_eq, ifS_eq, raiseS_eq, appS_eq, augS_eq, forS_eq, setE_eq, nilE_eq, consE_eq, tupE_eq, tryS_eq, nxS_rt, nxS_nx, kX, pX, cX, sX, op1, op2, inX, slX, noI, toI, toO, toC, flt, tst, tru, andT, orT, notT, andX, orX, notX, ifX, nilA, consA, tupX, lstX, callX, methX, meth0X, joinX, itX, it2X, yesT, chX, consR, andR, orR, notR, andV, orV, blR_bl, truR_bl, Rs.bind_ok, Rs.bind_exn, Rs.bind_bad, So.of_ok, So.of_exn, So.of_bad, noX_ok, tup_k, lst_k, intR_i, List.set_cons_zero, List.set_cons_succ, List.length_cons, List.length_nil, Nat.reduceAdd, Nat.reduceEqDiff, Nat.reduceLeDiff, reduceIte, if_true, if_false, Bool.not_true, Bool.not_false, decide_eq_true_eq, Bool.not_eq_true', decide_eq_false_iff_not, decide_true, decide_false, ite_self, Bool.false_eq_true, Bool.true_and, Bool.and_true, Bool.false_and, Bool.and_false, Bool.true_or, Bool.or_true, Bool.false_or, Bool.or_false, Bool.and_eq_true, Bool.or_eq_true, true_and, and_true, false_and, and_false, true_or, or_true, false_or, or_false, not_true_eq_false, not_false_eq_true, and_self, or_self, eq_self, add_i, sub_i, neg_i, min_i, max_i, lt_i, le_i, gt_i, ge_i, int1_i, int1_b, eq_i, ne_i, eq_b, ne_b, eq_s, ne_s, len_s, sl_s, sl_l, ix_t0, ix_t1, ix_t2, ix_t3, ix_t4, ix_l0, ix_l1, len_l, len_t, isStr_tx, ite_bl, ite_blt, ite_b, ite_bt, tru_i, tru_b, mod_i (show (0 : Int) < 2147483647 by decide), mod_i (show (0 : Int) < 2147483629 by decide), mod_i (show (0 : Int) < 10007 by decide), fdiv_i (show (0 : Int) < 7 by decide) (by decide), m69 _ hs2, m16 _ hk2, hx2]
          refine ⟨_, .inl rfl, xs ++ [((seed * 48271 + (k : Int)) % 2147483647 * 69621 + (k : Int) * 16807) % 2147483629 / 7 % 10007], (seed * 48271 + (k : Int)) % 2147483647, left, o4, some (.sh (.int k)), some (.sh (.int 0)), by simp [hx], num1 _ (emod_rng _ (by decide)), hs2, hl, ?_⟩
          rw [fin]
        | cons m ms =>
          have h1 : (0 : Int) < ((m :: ms).length : Int) := by simp only [List.length_cons]; omega
          obtain ⟨j, hj, ej⟩ : ∃ j : Nat, j < (m :: ms).length ∧ (k : Int) % ((m :: ms).length : Int) = j := ⟨k % (m :: ms).length, Nat.mod_lt _ (by simp), by rw [Int.natCast_emod]⟩
          have h2 : ixA (.scr (m :: ms)) (.int ((k : Int) % ((m :: ms).length : Int))) = .ok (.int (m :: ms)[j]) := ix_scr (k := j) ej (List.getElem?_eq_getElem hj)
          generalize (m :: ms)[j] = own at h2
          have hs2 := emod_rng (seed * 48271 + own + (k : Int)) (show (0 : Int) < 2147483647 by decide)
          have hk2 : 0 ≤ (k : Int) ∧ (k : Int) < 2147483647 := ⟨by omega, by omega⟩
          generalize (m :: ms) = ns at *
          simp only [retR_nx, retR_rt, retR_xn, vC_0, vC_s, vP_0, vP_s, vS_0, vS_0l, vS_s, frz_sh, frz_l, frzL_nil, frzL_cons, frzL_map, lstE_0, lstE_s, retV_0, retV_s, frzE_0, frzE_s, seqS_eq, setS_eq, tgtS_eq, exprS_eq, retS_eq, retN_eq, ifS_eq, raiseS_eq, appS_eq, augS_eq, forS_eq, setE_eq, nilE_eq, consE_eq, tupE_eq, tryS_eq, nxS_rt, nxS_nx, kX, pX, cX, sX, op1, op2, inX, slX, noI, toI, toO, toC, flt, tst, tru, andT, orT, notT, andX, orX, notX, ifX, nilA, consA, tupX, lstX, callX, methX, meth0X, joinX, itX, it2X, yesT, chX, consR, andR, orR, notR, andV, orV, blR_bl, truR_bl, Rs.bind_ok, Rs.bind_exn, Rs.bind_bad, So.of_ok, So.of_exn, So.of_bad, noX_ok, tup_k, lst_k, intR_i, List.set_cons_zero, List.set_cons_succ, List.length_cons, List.length_nil, Nat.reduceAdd, Nat.reduceEqDiff, Nat.reduceLeDiff, reduceIte, if_true, if_false, Bool.not_true, Bool.not_false, decide_eq_true_eq, Bool.not_eq_true', decide_eq_false_iff_not, decide_true, decide_false, ite_self, Bool.false_eq_true, Bool.true_and, Bool.and_true, Bool.false_and, Bool.and_false, Bool.true_or, Bool.or_true, Bool.false_or, Bool.or_false, Bool.and_eq_true, Bool.or_eq_true, true_and, and_true, false_and, and_false, true_or, or_true, false_or, or_false, not_true_eq_false, not_false_eq_true, and_self, or_self, eq_self, add_i, sub_i, neg_i, min_i, max_i, lt_i, le_i, gt_i, ge_i, int1_i, int1_b, eq_i, ne_i, eq_b, ne_b, eq_s, ne_s, len_s, sl_s, sl_l, ix_t0, ix_t1, ix_t2, ix_t3, ix_t4, ix_l0, ix_l1, len_l, len_t, isStr_tx, ite_bl, ite_blt, ite_b, ite_bt, tru_i, tru_b, h, hx2, len_scr, h1, m48 _ hs, add_i, Int.zero_add, Int.add_zero, mod_i h1, h2]
          simp only [retR_nx, retR_rt, retR_xn, vC_0, vC_s, vP_0, vP_s, vS_0, vS_0l, vS_s, frz_sh, frz_l, frzL_nil, frzL_cons, frzL_map, lstE_0, lstE_s, retV_0, retV_s, frzE_0, frzE_s, seqS_eq, setS_eq, tgtS_eq, exprS_eq, retS_eq, retN_eq, ifS_eq, raiseS_eq, appS_eq, augS_eq, forS_eq, setE_eq, nilE_eq, consE_eq, tupE_eq, tryS_eq, nxS_rt, nxS_nx, kX, pX, cX, sX, op1, op2, inX, slX, noI, toI, toO, toC, flt, tst, tru, andT, orT, notT, andX, orX, notX, ifX, nilA, consA, tupX, lstX, callX, methX, meth0X, joinX, itX, it2X, yesT, chX, consR, andR, orR, notR, andV, orV, blR_bl, truR_bl, Rs.bind_ok, Rs.bind_exn, Rs.bind_bad, So.of_ok, So.of_exn, So.of_bad, noX_ok, tup_k, lst_k, intR_i, List.set_cons_zero, List.set_cons_succ, List.length_cons, List.length_nil, Nat.reduceAdd, Nat.reduceEqDiff, Nat.reduceLeDiff, reduceIte, if_true, if_false, Bool.not_true, Bool.not_false, decide_eq_true_eq, Bool.not_eq_true', decide_eq_false_iff_not, decide_true, decide_false, ite_self, Bool.false_eq_true, Bool.true_and, Bool.and_true, Bool.false_and, Bool.and_false, Bool.true_or, Bool.or_true, Bool.false_or, Bool.or_false, Bool.and_eq_true, Bool.or_eq_true, true_and, and_true, false_and, and_false, true_or, or_true, false_or, or_false, not_true_eq_false, not_false_eq_true, and_self, or_self, eq_self, add_i, sub_i, neg_i, min_i, max_i, lt_i, le_i, gt_i, ge_i, int1_i, int1_b, eq_i, ne_i, eq_b, ne_b, eq_s, ne_s, len_s, sl_s, sl_l, ix_t0, ix_t1, ix_t2, ix_t3, ix_t4, ix_l0, ix_l1, len_l, len_t, isStr_tx, ite_bl, ite_blt, ite_b, ite_bt, tru_i, tru_b, mod_i (show (0 : Int) < 2147483647 by decide), mod_i (show (0 : Int) < 2147483629 by decide), mod_i (show (0 : Int) < 10007 by decide), fdiv_i (show (0 : Int) < 7 by decide) (by decide), m69 _ hs2, m16 _ hk2, hx2]
          refine ⟨_, .inl rfl, xs ++ [((seed * 48271 + own + (k : Int)) % 2147483647 * 69621 + (k : Int) * 16807) % 2147483629 / 7 % 10007], (seed * 48271 + own + (k : Int)) % 2147483647, left, o4, some (.sh (.int k)), some (.sh (.int own)), by simp [hx], num1 _ (emod_rng _ (by decide)), hs2, hl, ?_⟩
          rw [fin])
    [some (.sh (.scr ns)), some (.sh (.int c)), some (.lst []), some (.sh (.int seed)), o, some (.sh (.int left)), none, none]
    ⟨[], seed, left, o, none, none, rfl, (fun _ h => by cases h), hs, hl, rfl⟩
  subst r3
  exact ⟨xs, _, hx, hN, e3, rfl⟩
theorem numbers_ok (ns : List Int) (c : Nat) (hc : c ≤ 100000) : ∃ xs : List Int, retR (b_numbers [some (.sh (.scr ns)), some (.sh (.int c)), none, none, none, none, none, none]) = .ok (.lst ((xs.map D.int).map T.sh)) ∧ xs.length = c ∧ Num xs := by
  obtain ⟨seed, o, hs, e1⟩ := num_loop1 ns c
  obtain ⟨left, hl, e2⟩ := num_if ns c seed o
  obtain ⟨xs, ρ, hx, hN, e3, e4⟩ := num_loop2 ns c hc seed left o hs hl
  refine ⟨xs, ?_, hx, hN⟩
  have hr : rng1R (.int c) = .ok (intD 0 c) := by
    rw [rng1_i (by omega), Int.toNat_natCast]
  unfold b_numbers
  simp only [retR_nx, retR_rt, retR_xn, vC_0, vC_s, vP_0, vP_s, vS_0, vS_0l, vS_s, frz_sh, frz_l, frzL_nil, frzL_cons, frzL_map, lstE_0, lstE_s, retV_0, retV_s, frzE_0, frzE_s, seqS_eq, setS_eq, tgtS_eq, exprS_eq, retS_eq, retN_eq, ifS_eq, raiseS_eq, appS_eq, augS_eq, forS_eq, setE_eq, nilE_eq, consE_eq, tupE_eq, tryS_eq, nxS_rt, nxS_nx, kX, pX, cX, sX, op1, op2, inX, slX, noI, toI, toO, toC, flt, tst, tru, andT, orT, notT, andX, orX, notX, ifX, nilA, consA, tupX, lstX, callX, methX, meth0X, joinX, itX, it2X, yesT, chX, consR, andR, orR, notR, andV, orV, blR_bl, truR_bl, Rs.bind_ok, Rs.bind_exn, Rs.bind_bad, So.of_ok, So.of_exn, So.of_bad, noX_ok, tup_k, lst_k, intR_i, List.set_cons_zero, List.set_cons_succ, List.length_cons, List.length_nil, Nat.reduceAdd, Nat.reduceEqDiff, Nat.reduceLeDiff, reduceIte, if_true, if_false, Bool.not_true, Bool.not_false, decide_eq_true_eq, Bool.not_eq_true', decide_eq_false_iff_not, decide_true, decide_false, ite_self, Bool.false_eq_true, Bool.true_and, Bool.and_true, Bool.false_and, Bool.and_false, Bool.true_or, Bool.or_true, Bool.false_or, Bool.or_false, Bool.and_eq_true, Bool.or_eq_true, true_and, and_true, false_and, and_false, true_or, or_true, false_or, or_false, not_true_eq_false, not_false_eq_true, and_self, or_self, eq_self, add_i, sub_i, neg_i, min_i, max_i, lt_i, le_i, gt_i, ge_i, int1_i, int1_b, eq_i, ne_i, eq_b, ne_b, eq_s, ne_s, len_s, sl_s, sl_l, ix_t0, ix_t1, ix_t2, ix_t3, ix_t4, ix_l0, ix_l1, len_l, len_t, isStr_tx, ite_bl, ite_blt, ite_b, ite_bt, tru_i, tru_b, items_scr, e1, e2, hr, e3, e4]
end Dn

/-! Pl2: reads at a place, joins. -/
namespace Dn
open PySem PySem.Spec L2
theorem ix_s_ex {a : List Nat} {i : Int} (h0 : 0 ≤ i) (h1 : i < a.length) : ∃ c, ixA (tx a) (.int i) = .ok (tx [c]) ∧ c ∈ a := by
  have h : i.toNat < a.length := by omega
  exact ⟨a[i.toNat], ix_s (k := i.toNat) (by omega) (List.getElem?_eq_getElem h), List.getElem_mem h⟩
theorem ix_n_ex {xs : List Int} {i : Int} (h0 : 0 ≤ i) (h1 : i < xs.length) : ∃ c, ixA (.lst (xs.map D.int)) (.int i) = .ok (.int c) ∧ c ∈ xs := by
  have h : i.toNat < xs.length := by omega
  exact ⟨xs[i.toNat], ix_l (k := i.toNat) (by omega) (by rw [List.getElem?_map, List.getElem?_eq_getElem h]; rfl), List.getElem_mem h⟩
theorem num_ex {xs : List Int} (hN : Num xs) {i : Int} (h0 : 0 ≤ i) (h1 : i < xs.length) : ∃ c, ixA (.lst (xs.map D.int)) (.int i) = .ok (.int c) ∧ 0 ≤ c ∧ c < 10007 := by
  obtain ⟨c, e, m⟩ := ix_n_ex h0 h1
  exact ⟨c, e, hN c m⟩
theorem intD_len (lo : Int) (n : Nat) : (intD lo n).length = n := by simp [intD]
theorem mem_intD {lo : Int} {n : Nat} {d : D} (h : d ∈ intD lo n) : ∃ k : Nat, k < n ∧ d = .int (lo + k) := by
  unfold intD at h
  obtain ⟨k, hk, e⟩ := List.mem_map.mp h
  exact ⟨k, List.mem_range.mp hk, e.symm⟩
theorem join_nil (cs : List Nat) : Str.join ⟨[].toArray⟩ (cs.map fun c => (⟨[c].toArray⟩ : Str)) = ⟨cs.toArray⟩ := by
  induction cs with
  | nil => rfl
  | cons c cs ih =>
    cases cs with
    | nil => rfl
    | cons b cs =>
      show (⟨[c].toArray⟩ : Str) ++ (⟨[].toArray⟩ : Str) ++ Str.join ⟨[].toArray⟩ ((b :: cs).map fun c => (⟨[c].toArray⟩ : Str)) = _
      rw [ih, tx_app, tx_app]
      rfl
theorem totalS_one (cs : List Nat) : totalS 0 (cs.map fun c => (⟨[c].toArray⟩ : Str)) = cs.length := by
  induction cs with
  | nil => rfl
  | cons c cs ih =>
    rw [List.map_cons, totalS, ih, tx_len, List.length_cons]
    simp
    omega
theorem joinR_cs (cs : List Nat) (h : cs.length ≤ 16777216) : joinR (tx []) (.lst (cs.map fun c => tx [c])) = .ok (tx cs) := by
  have e : texts (cs.map fun c => tx [c]) = some (cs.map fun c => (⟨[c].toArray⟩ : Str)) := by
    have := texts_tx (cs.map fun c => [c])
    rw [List.map_map, List.map_map] at this
    exact this
  show (match texts (cs.map fun c => tx [c]) with
    | some ss => if totalS (⟨[].toArray⟩ : Str).length ss ≤ 16777216 then Rs.ok (D.str (Str.join ⟨[].toArray⟩ ss)) else .bad
    | none => .bad) = _
  rw [e]
  show (if totalS (⟨[].toArray⟩ : Str).length (cs.map fun c => (⟨[c].toArray⟩ : Str)) ≤ 16777216 then Rs.ok (D.str (Str.join ⟨[].toArray⟩ (cs.map fun c => (⟨[c].toArray⟩ : Str)))) else .bad) = _
  rw [join_nil, show (⟨[].toArray⟩ : Str).length = 0 from rfl, totalS_one, if_pos h]
  rfl
theorem signs_of {P : Nat → Prop} : ∀ {ts : List D}, (∀ t ∈ ts, ∃ c, t = tx [c] ∧ P c) → ∃ cs : List Nat, ts = (cs.map fun c => tx [c]) ∧ cs.length = ts.length ∧ ∀ c ∈ cs, P c
  | [], _ => ⟨[], rfl, rfl, fun _ h => by cases h⟩
  | t :: ts, h => by
    obtain ⟨c, e, p⟩ := h t List.mem_cons_self
    obtain ⟨cs, e2, l, q⟩ := signs_of (ts := ts) fun x hx => h x (List.mem_cons_of_mem _ hx)
    refine ⟨c :: cs, by rw [e, e2]; rfl, by simp [l], fun x hx => ?_⟩
    rcases List.mem_cons.mp hx with rfl | hx
    · exact p
    · exact q x hx
/-- a comprehension over a range that yields signs, joined -/
theorem join_lc {P : Nat → Prop} {i : Nat} {ge : Dn.Env → Rs T} {ρ : Dn.Env} {m : Nat} {vs : List Nat} (hm : m ≤ 1000000) (h : ∀ k : Nat, k < m → ∃ c, ge ((wipeE ρ vs).set i (some (.sh (.int k)))) = .ok (.sh (tx [c])) ∧ P c) :
    ∃ cs : List Nat, ((lcR vs (setE i) yesT ge ρ (intD 0 m)).bind lstF = .ok (.lst ((cs.map fun c => tx [c]).map T.sh))) ∧ joinR (tx []) (.lst (cs.map fun c => tx [c])) = .ok (tx cs) ∧ cs.length = m ∧ ∀ c ∈ cs, P c := by
  obtain ⟨ts, e, l, q⟩ := lcR_ex (vs := vs) (i := i) (ge := ge) (ρ := ρ) (P := fun _ t => ∃ c, t = tx [c] ∧ P c) (ds := intD 0 m) fun d hd => by
    obtain ⟨k, hk, rfl⟩ := mem_intD hd
    obtain ⟨c, e, p⟩ := h k hk
    refine ⟨tx [c], ?_, c, rfl, p⟩
    rw [show (0 : Int) + (k : Int) = (k : Int) by omega]
    exact e
  rw [intD_len] at l
  obtain ⟨cs, e2, l2, p⟩ := signs_of (ts := ts) (P := P) fun t ht => by
    obtain ⟨j, hj, e⟩ := List.mem_iff_getElem.mp ht
    have hj2 : j < (intD 0 m).length := by rw [intD_len]; omega
    exact q j ((intD 0 m)[j]) t (by rw [List.getElem?_eq_getElem]) (by rw [List.getElem?_eq_getElem hj, e])
  refine ⟨cs, ?_, joinR_cs cs (by omega), by omega, p⟩
  rw [e, Rs.bind_ok, lstF_ok (by rw [List.length_map]; omega), ← e2]
end Dn

/-! Pl3: ==, loops that count, while. -/
namespace Dn
open PySem PySem.Spec L2
theorem rq {g gs : Dn.Env → So} {ρ : Dn.Env} {X : Rs T} (ρ' : Dn.Env) (h : g ρ = .nx ρ') (k : retR (gs ρ') = X) : retR (seqS g gs ρ) = X := by rw [seqS_nx h]; exact k
theorem rqr {g gs : Dn.Env → So} {ρ : Dn.Env} {t : T} (h : g ρ = .rt t) : retR (seqS g gs ρ) = .ok t := by rw [seqS_rt h]; rfl
theorem eqvS_refl (s : Str) : (s == s) = true := by simp
mutual
theorem eqv_refl0 : ∀ d : D, isData d = true → PyData.eqv (toP d) (toP d) = true
  | .non, _ => rfl
  | .bl b, _ => by cases b <;> rfl
  | .int i, _ => by simp [toP, PyData.eqv]
  | .str s, _ => by simp [toP, PyData.eqv]
  | .lst ds, h => by rw [toP, PyData.eqv]; exact eqvL_refl0 ds (by simpa [isData] using h)
  | .tup ds, h => by rw [toP, PyData.eqv]; exact eqvL_refl0 ds (by simpa [isData] using h)
  | .dk _ _, h => by simp [isData] at h
  | .obj _ _ _, h => by simp [isData] at h
  | .scr _, h => by simp [isData] at h
theorem eqvL_refl0 : ∀ ds : List D, isDataL ds = true → PyData.eqvAll (toPL ds) (toPL ds) = true
  | [], _ => rfl
  | d :: ds, h => by
    rw [isDataL, Bool.and_eq_true] at h
    rw [toPL, PyData.eqvAll, eqv_refl0 d h.1, eqvL_refl0 ds h.2]
    rfl
end
theorem eqR_refl {d : D} (h : cmpD d = true) : eqR d d = .ok (.bl true) := by
  unfold eqR eqv
  rw [h, eqv_refl0 d (Bool.and_eq_true_iff.mp h).1]
  rfl
theorem neR_refl {d : D} (h : cmpD d = true) : neR d d = .ok (.bl false) := by
  unfold neR eqv
  rw [h, eqv_refl0 d (Bool.and_eq_true_iff.mp h).1]
  rfl
/-! ### places that agree, from the first on -/
def cnt (P : Nat → Bool) : Nat → Nat
  | 0 => 0
  | m + 1 => if cnt P m = m ∧ P m = true then m + 1 else cnt P m
theorem cnt_le (P : Nat → Bool) : ∀ m, cnt P m ≤ m
  | 0 => Nat.le_refl 0
  | m + 1 => by
    have := cnt_le P m
    rw [cnt]
    split <;> omega
theorem cnt_true (P : Nat → Bool) : ∀ m k, k < cnt P m → P k = true
  | 0, k, h => by simp [cnt] at h
  | m + 1, k, h => by
    rw [cnt] at h
    split at h
    · rename_i c
      by_cases e : k = m
      · rw [e]; exact c.2
      · exact cnt_true P m k (by omega)
    · exact cnt_true P m k h
theorem cnt_stop (P : Nat → Bool) : ∀ m, cnt P m < m → P (cnt P m) = false
  | 0, h => by omega
  | m + 1, h => by
    rw [cnt] at h ⊢
    have hl := cnt_le P m
    split at h
    · omega
    · rename_i c
      rw [if_neg c]
      by_cases e : cnt P m = m
      · cases q : P m with
        | true => exact absurd ⟨e, q⟩ c
        | false => rw [e]; exact q
      · exact cnt_stop P m (by omega)
theorem cnt_yes {P : Nat → Bool} {k : Nat} (h : cnt P k = k ∧ P k = true) : cnt P (k + 1) = k + 1 := by rw [cnt, if_pos h]
theorem cnt_no {P : Nat → Bool} {k : Nat} (h : ¬ (cnt P k = k ∧ P k = true)) : cnt P (k + 1) = cnt P k := by rw [cnt, if_neg h]
/-- a loop that counts up while P -/
theorem whileR_cnt {gc : Dn.Env → Rs Bool} {g : Dn.Env → So} (E : Nat → Dn.Env) (P : Nat → Bool) (m : Nat) (hc : ∀ k, k ≤ m → gc (E k) = .ok (decide (k < m) && P k)) (hg : ∀ k, k < m → g (E k) = .nx (E (k + 1))) :
    ∀ (n k : Nat), k ≤ cnt P m → cnt P m < n + k → whileR gc g n (E k) = .nx (E (cnt P m))
  | 0, k, h, h2 => by omega
  | n + 1, k, h, h2 => by
    have hl := cnt_le P m
    rw [whileR, hc k (by omega), So.of_ok]
    by_cases e : k = cnt P m
    · have hf : (decide (k < m) && P k) = false := by
        by_cases h3 : k < m
        · have := cnt_stop P m (by omega)
          rw [← e] at this
          rw [this, Bool.and_false]
        · rw [decide_eq_false h3, Bool.false_and]
      rw [hf, if_neg (by simp), e]
    · have ht := cnt_true P m k (by omega)
      rw [ht, decide_eq_true (show k < m by omega), Bool.and_true, if_pos rfl, hg k (by omega)]
      exact whileR_cnt E P m hc hg n (k + 1) (by omega) (by omega)
/-- negative places -/
theorem atI_neg {α : Type} {xs : List α} {j : Nat} {v : α} (hj : j < xs.length) (h : xs[xs.length - 1 - j]? = some v) : atI xs (-1 - (j : Int)) = some v := by
  unfold atI ixN
  rw [if_neg (by omega), if_pos (by omega)]
  show xs[_]? = _
  rw [← h]
  congr 1
  omega
theorem ix_sn {a : List Nat} {j : Nat} (hj : j < a.length) {c : Nat} (h : a[a.length - 1 - j]? = some c) : ixA (tx a) (.int (-1 - (j : Int))) = .ok (tx [c]) := by
  show (match atI (⟨a.toArray⟩ : Str).cps.toList (-1 - (j : Int)) with
    | some c => Rs.ok (D.str ⟨#[c]⟩)
    | none => .bad) = _
  rw [show (⟨a.toArray⟩ : Str).cps.toList = a by simp, atI_neg hj h]
  rfl
theorem ix_sD {a : List Nat} {i : Int} {k : Nat} (e : i = k) (h : k < a.length) : ixA (tx a) (.int i) = .ok (tx [a.getD k 0]) := ix_s e (by rw [List.getD_eq_getElem?_getD, List.getElem?_eq_getElem h]; rfl)
theorem ix_snD {a : List Nat} {j : Nat} (h : j < a.length) : ixA (tx a) (.int (-1 - (j : Int))) = .ok (tx [a.getD (a.length - 1 - j) 0]) := ix_sn h (by rw [List.getD_eq_getElem?_getD, List.getElem?_eq_getElem (by omega)]; rfl)
theorem min_nat {a b : Nat} : minR (.int a) (.int b) = .ok (.int ((min a b : Nat) : Int)) := by
  rw [min_i]
  congr 2
  split <;> omega
theorem cmp_tx (a : List Nat) : cmpD (tx a) = true := rfl
/-- < and ≤ of single signs -/
theorem le_s1 {a b : Nat} : leR (tx [a]) (tx [b]) = .ok (.bl (decide (a ≤ b))) := by
  show Rs.ok (D.bl (!decide (([b] : List Nat) < [a]))) = _
  have e : decide (([b] : List Nat) < [a]) = decide (b < a) := by
    rw [decide_eq_decide, List.cons_lt_cons_iff]
    simp
  rw [e, ← decide_not]
  congr 2
  rw [decide_eq_decide]
  omega
end Dn

section
set_option maxHeartbeats 4000000
namespace Lk35
open PySem PySem.Spec L2 Dn
/-! ### the text, by places; what each def yields -/
def topS (i : Nat) : Stmt := PySem.Challenge.pw_textoffers_k35_edits_led_past_edits.main.body.getD i (.Pass ⟨0, 0, 0, 0⟩)
def kt_Crossing (c : Str) : Option Bool := if c = "OfferError" then some false else if c = "BadText" then some false else if c = "BadSpan" then some false else if c = "NoChange" then some false else if c = "Crossing" then some true else none
abbrev s__law_numbers : Stmt := topS 24
theorem sc__law_numbers : FnScope ["script", "count", "found", "seed", "cell", "left", "k", "own"] ["script", "count"] (defScope s__law_numbers) := ⟨rfl, rfl, rfl, by decide +kernel, rfl, by decide +kernel, by decide +kernel⟩
def b__law_numbers (n : Nat) : Dn.Env → So := 
(seqS (setS 2 (lstX nilA))
 (seqS (setS 3 (toO (kX (.int 7))))
 (seqS (forS (itX itemsR (cX 0)) (setE 4) (seqS (setS 3 (toO (op2 modR (op1 int1R (op2 addR (op2 mulR (cX 3) (kX (.int 31))) (cX 4))) (kX (.int 2147483647)))))
 .nx))
 (seqS (setS 5 (toO (kX (.int 0))))
 (seqS (ifS (andT (tst (op2 gtR (op1 lenR (cX 0)) (kX (.int 0)))) (tst (op2 geR (op2 ixA (cX 0) (kX (.int 0))) (kX (.int 1000000000000000000))))) (seqS (setS 5 (toO (op2 ixA (cX 0) (kX (.int 0)))))
 .nx) .nx)
 (seqS (forS (itX rng1R (cX 1)) (setE 6) (seqS (ifS (tst (op2 gtR (cX 5) (kX (.int 0)))) (seqS (appS 2 (toO (op2 modR (cX 5) (kX (.int 10007)))))
 (seqS (setS 5 (toO (op2 fdivR (cX 5) (kX (.int 10007)))))
 .nx)) (seqS (setS 7 (toO (kX (.int 0))))
 (seqS (ifS (tst (op2 gtR (op1 lenR (cX 0)) (kX (.int 0)))) (seqS (setS 7 (toO (op1 int1R (op2 ixA (cX 0) (op2 modR (cX 6) (op1 lenR (cX 0)))))))
 .nx) .nx)
 (seqS (setS 3 (toO (op2 modR (op1 int1R (op2 addR (op2 addR (op2 mulR (cX 3) (kX (.int 48271))) (cX 7)) (cX 6))) (kX (.int 2147483647)))))
 (seqS (appS 2 (toO (op2 modR (op2 fdivR (op2 modR (op1 int1R (op2 addR (op2 mulR (cX 3) (kX (.int 69621))) (op2 mulR (cX 6) (kX (.int 16807))))) (kX (.int 2147483629))) (kX (.int 7))) (kX (.int 10007)))))
 .nx)))))
 .nx))
 (seqS (retV 2)
 .nx)))))))
def d__law_numbers (n : Nat) : List D → Rs T := runD 2 8 (b__law_numbers n)
theorem e__law_numbers (n : Nat) (x0 x1 : D) : d__law_numbers n [x0, x1] = retR (b__law_numbers n [some (.sh x0), some (.sh x1), none, none, none, none, none, none]) := runD_of rfl rfl
def dd__law_numbers : He.DefD := ⟨("_law_numbers", none), "_law_numbers", "_law_numbers", defArgs s__law_numbers, defBody s__law_numbers, defScope s__law_numbers, [], []⟩
abbrev s__law_text : Stmt := topS 26
theorem sc__law_text : FnScope ["numbers", "at", "length", "step", "signs", "k"] ["numbers", "at", "length", "step"] (defScope s__law_text) := ⟨rfl, rfl, rfl, by decide +kernel, rfl, by decide +kernel, by decide +kernel⟩
def b__law_text (n : Nat) : Dn.Env → So := 
(seqS (setS 4 (toO (kX (.str "ab ab\na{"))))
 (seqS (retS (toO (joinX (kX (.str "")) (toC (lcX [5] (setE 5) yesT (toO (op2 ixA (cX 4) (op2 modR (op2 fdivR (op2 ixA (cX 0) (op2 addR (cX 1) (op2 modR (cX 5) (kX (.int 8))))) (op2 addR (op2 addR (kX (.int 1)) (cX 3)) (op2 fdivR (cX 5) (kX (.int 8))))) (kX (.int 8))))) (itX rng1R (cX 2)))))))
 .nx))
def d__law_text (n : Nat) : List D → Rs T := runD 4 6 (b__law_text n)
theorem e__law_text (n : Nat) (x0 x1 x2 x3 : D) : d__law_text n [x0, x1, x2, x3] = retR (b__law_text n [some (.sh x0), some (.sh x1), some (.sh x2), some (.sh x3), none, none]) := runD_of rfl rfl
def dd__law_text : He.DefD := ⟨("_law_text", none), "_law_text", "_law_text", defArgs s__law_text, defBody s__law_text, defScope s__law_text, [], []⟩
abbrev s__law_edit : Stmt := topS 27
theorem sc__law_edit : FnScope ["numbers", "at", "text", "size", "begin", "end", "more", "j"] ["numbers", "at", "text"] (defScope s__law_edit) := ⟨rfl, rfl, rfl, by decide +kernel, rfl, by decide +kernel, by decide +kernel⟩
def b__law_edit (n : Nat) : Dn.Env → So := 
(seqS (setS 3 (toO (op1 lenR (cX 2))))
 (seqS (setS 4 (toO (op2 modR (op2 ixA (cX 0) (cX 1)) (op2 addR (cX 3) (kX (.int 1))))))
 (seqS (setS 5 (toO (op2 addR (cX 4) (op2 modR (op2 ixA (cX 0) (op2 addR (cX 1) (kX (.int 1)))) (op2 subR (op2 addR (cX 3) (kX (.int 1))) (cX 4))))))
 (seqS (ifS (tst (op2 eqR (op2 modR (op2 fdivR (op2 ixA (cX 0) (op2 addR (cX 1) (kX (.int 1)))) (kX (.int 50))) (kX (.int 2))) (kX (.int 0)))) (seqS (setS 5 (toO (op2 minR (cX 3) (op2 addR (cX 4) (op2 modR (op2 ixA (cX 0) (op2 addR (cX 1) (kX (.int 1)))) (kX (.int 3)))))))
 .nx) .nx)
 (seqS (setS 6 (toO (op2 ixA (toC (lstX (consA (toO (kX (.int 0))) (consA (toO (kX (.int 1))) (consA (toO (kX (.int 1))) (consA (toO (kX (.int 2))) (consA (toO (kX (.int 3))) nilA))))))) (op2 modR (op2 ixA (cX 0) (op2 addR (cX 1) (kX (.int 2)))) (kX (.int 5))))))
 (seqS (ifS (andT (tst (op2 eqR (cX 4) (cX 5))) (tst (op2 eqR (cX 6) (kX (.int 0))))) (seqS (setS 6 (toO (kX (.int 1))))
 .nx) .nx)
 (seqS (retS (toO (tupX (consA (cX 4) (consA (cX 5) (consA (joinX (kX (.str "")) (toC (lcX [7] (setE 7) yesT (toO (op2 ixA (kX (.str "ab ab\na{")) (op2 modR (op2 fdivR (op2 ixA (cX 0) (op2 addR (cX 1) (kX (.int 2)))) (op2 addR (kX (.int 1)) (cX 7))) (kX (.int 8))))) (itX rng1R (cX 6))))) nilA))))))
 .nx)))))))
def d__law_edit (n : Nat) : List D → Rs T := runD 3 8 (b__law_edit n)
theorem e__law_edit (n : Nat) (x0 x1 x2 : D) : d__law_edit n [x0, x1, x2] = retR (b__law_edit n [some (.sh x0), some (.sh x1), some (.sh x2), none, none, none, none, none]) := runD_of rfl rfl
def dd__law_edit : He.DefD := ⟨("_law_edit", none), "_law_edit", "_law_edit", defArgs s__law_edit, defBody s__law_edit, defScope s__law_edit, [], []⟩
abbrev s__law_cross : Stmt := topS 29
theorem sc__law_cross : FnScope ["edit", "other", "rows", "begin", "end", "text"] ["edit", "other"] (defScope s__law_cross) := ⟨rfl, rfl, rfl, by decide +kernel, rfl, by decide +kernel, by decide +kernel⟩
def b__law_cross (n : Nat) : Dn.Env → So := 
(seqS (ifS (andT (tst (op2 eqR (op2 ixA (cX 0) (kX (.int 0))) (op2 ixA (cX 0) (kX (.int 1))))) (tst (op2 eqR (op2 ixA (cX 1) (kX (.int 0))) (op2 ixA (cX 1) (kX (.int 1)))))) (seqS (retS (toO (kX (.bl false))))
 .nx) .nx)
 (seqS (setS 2 (lstX nilA))
 (seqS (forS (itX itemsR (tupX (consA (cX 0) (consA (cX 1) nilA)))) (tupE 3 (consE (setE 3) (consE (setE 4) (consE (setE 5) nilE)))) (seqS (ifS (tst (op2 eqR (cX 3) (cX 4))) (seqS (appS 2 (toO (tupX (consA (op2 mulR (kX (.int 2)) (cX 3)) (consA (op2 mulR (kX (.int 2)) (cX 3)) nilA)))))
 .nx) (seqS (appS 2 (toO (tupX (consA (op2 addR (op2 mulR (kX (.int 2)) (cX 3)) (kX (.int 1))) (consA (op2 subR (op2 mulR (kX (.int 2)) (cX 4)) (kX (.int 1))) nilA)))))
 .nx))
 .nx))
 (seqS (retS (toO (andX (op2 leR (op2 ixA (op2 ixA (sX 2) (kX (.int 0))) (kX (.int 0))) (op2 ixA (op2 ixA (sX 2) (kX (.int 1))) (kX (.int 1)))) (op2 leR (op2 ixA (op2 ixA (sX 2) (kX (.int 1))) (kX (.int 0))) (op2 ixA (op2 ixA (sX 2) (kX (.int 0))) (kX (.int 1)))))))
 .nx))))
def d__law_cross (n : Nat) : List D → Rs T := runD 2 6 (b__law_cross n)
theorem e__law_cross (n : Nat) (x0 x1 : D) : d__law_cross n [x0, x1] = retR (b__law_cross n [some (.sh x0), some (.sh x1), none, none, none, none]) := runD_of rfl rfl
def dd__law_cross : He.DefD := ⟨("_law_cross", none), "_law_cross", "_law_cross", defArgs s__law_cross, defBody s__law_cross, defScope s__law_cross, [], []⟩
abbrev s__law_same : Stmt := topS 25
theorem sc__law_same : FnScope ["value", "due"] ["value", "due"] (defScope s__law_same) := ⟨rfl, rfl, rfl, by decide +kernel, rfl, by decide +kernel, by decide +kernel⟩
def b__law_same (n : Nat) : Dn.Env → So := 
(seqS (retS (toO (andX (op1 (isiR .bool) (cX 0)) (op2 eqR (cX 0) (cX 1)))))
 .nx)
def d__law_same (n : Nat) : List D → Rs T := runD 2 2 (b__law_same n)
theorem e__law_same (n : Nat) (x0 x1 : D) : d__law_same n [x0, x1] = retR (b__law_same n [some (.sh x0), some (.sh x1)]) := runD_of rfl rfl
def dd__law_same : He.DefD := ⟨("_law_same", none), "_law_same", "_law_same", defArgs s__law_same, defBody s__law_same, defScope s__law_same, [], []⟩
abbrev s_spans_clash : Stmt := topS 16
theorem sc_spans_clash : FnScope ["span", "other", "begin", "end", "first", "last"] ["span", "other"] (defScope s_spans_clash) := ⟨rfl, rfl, rfl, by decide +kernel, rfl, by decide +kernel, by decide +kernel⟩
def b_spans_clash (n : Nat) : Dn.Env → So := 
(seqS (tgtS (tupE 2 (consE (setE 2) (consE (setE 3) nilE))) (cX 0))
 (seqS (tgtS (tupE 2 (consE (setE 4) (consE (setE 5) nilE))) (cX 1))
 (seqS (ifS (andT (tst (op2 eqR (cX 2) (cX 3))) (tst (op2 eqR (cX 4) (cX 5)))) (seqS (retS (toO (kX (.bl false))))
 .nx) .nx)
 (seqS (ifS (tst (op2 eqR (cX 2) (cX 3))) (seqS (retS (toO (chX ltR ltR (cX 4) (cX 2) (cX 5))))
 .nx) .nx)
 (seqS (ifS (tst (op2 eqR (cX 4) (cX 5))) (seqS (retS (toO (chX ltR ltR (cX 2) (cX 4) (cX 3))))
 .nx) .nx)
 (seqS (retS (toO (andX (op2 ltR (cX 2) (cX 5)) (op2 ltR (cX 4) (cX 3)))))
 .nx))))))
def d_spans_clash (n : Nat) : List D → Rs T := runD 2 6 (b_spans_clash n)
theorem e_spans_clash (n : Nat) (x0 x1 : D) : d_spans_clash n [x0, x1] = retR (b_spans_clash n [some (.sh x0), some (.sh x1), none, none, none, none]) := runD_of rfl rfl
def dd_spans_clash : He.DefD := ⟨("spans_clash", none), "spans_clash", "spans_clash", defArgs s_spans_clash, defBody s_spans_clash, defScope s_spans_clash, [], []⟩
abbrev s_cross : Stmt := topS 20
theorem sc_cross : FnScope ["edit", "other"] ["edit", "other"] (defScope s_cross) := ⟨rfl, rfl, rfl, by decide +kernel, rfl, by decide +kernel, by decide +kernel⟩
def b_cross (n : Nat) : Dn.Env → So := 
(seqS (retS (callX (d_spans_clash n) (consA (toC (slX (cX 0) noI (toI (kX (.int 2))))) (consA (toC (slX (cX 1) noI (toI (kX (.int 2))))) nilA))))
 .nx)
def d_cross (n : Nat) : List D → Rs T := runD 2 2 (b_cross n)
theorem e_cross (n : Nat) (x0 x1 : D) : d_cross n [x0, x1] = retR (b_cross n [some (.sh x0), some (.sh x1)]) := runD_of rfl rfl
def dd_cross : He.DefD := ⟨("cross", none), "cross", "cross", defArgs s_cross, defBody s_cross, defScope s_cross, [], []⟩
abbrev s_led_past : Stmt := topS 21
theorem sc_led_past : FnScope ["edit", "other", "stands_first", "begin", "end", "text", "first", "last", "more", "both_insert", "shift"] ["edit", "other", "stands_first"] (defScope s_led_past) := ⟨rfl, rfl, rfl, by decide +kernel, rfl, by decide +kernel, by decide +kernel⟩
def b_led_past (n : Nat) : Dn.Env → So := 
(seqS (ifS (tru (toC (callX (d_cross n) (consA (cX 0) (consA (cX 1) nilA))))) (seqS (raiseS "Crossing")
 .nx) .nx)
 (seqS (tgtS (tupE 3 (consE (setE 3) (consE (setE 4) (consE (setE 5) nilE)))) (cX 0))
 (seqS (tgtS (tupE 3 (consE (setE 6) (consE (setE 7) (consE (setE 8) nilE)))) (cX 1))
 (seqS (setS 9 (toO (andX (op2 eqR (cX 3) (cX 4)) (andX (op2 eqR (cX 6) (cX 7)) (op2 eqR (cX 3) (cX 6))))))
 (seqS (ifS (orT (tst (op2 gtR (cX 7) (cX 3))) (andT (tru (cX 9)) (tru (cX 2)))) (seqS (retS (toO (cX 0)))
 .nx) .nx)
 (seqS (setS 10 (toO (op2 subR (op1 lenR (cX 8)) (op2 subR (cX 7) (cX 6)))))
 (seqS (retS (toO (tupX (consA (op2 addR (cX 3) (cX 10)) (consA (op2 addR (cX 4) (cX 10)) (consA (cX 5) nilA))))))
 .nx)))))))
def d_led_past (n : Nat) : List D → Rs T := runD 3 11 (b_led_past n)
theorem e_led_past (n : Nat) (x0 x1 x2 : D) : d_led_past n [x0, x1, x2] = retR (b_led_past n [some (.sh x0), some (.sh x1), some (.sh x2), none, none, none, none, none, none, none, none]) := runD_of rfl rfl
def dd_led_past : He.DefD := ⟨("led_past", none), "led_past", "led_past", defArgs s_led_past, defBody s_led_past, defScope s_led_past, [], []⟩
abbrev s__law_told : Stmt := topS 30
theorem sc__law_told : FnScope ["edit", "other", "first"] ["edit", "other", "first"] (defScope s__law_told) := ⟨rfl, rfl, rfl, by decide +kernel, rfl, by decide +kernel, by decide +kernel⟩
def b__law_told (n : Nat) : Dn.Env → So := 
(seqS (tryS kt_Crossing (seqS (retS (callX (d_led_past n) (consA (cX 0) (consA (cX 1) (consA (cX 2) nilA)))))
 .nx) (seqS (retS (toO (tupX (consA (kX (.str "refused")) (consA (kX (.str "crossing")) nilA)))))
 .nx))
 .nx)
def d__law_told (n : Nat) : List D → Rs T := runD 3 3 (b__law_told n)
theorem e__law_told (n : Nat) (x0 x1 x2 : D) : d__law_told n [x0, x1, x2] = retR (b__law_told n [some (.sh x0), some (.sh x1), some (.sh x2)]) := runD_of rfl rfl
def dd__law_told : He.DefD := ⟨("_law_told", none), "_law_told", "_law_told", defArgs s__law_told, defBody s__law_told, defScope s__law_told, [], []⟩
abbrev s__law_due : Stmt := topS 31
theorem sc__law_due : FnScope ["edit", "other", "first", "begin", "end", "text", "shift"] ["edit", "other", "first"] (defScope s__law_due) := ⟨rfl, rfl, rfl, by decide +kernel, rfl, by decide +kernel, by decide +kernel⟩
def b__law_due (n : Nat) : Dn.Env → So := 
(seqS (ifS (tru (toC (callX (d__law_cross n) (consA (cX 0) (consA (cX 1) nilA))))) (seqS (retS (toO (tupX (consA (kX (.str "refused")) (consA (kX (.str "crossing")) nilA)))))
 .nx) .nx)
 (seqS (tgtS (tupE 3 (consE (setE 3) (consE (setE 4) (consE (setE 5) nilE)))) (cX 0))
 (seqS (setS 6 (toO (op2 addR (op2 subR (op1 lenR (op2 ixA (cX 1) (kX (.int 2)))) (op2 ixA (cX 1) (kX (.int 1)))) (op2 ixA (cX 1) (kX (.int 0))))))
 (seqS (ifS (andT (tst (op2 eqR (cX 3) (cX 4))) (andT (tst (op2 eqR (op2 ixA (cX 1) (kX (.int 0))) (op2 ixA (cX 1) (kX (.int 1))))) (tst (op2 eqR (cX 3) (op2 ixA (cX 1) (kX (.int 0))))))) (seqS (ifS (tru (cX 2)) (seqS (retS (toO (cX 0)))
 .nx) .nx)
 (seqS (retS (toO (tupX (consA (op2 addR (cX 3) (cX 6)) (consA (op2 addR (cX 4) (cX 6)) (consA (cX 5) nilA))))))
 .nx)) .nx)
 (seqS (ifS (andT (tst (op2 eqR (cX 3) (cX 4))) (tst (op2 eqR (cX 3) (op2 ixA (cX 1) (kX (.int 0)))))) (seqS (retS (toO (cX 0)))
 .nx) .nx)
 (seqS (ifS (tst (op2 geR (cX 3) (op2 ixA (cX 1) (kX (.int 1))))) (seqS (retS (toO (tupX (consA (op2 addR (cX 3) (cX 6)) (consA (op2 addR (cX 4) (cX 6)) (consA (cX 5) nilA))))))
 .nx) .nx)
 (seqS (retS (toO (cX 0)))
 .nx)))))))
def d__law_due (n : Nat) : List D → Rs T := runD 3 7 (b__law_due n)
theorem e__law_due (n : Nat) (x0 x1 x2 : D) : d__law_due n [x0, x1, x2] = retR (b__law_due n [some (.sh x0), some (.sh x1), some (.sh x2), none, none, none, none]) := runD_of rfl rfl
def dd__law_due : He.DefD := ⟨("_law_due", none), "_law_due", "_law_due", defArgs s__law_due, defBody s__law_due, defScope s__law_due, [], []⟩
abbrev s__law_put : Stmt := topS 28
theorem sc__law_put : FnScope ["text", "edit"] ["text", "edit"] (defScope s__law_put) := ⟨rfl, rfl, rfl, by decide +kernel, rfl, by decide +kernel, by decide +kernel⟩
def b__law_put (n : Nat) : Dn.Env → So := 
(seqS (retS (toO (op2 addR (op2 addR (toC (slX (cX 0) noI (toI (op2 ixA (cX 1) (kX (.int 0)))))) (op2 ixA (cX 1) (kX (.int 2)))) (toC (slX (cX 0) (toI (op2 ixA (cX 1) (kX (.int 1)))) noI)))))
 .nx)
def d__law_put (n : Nat) : List D → Rs T := runD 2 2 (b__law_put n)
theorem e__law_put (n : Nat) (x0 x1 : D) : d__law_put n [x0, x1] = retR (b__law_put n [some (.sh x0), some (.sh x1)]) := runD_of rfl rfl
def dd__law_put : He.DefD := ⟨("_law_put", none), "_law_put", "_law_put", defArgs s__law_put, defBody s__law_put, defScope s__law_put, [], []⟩
abbrev s_is_integer : Stmt := topS 10
theorem sc_is_integer : FnScope ["value"] ["value"] (defScope s_is_integer) := ⟨rfl, rfl, rfl, by decide +kernel, rfl, by decide +kernel, by decide +kernel⟩
def b_is_integer (n : Nat) : Dn.Env → So := 
(seqS (retS (toO (andX (op1 (isiR .int) (cX 0)) (notX (op1 (isiR .bool) (cX 0))))))
 .nx)
def d_is_integer (n : Nat) : List D → Rs T := runD 1 1 (b_is_integer n)
theorem e_is_integer (n : Nat) (x0 : D) : d_is_integer n [x0] = retR (b_is_integer n [some (.sh x0)]) := runD_of rfl rfl
def dd_is_integer : He.DefD := ⟨("is_integer", none), "is_integer", "is_integer", defArgs s_is_integer, defBody s_is_integer, defScope s_is_integer, [], []⟩
abbrev s_is_within : Stmt := topS 11
theorem sc_is_within : FnScope ["value", "least", "greatest"] ["value", "least", "greatest"] (defScope s_is_within) := ⟨rfl, rfl, rfl, by decide +kernel, rfl, by decide +kernel, by decide +kernel⟩
def b_is_within (n : Nat) : Dn.Env → So := 
(seqS (retS (toO (andX (toC (callX (d_is_integer n) (consA (cX 0) nilA))) (chX leR leR (cX 1) (cX 0) (cX 2)))))
 .nx)
def d_is_within (n : Nat) : List D → Rs T := runD 3 3 (b_is_within n)
theorem e_is_within (n : Nat) (x0 x1 x2 : D) : d_is_within n [x0, x1, x2] = retR (b_is_within n [some (.sh x0), some (.sh x1), some (.sh x2)]) := runD_of rfl rfl
def dd_is_within : He.DefD := ⟨("is_within", none), "is_within", "is_within", defArgs s_is_within, defBody s_is_within, defScope s_is_within, [], []⟩
abbrev s_is_sign : Stmt := topS 12
theorem sc_is_sign : FnScope ["sign"] ["sign"] (defScope s_is_sign) := ⟨rfl, rfl, rfl, by decide +kernel, rfl, by decide +kernel, by decide +kernel⟩
def b_is_sign (n : Nat) : Dn.Env → So := 
(seqS (retS (toO (orX (op2 eqR (cX 0) (kX (.str "\n"))) (chX leR leR (kX (.str " ")) (cX 0) (kX (.str "~"))))))
 .nx)
def d_is_sign (n : Nat) : List D → Rs T := runD 1 1 (b_is_sign n)
theorem e_is_sign (n : Nat) (x0 : D) : d_is_sign n [x0] = retR (b_is_sign n [some (.sh x0)]) := runD_of rfl rfl
def dd_is_sign : He.DefD := ⟨("is_sign", none), "is_sign", "is_sign", defArgs s_is_sign, defBody s_is_sign, defScope s_is_sign, [], []⟩
abbrev s_is_text : Stmt := topS 13
theorem sc_is_text : FnScope ["value", "most", "sign"] ["value", "most"] (defScope s_is_text) := ⟨rfl, rfl, rfl, by decide +kernel, rfl, by decide +kernel, by decide +kernel⟩
def b_is_text (n : Nat) : Dn.Env → So := 
(seqS (retS (toO (andX (op1 (isiR .str) (cX 0)) (andX (op2 leR (op1 lenR (cX 0)) (cX 1)) (op1 (allR fun bs => bs.all id) (toC (lcX [2] (setE 2) yesT (callX (d_is_sign n) (consA (cX 2) nilA)) (itX itemsR (cX 0)))))))))
 .nx)
def d_is_text (n : Nat) : List D → Rs T := runD 2 3 (b_is_text n)
theorem e_is_text (n : Nat) (x0 x1 : D) : d_is_text n [x0, x1] = retR (b_is_text n [some (.sh x0), some (.sh x1), none]) := runD_of rfl rfl
def dd_is_text : He.DefD := ⟨("is_text", none), "is_text", "is_text", defArgs s_is_text, defBody s_is_text, defScope s_is_text, [], []⟩
abbrev s_check_offered : Stmt := topS 14
theorem sc_check_offered : FnScope ["value"] ["value"] (defScope s_check_offered) := ⟨rfl, rfl, rfl, by decide +kernel, rfl, by decide +kernel, by decide +kernel⟩
def b_check_offered (n : Nat) : Dn.Env → So := 
(seqS (ifS (notT (tru (toC (callX (d_is_text n) (consA (cX 0) (consA (kX (.int 400)) nilA)))))) (seqS (raiseS "BadText")
 .nx) .nx)
 .nx)
def d_check_offered (n : Nat) : List D → Rs T := runD 1 1 (b_check_offered n)
theorem e_check_offered (n : Nat) (x0 : D) : d_check_offered n [x0] = retR (b_check_offered n [some (.sh x0)]) := runD_of rfl rfl
def dd_check_offered : He.DefD := ⟨("check_offered", none), "check_offered", "check_offered", defArgs s_check_offered, defBody s_check_offered, defScope s_check_offered, [], []⟩
abbrev s_check_edit : Stmt := topS 18
theorem sc_check_edit : FnScope ["text", "edit", "begin", "end", "more"] ["text", "edit"] (defScope s_check_edit) := ⟨rfl, rfl, rfl, by decide +kernel, rfl, by decide +kernel, by decide +kernel⟩
def b_check_edit (n : Nat) : Dn.Env → So := 
(seqS (tgtS (tupE 3 (consE (setE 2) (consE (setE 3) (consE (setE 4) nilE)))) (cX 1))
 (seqS (ifS (orT (notT (tru (toC (callX (d_is_within n) (consA (cX 2) (consA (kX (.int 0)) (consA (op1 lenR (cX 0)) nilA))))))) (orT (notT (tru (toC (callX (d_is_within n) (consA (cX 3) (consA (kX (.int 0)) (consA (op1 lenR (cX 0)) nilA))))))) (tst (op2 gtR (cX 2) (cX 3))))) (seqS (raiseS "BadSpan")
 .nx) .nx)
 (seqS (exprS (callX (d_check_offered n) (consA (cX 4) nilA)))
 (seqS (ifS (andT (tst (op2 eqR (cX 2) (cX 3))) (tst (op2 eqR (cX 4) (kX (.str ""))))) (seqS (raiseS "NoChange")
 .nx) .nx)
 .nx))))
def d_check_edit (n : Nat) : List D → Rs T := runD 2 5 (b_check_edit n)
theorem e_check_edit (n : Nat) (x0 x1 : D) : d_check_edit n [x0, x1] = retR (b_check_edit n [some (.sh x0), some (.sh x1), none, none, none]) := runD_of rfl rfl
def dd_check_edit : He.DefD := ⟨("check_edit", none), "check_edit", "check_edit", defArgs s_check_edit, defBody s_check_edit, defScope s_check_edit, [], []⟩
abbrev s_applied : Stmt := topS 19
theorem sc_applied : FnScope ["text", "edit", "begin", "end", "more"] ["text", "edit"] (defScope s_applied) := ⟨rfl, rfl, rfl, by decide +kernel, rfl, by decide +kernel, by decide +kernel⟩
def b_applied (n : Nat) : Dn.Env → So := 
(seqS (exprS (callX (d_check_edit n) (consA (cX 0) (consA (cX 1) nilA))))
 (seqS (tgtS (tupE 3 (consE (setE 2) (consE (setE 3) (consE (setE 4) nilE)))) (cX 1))
 (seqS (retS (toO (op2 addR (op2 addR (toC (slX (cX 0) noI (toI (cX 2)))) (cX 4)) (toC (slX (cX 0) (toI (cX 3)) noI)))))
 .nx)))
def d_applied (n : Nat) : List D → Rs T := runD 2 5 (b_applied n)
theorem e_applied (n : Nat) (x0 x1 : D) : d_applied n [x0, x1] = retR (b_applied n [some (.sh x0), some (.sh x1), none, none, none]) := runD_of rfl rfl
def dd_applied : He.DefD := ⟨("applied", none), "applied", "applied", defArgs s_applied, defBody s_applied, defScope s_applied, [], []⟩
abbrev s_joined_edit : Stmt := topS 22
theorem sc_joined_edit : FnScope ["text", "edits", "after", "edit", "begin", "same"] ["text", "edits"] (defScope s_joined_edit) := ⟨rfl, rfl, rfl, by decide +kernel, rfl, by decide +kernel, by decide +kernel⟩
def b_joined_edit (n : Nat) : Dn.Env → So := 
(seqS (setS 2 (toO (cX 0)))
 (seqS (forS (itX itemsR (cX 1)) (setE 3) (seqS (setS 2 (toO (toC (callX (d_applied n) (consA (cX 2) (consA (cX 3) nilA))))))
 .nx))
 (seqS (ifS (tst (op2 eqR (cX 2) (cX 0))) (seqS (retS (toO (kX .non)))
 .nx) .nx)
 (seqS (setS 4 (toO (kX (.int 0))))
 (seqS (whileR (andT (tst (op2 ltR (cX 4) (op2 minR (op1 lenR (cX 0)) (op1 lenR (cX 2))))) (tst (op2 eqR (op2 ixA (cX 0) (cX 4)) (op2 ixA (cX 2) (cX 4))))) (seqS (augS 4 addR (kX (.int 1)))
 .nx) n)
 (seqS (setS 5 (toO (kX (.int 0))))
 (seqS (whileR (andT (tst (op2 ltR (cX 5) (op2 subR (op2 minR (op1 lenR (cX 0)) (op1 lenR (cX 2))) (cX 4)))) (tst (op2 eqR (op2 ixA (cX 0) (op2 subR (op1 negR (kX (.int 1))) (cX 5))) (op2 ixA (cX 2) (op2 subR (op1 negR (kX (.int 1))) (cX 5)))))) (seqS (augS 5 addR (kX (.int 1)))
 .nx) n)
 (seqS (retS (toO (tupX (consA (cX 4) (consA (op2 subR (op1 lenR (cX 0)) (cX 5)) (consA (toC (slX (cX 2) (toI (cX 4)) (toI (op2 subR (op1 lenR (cX 2)) (cX 5))))) nilA))))))
 .nx))))))))
def d_joined_edit (n : Nat) : List D → Rs T := runD 2 6 (b_joined_edit n)
theorem e_joined_edit (n : Nat) (x0 x1 : D) : d_joined_edit n [x0, x1] = retR (b_joined_edit n [some (.sh x0), some (.sh x1), none, none, none, none]) := runD_of rfl rfl
def dd_joined_edit : He.DefD := ⟨("joined_edit", none), "joined_edit", "joined_edit", defArgs s_joined_edit, defBody s_joined_edit, defScope s_joined_edit, [], []⟩
abbrev s__law_joined : Stmt := topS 32
theorem sc__law_joined : FnScope ["text", "after", "begin", "k", "same"] ["text", "after"] (defScope s__law_joined) := ⟨rfl, rfl, rfl, by decide +kernel, rfl, by decide +kernel, by decide +kernel⟩
def b__law_joined (n : Nat) : Dn.Env → So := 
(seqS (ifS (tst (op2 eqR (cX 0) (cX 1))) (seqS (retS (toO (kX .non)))
 .nx) .nx)
 (seqS (setS 2 (toO (kX (.int 0))))
 (seqS (forS (itX rng1R (op2 minR (op1 lenR (cX 0)) (op1 lenR (cX 1)))) (setE 3) (seqS (ifS (andT (tst (op2 eqR (cX 2) (cX 3))) (tst (op2 eqR (op2 ixA (cX 0) (cX 3)) (op2 ixA (cX 1) (cX 3))))) (seqS (setS 2 (toO (op2 addR (cX 3) (kX (.int 1)))))
 .nx) .nx)
 .nx))
 (seqS (setS 4 (toO (kX (.int 0))))
 (seqS (forS (itX rng1R (op2 subR (op2 minR (op1 lenR (cX 0)) (op1 lenR (cX 1))) (cX 2))) (setE 3) (seqS (ifS (andT (tst (op2 eqR (cX 4) (cX 3))) (tst (op2 eqR (op2 ixA (cX 0) (op2 subR (op2 subR (op1 lenR (cX 0)) (kX (.int 1))) (cX 3))) (op2 ixA (cX 1) (op2 subR (op2 subR (op1 lenR (cX 1)) (kX (.int 1))) (cX 3)))))) (seqS (setS 4 (toO (op2 addR (cX 3) (kX (.int 1)))))
 .nx) .nx)
 .nx))
 (seqS (retS (toO (tupX (consA (cX 2) (consA (op2 subR (op1 lenR (cX 0)) (cX 4)) (consA (toC (slX (cX 1) (toI (cX 2)) (toI (op2 subR (op1 lenR (cX 1)) (cX 4))))) nilA))))))
 .nx))))))
def d__law_joined (n : Nat) : List D → Rs T := runD 2 5 (b__law_joined n)
theorem e__law_joined (n : Nat) (x0 x1 : D) : d__law_joined n [x0, x1] = retR (b__law_joined n [some (.sh x0), some (.sh x1), none, none, none]) := runD_of rfl rfl
def dd__law_joined : He.DefD := ⟨("_law_joined", none), "_law_joined", "_law_joined", defArgs s__law_joined, defBody s__law_joined, defScope s__law_joined, [], []⟩
abbrev s_law : Stmt := topS 33
theorem sc_law : FnScope ["script", "numbers", "text", "one", "two", "crossing", "first", "edits", "after", "k", "edit", "left", "right", "before"] ["script"] (defScope s_law) := ⟨rfl, rfl, rfl, by decide +kernel, rfl, by decide +kernel, by decide +kernel⟩
def b_law (n : Nat) : Dn.Env → So := 
(seqS (setS 1 (toO (toC (callX (d__law_numbers n) (consA (cX 0) (consA (kX (.int 60)) nilA))))))
 (seqS (setS 2 (toO (toC (callX (d__law_text n) (consA (cX 1) (consA (kX (.int 10)) (consA (op2 modR (op2 ixA (cX 1) (kX (.int 0))) (kX (.int 11))) (consA (kX (.int 0)) nilA))))))))
 (seqS (setS 3 (toO (toC (callX (d__law_edit n) (consA (cX 1) (consA (kX (.int 20)) (consA (cX 2) nilA)))))))
 (seqS (setS 4 (toO (toC (callX (d__law_edit n) (consA (cX 1) (consA (kX (.int 23)) (consA (cX 2) nilA)))))))
 (seqS (ifS (tst (op2 eqR (op2 modR (op2 ixA (cX 1) (kX (.int 1))) (kX (.int 3))) (kX (.int 0)))) (seqS (setS 4 (toO (tupX (consA (op2 ixA (cX 3) (kX (.int 0))) (consA (op2 ixA (cX 3) (kX (.int 0))) (consA (op2 addR (op2 ixA (cX 4) (kX (.int 2))) (kX (.str "b"))) nilA))))))
 .nx) .nx)
 (seqS (ifS (tst (op2 eqR (op2 modR (op2 ixA (cX 1) (kX (.int 1))) (kX (.int 3))) (kX (.int 1)))) (seqS (setS 4 (toO (tupX (consA (op2 ixA (cX 3) (kX (.int 1))) (consA (op2 minR (op1 lenR (cX 2)) (op2 addR (op2 ixA (cX 3) (kX (.int 1))) (op2 modR (op2 ixA (cX 1) (kX (.int 2))) (kX (.int 2))))) (consA (op2 addR (op2 ixA (cX 4) (kX (.int 2))) (kX (.str "b"))) nilA))))))
 .nx) .nx)
 (seqS (setS 5 (toO (toC (callX (d__law_cross n) (consA (cX 3) (consA (cX 4) nilA))))))
 (seqS (ifS (orT (notT (tru (toC (callX (d__law_same n) (consA (toC (callX (d_cross n) (consA (cX 3) (consA (cX 4) nilA)))) (consA (cX 5) nilA)))))) (notT (tru (toC (callX (d__law_same n) (consA (toC (callX (d_cross n) (consA (cX 4) (consA (cX 3) nilA)))) (consA (cX 5) nilA))))))) (seqS (retS (toO (kX (.bl false))))
 .nx) .nx)
 (seqS (forS (itX itemsR (toC (lstX (consA (toO (kX (.bl true))) (consA (toO (kX (.bl false))) nilA))))) (setE 6) (seqS (ifS (orT (tst (op2 neR (toC (callX (d__law_told n) (consA (cX 3) (consA (cX 4) (consA (cX 6) nilA))))) (toC (callX (d__law_due n) (consA (cX 3) (consA (cX 4) (consA (cX 6) nilA))))))) (tst (op2 neR (toC (callX (d__law_told n) (consA (cX 4) (consA (cX 3) (consA (cX 6) nilA))))) (toC (callX (d__law_due n) (consA (cX 4) (consA (cX 3) (consA (cX 6) nilA)))))))) (seqS (retS (toO (kX (.bl false))))
 .nx) .nx)
 (seqS (ifS (notT (tru (cX 5))) (seqS (setS 11 (toO (toC (callX (d__law_put n) (consA (toC (callX (d__law_put n) (consA (cX 2) (consA (cX 3) nilA)))) (consA (toC (callX (d__law_told n) (consA (cX 4) (consA (cX 3) (consA (notX (cX 6)) nilA))))) nilA))))))
 (seqS (setS 12 (toO (toC (callX (d__law_put n) (consA (toC (callX (d__law_put n) (consA (cX 2) (consA (cX 4) nilA)))) (consA (toC (callX (d__law_told n) (consA (cX 3) (consA (cX 4) (consA (cX 6) nilA))))) nilA))))))
 (seqS (ifS (tst (op2 neR (cX 11) (cX 12))) (seqS (retS (toO (kX (.bl false))))
 .nx) .nx)
 .nx))) .nx)
 .nx)))
 (seqS (setS 7 (lstX nilA))
 (seqS (setS 8 (toO (cX 2)))
 (seqS (forS (itX rng1R (op2 modR (op2 ixA (cX 1) (kX (.int 3))) (kX (.int 5)))) (setE 9) (seqS (setS 10 (toO (toC (callX (d__law_edit n) (consA (cX 1) (consA (op2 addR (kX (.int 30)) (op2 mulR (kX (.int 3)) (cX 9))) (consA (cX 8) nilA)))))))
 (seqS (ifS (andT (tst (op2 eqR (cX 9) (kX (.int 2)))) (tst (op2 eqR (op2 modR (op2 ixA (cX 1) (kX (.int 4))) (kX (.int 2))) (kX (.int 0))))) (seqS (setS 13 (toO (op2 ixA (sX 7) (kX (.int 1)))))
 (seqS (setS 10 (toO (tupX (consA (op2 ixA (cX 13) (kX (.int 0))) (consA (op2 addR (op2 ixA (cX 13) (kX (.int 0))) (op1 lenR (op2 ixA (cX 13) (kX (.int 2))))) (consA (op2 mulS (kX (.str "a")) (op1 int1R (op2 eqR (op1 lenR (op2 ixA (cX 13) (kX (.int 2)))) (kX (.int 0))))) nilA))))))
 .nx)) .nx)
 (seqS (appS 7 (toO (cX 10)))
 (seqS (setS 8 (toO (toC (callX (d__law_put n) (consA (cX 8) (consA (cX 10) nilA))))))
 .nx)))))
 (seqS (retS (toO (op2 eqR (toC (callX (d_joined_edit n) (consA (cX 2) (consA (toC (op1 listR (sX 7))) nilA)))) (toC (callX (d__law_joined n) (consA (cX 2) (consA (cX 8) nilA)))))))
 .nx)))))))))))))
def d_law (n : Nat) : List D → Rs T := runD 1 14 (b_law n)
theorem e_law (n : Nat) (x0 : D) : d_law n [x0] = retR (b_law n [some (.sh x0), none, none, none, none, none, none, none, none, none, none, none, none, none]) := runD_of rfl rfl
def dd_law : He.DefD := ⟨("law", none), "law", "law", defArgs s_law, defBody s_law, defScope s_law, [], []⟩
def fa : List He.Fa := [.free "int", .free "len", .free "range", .free "min", .free "isinstance", .free "bool", .exc "Crossing", .glo "Crossing", .exc "BadSpan", .glo "BadSpan", .free "str", .str "FIRST_SIGN" " ", .str "LAST_SIGN" "~", .free "all", .int "MOST_TEXT" 400, .exc "BadText", .glo "BadText", .exc "NoChange", .glo "NoChange", .free "list", .exm "OfferError" "Crossing" false, .exm "BadText" "Crossing" false, .exm "BadSpan" "Crossing" false, .exm "NoChange" "Crossing" false, .exm "Crossing" "Crossing" true, .glo "_law_numbers", .glo "_law_text", .glo "_law_edit", .glo "_law_cross", .glo "_law_same", .glo "spans_clash", .glo "cross", .glo "led_past", .glo "_law_told", .glo "_law_due", .glo "_law_put", .glo "is_integer", .glo "is_within", .glo "is_sign", .glo "is_text", .glo "check_offered", .glo "check_edit", .glo "applied", .glo "joined_edit", .glo "_law_joined", .glo "law"]
def fn : List He.DefD := [dd__law_numbers, dd__law_text, dd__law_edit, dd__law_cross, dd__law_same, dd_spans_clash, dd_cross, dd_led_past, dd__law_told, dd__law_due, dd__law_put, dd_is_integer, dd_is_within, dd_is_sign, dd_is_text, dd_check_offered, dd_check_edit, dd_applied, dd_joined_edit, dd__law_joined, dd_law]
theorem ok_kt_Crossing {K : PySem.W.Frag} (c : He.SaysD fa fn K) : ∀ x b, kt_Crossing x = some b → PySem.W.exmOne K (.ref (He.ga K x)) (.ref (He.ga K "Crossing")) = some b := by
  intro x b h
  unfold kt_Crossing at h
  by_cases e : x = "OfferError"
  · subst e
    rw [if_pos rfl] at h
    cases h
    exact He.exm_ok (c.fact 20 rfl)
  rw [if_neg e] at h
  clear e
  by_cases e : x = "BadText"
  · subst e
    rw [if_pos rfl] at h
    cases h
    exact He.exm_ok (c.fact 21 rfl)
  rw [if_neg e] at h
  clear e
  by_cases e : x = "BadSpan"
  · subst e
    rw [if_pos rfl] at h
    cases h
    exact He.exm_ok (c.fact 22 rfl)
  rw [if_neg e] at h
  clear e
  by_cases e : x = "NoChange"
  · subst e
    rw [if_pos rfl] at h
    cases h
    exact He.exm_ok (c.fact 23 rfl)
  rw [if_neg e] at h
  clear e
  by_cases e : x = "Crossing"
  · subst e
    rw [if_pos rfl] at h
    cases h
    exact He.exm_ok (c.fact 24 rfl)
  rw [if_neg e] at h
  clear e
  cases h
theorem ok__law_numbers {P : Program} {w : World} {K : PySem.W.Frag} {mg : Str → Option Value} {base : Heap} (XK : K.In base) (G : base.Ns mainGlobals mg) (c : He.SaysD fa fn K) (n : Nat) : FnD P w K mg base 1 "_law_numbers" (d__law_numbers n) := by
  obtain ⟨fd, F⟩ := c.def_ 0 (d := dd__law_numbers) rfl
  refine fnD_of (k := 0) F sc__law_numbers (He.glo_ok XK G (c.fact 25 rfl)) (FunD.bindsN F fun _ _ _ _ _ _ us hl => match us, hl with | [_, _], _ => rfl) (fun cdv A outer s H E B => ?_)
  exact (ss_cons (s_set (i := 2) B.nd rfl (Or.inl rfl) (jlst jao_nil)) (ss_cons (s_set (i := 3) B.nd rfl (Or.inl rfl) (c2o jint)) (ss_cons (s_for (is := [4]) B.hp B.hc (dany (jvC (pv 0))) (gname (pg_name (i := 4) B.nd rfl (Or.inl rfl))) (ss_cons (s_set (i := 3) B.nd rfl (Or.inl rfl) (c2o (jmod (c2p (jint1 (He.free_ok XK G (c.fact 0 rfl)) (c2p (jadd (c2p (jmul (c2p (jvC (pv 3))) (c2p jint))) (c2p (jvC (pv 4))))))) (c2p jint)))) ss_nil)) (ss_cons (s_set (i := 5) B.nd rfl (Or.inl rfl) (c2o jint)) (ss_cons (s_if (DW.dt (wand (tgt (c2p (jlen (He.free_ok XK G (c.fact 1 rfl)) (c2p (jvC (pv 0))))) (c2p jint)) (wand1 (tge (c2p (jix B.u1 (c2s (jvC (pv 0))) (c2p jint))) (c2p jint))))) (ss_cons (s_set (i := 5) B.nd rfl (Or.inl rfl) (c2o (jix B.u1 (c2s (jvC (pv 0))) (c2p jint)))) ss_nil) ss_nil) (ss_cons (s_for (is := [6]) B.hp B.hc (drng1 (He.free_ok XK G (c.fact 2 rfl)) (c2p (jvC (pv 1)))) (gname (pg_name (i := 6) B.nd rfl (Or.inl rfl))) (ss_cons (s_if (tgt (c2p (jvC (pv 5))) (c2p jint)) (ss_cons (s_app (i := 2) (pv 2) (c2o (jmod (c2p (jvC (pv 5))) (c2p jint)))) (ss_cons (s_set (i := 5) B.nd rfl (Or.inl rfl) (c2o (jfdiv (c2p (jvC (pv 5))) (c2p jint)))) ss_nil)) (ss_cons (s_set (i := 7) B.nd rfl (Or.inl rfl) (c2o jint)) (ss_cons (s_if (tgt (c2p (jlen (He.free_ok XK G (c.fact 1 rfl)) (c2p (jvC (pv 0))))) (c2p jint)) (ss_cons (s_set (i := 7) B.nd rfl (Or.inl rfl) (c2o (jint1 (He.free_ok XK G (c.fact 0 rfl)) (c2p (jix B.u1 (c2s (jvC (pv 0))) (c2p (jmod (c2p (jvC (pv 6))) (c2p (jlen (He.free_ok XK G (c.fact 1 rfl)) (c2p (jvC (pv 0)))))))))))) ss_nil) ss_nil) (ss_cons (s_set (i := 3) B.nd rfl (Or.inl rfl) (c2o (jmod (c2p (jint1 (He.free_ok XK G (c.fact 0 rfl)) (c2p (jadd (c2p (jadd (c2p (jmul (c2p (jvC (pv 3))) (c2p jint))) (c2p (jvC (pv 7))))) (c2p (jvC (pv 6))))))) (c2p jint)))) (ss_cons (s_app (i := 2) (pv 2) (c2o (jmod (c2p (jfdiv (c2p (jmod (c2p (jint1 (He.free_ok XK G (c.fact 0 rfl)) (c2p (jadd (c2p (jmul (c2p (jvC (pv 3))) (c2p jint))) (c2p (jmul (c2p (jvC (pv 6))) (c2p jint))))))) (c2p jint))) (c2p jint))) (c2p jint)))) ss_nil))))) ss_nil)) (ss_cons (s_retV (i := 2) (pv 2)) ss_nil)))))))

theorem ok__law_text {P : Program} {w : World} {K : PySem.W.Frag} {mg : Str → Option Value} {base : Heap} (XK : K.In base) (G : base.Ns mainGlobals mg) (c : He.SaysD fa fn K) (n : Nat) : FnD P w K mg base 1 "_law_text" (d__law_text n) := by
  obtain ⟨fd, F⟩ := c.def_ 1 (d := dd__law_text) rfl
  refine fnD_of (k := 0) F sc__law_text (He.glo_ok XK G (c.fact 26 rfl)) (FunD.bindsN F fun _ _ _ _ _ _ us hl => match us, hl with | [_, _, _, _], _ => rfl) (fun cdv A outer s H E B => ?_)
  exact (ss_cons (s_set (i := 4) B.nd rfl (Or.inr rfl) (c2o jstr)) (ss_cons (s_ret (c2o (jjoin (c2p jstr) (c2p (o2c (jlc (own := [("k", 5)]) (is := [5]) B.hc B.nd (drng1 (He.free_ok XK G (c.fact 2 rfl)) (c2p (jvC (pv 2)))) (by show blkC ["numbers", "at", "length", "step", "signs", "k"] (defScope s__law_text) _ [("k", 5)] = true; decide +kernel) (by simp) (fun _ => (gname (pg_name (i := 5) B.nd rfl (Or.inl rfl)))) (fun _ => dts_nil) (fun _ => (c2o (jix B.u1 (c2s (jvC (pv 4))) (c2p (jmod (c2p (jfdiv (c2p (jix B.u1 (c2s (jvC (pv 0))) (c2p (jadd (c2p (jvC (pv 1))) (c2p (jmod (c2p (jvC (pv 5))) (c2p jint))))))) (c2p (jadd (c2p (jadd (c2p jint) (c2p (jvC (pv 3))))) (c2p (jfdiv (c2p (jvC (pv 5))) (c2p jint))))))) (c2p jint)))))))))))) ss_nil))

theorem ok__law_edit {P : Program} {w : World} {K : PySem.W.Frag} {mg : Str → Option Value} {base : Heap} (XK : K.In base) (G : base.Ns mainGlobals mg) (c : He.SaysD fa fn K) (n : Nat) : FnD P w K mg base 1 "_law_edit" (d__law_edit n) := by
  obtain ⟨fd, F⟩ := c.def_ 2 (d := dd__law_edit) rfl
  refine fnD_of (k := 0) F sc__law_edit (He.glo_ok XK G (c.fact 27 rfl)) (FunD.bindsN F fun _ _ _ _ _ _ us hl => match us, hl with | [_, _, _], _ => rfl) (fun cdv A outer s H E B => ?_)
  exact (ss_cons (s_set (i := 3) B.nd rfl (Or.inl rfl) (c2o (jlen (He.free_ok XK G (c.fact 1 rfl)) (c2p (jvC (pv 2)))))) (ss_cons (s_set (i := 4) B.nd rfl (Or.inl rfl) (c2o (jmod (c2p (jix B.u1 (c2s (jvC (pv 0))) (c2p (jvC (pv 1))))) (c2p (jadd (c2p (jvC (pv 3))) (c2p jint)))))) (ss_cons (s_set (i := 5) B.nd rfl (Or.inl rfl) (c2o (jadd (c2p (jvC (pv 4))) (c2p (jmod (c2p (jix B.u1 (c2s (jvC (pv 0))) (c2p (jadd (c2p (jvC (pv 1))) (c2p jint))))) (c2p (jsub (c2p (jadd (c2p (jvC (pv 3))) (c2p jint))) (c2p (jvC (pv 4)))))))))) (ss_cons (s_if (teq (c2p (jmod (c2p (jfdiv (c2p (jix B.u1 (c2s (jvC (pv 0))) (c2p (jadd (c2p (jvC (pv 1))) (c2p jint))))) (c2p jint))) (c2p jint))) (c2p jint) B.u64) (ss_cons (s_set (i := 5) B.nd rfl (Or.inl rfl) (c2o (jmin2 B.hc (He.free_ok XK G (c.fact 3 rfl)) (c2p (jvC (pv 3))) (c2p (jadd (c2p (jvC (pv 4))) (c2p (jmod (c2p (jix B.u1 (c2s (jvC (pv 0))) (c2p (jadd (c2p (jvC (pv 1))) (c2p jint))))) (c2p jint)))))))) ss_nil) ss_nil) (ss_cons (s_set (i := 6) B.nd rfl (Or.inl rfl) (c2o (jix B.u1 (c2s (o2c (jlst (jao_cons (c2o jint) (jao_cons (c2o jint) (jao_cons (c2o jint) (jao_cons (c2o jint) (jao_cons (c2o jint) jao_nil)))))))) (c2p (jmod (c2p (jix B.u1 (c2s (jvC (pv 0))) (c2p (jadd (c2p (jvC (pv 1))) (c2p jint))))) (c2p jint)))))) (ss_cons (s_if (DW.dt (wand (teq (c2p (jvC (pv 4))) (c2p (jvC (pv 5))) B.u64) (wand1 (teq (c2p (jvC (pv 6))) (c2p jint) B.u64)))) (ss_cons (s_set (i := 6) B.nd rfl (Or.inl rfl) (c2o jint)) ss_nil) ss_nil) (ss_cons (s_ret (c2o (jtup (jac_cons (jvC (pv 4)) (jac_cons (jvC (pv 5)) (jac_cons (jjoin (c2p jstr) (c2p (o2c (jlc (own := [("j", 7)]) (is := [7]) B.hc B.nd (drng1 (He.free_ok XK G (c.fact 2 rfl)) (c2p (jvC (pv 6)))) (by show blkC ["numbers", "at", "text", "size", "begin", "end", "more", "j"] (defScope s__law_edit) _ [("j", 7)] = true; decide +kernel) (by simp) (fun _ => (gname (pg_name (i := 7) B.nd rfl (Or.inl rfl)))) (fun _ => dts_nil) (fun _ => (c2o (jix B.u1 (c2s jstr) (c2p (jmod (c2p (jfdiv (c2p (jix B.u1 (c2s (jvC (pv 0))) (c2p (jadd (c2p (jvC (pv 1))) (c2p jint))))) (c2p (jadd (c2p jint) (c2p (jvC (pv 7))))))) (c2p jint)))))))))) jac_nil)))))) ss_nil)))))))

theorem ok__law_cross {P : Program} {w : World} {K : PySem.W.Frag} {mg : Str → Option Value} {base : Heap} (XK : K.In base) (G : base.Ns mainGlobals mg) (c : He.SaysD fa fn K) (n : Nat) : FnD P w K mg base 1 "_law_cross" (d__law_cross n) := by
  obtain ⟨fd, F⟩ := c.def_ 3 (d := dd__law_cross) rfl
  refine fnD_of (k := 0) F sc__law_cross (He.glo_ok XK G (c.fact 28 rfl)) (FunD.bindsN F fun _ _ _ _ _ _ us hl => match us, hl with | [_, _], _ => rfl) (fun cdv A outer s H E B => ?_)
  exact (ss_cons (s_if (DW.dt (wand (teq (c2p (jix B.u1 (c2s (jvC (pv 0))) (c2p jint))) (c2p (jix B.u1 (c2s (jvC (pv 0))) (c2p jint))) B.u64) (wand1 (teq (c2p (jix B.u1 (c2s (jvC (pv 1))) (c2p jint))) (c2p (jix B.u1 (c2s (jvC (pv 1))) (c2p jint))) B.u64)))) (ss_cons (s_ret (c2o jbl)) ss_nil) ss_nil) (ss_cons (s_set (i := 2) B.nd rfl (Or.inl rfl) (jlst jao_nil)) (ss_cons (s_for (is := [3, 4, 5]) B.hp B.hc (dany (jtup (jac_cons (jvC (pv 0)) (jac_cons (jvC (pv 1)) jac_nil)))) (gtup B.hc (gcons (gname (pg_name (i := 3) B.nd rfl (Or.inl rfl))) (gcons (gname (pg_name (i := 4) B.nd rfl (Or.inl rfl))) (gcons (gname (pg_name (i := 5) B.nd rfl (Or.inl rfl))) gnil)))) (ss_cons (s_if (teq (c2p (jvC (pv 3))) (c2p (jvC (pv 4))) B.u64) (ss_cons (s_app (i := 2) (pv 2) (c2o (jtup (jac_cons (jmul (c2p jint) (c2p (jvC (pv 3)))) (jac_cons (jmul (c2p jint) (c2p (jvC (pv 3)))) jac_nil))))) ss_nil) (ss_cons (s_app (i := 2) (pv 2) (c2o (jtup (jac_cons (jadd (c2p (jmul (c2p jint) (c2p (jvC (pv 3))))) (c2p jint)) (jac_cons (jsub (c2p (jmul (c2p jint) (c2p (jvC (pv 4))))) (c2p jint)) jac_nil))))) ss_nil)) ss_nil)) (ss_cons (s_ret (c2o (jand (jle (c2p (jix B.u1 (c2s (jix B.u1 (jvS (pv 2)) (c2p jint))) (c2p jint))) (c2p (jix B.u1 (c2s (jix B.u1 (jvS (pv 2)) (c2p jint))) (c2p jint)))) (jand1 (jle (c2p (jix B.u1 (c2s (jix B.u1 (jvS (pv 2)) (c2p jint))) (c2p jint))) (c2p (jix B.u1 (c2s (jix B.u1 (jvS (pv 2)) (c2p jint))) (c2p jint)))))))) ss_nil))))

theorem ok__law_same {P : Program} {w : World} {K : PySem.W.Frag} {mg : Str → Option Value} {base : Heap} (XK : K.In base) (G : base.Ns mainGlobals mg) (c : He.SaysD fa fn K) (n : Nat) : FnD P w K mg base 1 "_law_same" (d__law_same n) := by
  obtain ⟨fd, F⟩ := c.def_ 4 (d := dd__law_same) rfl
  refine fnD_of (k := 0) F sc__law_same (He.glo_ok XK G (c.fact 29 rfl)) (FunD.bindsN F fun _ _ _ _ _ _ us hl => match us, hl with | [_, _], _ => rfl) (fun cdv A outer s H E B => ?_)
  exact (ss_cons (s_ret (c2o (jand (jisi .bool (He.free_ok XK G (c.fact 4 rfl)) (He.free_ok XK G (c.fact 5 rfl)) boot_boolT (c2p (jvC (pv 0)))) (jand1 (jeq B.u64 (c2p (jvC (pv 0))) (c2p (jvC (pv 1)))))))) ss_nil)

theorem ok_spans_clash {P : Program} {w : World} {K : PySem.W.Frag} {mg : Str → Option Value} {base : Heap} (XK : K.In base) (G : base.Ns mainGlobals mg) (c : He.SaysD fa fn K) (n : Nat) : FnD P w K mg base 1 "spans_clash" (d_spans_clash n) := by
  obtain ⟨fd, F⟩ := c.def_ 5 (d := dd_spans_clash) rfl
  refine fnD_of (k := 0) F sc_spans_clash (He.glo_ok XK G (c.fact 30 rfl)) (FunD.bindsN F fun _ _ _ _ _ _ us hl => match us, hl with | [_, _], _ => rfl) (fun cdv A outer s H E B => ?_)
  exact (ss_cons (s_tgt (is := [2, 3]) (gtup B.hc (gcons (gname (pg_name (i := 2) B.nd rfl (Or.inl rfl))) (gcons (gname (pg_name (i := 3) B.nd rfl (Or.inl rfl))) gnil))) (jvC (pv 0))) (ss_cons (s_tgt (is := [4, 5]) (gtup B.hc (gcons (gname (pg_name (i := 4) B.nd rfl (Or.inl rfl))) (gcons (gname (pg_name (i := 5) B.nd rfl (Or.inl rfl))) gnil))) (jvC (pv 1))) (ss_cons (s_if (DW.dt (wand (teq (c2p (jvC (pv 2))) (c2p (jvC (pv 3))) B.u64) (wand1 (teq (c2p (jvC (pv 4))) (c2p (jvC (pv 5))) B.u64)))) (ss_cons (s_ret (c2o jbl)) ss_nil) ss_nil) (ss_cons (s_if (teq (c2p (jvC (pv 2))) (c2p (jvC (pv 3))) B.u64) (ss_cons (s_ret (c2o (jltlt (c2p (jvC (pv 4))) (c2p (jvC (pv 2))) (c2p (jvC (pv 5)))))) ss_nil) ss_nil) (ss_cons (s_if (teq (c2p (jvC (pv 4))) (c2p (jvC (pv 5))) B.u64) (ss_cons (s_ret (c2o (jltlt (c2p (jvC (pv 2))) (c2p (jvC (pv 4))) (c2p (jvC (pv 3)))))) ss_nil) ss_nil) (ss_cons (s_ret (c2o (jand (jlt (c2p (jvC (pv 2))) (c2p (jvC (pv 5)))) (jand1 (jlt (c2p (jvC (pv 4))) (c2p (jvC (pv 3)))))))) ss_nil))))))

theorem ok_cross {P : Program} {w : World} {K : PySem.W.Frag} {mg : Str → Option Value} {base : Heap} (XK : K.In base) (G : base.Ns mainGlobals mg) (c : He.SaysD fa fn K) (n : Nat) : FnD P w K mg base 2 "cross" (d_cross n) := by
  obtain ⟨fd, F⟩ := c.def_ 6 (d := dd_cross) rfl
  refine fnD_of (k := 1) F sc_cross (He.glo_ok XK G (c.fact 31 rfl)) (FunD.bindsN F fun _ _ _ _ _ _ us hl => match us, hl with | [_, _], _ => rfl) (fun cdv A outer s H E B => ?_)
  exact (ss_cons (s_ret (jcall ((ok_spans_clash XK G c n).mono (by decide)) B.hr B.tk (jac_cons (o2c (jsl (c2s (jvC (pv 0))) jpo_none (jpo_some (c2p jint)))) (jac_cons (o2c (jsl (c2s (jvC (pv 1))) jpo_none (jpo_some (c2p jint)))) jac_nil)))) ss_nil)

theorem ok_led_past {P : Program} {w : World} {K : PySem.W.Frag} {mg : Str → Option Value} {base : Heap} (XK : K.In base) (G : base.Ns mainGlobals mg) (c : He.SaysD fa fn K) (n : Nat) : FnD P w K mg base 3 "led_past" (d_led_past n) := by
  obtain ⟨fd, F⟩ := c.def_ 7 (d := dd_led_past) rfl
  refine fnD_of (k := 2) F sc_led_past (He.glo_ok XK G (c.fact 32 rfl)) (FunD.bindsN F fun _ _ _ _ _ _ us hl => match us, hl with | [_, _, _], _ => rfl) (fun cdv A outer s H E B => ?_)
  exact (ss_cons (s_if (jtru (c2p (o2c (jcall ((ok_cross XK G c n).mono (by decide)) B.hr B.tk (jac_cons (jvC (pv 0)) (jac_cons (jvC (pv 1)) jac_nil)))))) (ss_cons (s_raise B.hc B.tk (He.exc_ok (c.fact 6 rfl)).1 (He.glo_ok XK G (c.fact 7 rfl)) (He.exc_ok (c.fact 6 rfl)).2.1 (He.exc_ok (c.fact 6 rfl)).2.2.1 (He.exc_ok (c.fact 6 rfl)).2.2.2) ss_nil) ss_nil) (ss_cons (s_tgt (is := [3, 4, 5]) (gtup B.hc (gcons (gname (pg_name (i := 3) B.nd rfl (Or.inl rfl))) (gcons (gname (pg_name (i := 4) B.nd rfl (Or.inl rfl))) (gcons (gname (pg_name (i := 5) B.nd rfl (Or.inl rfl))) gnil)))) (jvC (pv 0))) (ss_cons (s_tgt (is := [6, 7, 8]) (gtup B.hc (gcons (gname (pg_name (i := 6) B.nd rfl (Or.inl rfl))) (gcons (gname (pg_name (i := 7) B.nd rfl (Or.inl rfl))) (gcons (gname (pg_name (i := 8) B.nd rfl (Or.inl rfl))) gnil)))) (jvC (pv 1))) (ss_cons (s_set (i := 9) B.nd rfl (Or.inl rfl) (c2o (jand (jeq B.u64 (c2p (jvC (pv 3))) (c2p (jvC (pv 4)))) (jand (jeq B.u64 (c2p (jvC (pv 6))) (c2p (jvC (pv 7)))) (jand1 (jeq B.u64 (c2p (jvC (pv 3))) (c2p (jvC (pv 6))))))))) (ss_cons (s_if (DW.dt (wor (tgt (c2p (jvC (pv 7))) (c2p (jvC (pv 3)))) (wor1 (DW.dt (wand (jtru (c2p (jvC (pv 9)))) (wand1 (jtru (c2p (jvC (pv 2)))))))))) (ss_cons (s_ret (c2o (jvC (pv 0)))) ss_nil) ss_nil) (ss_cons (s_set (i := 10) B.nd rfl (Or.inl rfl) (c2o (jsub (c2p (jlen (He.free_ok XK G (c.fact 1 rfl)) (c2p (jvC (pv 8))))) (c2p (jsub (c2p (jvC (pv 7))) (c2p (jvC (pv 6)))))))) (ss_cons (s_ret (c2o (jtup (jac_cons (jadd (c2p (jvC (pv 3))) (c2p (jvC (pv 10)))) (jac_cons (jadd (c2p (jvC (pv 4))) (c2p (jvC (pv 10)))) (jac_cons (jvC (pv 5)) jac_nil)))))) ss_nil)))))))

theorem ok__law_told {P : Program} {w : World} {K : PySem.W.Frag} {mg : Str → Option Value} {base : Heap} (XK : K.In base) (G : base.Ns mainGlobals mg) (c : He.SaysD fa fn K) (n : Nat) : FnD P w K mg base 4 "_law_told" (d__law_told n) := by
  obtain ⟨fd, F⟩ := c.def_ 8 (d := dd__law_told) rfl
  refine fnD_of (k := 3) F sc__law_told (He.glo_ok XK G (c.fact 33 rfl)) (FunD.bindsN F fun _ _ _ _ _ _ us hl => match us, hl with | [_, _, _], _ => rfl) (fun cdv A outer s H E B => ?_)
  exact (ss_cons (s_try kt_Crossing rfl rfl ⟨rfl, by decide, .inl (He.glo_ok XK G (c.fact 7 rfl))⟩ B.tk (ok_kt_Crossing c) (fun W pn xe tk hp => have B := B.tr tk hp; (ss_cons (s_ret (jcall ((ok_led_past XK G c n).mono (by decide)) B.hr B.tk (jac_cons (jvC (pv 0)) (jac_cons (jvC (pv 1)) (jac_cons (jvC (pv 2)) jac_nil))))) ss_nil)) (fun a oe pn => (ss_cons (s_ret (c2o (jtup (jac_cons jstr (jac_cons jstr jac_nil))))) ss_nil))) ss_nil)

theorem ok__law_due {P : Program} {w : World} {K : PySem.W.Frag} {mg : Str → Option Value} {base : Heap} (XK : K.In base) (G : base.Ns mainGlobals mg) (c : He.SaysD fa fn K) (n : Nat) : FnD P w K mg base 2 "_law_due" (d__law_due n) := by
  obtain ⟨fd, F⟩ := c.def_ 9 (d := dd__law_due) rfl
  refine fnD_of (k := 1) F sc__law_due (He.glo_ok XK G (c.fact 34 rfl)) (FunD.bindsN F fun _ _ _ _ _ _ us hl => match us, hl with | [_, _, _], _ => rfl) (fun cdv A outer s H E B => ?_)
  exact (ss_cons (s_if (jtru (c2p (o2c (jcall ((ok__law_cross XK G c n).mono (by decide)) B.hr B.tk (jac_cons (jvC (pv 0)) (jac_cons (jvC (pv 1)) jac_nil)))))) (ss_cons (s_ret (c2o (jtup (jac_cons jstr (jac_cons jstr jac_nil))))) ss_nil) ss_nil) (ss_cons (s_tgt (is := [3, 4, 5]) (gtup B.hc (gcons (gname (pg_name (i := 3) B.nd rfl (Or.inl rfl))) (gcons (gname (pg_name (i := 4) B.nd rfl (Or.inl rfl))) (gcons (gname (pg_name (i := 5) B.nd rfl (Or.inl rfl))) gnil)))) (jvC (pv 0))) (ss_cons (s_set (i := 6) B.nd rfl (Or.inl rfl) (c2o (jadd (c2p (jsub (c2p (jlen (He.free_ok XK G (c.fact 1 rfl)) (c2p (jix B.u1 (c2s (jvC (pv 1))) (c2p jint))))) (c2p (jix B.u1 (c2s (jvC (pv 1))) (c2p jint))))) (c2p (jix B.u1 (c2s (jvC (pv 1))) (c2p jint)))))) (ss_cons (s_if (DW.dt (wand (teq (c2p (jvC (pv 3))) (c2p (jvC (pv 4))) B.u64) (wand (teq (c2p (jix B.u1 (c2s (jvC (pv 1))) (c2p jint))) (c2p (jix B.u1 (c2s (jvC (pv 1))) (c2p jint))) B.u64) (wand1 (teq (c2p (jvC (pv 3))) (c2p (jix B.u1 (c2s (jvC (pv 1))) (c2p jint))) B.u64))))) (ss_cons (s_if (jtru (c2p (jvC (pv 2)))) (ss_cons (s_ret (c2o (jvC (pv 0)))) ss_nil) ss_nil) (ss_cons (s_ret (c2o (jtup (jac_cons (jadd (c2p (jvC (pv 3))) (c2p (jvC (pv 6)))) (jac_cons (jadd (c2p (jvC (pv 4))) (c2p (jvC (pv 6)))) (jac_cons (jvC (pv 5)) jac_nil)))))) ss_nil)) ss_nil) (ss_cons (s_if (DW.dt (wand (teq (c2p (jvC (pv 3))) (c2p (jvC (pv 4))) B.u64) (wand1 (teq (c2p (jvC (pv 3))) (c2p (jix B.u1 (c2s (jvC (pv 1))) (c2p jint))) B.u64)))) (ss_cons (s_ret (c2o (jvC (pv 0)))) ss_nil) ss_nil) (ss_cons (s_if (tge (c2p (jvC (pv 3))) (c2p (jix B.u1 (c2s (jvC (pv 1))) (c2p jint)))) (ss_cons (s_ret (c2o (jtup (jac_cons (jadd (c2p (jvC (pv 3))) (c2p (jvC (pv 6)))) (jac_cons (jadd (c2p (jvC (pv 4))) (c2p (jvC (pv 6)))) (jac_cons (jvC (pv 5)) jac_nil)))))) ss_nil) ss_nil) (ss_cons (s_ret (c2o (jvC (pv 0)))) ss_nil)))))))

theorem ok__law_put {P : Program} {w : World} {K : PySem.W.Frag} {mg : Str → Option Value} {base : Heap} (XK : K.In base) (G : base.Ns mainGlobals mg) (c : He.SaysD fa fn K) (n : Nat) : FnD P w K mg base 1 "_law_put" (d__law_put n) := by
  obtain ⟨fd, F⟩ := c.def_ 10 (d := dd__law_put) rfl
  refine fnD_of (k := 0) F sc__law_put (He.glo_ok XK G (c.fact 35 rfl)) (FunD.bindsN F fun _ _ _ _ _ _ us hl => match us, hl with | [_, _], _ => rfl) (fun cdv A outer s H E B => ?_)
  exact (ss_cons (s_ret (c2o (jadd (c2p (jadd (c2p (o2c (jsl (c2s (jvC (pv 0))) jpo_none (jpo_some (c2p (jix B.u1 (c2s (jvC (pv 1))) (c2p jint))))))) (c2p (jix B.u1 (c2s (jvC (pv 1))) (c2p jint))))) (c2p (o2c (jsl (c2s (jvC (pv 0))) (jpo_some (c2p (jix B.u1 (c2s (jvC (pv 1))) (c2p jint)))) jpo_none)))))) ss_nil)

theorem ok_is_integer {P : Program} {w : World} {K : PySem.W.Frag} {mg : Str → Option Value} {base : Heap} (XK : K.In base) (G : base.Ns mainGlobals mg) (c : He.SaysD fa fn K) (n : Nat) : FnD P w K mg base 1 "is_integer" (d_is_integer n) := by
  obtain ⟨fd, F⟩ := c.def_ 11 (d := dd_is_integer) rfl
  refine fnD_of (k := 0) F sc_is_integer (He.glo_ok XK G (c.fact 36 rfl)) (FunD.bindsN F fun _ _ _ _ _ _ us hl => match us, hl with | [_], _ => rfl) (fun cdv A outer s H E B => ?_)
  exact (ss_cons (s_ret (c2o (jand (jisi .int (He.free_ok XK G (c.fact 4 rfl)) (He.free_ok XK G (c.fact 0 rfl)) boot_intT (c2p (jvC (pv 0)))) (jand1 (jnot (jisi .bool (He.free_ok XK G (c.fact 4 rfl)) (He.free_ok XK G (c.fact 5 rfl)) boot_boolT (c2p (jvC (pv 0))))))))) ss_nil)

theorem ok_is_within {P : Program} {w : World} {K : PySem.W.Frag} {mg : Str → Option Value} {base : Heap} (XK : K.In base) (G : base.Ns mainGlobals mg) (c : He.SaysD fa fn K) (n : Nat) : FnD P w K mg base 2 "is_within" (d_is_within n) := by
  obtain ⟨fd, F⟩ := c.def_ 12 (d := dd_is_within) rfl
  refine fnD_of (k := 1) F sc_is_within (He.glo_ok XK G (c.fact 37 rfl)) (FunD.bindsN F fun _ _ _ _ _ _ us hl => match us, hl with | [_, _, _], _ => rfl) (fun cdv A outer s H E B => ?_)
  exact (ss_cons (s_ret (c2o (jand (o2c (jcall ((ok_is_integer XK G c n).mono (by decide)) B.hr B.tk (jac_cons (jvC (pv 0)) jac_nil))) (jand1 (jlele (c2p (jvC (pv 1))) (c2p (jvC (pv 0))) (c2p (jvC (pv 2)))))))) ss_nil)

theorem ok_is_sign {P : Program} {w : World} {K : PySem.W.Frag} {mg : Str → Option Value} {base : Heap} (XK : K.In base) (G : base.Ns mainGlobals mg) (c : He.SaysD fa fn K) (n : Nat) : FnD P w K mg base 1 "is_sign" (d_is_sign n) := by
  obtain ⟨fd, F⟩ := c.def_ 13 (d := dd_is_sign) rfl
  refine fnD_of (k := 0) F sc_is_sign (He.glo_ok XK G (c.fact 38 rfl)) (FunD.bindsN F fun _ _ _ _ _ _ us hl => match us, hl with | [_], _ => rfl) (fun cdv A outer s H E B => ?_)
  exact (ss_cons (s_ret (c2o (jor (jeq B.u64 (c2p (jvC (pv 0))) (c2p jstr)) (jor1 (jlele (c2p (jgstr rfl (He.str_ok XK G (c.fact 11 rfl)))) (c2p (jvC (pv 0))) (c2p (jgstr rfl (He.str_ok XK G (c.fact 12 rfl))))))))) ss_nil)

theorem ok_is_text {P : Program} {w : World} {K : PySem.W.Frag} {mg : Str → Option Value} {base : Heap} (XK : K.In base) (G : base.Ns mainGlobals mg) (c : He.SaysD fa fn K) (n : Nat) : FnD P w K mg base 2 "is_text" (d_is_text n) := by
  obtain ⟨fd, F⟩ := c.def_ 14 (d := dd_is_text) rfl
  refine fnD_of (k := 1) F sc_is_text (He.glo_ok XK G (c.fact 39 rfl)) (FunD.bindsN F fun _ _ _ _ _ _ us hl => match us, hl with | [_, _], _ => rfl) (fun cdv A outer s H E B => ?_)
  exact (ss_cons (s_ret (c2o (jand (jisi .str (He.free_ok XK G (c.fact 4 rfl)) (He.free_ok XK G (c.fact 10 rfl)) boot_strT (c2p (jvC (pv 0)))) (jand (jle (c2p (jlen (He.free_ok XK G (c.fact 1 rfl)) (c2p (jvC (pv 0))))) (c2p (jvC (pv 1)))) (jand1 (jall B.hc (He.free_ok XK G (c.fact 13 rfl)) (c2p (o2c (jlc (own := [("sign", 2)]) (is := [2]) B.hc B.nd (dany (jvC (pv 0))) (by show blkC ["value", "most", "sign"] (defScope s_is_text) _ [("sign", 2)] = true; decide +kernel) (by simp) (fun _ => (gname (pg_name (i := 2) B.nd rfl (Or.inl rfl)))) (fun _ => dts_nil) (fun _ => (jcall ((ok_is_sign XK G c n).mono (by decide)) B.hr takes0 (jac_cons (jvC (pv 2)) jac_nil)))))))))))) ss_nil)

theorem ok_check_offered {P : Program} {w : World} {K : PySem.W.Frag} {mg : Str → Option Value} {base : Heap} (XK : K.In base) (G : base.Ns mainGlobals mg) (c : He.SaysD fa fn K) (n : Nat) : FnD P w K mg base 3 "check_offered" (d_check_offered n) := by
  obtain ⟨fd, F⟩ := c.def_ 15 (d := dd_check_offered) rfl
  refine fnD_of (k := 2) F sc_check_offered (He.glo_ok XK G (c.fact 40 rfl)) (FunD.bindsN F fun _ _ _ _ _ _ us hl => match us, hl with | [_], _ => rfl) (fun cdv A outer s H E B => ?_)
  exact (ss_cons (s_if (tnot (jtru (c2p (o2c (jcall ((ok_is_text XK G c n).mono (by decide)) B.hr B.tk (jac_cons (jvC (pv 0)) (jac_cons (jgint rfl (He.int_ok XK G (c.fact 14 rfl))) jac_nil))))))) (ss_cons (s_raise B.hc B.tk (He.exc_ok (c.fact 15 rfl)).1 (He.glo_ok XK G (c.fact 16 rfl)) (He.exc_ok (c.fact 15 rfl)).2.1 (He.exc_ok (c.fact 15 rfl)).2.2.1 (He.exc_ok (c.fact 15 rfl)).2.2.2) ss_nil) ss_nil) ss_nil)

theorem ok_check_edit {P : Program} {w : World} {K : PySem.W.Frag} {mg : Str → Option Value} {base : Heap} (XK : K.In base) (G : base.Ns mainGlobals mg) (c : He.SaysD fa fn K) (n : Nat) : FnD P w K mg base 4 "check_edit" (d_check_edit n) := by
  obtain ⟨fd, F⟩ := c.def_ 16 (d := dd_check_edit) rfl
  refine fnD_of (k := 3) F sc_check_edit (He.glo_ok XK G (c.fact 41 rfl)) (FunD.bindsN F fun _ _ _ _ _ _ us hl => match us, hl with | [_, _], _ => rfl) (fun cdv A outer s H E B => ?_)
  exact (ss_cons (s_tgt (is := [2, 3, 4]) (gtup B.hc (gcons (gname (pg_name (i := 2) B.nd rfl (Or.inl rfl))) (gcons (gname (pg_name (i := 3) B.nd rfl (Or.inl rfl))) (gcons (gname (pg_name (i := 4) B.nd rfl (Or.inl rfl))) gnil)))) (jvC (pv 1))) (ss_cons (s_if (DW.dt (wor (tnot (jtru (c2p (o2c (jcall ((ok_is_within XK G c n).mono (by decide)) B.hr B.tk (jac_cons (jvC (pv 2)) (jac_cons jint (jac_cons (jlen (He.free_ok XK G (c.fact 1 rfl)) (c2p (jvC (pv 0)))) jac_nil)))))))) (wor (tnot (jtru (c2p (o2c (jcall ((ok_is_within XK G c n).mono (by decide)) B.hr B.tk (jac_cons (jvC (pv 3)) (jac_cons jint (jac_cons (jlen (He.free_ok XK G (c.fact 1 rfl)) (c2p (jvC (pv 0)))) jac_nil)))))))) (wor1 (tgt (c2p (jvC (pv 2))) (c2p (jvC (pv 3)))))))) (ss_cons (s_raise B.hc B.tk (He.exc_ok (c.fact 8 rfl)).1 (He.glo_ok XK G (c.fact 9 rfl)) (He.exc_ok (c.fact 8 rfl)).2.1 (He.exc_ok (c.fact 8 rfl)).2.2.1 (He.exc_ok (c.fact 8 rfl)).2.2.2) ss_nil) ss_nil) (ss_cons (s_expr (jcall ((ok_check_offered XK G c n).mono (by decide)) B.hr B.tk (jac_cons (jvC (pv 4)) jac_nil))) (ss_cons (s_if (DW.dt (wand (teq (c2p (jvC (pv 2))) (c2p (jvC (pv 3))) B.u64) (wand1 (teq (c2p (jvC (pv 4))) (c2p jstr) B.u64)))) (ss_cons (s_raise B.hc B.tk (He.exc_ok (c.fact 17 rfl)).1 (He.glo_ok XK G (c.fact 18 rfl)) (He.exc_ok (c.fact 17 rfl)).2.1 (He.exc_ok (c.fact 17 rfl)).2.2.1 (He.exc_ok (c.fact 17 rfl)).2.2.2) ss_nil) ss_nil) ss_nil))))

theorem ok_applied {P : Program} {w : World} {K : PySem.W.Frag} {mg : Str → Option Value} {base : Heap} (XK : K.In base) (G : base.Ns mainGlobals mg) (c : He.SaysD fa fn K) (n : Nat) : FnD P w K mg base 5 "applied" (d_applied n) := by
  obtain ⟨fd, F⟩ := c.def_ 17 (d := dd_applied) rfl
  refine fnD_of (k := 4) F sc_applied (He.glo_ok XK G (c.fact 42 rfl)) (FunD.bindsN F fun _ _ _ _ _ _ us hl => match us, hl with | [_, _], _ => rfl) (fun cdv A outer s H E B => ?_)
  exact (ss_cons (s_expr (jcall ((ok_check_edit XK G c n).mono (by decide)) B.hr B.tk (jac_cons (jvC (pv 0)) (jac_cons (jvC (pv 1)) jac_nil)))) (ss_cons (s_tgt (is := [2, 3, 4]) (gtup B.hc (gcons (gname (pg_name (i := 2) B.nd rfl (Or.inl rfl))) (gcons (gname (pg_name (i := 3) B.nd rfl (Or.inl rfl))) (gcons (gname (pg_name (i := 4) B.nd rfl (Or.inl rfl))) gnil)))) (jvC (pv 1))) (ss_cons (s_ret (c2o (jadd (c2p (jadd (c2p (o2c (jsl (c2s (jvC (pv 0))) jpo_none (jpo_some (c2p (jvC (pv 2))))))) (c2p (jvC (pv 4))))) (c2p (o2c (jsl (c2s (jvC (pv 0))) (jpo_some (c2p (jvC (pv 3)))) jpo_none)))))) ss_nil)))

theorem ok_joined_edit {P : Program} {w : World} {K : PySem.W.Frag} {mg : Str → Option Value} {base : Heap} (XK : K.In base) (G : base.Ns mainGlobals mg) (c : He.SaysD fa fn K) (n : Nat) : FnD P w K mg base 6 "joined_edit" (d_joined_edit n) := by
  obtain ⟨fd, F⟩ := c.def_ 18 (d := dd_joined_edit) rfl
  refine fnD_of (k := 5) F sc_joined_edit (He.glo_ok XK G (c.fact 43 rfl)) (FunD.bindsN F fun _ _ _ _ _ _ us hl => match us, hl with | [_, _], _ => rfl) (fun cdv A outer s H E B => ?_)
  exact (ss_cons (s_set (i := 2) B.nd rfl (Or.inl rfl) (c2o (jvC (pv 0)))) (ss_cons (s_for (is := [3]) B.hp B.hc (dany (jvC (pv 1))) (gname (pg_name (i := 3) B.nd rfl (Or.inl rfl))) (ss_cons (s_set (i := 2) B.nd rfl (Or.inl rfl) (c2o (o2c (jcall ((ok_applied XK G c n).mono (by decide)) B.hr B.tk (jac_cons (jvC (pv 2)) (jac_cons (jvC (pv 3)) jac_nil)))))) ss_nil)) (ss_cons (s_if (teq (c2p (jvC (pv 2))) (c2p (jvC (pv 0))) B.u64) (ss_cons (s_ret (c2o jnon)) ss_nil) ss_nil) (ss_cons (s_set (i := 4) B.nd rfl (Or.inl rfl) (c2o jint)) (ss_cons (s_while n B.hp (DW.dt (wand (tlt (c2p (jvC (pv 4))) (c2p (jmin2 B.hc (He.free_ok XK G (c.fact 3 rfl)) (c2p (jlen (He.free_ok XK G (c.fact 1 rfl)) (c2p (jvC (pv 0))))) (c2p (jlen (He.free_ok XK G (c.fact 1 rfl)) (c2p (jvC (pv 2)))))))) (wand1 (teq (c2p (jix B.u1 (c2s (jvC (pv 0))) (c2p (jvC (pv 4))))) (c2p (jix B.u1 (c2s (jvC (pv 2))) (c2p (jvC (pv 4))))) B.u64)))) (ss_cons (s_augAdd (i := 4) B.nd rfl (Or.inl rfl) (c2p jint)) ss_nil)) (ss_cons (s_set (i := 5) B.nd rfl (Or.inl rfl) (c2o jint)) (ss_cons (s_while n B.hp (DW.dt (wand (tlt (c2p (jvC (pv 5))) (c2p (jsub (c2p (jmin2 B.hc (He.free_ok XK G (c.fact 3 rfl)) (c2p (jlen (He.free_ok XK G (c.fact 1 rfl)) (c2p (jvC (pv 0))))) (c2p (jlen (He.free_ok XK G (c.fact 1 rfl)) (c2p (jvC (pv 2))))))) (c2p (jvC (pv 4)))))) (wand1 (teq (c2p (jix B.u1 (c2s (jvC (pv 0))) (c2p (jsub (c2p (jneg (c2p jint))) (c2p (jvC (pv 5))))))) (c2p (jix B.u1 (c2s (jvC (pv 2))) (c2p (jsub (c2p (jneg (c2p jint))) (c2p (jvC (pv 5))))))) B.u64)))) (ss_cons (s_augAdd (i := 5) B.nd rfl (Or.inl rfl) (c2p jint)) ss_nil)) (ss_cons (s_ret (c2o (jtup (jac_cons (jvC (pv 4)) (jac_cons (jsub (c2p (jlen (He.free_ok XK G (c.fact 1 rfl)) (c2p (jvC (pv 0))))) (c2p (jvC (pv 5)))) (jac_cons (o2c (jsl (c2s (jvC (pv 2))) (jpo_some (c2p (jvC (pv 4)))) (jpo_some (c2p (jsub (c2p (jlen (He.free_ok XK G (c.fact 1 rfl)) (c2p (jvC (pv 2))))) (c2p (jvC (pv 5)))))))) jac_nil)))))) ss_nil))))))))

theorem ok__law_joined {P : Program} {w : World} {K : PySem.W.Frag} {mg : Str → Option Value} {base : Heap} (XK : K.In base) (G : base.Ns mainGlobals mg) (c : He.SaysD fa fn K) (n : Nat) : FnD P w K mg base 1 "_law_joined" (d__law_joined n) := by
  obtain ⟨fd, F⟩ := c.def_ 19 (d := dd__law_joined) rfl
  refine fnD_of (k := 0) F sc__law_joined (He.glo_ok XK G (c.fact 44 rfl)) (FunD.bindsN F fun _ _ _ _ _ _ us hl => match us, hl with | [_, _], _ => rfl) (fun cdv A outer s H E B => ?_)
  exact (ss_cons (s_if (teq (c2p (jvC (pv 0))) (c2p (jvC (pv 1))) B.u64) (ss_cons (s_ret (c2o jnon)) ss_nil) ss_nil) (ss_cons (s_set (i := 2) B.nd rfl (Or.inl rfl) (c2o jint)) (ss_cons (s_for (is := [3]) B.hp B.hc (drng1 (He.free_ok XK G (c.fact 2 rfl)) (c2p (jmin2 B.hc (He.free_ok XK G (c.fact 3 rfl)) (c2p (jlen (He.free_ok XK G (c.fact 1 rfl)) (c2p (jvC (pv 0))))) (c2p (jlen (He.free_ok XK G (c.fact 1 rfl)) (c2p (jvC (pv 1)))))))) (gname (pg_name (i := 3) B.nd rfl (Or.inl rfl))) (ss_cons (s_if (DW.dt (wand (teq (c2p (jvC (pv 2))) (c2p (jvC (pv 3))) B.u64) (wand1 (teq (c2p (jix B.u1 (c2s (jvC (pv 0))) (c2p (jvC (pv 3))))) (c2p (jix B.u1 (c2s (jvC (pv 1))) (c2p (jvC (pv 3))))) B.u64)))) (ss_cons (s_set (i := 2) B.nd rfl (Or.inl rfl) (c2o (jadd (c2p (jvC (pv 3))) (c2p jint)))) ss_nil) ss_nil) ss_nil)) (ss_cons (s_set (i := 4) B.nd rfl (Or.inl rfl) (c2o jint)) (ss_cons (s_for (is := [3]) B.hp B.hc (drng1 (He.free_ok XK G (c.fact 2 rfl)) (c2p (jsub (c2p (jmin2 B.hc (He.free_ok XK G (c.fact 3 rfl)) (c2p (jlen (He.free_ok XK G (c.fact 1 rfl)) (c2p (jvC (pv 0))))) (c2p (jlen (He.free_ok XK G (c.fact 1 rfl)) (c2p (jvC (pv 1))))))) (c2p (jvC (pv 2)))))) (gname (pg_name (i := 3) B.nd rfl (Or.inl rfl))) (ss_cons (s_if (DW.dt (wand (teq (c2p (jvC (pv 4))) (c2p (jvC (pv 3))) B.u64) (wand1 (teq (c2p (jix B.u1 (c2s (jvC (pv 0))) (c2p (jsub (c2p (jsub (c2p (jlen (He.free_ok XK G (c.fact 1 rfl)) (c2p (jvC (pv 0))))) (c2p jint))) (c2p (jvC (pv 3))))))) (c2p (jix B.u1 (c2s (jvC (pv 1))) (c2p (jsub (c2p (jsub (c2p (jlen (He.free_ok XK G (c.fact 1 rfl)) (c2p (jvC (pv 1))))) (c2p jint))) (c2p (jvC (pv 3))))))) B.u64)))) (ss_cons (s_set (i := 4) B.nd rfl (Or.inl rfl) (c2o (jadd (c2p (jvC (pv 3))) (c2p jint)))) ss_nil) ss_nil) ss_nil)) (ss_cons (s_ret (c2o (jtup (jac_cons (jvC (pv 2)) (jac_cons (jsub (c2p (jlen (He.free_ok XK G (c.fact 1 rfl)) (c2p (jvC (pv 0))))) (c2p (jvC (pv 4)))) (jac_cons (o2c (jsl (c2s (jvC (pv 1))) (jpo_some (c2p (jvC (pv 2)))) (jpo_some (c2p (jsub (c2p (jlen (He.free_ok XK G (c.fact 1 rfl)) (c2p (jvC (pv 1))))) (c2p (jvC (pv 4)))))))) jac_nil)))))) ss_nil))))))

theorem ok_law {P : Program} {w : World} {K : PySem.W.Frag} {mg : Str → Option Value} {base : Heap} (XK : K.In base) (G : base.Ns mainGlobals mg) (c : He.SaysD fa fn K) (n : Nat) : FnD P w K mg base 7 "law" (d_law n) := by
  obtain ⟨fd, F⟩ := c.def_ 20 (d := dd_law) rfl
  refine fnD_of (k := 6) F sc_law (He.glo_ok XK G (c.fact 45 rfl)) (FunD.bindsN F fun _ _ _ _ _ _ us hl => match us, hl with | [_], _ => rfl) (fun cdv A outer s H E B => ?_)
  exact (ss_cons (s_set (i := 1) B.nd rfl (Or.inl rfl) (c2o (o2c (jcall ((ok__law_numbers XK G c n).mono (by decide)) B.hr B.tk (jac_cons (jvC (pv 0)) (jac_cons jint jac_nil)))))) (ss_cons (s_set (i := 2) B.nd rfl (Or.inl rfl) (c2o (o2c (jcall ((ok__law_text XK G c n).mono (by decide)) B.hr B.tk (jac_cons (jvC (pv 1)) (jac_cons jint (jac_cons (jmod (c2p (jix B.u1 (c2s (jvC (pv 1))) (c2p jint))) (c2p jint)) (jac_cons jint jac_nil)))))))) (ss_cons (s_set (i := 3) B.nd rfl (Or.inl rfl) (c2o (o2c (jcall ((ok__law_edit XK G c n).mono (by decide)) B.hr B.tk (jac_cons (jvC (pv 1)) (jac_cons jint (jac_cons (jvC (pv 2)) jac_nil))))))) (ss_cons (s_set (i := 4) B.nd rfl (Or.inl rfl) (c2o (o2c (jcall ((ok__law_edit XK G c n).mono (by decide)) B.hr B.tk (jac_cons (jvC (pv 1)) (jac_cons jint (jac_cons (jvC (pv 2)) jac_nil))))))) (ss_cons (s_if (teq (c2p (jmod (c2p (jix B.u1 (c2s (jvC (pv 1))) (c2p jint))) (c2p jint))) (c2p jint) B.u64) (ss_cons (s_set (i := 4) B.nd rfl (Or.inl rfl) (c2o (jtup (jac_cons (jix B.u1 (c2s (jvC (pv 3))) (c2p jint)) (jac_cons (jix B.u1 (c2s (jvC (pv 3))) (c2p jint)) (jac_cons (jadd (c2p (jix B.u1 (c2s (jvC (pv 4))) (c2p jint))) (c2p jstr)) jac_nil)))))) ss_nil) ss_nil) (ss_cons (s_if (teq (c2p (jmod (c2p (jix B.u1 (c2s (jvC (pv 1))) (c2p jint))) (c2p jint))) (c2p jint) B.u64) (ss_cons (s_set (i := 4) B.nd rfl (Or.inl rfl) (c2o (jtup (jac_cons (jix B.u1 (c2s (jvC (pv 3))) (c2p jint)) (jac_cons (jmin2 B.hc (He.free_ok XK G (c.fact 3 rfl)) (c2p (jlen (He.free_ok XK G (c.fact 1 rfl)) (c2p (jvC (pv 2))))) (c2p (jadd (c2p (jix B.u1 (c2s (jvC (pv 3))) (c2p jint))) (c2p (jmod (c2p (jix B.u1 (c2s (jvC (pv 1))) (c2p jint))) (c2p jint)))))) (jac_cons (jadd (c2p (jix B.u1 (c2s (jvC (pv 4))) (c2p jint))) (c2p jstr)) jac_nil)))))) ss_nil) ss_nil) (ss_cons (s_set (i := 5) B.nd rfl (Or.inl rfl) (c2o (o2c (jcall ((ok__law_cross XK G c n).mono (by decide)) B.hr B.tk (jac_cons (jvC (pv 3)) (jac_cons (jvC (pv 4)) jac_nil)))))) (ss_cons (s_if (DW.dt (wor (tnot (jtru (c2p (o2c (jcall ((ok__law_same XK G c n).mono (by decide)) B.hr B.tk (jac_cons (o2c (jcall ((ok_cross XK G c n).mono (by decide)) B.hr B.tk (jac_cons (jvC (pv 3)) (jac_cons (jvC (pv 4)) jac_nil)))) (jac_cons (jvC (pv 5)) jac_nil))))))) (wor1 (tnot (jtru (c2p (o2c (jcall ((ok__law_same XK G c n).mono (by decide)) B.hr B.tk (jac_cons (o2c (jcall ((ok_cross XK G c n).mono (by decide)) B.hr B.tk (jac_cons (jvC (pv 4)) (jac_cons (jvC (pv 3)) jac_nil)))) (jac_cons (jvC (pv 5)) jac_nil)))))))))) (ss_cons (s_ret (c2o jbl)) ss_nil) ss_nil) (ss_cons (s_for (is := [6]) B.hp B.hc (dany (o2c (jlst (jao_cons (c2o jbl) (jao_cons (c2o jbl) jao_nil))))) (gname (pg_name (i := 6) B.nd rfl (Or.inl rfl))) (ss_cons (s_if (DW.dt (wor (tne (c2p (o2c (jcall ((ok__law_told XK G c n).mono (by decide)) B.hr B.tk (jac_cons (jvC (pv 3)) (jac_cons (jvC (pv 4)) (jac_cons (jvC (pv 6)) jac_nil)))))) (c2p (o2c (jcall ((ok__law_due XK G c n).mono (by decide)) B.hr B.tk (jac_cons (jvC (pv 3)) (jac_cons (jvC (pv 4)) (jac_cons (jvC (pv 6)) jac_nil)))))) B.u64) (wor1 (tne (c2p (o2c (jcall ((ok__law_told XK G c n).mono (by decide)) B.hr B.tk (jac_cons (jvC (pv 4)) (jac_cons (jvC (pv 3)) (jac_cons (jvC (pv 6)) jac_nil)))))) (c2p (o2c (jcall ((ok__law_due XK G c n).mono (by decide)) B.hr B.tk (jac_cons (jvC (pv 4)) (jac_cons (jvC (pv 3)) (jac_cons (jvC (pv 6)) jac_nil)))))) B.u64)))) (ss_cons (s_ret (c2o jbl)) ss_nil) ss_nil) (ss_cons (s_if (tnot (jtru (c2p (jvC (pv 5))))) (ss_cons (s_set (i := 11) B.nd rfl (Or.inl rfl) (c2o (o2c (jcall ((ok__law_put XK G c n).mono (by decide)) B.hr B.tk (jac_cons (o2c (jcall ((ok__law_put XK G c n).mono (by decide)) B.hr B.tk (jac_cons (jvC (pv 2)) (jac_cons (jvC (pv 3)) jac_nil)))) (jac_cons (o2c (jcall ((ok__law_told XK G c n).mono (by decide)) B.hr B.tk (jac_cons (jvC (pv 4)) (jac_cons (jvC (pv 3)) (jac_cons (jnot (jvC (pv 6))) jac_nil))))) jac_nil)))))) (ss_cons (s_set (i := 12) B.nd rfl (Or.inl rfl) (c2o (o2c (jcall ((ok__law_put XK G c n).mono (by decide)) B.hr B.tk (jac_cons (o2c (jcall ((ok__law_put XK G c n).mono (by decide)) B.hr B.tk (jac_cons (jvC (pv 2)) (jac_cons (jvC (pv 4)) jac_nil)))) (jac_cons (o2c (jcall ((ok__law_told XK G c n).mono (by decide)) B.hr B.tk (jac_cons (jvC (pv 3)) (jac_cons (jvC (pv 4)) (jac_cons (jvC (pv 6)) jac_nil))))) jac_nil)))))) (ss_cons (s_if (tne (c2p (jvC (pv 11))) (c2p (jvC (pv 12))) B.u64) (ss_cons (s_ret (c2o jbl)) ss_nil) ss_nil) ss_nil))) ss_nil) ss_nil))) (ss_cons (s_set (i := 7) B.nd rfl (Or.inl rfl) (jlst jao_nil)) (ss_cons (s_set (i := 8) B.nd rfl (Or.inl rfl) (c2o (jvC (pv 2)))) (ss_cons (s_for (is := [9]) B.hp B.hc (drng1 (He.free_ok XK G (c.fact 2 rfl)) (c2p (jmod (c2p (jix B.u1 (c2s (jvC (pv 1))) (c2p jint))) (c2p jint)))) (gname (pg_name (i := 9) B.nd rfl (Or.inl rfl))) (ss_cons (s_set (i := 10) B.nd rfl (Or.inl rfl) (c2o (o2c (jcall ((ok__law_edit XK G c n).mono (by decide)) B.hr B.tk (jac_cons (jvC (pv 1)) (jac_cons (jadd (c2p jint) (c2p (jmul (c2p jint) (c2p (jvC (pv 9)))))) (jac_cons (jvC (pv 8)) jac_nil))))))) (ss_cons (s_if (DW.dt (wand (teq (c2p (jvC (pv 9))) (c2p jint) B.u64) (wand1 (teq (c2p (jmod (c2p (jix B.u1 (c2s (jvC (pv 1))) (c2p jint))) (c2p jint))) (c2p jint) B.u64)))) (ss_cons (s_set (i := 13) B.nd rfl (Or.inl rfl) (c2o (jix B.u1 (jvS (pv 7)) (c2p jint)))) (ss_cons (s_set (i := 10) B.nd rfl (Or.inl rfl) (c2o (jtup (jac_cons (jix B.u1 (c2s (jvC (pv 13))) (c2p jint)) (jac_cons (jadd (c2p (jix B.u1 (c2s (jvC (pv 13))) (c2p jint))) (c2p (jlen (He.free_ok XK G (c.fact 1 rfl)) (c2p (jix B.u1 (c2s (jvC (pv 13))) (c2p jint)))))) (jac_cons (jmulS (c2p jstr) (c2p (jint1 (He.free_ok XK G (c.fact 0 rfl)) (c2p (jeq B.u64 (c2p (jlen (He.free_ok XK G (c.fact 1 rfl)) (c2p (jix B.u1 (c2s (jvC (pv 13))) (c2p jint))))) (c2p jint)))))) jac_nil)))))) ss_nil)) ss_nil) (ss_cons (s_app (i := 7) (pv 7) (c2o (jvC (pv 10)))) (ss_cons (s_set (i := 8) B.nd rfl (Or.inl rfl) (c2o (o2c (jcall ((ok__law_put XK G c n).mono (by decide)) B.hr B.tk (jac_cons (jvC (pv 8)) (jac_cons (jvC (pv 10)) jac_nil)))))) ss_nil))))) (ss_cons (s_ret (c2o (jeq B.u64 (c2p (o2c (jcall ((ok_joined_edit XK G c n).mono (by decide)) B.hr B.tk (jac_cons (jvC (pv 2)) (jac_cons (o2c (jlist (He.free_ok XK G (c.fact 19 rfl)) (jvS (pv 7)))) jac_nil))))) (c2p (o2c (jcall ((ok__law_joined XK G c n).mono (by decide)) B.hr B.tk (jac_cons (jvC (pv 2)) (jac_cons (jvC (pv 8)) jac_nil)))))))) ss_nil)))))))))))))

theorem ok_lawF {P : Program} {w : World} {K : PySem.W.Frag} {mg : Str → Option Value} {base : Heap} (XK : K.In base) (G : base.Ns mainGlobals mg) (c : He.SaysD fa fn K) (n : Nat) {fd : FuncData} (F : FunD K dd_law.name dd_law.qual dd_law.params dd_law.body dd_law.scope (He.DefD.dvs K dd_law) (He.DefD.kws K dd_law) (He.fAd K dd_law.at_) fd) : FnOk P w K mg base (L2.CX P w) 7 (He.fAd K dd_law.at_) fd ["script"] (spD K (d_law n)) := by
  refine okD_of (k := 6) F sc_law (fun cdv A outer s H E B => ?_)
  exact (ss_cons (s_set (i := 1) B.nd rfl (Or.inl rfl) (c2o (o2c (jcall ((ok__law_numbers XK G c n).mono (by decide)) B.hr B.tk (jac_cons (jvC (pv 0)) (jac_cons jint jac_nil)))))) (ss_cons (s_set (i := 2) B.nd rfl (Or.inl rfl) (c2o (o2c (jcall ((ok__law_text XK G c n).mono (by decide)) B.hr B.tk (jac_cons (jvC (pv 1)) (jac_cons jint (jac_cons (jmod (c2p (jix B.u1 (c2s (jvC (pv 1))) (c2p jint))) (c2p jint)) (jac_cons jint jac_nil)))))))) (ss_cons (s_set (i := 3) B.nd rfl (Or.inl rfl) (c2o (o2c (jcall ((ok__law_edit XK G c n).mono (by decide)) B.hr B.tk (jac_cons (jvC (pv 1)) (jac_cons jint (jac_cons (jvC (pv 2)) jac_nil))))))) (ss_cons (s_set (i := 4) B.nd rfl (Or.inl rfl) (c2o (o2c (jcall ((ok__law_edit XK G c n).mono (by decide)) B.hr B.tk (jac_cons (jvC (pv 1)) (jac_cons jint (jac_cons (jvC (pv 2)) jac_nil))))))) (ss_cons (s_if (teq (c2p (jmod (c2p (jix B.u1 (c2s (jvC (pv 1))) (c2p jint))) (c2p jint))) (c2p jint) B.u64) (ss_cons (s_set (i := 4) B.nd rfl (Or.inl rfl) (c2o (jtup (jac_cons (jix B.u1 (c2s (jvC (pv 3))) (c2p jint)) (jac_cons (jix B.u1 (c2s (jvC (pv 3))) (c2p jint)) (jac_cons (jadd (c2p (jix B.u1 (c2s (jvC (pv 4))) (c2p jint))) (c2p jstr)) jac_nil)))))) ss_nil) ss_nil) (ss_cons (s_if (teq (c2p (jmod (c2p (jix B.u1 (c2s (jvC (pv 1))) (c2p jint))) (c2p jint))) (c2p jint) B.u64) (ss_cons (s_set (i := 4) B.nd rfl (Or.inl rfl) (c2o (jtup (jac_cons (jix B.u1 (c2s (jvC (pv 3))) (c2p jint)) (jac_cons (jmin2 B.hc (He.free_ok XK G (c.fact 3 rfl)) (c2p (jlen (He.free_ok XK G (c.fact 1 rfl)) (c2p (jvC (pv 2))))) (c2p (jadd (c2p (jix B.u1 (c2s (jvC (pv 3))) (c2p jint))) (c2p (jmod (c2p (jix B.u1 (c2s (jvC (pv 1))) (c2p jint))) (c2p jint)))))) (jac_cons (jadd (c2p (jix B.u1 (c2s (jvC (pv 4))) (c2p jint))) (c2p jstr)) jac_nil)))))) ss_nil) ss_nil) (ss_cons (s_set (i := 5) B.nd rfl (Or.inl rfl) (c2o (o2c (jcall ((ok__law_cross XK G c n).mono (by decide)) B.hr B.tk (jac_cons (jvC (pv 3)) (jac_cons (jvC (pv 4)) jac_nil)))))) (ss_cons (s_if (DW.dt (wor (tnot (jtru (c2p (o2c (jcall ((ok__law_same XK G c n).mono (by decide)) B.hr B.tk (jac_cons (o2c (jcall ((ok_cross XK G c n).mono (by decide)) B.hr B.tk (jac_cons (jvC (pv 3)) (jac_cons (jvC (pv 4)) jac_nil)))) (jac_cons (jvC (pv 5)) jac_nil))))))) (wor1 (tnot (jtru (c2p (o2c (jcall ((ok__law_same XK G c n).mono (by decide)) B.hr B.tk (jac_cons (o2c (jcall ((ok_cross XK G c n).mono (by decide)) B.hr B.tk (jac_cons (jvC (pv 4)) (jac_cons (jvC (pv 3)) jac_nil)))) (jac_cons (jvC (pv 5)) jac_nil)))))))))) (ss_cons (s_ret (c2o jbl)) ss_nil) ss_nil) (ss_cons (s_for (is := [6]) B.hp B.hc (dany (o2c (jlst (jao_cons (c2o jbl) (jao_cons (c2o jbl) jao_nil))))) (gname (pg_name (i := 6) B.nd rfl (Or.inl rfl))) (ss_cons (s_if (DW.dt (wor (tne (c2p (o2c (jcall ((ok__law_told XK G c n).mono (by decide)) B.hr B.tk (jac_cons (jvC (pv 3)) (jac_cons (jvC (pv 4)) (jac_cons (jvC (pv 6)) jac_nil)))))) (c2p (o2c (jcall ((ok__law_due XK G c n).mono (by decide)) B.hr B.tk (jac_cons (jvC (pv 3)) (jac_cons (jvC (pv 4)) (jac_cons (jvC (pv 6)) jac_nil)))))) B.u64) (wor1 (tne (c2p (o2c (jcall ((ok__law_told XK G c n).mono (by decide)) B.hr B.tk (jac_cons (jvC (pv 4)) (jac_cons (jvC (pv 3)) (jac_cons (jvC (pv 6)) jac_nil)))))) (c2p (o2c (jcall ((ok__law_due XK G c n).mono (by decide)) B.hr B.tk (jac_cons (jvC (pv 4)) (jac_cons (jvC (pv 3)) (jac_cons (jvC (pv 6)) jac_nil)))))) B.u64)))) (ss_cons (s_ret (c2o jbl)) ss_nil) ss_nil) (ss_cons (s_if (tnot (jtru (c2p (jvC (pv 5))))) (ss_cons (s_set (i := 11) B.nd rfl (Or.inl rfl) (c2o (o2c (jcall ((ok__law_put XK G c n).mono (by decide)) B.hr B.tk (jac_cons (o2c (jcall ((ok__law_put XK G c n).mono (by decide)) B.hr B.tk (jac_cons (jvC (pv 2)) (jac_cons (jvC (pv 3)) jac_nil)))) (jac_cons (o2c (jcall ((ok__law_told XK G c n).mono (by decide)) B.hr B.tk (jac_cons (jvC (pv 4)) (jac_cons (jvC (pv 3)) (jac_cons (jnot (jvC (pv 6))) jac_nil))))) jac_nil)))))) (ss_cons (s_set (i := 12) B.nd rfl (Or.inl rfl) (c2o (o2c (jcall ((ok__law_put XK G c n).mono (by decide)) B.hr B.tk (jac_cons (o2c (jcall ((ok__law_put XK G c n).mono (by decide)) B.hr B.tk (jac_cons (jvC (pv 2)) (jac_cons (jvC (pv 4)) jac_nil)))) (jac_cons (o2c (jcall ((ok__law_told XK G c n).mono (by decide)) B.hr B.tk (jac_cons (jvC (pv 3)) (jac_cons (jvC (pv 4)) (jac_cons (jvC (pv 6)) jac_nil))))) jac_nil)))))) (ss_cons (s_if (tne (c2p (jvC (pv 11))) (c2p (jvC (pv 12))) B.u64) (ss_cons (s_ret (c2o jbl)) ss_nil) ss_nil) ss_nil))) ss_nil) ss_nil))) (ss_cons (s_set (i := 7) B.nd rfl (Or.inl rfl) (jlst jao_nil)) (ss_cons (s_set (i := 8) B.nd rfl (Or.inl rfl) (c2o (jvC (pv 2)))) (ss_cons (s_for (is := [9]) B.hp B.hc (drng1 (He.free_ok XK G (c.fact 2 rfl)) (c2p (jmod (c2p (jix B.u1 (c2s (jvC (pv 1))) (c2p jint))) (c2p jint)))) (gname (pg_name (i := 9) B.nd rfl (Or.inl rfl))) (ss_cons (s_set (i := 10) B.nd rfl (Or.inl rfl) (c2o (o2c (jcall ((ok__law_edit XK G c n).mono (by decide)) B.hr B.tk (jac_cons (jvC (pv 1)) (jac_cons (jadd (c2p jint) (c2p (jmul (c2p jint) (c2p (jvC (pv 9)))))) (jac_cons (jvC (pv 8)) jac_nil))))))) (ss_cons (s_if (DW.dt (wand (teq (c2p (jvC (pv 9))) (c2p jint) B.u64) (wand1 (teq (c2p (jmod (c2p (jix B.u1 (c2s (jvC (pv 1))) (c2p jint))) (c2p jint))) (c2p jint) B.u64)))) (ss_cons (s_set (i := 13) B.nd rfl (Or.inl rfl) (c2o (jix B.u1 (jvS (pv 7)) (c2p jint)))) (ss_cons (s_set (i := 10) B.nd rfl (Or.inl rfl) (c2o (jtup (jac_cons (jix B.u1 (c2s (jvC (pv 13))) (c2p jint)) (jac_cons (jadd (c2p (jix B.u1 (c2s (jvC (pv 13))) (c2p jint))) (c2p (jlen (He.free_ok XK G (c.fact 1 rfl)) (c2p (jix B.u1 (c2s (jvC (pv 13))) (c2p jint)))))) (jac_cons (jmulS (c2p jstr) (c2p (jint1 (He.free_ok XK G (c.fact 0 rfl)) (c2p (jeq B.u64 (c2p (jlen (He.free_ok XK G (c.fact 1 rfl)) (c2p (jix B.u1 (c2s (jvC (pv 13))) (c2p jint))))) (c2p jint)))))) jac_nil)))))) ss_nil)) ss_nil) (ss_cons (s_app (i := 7) (pv 7) (c2o (jvC (pv 10)))) (ss_cons (s_set (i := 8) B.nd rfl (Or.inl rfl) (c2o (o2c (jcall ((ok__law_put XK G c n).mono (by decide)) B.hr B.tk (jac_cons (jvC (pv 8)) (jac_cons (jvC (pv 10)) jac_nil)))))) ss_nil))))) (ss_cons (s_ret (c2o (jeq B.u64 (c2p (o2c (jcall ((ok_joined_edit XK G c n).mono (by decide)) B.hr B.tk (jac_cons (jvC (pv 2)) (jac_cons (o2c (jlist (He.free_ok XK G (c.fact 19 rfl)) (jvS (pv 7)))) jac_nil))))) (c2p (o2c (jcall ((ok__law_joined XK G c n).mono (by decide)) B.hr B.tk (jac_cons (jvC (pv 2)) (jac_cons (jvC (pv 8)) jac_nil)))))))) ss_nil)))))))))))))

abbrev R : PySem.W.OpenRow := PySem.W.OpenLaw.row PySem.Challenge.rw_textoffers_k35_edits_led_past_edits
abbrev hk : PySem.W.Hook := He.hookD 4 fa fn
def ob (s : PySem.W.SharedT) : He.AlD := He.obsDG 4 fa fn (HandSHeadRun.getT s)
theorem ob_eq (s : PySem.W.SharedT) : ob s = hk.obs s.abs := He.obsDG_eq (HandSHeadRun.getT_eq s)
def loose : List Str := ["OfferError", "BadText", "BadSpan", "NoChange", "Crossing", "MOST_TEXT", "FIRST_SIGN", "LAST_SIGN", "is_integer", "is_within", "is_sign", "is_text", "check_offered", "spans_clash", "check_edit", "applied", "cross", "led_past", "joined_edit", "_law_numbers", "_law_same", "_law_text", "_law_edit", "_law_put", "_law_cross", "_law_told", "_law_due", "_law_joined"]
theorem run (w : World) : HandSHeadRun.RunEq R (PySem.W.view R.prog [33]) hk ob 6000 loose w := by
  intro os
  kernel_rfl
theorem facts {P : Program} {w : World} {K : PySem.W.Frag} {h : Heap} {mg : Str → Option Value} {f : Addr} (n : Nat) (X : K.In h) (G : h.Ns mainGlobals mg) (hfa : mg ("law" : Str) = some (.ref f)) (c : He.SaysD fa fn K) :
    ∃ fd : FuncData, (∀ (s : Shared) (v : Value), BindsTo s fd ⟨[v], []⟩ [("script", v)]) ∧ ∀ base : Heap, K.In base → base.Ns mainGlobals mg → FnOk P w K mg base (L2.CX P w) 7 f fd ["script"] (spD K (d_law n)) := by
  obtain ⟨fd, F⟩ := c.def_ 20 (d := dd_law) rfl
  have e := hfa.symm.trans (He.glo_ok X G (c.fact 45 rfl))
  cases e
  have b := FunD.bindsA (ps := ["script"]) F fun _ _ _ _ _ _ us hl => match us, hl with | [_], _ => rfl
  exact ⟨fd, fun s v => b s [v] rfl, fun base XK G => ok_lawF XK G c n F⟩
theorem holds_of (n : Nat) (pl : LawD 63 (d_law n)) : PySem.Challenge.rw_textoffers_k35_edits_led_past_edits.Holds := by
  w_on; o_law
  refine HandSHeadRun.head_any (r := PySem.W.OpenLaw.row PySem.Challenge.rw_textoffers_k35_edits_led_past_edits) (q := PySem.W.view (PySem.W.OpenLaw.row PySem.Challenge.rw_textoffers_k35_edits_led_past_edits).prog [33]) (H := hk) (ob := ob) (M := 6000) (loose := loose) (d := HandSHeadRun.topDef (PySem.W.OpenLaw.row PySem.Challenge.rw_textoffers_k35_edits_led_past_edits).prog 33) (kwd := []) ob_eq
    (by kernel_rfl) (fun s => by kernel_rfl) run (by kernel_rfl) (by kernel_rfl) (by kernel_rfl) (by rfl) (by first | assumption | decide +kernel) (by decide +kernel) ⟨rfl, rfl, rfl, rfl, rfl, by decide +kernel⟩ ?hw ?hc
  case hw => w_witness2
  case hc =>
    refine L2.walk_ofE (l := PySem.Challenge.rw_textoffers_k35_edits_led_past_edits) (n := 63) (k := 7) (x := "script") (CX := L2.CX0) rfl (by decide) (by kernel_rfl) ⟨rfl, by decide, by decide⟩ ?F (fun _ _ _ _ z => z)
    intro w mg fa h Y G hmg0
    obtain ⟨K, KX, c⟩ := Y
    have hmg : mg ("law" : PySem.Str) = some (.ref fa) := by
      have e : (HandSHeadRun.topDef (PySem.W.OpenLaw.row PySem.Challenge.rw_textoffers_k35_edits_led_past_edits).prog 33).name = ("law" : PySem.Str) := by kernel_rfl
      rw [← e]
      exact hmg0
    obtain ⟨fd, hb, hF⟩ := facts (P := (PySem.Challenge.rw_textoffers_k35_edits_led_past_edits).prog) (w := w) n KX G hmg c
    exact ⟨K, fd, fun vs H Q _ => spD K (d_law n) vs H Q fun _ _ _ => False, KX, hb, fun H a ns hl _ hS => spD_law pl hl hS, fun base X1 G1 => FnOk.still (hF base X1 G1)⟩

theorem lit_0 : D.str (Str.ofString "ab ab\na{") = tx [97, 98, 32, 97, 98, 10, 97, 123] := congrArg D.str (by decide +kernel : Str.ofString "ab ab\na{" = ⟨[97, 98, 32, 97, 98, 10, 97, 123].toArray⟩)
theorem lit_1 : D.str (Str.ofString "") = tx [] := congrArg D.str (by decide +kernel : Str.ofString "" = ⟨[].toArray⟩)
theorem lit_2 : D.str (Str.ofString "refused") = tx [114, 101, 102, 117, 115, 101, 100] := congrArg D.str (by decide +kernel : Str.ofString "refused" = ⟨[114, 101, 102, 117, 115, 101, 100].toArray⟩)
theorem lit_3 : D.str (Str.ofString "crossing") = tx [99, 114, 111, 115, 115, 105, 110, 103] := congrArg D.str (by decide +kernel : Str.ofString "crossing" = ⟨[99, 114, 111, 115, 115, 105, 110, 103].toArray⟩)
theorem lit_4 : D.str (Str.ofString "\n") = tx [10] := congrArg D.str (by decide +kernel : Str.ofString "\n" = ⟨[10].toArray⟩)
theorem lit_5 : D.str (Str.ofString " ") = tx [32] := congrArg D.str (by decide +kernel : Str.ofString " " = ⟨[32].toArray⟩)
theorem lit_6 : D.str (Str.ofString "~") = tx [126] := congrArg D.str (by decide +kernel : Str.ofString "~" = ⟨[126].toArray⟩)
theorem lit_7 : D.str (Str.ofString "b") = tx [98] := congrArg D.str (by decide +kernel : Str.ofString "b" = ⟨[98].toArray⟩)
theorem lit_8 : D.str (Str.ofString "a") = tx [97] := congrArg D.str (by decide +kernel : Str.ofString "a" = ⟨[97].toArray⟩)
end Lk35
end
namespace Lk35
open PySem PySem.Spec L2 Dn
theorem p_numbers (n : Nat) (ns : List Int) (c : Nat) (hc : c ≤ 100000) : ∃ xs : List Int, d__law_numbers n [.scr ns, .int c] = .ok (.lst ((xs.map D.int).map T.sh)) ∧ xs.length = c ∧ Num xs := by
  obtain ⟨xs, e, l, h⟩ := numbers_ok ns c hc
  exact ⟨xs, (e__law_numbers n _ _).trans e, l, h⟩
def sg : List Nat := [97, 98, 32, 97, 98, 10, 97, 123]
theorem p_text (n : Nat) (xs : List Int) (hN : Num xs) (at_ len step : Int) (h0 : 0 ≤ at_) (h1 : at_ + 8 ≤ xs.length) (h2 : 0 ≤ step) (hs : step ≤ 1000) (hl : 0 ≤ len) (hl2 : len ≤ 1000) :
    ∃ l, d__law_text n [.lst (xs.map .int), .int at_, .int len, .int step] = .ok (.sh (tx l)) ∧ (l.length : Int) = len ∧ ∀ c ∈ l, c ∈ sg := by
  obtain ⟨m, rfl⟩ := Int.eq_ofNat_of_zero_le hl
  have key := join_lc (P := fun c => c ∈ sg) (i := 5) (m := m) (vs := [5]) (ρ := [some (.sh (.lst (xs.map .int))), some (.sh (.int at_)), some (.sh (.int m)), some (.sh (.int step)), some (.sh (tx [97, 98, 32, 97, 98, 10, 97, 123])), none]) (by omega)
    (ge := toO (op2 ixA (cX 4) (op2 modR (op2 fdivR (op2 ixA (cX 0) (op2 addR (cX 1) (op2 modR (cX 5) (kX (.int 8))))) (op2 addR (op2 addR (kX (.int 1)) (cX 3)) (op2 fdivR (cX 5) (kX (.int 8))))) (kX (.int 8))))) fun k hk => by
      obtain ⟨v, e, v0, v1⟩ := num_ex hN (i := at_ + (k : Int) % 8) (by omega) (by omega)
      obtain ⟨c, e2, hc⟩ := ix_s_ex (a := sg) (i := v / (1 + step + (k : Int) / 8) % 8) (by omega) (by show _ < ((8 : Nat) : Int); omega)
      refine ⟨c, ?_, hc⟩
      unfold sg at e2
      simp only [retR_nx, retR_rt, retR_xn, vC_0, vC_s, vP_0, vP_s, vS_0, vS_0l, vS_s, frz_sh, frz_l, frzL_nil, frzL_cons, frzL_map, lstE_0, lstE_s, retV_0, retV_s, frzE_0, frzE_s, seqS_eq, setS_eq, tgtS_eq, exprS_eq, retS_eq, retN_eq, ifS_eq, raiseS_eq, appS_eq, augS_eq, forS_eq, setE_eq, nilE_eq, consE_eq, tupE_eq, tryS_eq, nxS_rt, nxS_nx, kX, pX, cX, sX, op1, op2, inX, slX, noI, toI, toO, toC, flt, tst, tru, andT, orT, notT, andX, orX, notX, ifX, nilA, consA, tupX, lstX, callX, methX, meth0X, joinX, itX, it2X, yesT, chX, consR, andR, orR, notR, andV, orV, blR_bl, truR_bl, Rs.bind_ok, Rs.bind_exn, Rs.bind_bad, So.of_ok, So.of_exn, So.of_bad, noX_ok, tup_k, lst_k, intR_i, List.set_cons_zero, List.set_cons_succ, List.length_cons, List.length_nil, Nat.reduceAdd, Nat.reduceEqDiff, Nat.reduceLeDiff, reduceIte, if_true, if_false, Bool.not_true, Bool.not_false, decide_eq_true_eq, Bool.not_eq_true', decide_eq_false_iff_not, decide_true, decide_false, ite_self, Bool.false_eq_true, Bool.true_and, Bool.and_true, Bool.false_and, Bool.and_false, Bool.true_or, Bool.or_true, Bool.false_or, Bool.or_false, Bool.and_eq_true, Bool.or_eq_true, true_and, and_true, false_and, and_false, true_or, or_true, false_or, or_false, not_true_eq_false, not_false_eq_true, and_self, or_self, eq_self, add_i, sub_i, neg_i, min_i, max_i, lt_i, le_i, gt_i, ge_i, int1_i, int1_b, eq_i, ne_i, eq_b, ne_b, eq_s, ne_s, len_s, sl_s, sl_l, ix_t0, ix_t1, ix_t2, ix_t3, ix_t4, ix_l0, ix_l1, len_l, len_t, isStr_tx, ite_bl, ite_blt, ite_b, ite_bt, tru_i, tru_b, lit_0, lit_1, lit_2, lit_3, lit_4, lit_5, lit_6, lit_7, lit_8, wipeE, mod_i (show (0 : Int) < 8 by decide), fdiv_i (show (0 : Int) < 8 by decide) (by decide), e, fdiv_i (show (0 : Int) < 1 + step + (k : Int) / 8 by omega) (by omega), e2]
  obtain ⟨cs, k1, k2, k3, k4⟩ := key
  refine ⟨cs, ?_, by omega, k4⟩
  rw [e__law_text]
  unfold b__law_text
  simp only [retR_nx, retR_rt, retR_xn, vC_0, vC_s, vP_0, vP_s, vS_0, vS_0l, vS_s, frz_sh, frz_l, frzL_nil, frzL_cons, frzL_map, lstE_0, lstE_s, retV_0, retV_s, frzE_0, frzE_s, seqS_eq, setS_eq, tgtS_eq, exprS_eq, retS_eq, retN_eq, ifS_eq, raiseS_eq, appS_eq, augS_eq, forS_eq, setE_eq, nilE_eq, consE_eq, tupE_eq, tryS_eq, nxS_rt, nxS_nx, kX, pX, cX, sX, op1, op2, inX, slX, noI, toI, toO, toC, flt, tst, tru, andT, orT, notT, andX, orX, notX, ifX, nilA, consA, tupX, lstX, callX, methX, meth0X, joinX, itX, it2X, yesT, chX, consR, andR, orR, notR, andV, orV, blR_bl, truR_bl, Rs.bind_ok, Rs.bind_exn, Rs.bind_bad, So.of_ok, So.of_exn, So.of_bad, noX_ok, tup_k, lst_k, intR_i, List.set_cons_zero, List.set_cons_succ, List.length_cons, List.length_nil, Nat.reduceAdd, Nat.reduceEqDiff, Nat.reduceLeDiff, reduceIte, if_true, if_false, Bool.not_true, Bool.not_false, decide_eq_true_eq, Bool.not_eq_true', decide_eq_false_iff_not, decide_true, decide_false, ite_self, Bool.false_eq_true, Bool.true_and, Bool.and_true, Bool.false_and, Bool.and_false, Bool.true_or, Bool.or_true, Bool.false_or, Bool.or_false, Bool.and_eq_true, Bool.or_eq_true, true_and, and_true, false_and, and_false, true_or, or_true, false_or, or_false, not_true_eq_false, not_false_eq_true, and_self, or_self, eq_self, add_i, sub_i, neg_i, min_i, max_i, lt_i, le_i, gt_i, ge_i, int1_i, int1_b, eq_i, ne_i, eq_b, ne_b, eq_s, ne_s, len_s, sl_s, sl_l, ix_t0, ix_t1, ix_t2, ix_t3, ix_t4, ix_l0, ix_l1, len_l, len_t, isStr_tx, ite_bl, ite_blt, ite_b, ite_bt, tru_i, tru_b, lit_0, lit_1, lit_2, lit_3, lit_4, lit_5, lit_6, lit_7, lit_8, lc_eq, rng1_i (show (m : Int).natAbs ≤ 4611686018427387903 by omega), Int.toNat_natCast, k1, k2]
/-- a sign that a text may hold -/
def okc (c : Nat) : Prop := c = 10 ∨ (32 ≤ c ∧ c ≤ 126)
instance (c : Nat) : Decidable (okc c) := by unfold okc; infer_instance
theorem p_is_integer (n : Nat) (i : Int) : d_is_integer n [.int i] = .ok (.sh (.bl true)) := by
  rw [e_is_integer]
  rfl
theorem p_is_within (n : Nat) (i a b : Int) : d_is_within n [.int i, .int a, .int b] = .ok (.sh (.bl (decide (a ≤ i) && decide (i ≤ b)))) := by
  rw [e_is_within]
  unfold b_is_within
  simp only [retR_nx, retR_rt, retR_xn, vC_0, vC_s, vP_0, vP_s, vS_0, vS_0l, vS_s, frz_sh, frz_l, frzL_nil, frzL_cons, frzL_map, lstE_0, lstE_s, retV_0, retV_s, frzE_0, frzE_s, seqS_eq, setS_eq, tgtS_eq, exprS_eq, retS_eq, retN_eq, ifS_eq, raiseS_eq, appS_eq, augS_eq, forS_eq, setE_eq, nilE_eq, consE_eq, tupE_eq, tryS_eq, nxS_rt, nxS_nx, kX, pX, cX, sX, op1, op2, inX, slX, noI, toI, toO, toC, flt, tst, tru, andT, orT, notT, andX, orX, notX, ifX, nilA, consA, tupX, lstX, callX, methX, meth0X, joinX, itX, it2X, yesT, chX, consR, andR, orR, notR, andV, orV, blR_bl, truR_bl, Rs.bind_ok, Rs.bind_exn, Rs.bind_bad, So.of_ok, So.of_exn, So.of_bad, noX_ok, tup_k, lst_k, intR_i, List.set_cons_zero, List.set_cons_succ, List.length_cons, List.length_nil, Nat.reduceAdd, Nat.reduceEqDiff, Nat.reduceLeDiff, reduceIte, if_true, if_false, Bool.not_true, Bool.not_false, decide_eq_true_eq, Bool.not_eq_true', decide_eq_false_iff_not, decide_true, decide_false, ite_self, Bool.false_eq_true, Bool.true_and, Bool.and_true, Bool.false_and, Bool.and_false, Bool.true_or, Bool.or_true, Bool.false_or, Bool.or_false, Bool.and_eq_true, Bool.or_eq_true, true_and, and_true, false_and, and_false, true_or, or_true, false_or, or_false, not_true_eq_false, not_false_eq_true, and_self, or_self, eq_self, add_i, sub_i, neg_i, min_i, max_i, lt_i, le_i, gt_i, ge_i, int1_i, int1_b, eq_i, ne_i, eq_b, ne_b, eq_s, ne_s, len_s, sl_s, sl_l, ix_t0, ix_t1, ix_t2, ix_t3, ix_t4, ix_l0, ix_l1, len_l, len_t, isStr_tx, ite_bl, ite_blt, ite_b, ite_bt, tru_i, tru_b, lit_0, lit_1, lit_2, lit_3, lit_4, lit_5, lit_6, lit_7, lit_8, p_is_integer, and_t]
theorem p_is_sign (n : Nat) (c : Nat) : d_is_sign n [tx [c]] = .ok (.sh (.bl (decide (okc c)))) := by
  rw [e_is_sign]
  unfold b_is_sign
  have h : decide (okc c) = (decide (c = 10) || (decide (32 ≤ c) && decide (c ≤ 126))) := by
    rw [Bool.eq_iff_iff, decide_eq_true_iff]
    simp [okc]
  rw [h]
  simp only [retR_nx, retR_rt, retR_xn, vC_0, vC_s, vP_0, vP_s, vS_0, vS_0l, vS_s, frz_sh, frz_l, frzL_nil, frzL_cons, frzL_map, lstE_0, lstE_s, retV_0, retV_s, frzE_0, frzE_s, seqS_eq, setS_eq, tgtS_eq, exprS_eq, retS_eq, retN_eq, ifS_eq, raiseS_eq, appS_eq, augS_eq, forS_eq, setE_eq, nilE_eq, consE_eq, tupE_eq, tryS_eq, nxS_rt, nxS_nx, kX, pX, cX, sX, op1, op2, inX, slX, noI, toI, toO, toC, flt, tst, tru, andT, orT, notT, andX, orX, notX, ifX, nilA, consA, tupX, lstX, callX, methX, meth0X, joinX, itX, it2X, yesT, chX, consR, andR, orR, notR, andV, orV, blR_bl, truR_bl, Rs.bind_ok, Rs.bind_exn, Rs.bind_bad, So.of_ok, So.of_exn, So.of_bad, noX_ok, tup_k, lst_k, intR_i, List.set_cons_zero, List.set_cons_succ, List.length_cons, List.length_nil, Nat.reduceAdd, Nat.reduceEqDiff, Nat.reduceLeDiff, reduceIte, if_true, if_false, Bool.not_true, Bool.not_false, decide_eq_true_eq, Bool.not_eq_true', decide_eq_false_iff_not, decide_true, decide_false, ite_self, Bool.false_eq_true, Bool.true_and, Bool.and_true, Bool.false_and, Bool.and_false, Bool.true_or, Bool.or_true, Bool.false_or, Bool.or_false, Bool.and_eq_true, Bool.or_eq_true, true_and, and_true, false_and, and_false, true_or, or_true, false_or, or_false, not_true_eq_false, not_false_eq_true, and_self, or_self, eq_self, add_i, sub_i, neg_i, min_i, max_i, lt_i, le_i, gt_i, ge_i, int1_i, int1_b, eq_i, ne_i, eq_b, ne_b, eq_s, ne_s, len_s, sl_s, sl_l, ix_t0, ix_t1, ix_t2, ix_t3, ix_t4, ix_l0, ix_l1, len_l, len_t, isStr_tx, ite_bl, ite_blt, ite_b, ite_bt, tru_i, tru_b, lit_0, lit_1, lit_2, lit_3, lit_4, lit_5, lit_6, lit_7, lit_8, le_s1, List.cons.injEq, and_true]
theorem p_is_text (n : Nat) (l : List Nat) (most : Int) (h : ∀ c ∈ l, okc c) (h2 : (l.length : Int) ≤ most) (h3 : l.length ≤ 1000000) : d_is_text n [tx l, .int most] = .ok (.sh (.bl true)) := by
  rw [e_is_text]
  unfold b_is_text
  have e : itemsR (tx l) = .ok (l.map fun c => tx [c]) := rfl
  have e2 : isiR .str (tx l) = .ok (.bl true) := rfl
  have k := lcR_map (vs := [2]) (i := 2) (ge := callX (d_is_sign n) (consA (cX 2) nilA)) (ρ := [some (.sh (tx l)), some (.sh (.int most)), none]) (inj := fun c => tx [c]) (h := fun c => .bl true) (xs := l) fun c hc => by
    simp only [retR_nx, retR_rt, retR_xn, vC_0, vC_s, vP_0, vP_s, vS_0, vS_0l, vS_s, frz_sh, frz_l, frzL_nil, frzL_cons, frzL_map, lstE_0, lstE_s, retV_0, retV_s, frzE_0, frzE_s, seqS_eq, setS_eq, tgtS_eq, exprS_eq, retS_eq, retN_eq, ifS_eq, raiseS_eq, appS_eq, augS_eq, forS_eq, setE_eq, nilE_eq, consE_eq, tupE_eq, tryS_eq, nxS_rt, nxS_nx, kX, pX, cX, sX, op1, op2, inX, slX, noI, toI, toO, toC, flt, tst, tru, andT, orT, notT, andX, orX, notX, ifX, nilA, consA, tupX, lstX, callX, methX, meth0X, joinX, itX, it2X, yesT, chX, consR, andR, orR, notR, andV, orV, blR_bl, truR_bl, Rs.bind_ok, Rs.bind_exn, Rs.bind_bad, So.of_ok, So.of_exn, So.of_bad, noX_ok, tup_k, lst_k, intR_i, List.set_cons_zero, List.set_cons_succ, List.length_cons, List.length_nil, Nat.reduceAdd, Nat.reduceEqDiff, Nat.reduceLeDiff, reduceIte, if_true, if_false, Bool.not_true, Bool.not_false, decide_eq_true_eq, Bool.not_eq_true', decide_eq_false_iff_not, decide_true, decide_false, ite_self, Bool.false_eq_true, Bool.true_and, Bool.and_true, Bool.false_and, Bool.and_false, Bool.true_or, Bool.or_true, Bool.false_or, Bool.or_false, Bool.and_eq_true, Bool.or_eq_true, true_and, and_true, false_and, and_false, true_or, or_true, false_or, or_false, not_true_eq_false, not_false_eq_true, and_self, or_self, eq_self, add_i, sub_i, neg_i, min_i, max_i, lt_i, le_i, gt_i, ge_i, int1_i, int1_b, eq_i, ne_i, eq_b, ne_b, eq_s, ne_s, len_s, sl_s, sl_l, ix_t0, ix_t1, ix_t2, ix_t3, ix_t4, ix_l0, ix_l1, len_l, len_t, isStr_tx, ite_bl, ite_blt, ite_b, ite_bt, tru_i, tru_b, lit_0, lit_1, lit_2, lit_3, lit_4, lit_5, lit_6, lit_7, lit_8, wipeE, p_is_sign, decide_eq_true (h c hc)]
  have k2 : allR (fun bs => bs.all id) (.lst (l.map fun _ => D.bl true)) = .ok (.bl true) := by
    have : (l.map fun _ => D.bl true) = (l.map fun _ => true).map D.bl := by rw [List.map_map]; rfl
    rw [this]
    show (match bools ((l.map fun _ => true).map D.bl) with
      | some bs => Rs.ok (D.bl (bs.all id))
      | none => .bad) = _
    rw [bools_map]
    simp
  simp only [retR_nx, retR_rt, retR_xn, vC_0, vC_s, vP_0, vP_s, vS_0, vS_0l, vS_s, frz_sh, frz_l, frzL_nil, frzL_cons, frzL_map, lstE_0, lstE_s, retV_0, retV_s, frzE_0, frzE_s, seqS_eq, setS_eq, tgtS_eq, exprS_eq, retS_eq, retN_eq, ifS_eq, raiseS_eq, appS_eq, augS_eq, forS_eq, setE_eq, nilE_eq, consE_eq, tupE_eq, tryS_eq, nxS_rt, nxS_nx, kX, pX, cX, sX, op1, op2, inX, slX, noI, toI, toO, toC, flt, tst, tru, andT, orT, notT, andX, orX, notX, ifX, nilA, consA, tupX, lstX, callX, methX, meth0X, joinX, itX, it2X, yesT, chX, consR, andR, orR, notR, andV, orV, blR_bl, truR_bl, Rs.bind_ok, Rs.bind_exn, Rs.bind_bad, So.of_ok, So.of_exn, So.of_bad, noX_ok, tup_k, lst_k, intR_i, List.set_cons_zero, List.set_cons_succ, List.length_cons, List.length_nil, Nat.reduceAdd, Nat.reduceEqDiff, Nat.reduceLeDiff, reduceIte, if_true, if_false, Bool.not_true, Bool.not_false, decide_eq_true_eq, Bool.not_eq_true', decide_eq_false_iff_not, decide_true, decide_false, ite_self, Bool.false_eq_true, Bool.true_and, Bool.and_true, Bool.false_and, Bool.and_false, Bool.true_or, Bool.or_true, Bool.false_or, Bool.or_false, Bool.and_eq_true, Bool.or_eq_true, true_and, and_true, false_and, and_false, true_or, or_true, false_or, or_false, not_true_eq_false, not_false_eq_true, and_self, or_self, eq_self, add_i, sub_i, neg_i, min_i, max_i, lt_i, le_i, gt_i, ge_i, int1_i, int1_b, eq_i, ne_i, eq_b, ne_b, eq_s, ne_s, len_s, sl_s, sl_l, ix_t0, ix_t1, ix_t2, ix_t3, ix_t4, ix_l0, ix_l1, len_l, len_t, isStr_tx, ite_bl, ite_blt, ite_b, ite_bt, tru_i, tru_b, lit_0, lit_1, lit_2, lit_3, lit_4, lit_5, lit_6, lit_7, lit_8, e, e2, and_t, lc_eq, k, lstF_ok (show ((l.map fun _ => D.bl true).map T.sh).length ≤ 16777216 by simp; omega), k2, decide_eq_true h2]
def ed (b e : Int) (m : List Nat) : D := .tup [.int b, .int e, tx m]
theorem sg_ok : ∀ c ∈ sg, okc c := by decide
def OkE (len : Nat) (b e : Int) (m : List Nat) : Prop := 0 ≤ b ∧ b ≤ e ∧ e ≤ len ∧ m.length ≤ 10 ∧ (∀ c ∈ m, c ∈ sg) ∧ ¬ (b = e ∧ m = [])
theorem p_edit (n : Nat) (xs : List Int) (hN : Num xs) (at_ : Int) (t : List Nat) (h0 : 0 ≤ at_) (h1 : at_ + 3 ≤ xs.length) (ht : t.length ≤ 1000000) :
    ∃ b e m, d__law_edit n [.lst (xs.map .int), .int at_, tx t] = .ok (.sh (ed b e m)) ∧ OkE t.length b e m ∧ m.length ≤ 3 := by
  obtain ⟨v0, e0, v00, v01⟩ := num_ex hN (i := at_) (by omega) (by omega)
  obtain ⟨v1, e1, v10, v11⟩ := num_ex hN (i := at_ + 1) (by omega) (by omega)
  obtain ⟨v2, e2, v20, v21⟩ := num_ex hN (i := at_ + 2) (by omega) (by omega)
  have r1 := emod_rng v0 (show (0 : Int) < (t.length : Int) + 1 by omega)
  generalize hb : v0 % ((t.length : Int) + 1) = b at *
  have r2 := emod_rng v1 (show (0 : Int) < (t.length : Int) + 1 - b by omega)
  obtain ⟨mo, em, m0, m3⟩ : ∃ mo : Int, ixA (.lst [.int 0, .int 1, .int 1, .int 2, .int 3]) (.int (v2 % 5)) = .ok (.int mo) ∧ 0 ≤ mo ∧ mo ≤ 3 := by
    have : v2 % 5 = 0 ∨ v2 % 5 = 1 ∨ v2 % 5 = 2 ∨ v2 % 5 = 3 ∨ v2 % 5 = 4 := by omega
    rcases this with h | h | h | h | h <;> rw [h]
    · exact ⟨0, ix_l (k := 0) rfl rfl, by omega, by omega⟩
    · exact ⟨1, ix_l (k := 1) rfl rfl, by omega, by omega⟩
    · exact ⟨1, ix_l (k := 2) rfl rfl, by omega, by omega⟩
    · exact ⟨2, ix_l (k := 3) rfl rfl, by omega, by omega⟩
    · exact ⟨3, ix_l (k := 4) rfl rfl, by omega, by omega⟩
  -- the end
  obtain ⟨e, he, ge⟩ : ∃ e : Int, (b ≤ e ∧ e ≤ t.length) ∧ e = (if v1 / 50 % 2 = 0 then (if b + v1 % 3 < (t.length : Int) then b + v1 % 3 else t.length) else b + v1 % ((t.length : Int) + 1 - b)) := by
    refine ⟨_, ?_, rfl⟩
    split
    · split <;> omega
    · omega
  obtain ⟨mm, hm, gm⟩ : ∃ mm : Int, (0 ≤ mm ∧ mm ≤ 3 ∧ ¬ (b = e ∧ mm = 0)) ∧ mm = (if b = e ∧ mo = 0 then 1 else mo) := by
    refine ⟨_, ?_, rfl⟩
    split
    · omega
    · omega
  obtain ⟨mk, rfl⟩ := Int.eq_ofNat_of_zero_le hm.1
  obtain ⟨cs, k1, k2, k3, k4⟩ := join_lc (P := fun c => c ∈ sg) (i := 7) (m := mk) (vs := [7]) (ρ := [some (.sh (.lst (xs.map .int))), some (.sh (.int at_)), some (.sh (tx t)), some (.sh (.int t.length)), some (.sh (.int b)), some (.sh (.int e)), some (.sh (.int mk)), none]) (by omega)
    (ge := toO (op2 ixA (kX (.str "ab ab\na{")) (op2 modR (op2 fdivR (op2 ixA (cX 0) (op2 addR (cX 1) (kX (.int 2)))) (op2 addR (kX (.int 1)) (cX 7))) (kX (.int 8))))) fun k hk => by
      obtain ⟨c, e3, hc⟩ := ix_s_ex (a := sg) (i := v2 / (1 + (k : Int)) % 8) (by omega) (by show _ < ((8 : Nat) : Int); omega)
      refine ⟨c, ?_, hc⟩
      unfold sg at e3
      simp only [retR_nx, retR_rt, retR_xn, vC_0, vC_s, vP_0, vP_s, vS_0, vS_0l, vS_s, frz_sh, frz_l, frzL_nil, frzL_cons, frzL_map, lstE_0, lstE_s, retV_0, retV_s, frzE_0, frzE_s, seqS_eq, setS_eq, tgtS_eq, exprS_eq, retS_eq, retN_eq, ifS_eq, raiseS_eq, appS_eq, augS_eq, forS_eq, setE_eq, nilE_eq, consE_eq, tupE_eq, tryS_eq, nxS_rt, nxS_nx, kX, pX, cX, sX, op1, op2, inX, slX, noI, toI, toO, toC, flt, tst, tru, andT, orT, notT, andX, orX, notX, ifX, nilA, consA, tupX, lstX, callX, methX, meth0X, joinX, itX, it2X, yesT, chX, consR, andR, orR, notR, andV, orV, blR_bl, truR_bl, Rs.bind_ok, Rs.bind_exn, Rs.bind_bad, So.of_ok, So.of_exn, So.of_bad, noX_ok, tup_k, lst_k, intR_i, List.set_cons_zero, List.set_cons_succ, List.length_cons, List.length_nil, Nat.reduceAdd, Nat.reduceEqDiff, Nat.reduceLeDiff, reduceIte, if_true, if_false, Bool.not_true, Bool.not_false, decide_eq_true_eq, Bool.not_eq_true', decide_eq_false_iff_not, decide_true, decide_false, ite_self, Bool.false_eq_true, Bool.true_and, Bool.and_true, Bool.false_and, Bool.and_false, Bool.true_or, Bool.or_true, Bool.false_or, Bool.or_false, Bool.and_eq_true, Bool.or_eq_true, true_and, and_true, false_and, and_false, true_or, or_true, false_or, or_false, not_true_eq_false, not_false_eq_true, and_self, or_self, eq_self, add_i, sub_i, neg_i, min_i, max_i, lt_i, le_i, gt_i, ge_i, int1_i, int1_b, eq_i, ne_i, eq_b, ne_b, eq_s, ne_s, len_s, sl_s, sl_l, ix_t0, ix_t1, ix_t2, ix_t3, ix_t4, ix_l0, ix_l1, len_l, len_t, isStr_tx, ite_bl, ite_blt, ite_b, ite_bt, tru_i, tru_b, lit_0, lit_1, lit_2, lit_3, lit_4, lit_5, lit_6, lit_7, lit_8, wipeE, mod_i (show (0 : Int) < 8 by decide), e2, fdiv_i (show (0 : Int) < 1 + (k : Int) by omega) (by omega), e3]
  refine ⟨b, e, cs, ?_, ⟨r1.1, he.1, he.2, by omega, k4, fun h => hm.2.2 ⟨h.1, by rw [h.2] at k3; simp at k3; omega⟩⟩, by omega⟩
  rw [e__law_edit]
  unfold b__law_edit
  have hmod := mod_i (i := v0) (show (0 : Int) < (t.length : Int) + 1 by omega)
  rw [hb] at hmod
  have hmod2 := mod_i (i := v1) (show (0 : Int) < (t.length : Int) + 1 - b by omega)
  refine rq [some (.sh (.lst (xs.map .int))), some (.sh (.int at_)), some (.sh (tx t)), some (.sh (.int t.length)), none, none, none, none] (by simp only [retR_nx, retR_rt, retR_xn, vC_0, vC_s, vP_0, vP_s, vS_0, vS_0l, vS_s, frz_sh, frz_l, frzL_nil, frzL_cons, frzL_map, lstE_0, lstE_s, retV_0, retV_s, frzE_0, frzE_s, seqS_eq, setS_eq, tgtS_eq, exprS_eq, retS_eq, retN_eq, ifS_eq, raiseS_eq, appS_eq, augS_eq, forS_eq, setE_eq, nilE_eq, consE_eq, tupE_eq, tryS_eq, nxS_rt, nxS_nx, kX, pX, cX, sX, op1, op2, inX, slX, noI, toI, toO, toC, flt, tst, tru, andT, orT, notT, andX, orX, notX, ifX, nilA, consA, tupX, lstX, callX, methX, meth0X, joinX, itX, it2X, yesT, chX, consR, andR, orR, notR, andV, orV, blR_bl, truR_bl, Rs.bind_ok, Rs.bind_exn, Rs.bind_bad, So.of_ok, So.of_exn, So.of_bad, noX_ok, tup_k, lst_k, intR_i, List.set_cons_zero, List.set_cons_succ, List.length_cons, List.length_nil, Nat.reduceAdd, Nat.reduceEqDiff, Nat.reduceLeDiff, reduceIte, if_true, if_false, Bool.not_true, Bool.not_false, decide_eq_true_eq, Bool.not_eq_true', decide_eq_false_iff_not, decide_true, decide_false, ite_self, Bool.false_eq_true, Bool.true_and, Bool.and_true, Bool.false_and, Bool.and_false, Bool.true_or, Bool.or_true, Bool.false_or, Bool.or_false, Bool.and_eq_true, Bool.or_eq_true, true_and, and_true, false_and, and_false, true_or, or_true, false_or, or_false, not_true_eq_false, not_false_eq_true, and_self, or_self, eq_self, add_i, sub_i, neg_i, min_i, max_i, lt_i, le_i, gt_i, ge_i, int1_i, int1_b, eq_i, ne_i, eq_b, ne_b, eq_s, ne_s, len_s, sl_s, sl_l, ix_t0, ix_t1, ix_t2, ix_t3, ix_t4, ix_l0, ix_l1, len_l, len_t, isStr_tx, ite_bl, ite_blt, ite_b, ite_bt, tru_i, tru_b, lit_0, lit_1, lit_2, lit_3, lit_4, lit_5, lit_6, lit_7, lit_8]) ?_
  refine rq [some (.sh (.lst (xs.map .int))), some (.sh (.int at_)), some (.sh (tx t)), some (.sh (.int t.length)), some (.sh (.int b)), none, none, none] (by simp only [retR_nx, retR_rt, retR_xn, vC_0, vC_s, vP_0, vP_s, vS_0, vS_0l, vS_s, frz_sh, frz_l, frzL_nil, frzL_cons, frzL_map, lstE_0, lstE_s, retV_0, retV_s, frzE_0, frzE_s, seqS_eq, setS_eq, tgtS_eq, exprS_eq, retS_eq, retN_eq, ifS_eq, raiseS_eq, appS_eq, augS_eq, forS_eq, setE_eq, nilE_eq, consE_eq, tupE_eq, tryS_eq, nxS_rt, nxS_nx, kX, pX, cX, sX, op1, op2, inX, slX, noI, toI, toO, toC, flt, tst, tru, andT, orT, notT, andX, orX, notX, ifX, nilA, consA, tupX, lstX, callX, methX, meth0X, joinX, itX, it2X, yesT, chX, consR, andR, orR, notR, andV, orV, blR_bl, truR_bl, Rs.bind_ok, Rs.bind_exn, Rs.bind_bad, So.of_ok, So.of_exn, So.of_bad, noX_ok, tup_k, lst_k, intR_i, List.set_cons_zero, List.set_cons_succ, List.length_cons, List.length_nil, Nat.reduceAdd, Nat.reduceEqDiff, Nat.reduceLeDiff, reduceIte, if_true, if_false, Bool.not_true, Bool.not_false, decide_eq_true_eq, Bool.not_eq_true', decide_eq_false_iff_not, decide_true, decide_false, ite_self, Bool.false_eq_true, Bool.true_and, Bool.and_true, Bool.false_and, Bool.and_false, Bool.true_or, Bool.or_true, Bool.false_or, Bool.or_false, Bool.and_eq_true, Bool.or_eq_true, true_and, and_true, false_and, and_false, true_or, or_true, false_or, or_false, not_true_eq_false, not_false_eq_true, and_self, or_self, eq_self, add_i, sub_i, neg_i, min_i, max_i, lt_i, le_i, gt_i, ge_i, int1_i, int1_b, eq_i, ne_i, eq_b, ne_b, eq_s, ne_s, len_s, sl_s, sl_l, ix_t0, ix_t1, ix_t2, ix_t3, ix_t4, ix_l0, ix_l1, len_l, len_t, isStr_tx, ite_bl, ite_blt, ite_b, ite_bt, tru_i, tru_b, lit_0, lit_1, lit_2, lit_3, lit_4, lit_5, lit_6, lit_7, lit_8, e0, hmod]) ?_
  refine rq [some (.sh (.lst (xs.map .int))), some (.sh (.int at_)), some (.sh (tx t)), some (.sh (.int t.length)), some (.sh (.int b)), some (.sh (.int (b + v1 % ((t.length : Int) + 1 - b)))), none, none] (by simp only [retR_nx, retR_rt, retR_xn, vC_0, vC_s, vP_0, vP_s, vS_0, vS_0l, vS_s, frz_sh, frz_l, frzL_nil, frzL_cons, frzL_map, lstE_0, lstE_s, retV_0, retV_s, frzE_0, frzE_s, seqS_eq, setS_eq, tgtS_eq, exprS_eq, retS_eq, retN_eq, ifS_eq, raiseS_eq, appS_eq, augS_eq, forS_eq, setE_eq, nilE_eq, consE_eq, tupE_eq, tryS_eq, nxS_rt, nxS_nx, kX, pX, cX, sX, op1, op2, inX, slX, noI, toI, toO, toC, flt, tst, tru, andT, orT, notT, andX, orX, notX, ifX, nilA, consA, tupX, lstX, callX, methX, meth0X, joinX, itX, it2X, yesT, chX, consR, andR, orR, notR, andV, orV, blR_bl, truR_bl, Rs.bind_ok, Rs.bind_exn, Rs.bind_bad, So.of_ok, So.of_exn, So.of_bad, noX_ok, tup_k, lst_k, intR_i, List.set_cons_zero, List.set_cons_succ, List.length_cons, List.length_nil, Nat.reduceAdd, Nat.reduceEqDiff, Nat.reduceLeDiff, reduceIte, if_true, if_false, Bool.not_true, Bool.not_false, decide_eq_true_eq, Bool.not_eq_true', decide_eq_false_iff_not, decide_true, decide_false, ite_self, Bool.false_eq_true, Bool.true_and, Bool.and_true, Bool.false_and, Bool.and_false, Bool.true_or, Bool.or_true, Bool.false_or, Bool.or_false, Bool.and_eq_true, Bool.or_eq_true, true_and, and_true, false_and, and_false, true_or, or_true, false_or, or_false, not_true_eq_false, not_false_eq_true, and_self, or_self, eq_self, add_i, sub_i, neg_i, min_i, max_i, lt_i, le_i, gt_i, ge_i, int1_i, int1_b, eq_i, ne_i, eq_b, ne_b, eq_s, ne_s, len_s, sl_s, sl_l, ix_t0, ix_t1, ix_t2, ix_t3, ix_t4, ix_l0, ix_l1, len_l, len_t, isStr_tx, ite_bl, ite_blt, ite_b, ite_bt, tru_i, tru_b, lit_0, lit_1, lit_2, lit_3, lit_4, lit_5, lit_6, lit_7, lit_8, e1, hmod2]) ?_
  refine rq [some (.sh (.lst (xs.map .int))), some (.sh (.int at_)), some (.sh (tx t)), some (.sh (.int t.length)), some (.sh (.int b)), some (.sh (.int e)), none, none] (by
    rw [ge]
    by_cases c1 : v1 / 50 % 2 = 0 <;> simp only [retR_nx, retR_rt, retR_xn, vC_0, vC_s, vP_0, vP_s, vS_0, vS_0l, vS_s, frz_sh, frz_l, frzL_nil, frzL_cons, frzL_map, lstE_0, lstE_s, retV_0, retV_s, frzE_0, frzE_s, seqS_eq, setS_eq, tgtS_eq, exprS_eq, retS_eq, retN_eq, ifS_eq, raiseS_eq, appS_eq, augS_eq, forS_eq, setE_eq, nilE_eq, consE_eq, tupE_eq, tryS_eq, nxS_rt, nxS_nx, kX, pX, cX, sX, op1, op2, inX, slX, noI, toI, toO, toC, flt, tst, tru, andT, orT, notT, andX, orX, notX, ifX, nilA, consA, tupX, lstX, callX, methX, meth0X, joinX, itX, it2X, yesT, chX, consR, andR, orR, notR, andV, orV, blR_bl, truR_bl, Rs.bind_ok, Rs.bind_exn, Rs.bind_bad, So.of_ok, So.of_exn, So.of_bad, noX_ok, tup_k, lst_k, intR_i, List.set_cons_zero, List.set_cons_succ, List.length_cons, List.length_nil, Nat.reduceAdd, Nat.reduceEqDiff, Nat.reduceLeDiff, reduceIte, if_true, if_false, Bool.not_true, Bool.not_false, decide_eq_true_eq, Bool.not_eq_true', decide_eq_false_iff_not, decide_true, decide_false, ite_self, Bool.false_eq_true, Bool.true_and, Bool.and_true, Bool.false_and, Bool.and_false, Bool.true_or, Bool.or_true, Bool.false_or, Bool.or_false, Bool.and_eq_true, Bool.or_eq_true, true_and, and_true, false_and, and_false, true_or, or_true, false_or, or_false, not_true_eq_false, not_false_eq_true, and_self, or_self, eq_self, add_i, sub_i, neg_i, min_i, max_i, lt_i, le_i, gt_i, ge_i, int1_i, int1_b, eq_i, ne_i, eq_b, ne_b, eq_s, ne_s, len_s, sl_s, sl_l, ix_t0, ix_t1, ix_t2, ix_t3, ix_t4, ix_l0, ix_l1, len_l, len_t, isStr_tx, ite_bl, ite_blt, ite_b, ite_bt, tru_i, tru_b, lit_0, lit_1, lit_2, lit_3, lit_4, lit_5, lit_6, lit_7, lit_8, e1, mod_i (show (0 : Int) < 2 by decide), mod_i (show (0 : Int) < 3 by decide), fdiv_i (show (0 : Int) < 50 by decide) (by decide), c1]) ?_
  refine rq [some (.sh (.lst (xs.map .int))), some (.sh (.int at_)), some (.sh (tx t)), some (.sh (.int t.length)), some (.sh (.int b)), some (.sh (.int e)), some (.sh (.int mo)), none] (by simp only [retR_nx, retR_rt, retR_xn, vC_0, vC_s, vP_0, vP_s, vS_0, vS_0l, vS_s, frz_sh, frz_l, frzL_nil, frzL_cons, frzL_map, lstE_0, lstE_s, retV_0, retV_s, frzE_0, frzE_s, seqS_eq, setS_eq, tgtS_eq, exprS_eq, retS_eq, retN_eq, ifS_eq, raiseS_eq, appS_eq, augS_eq, forS_eq, setE_eq, nilE_eq, consE_eq, tupE_eq, tryS_eq, nxS_rt, nxS_nx, kX, pX, cX, sX, op1, op2, inX, slX, noI, toI, toO, toC, flt, tst, tru, andT, orT, notT, andX, orX, notX, ifX, nilA, consA, tupX, lstX, callX, methX, meth0X, joinX, itX, it2X, yesT, chX, consR, andR, orR, notR, andV, orV, blR_bl, truR_bl, Rs.bind_ok, Rs.bind_exn, Rs.bind_bad, So.of_ok, So.of_exn, So.of_bad, noX_ok, tup_k, lst_k, intR_i, List.set_cons_zero, List.set_cons_succ, List.length_cons, List.length_nil, Nat.reduceAdd, Nat.reduceEqDiff, Nat.reduceLeDiff, reduceIte, if_true, if_false, Bool.not_true, Bool.not_false, decide_eq_true_eq, Bool.not_eq_true', decide_eq_false_iff_not, decide_true, decide_false, ite_self, Bool.false_eq_true, Bool.true_and, Bool.and_true, Bool.false_and, Bool.and_false, Bool.true_or, Bool.or_true, Bool.false_or, Bool.or_false, Bool.and_eq_true, Bool.or_eq_true, true_and, and_true, false_and, and_false, true_or, or_true, false_or, or_false, not_true_eq_false, not_false_eq_true, and_self, or_self, eq_self, add_i, sub_i, neg_i, min_i, max_i, lt_i, le_i, gt_i, ge_i, int1_i, int1_b, eq_i, ne_i, eq_b, ne_b, eq_s, ne_s, len_s, sl_s, sl_l, ix_t0, ix_t1, ix_t2, ix_t3, ix_t4, ix_l0, ix_l1, len_l, len_t, isStr_tx, ite_bl, ite_blt, ite_b, ite_bt, tru_i, tru_b, lit_0, lit_1, lit_2, lit_3, lit_4, lit_5, lit_6, lit_7, lit_8, e2, mod_i (show (0 : Int) < 5 by decide), em]) ?_
  refine rq [some (.sh (.lst (xs.map .int))), some (.sh (.int at_)), some (.sh (tx t)), some (.sh (.int t.length)), some (.sh (.int b)), some (.sh (.int e)), some (.sh (.int mk)), none] (by
    rw [show ((mk : Int)) = _ from gm]
    by_cases c1 : b = e <;> by_cases c2 : mo = 0 <;> simp only [retR_nx, retR_rt, retR_xn, vC_0, vC_s, vP_0, vP_s, vS_0, vS_0l, vS_s, frz_sh, frz_l, frzL_nil, frzL_cons, frzL_map, lstE_0, lstE_s, retV_0, retV_s, frzE_0, frzE_s, seqS_eq, setS_eq, tgtS_eq, exprS_eq, retS_eq, retN_eq, ifS_eq, raiseS_eq, appS_eq, augS_eq, forS_eq, setE_eq, nilE_eq, consE_eq, tupE_eq, tryS_eq, nxS_rt, nxS_nx, kX, pX, cX, sX, op1, op2, inX, slX, noI, toI, toO, toC, flt, tst, tru, andT, orT, notT, andX, orX, notX, ifX, nilA, consA, tupX, lstX, callX, methX, meth0X, joinX, itX, it2X, yesT, chX, consR, andR, orR, notR, andV, orV, blR_bl, truR_bl, Rs.bind_ok, Rs.bind_exn, Rs.bind_bad, So.of_ok, So.of_exn, So.of_bad, noX_ok, tup_k, lst_k, intR_i, List.set_cons_zero, List.set_cons_succ, List.length_cons, List.length_nil, Nat.reduceAdd, Nat.reduceEqDiff, Nat.reduceLeDiff, reduceIte, if_true, if_false, Bool.not_true, Bool.not_false, decide_eq_true_eq, Bool.not_eq_true', decide_eq_false_iff_not, decide_true, decide_false, ite_self, Bool.false_eq_true, Bool.true_and, Bool.and_true, Bool.false_and, Bool.and_false, Bool.true_or, Bool.or_true, Bool.false_or, Bool.or_false, Bool.and_eq_true, Bool.or_eq_true, true_and, and_true, false_and, and_false, true_or, or_true, false_or, or_false, not_true_eq_false, not_false_eq_true, and_self, or_self, eq_self, add_i, sub_i, neg_i, min_i, max_i, lt_i, le_i, gt_i, ge_i, int1_i, int1_b, eq_i, ne_i, eq_b, ne_b, eq_s, ne_s, len_s, sl_s, sl_l, ix_t0, ix_t1, ix_t2, ix_t3, ix_t4, ix_l0, ix_l1, len_l, len_t, isStr_tx, ite_bl, ite_blt, ite_b, ite_bt, tru_i, tru_b, lit_0, lit_1, lit_2, lit_3, lit_4, lit_5, lit_6, lit_7, lit_8, c1, c2]) ?_
  refine rqr ?_
  simp only [retR_nx, retR_rt, retR_xn, vC_0, vC_s, vP_0, vP_s, vS_0, vS_0l, vS_s, frz_sh, frz_l, frzL_nil, frzL_cons, frzL_map, lstE_0, lstE_s, retV_0, retV_s, frzE_0, frzE_s, seqS_eq, setS_eq, tgtS_eq, exprS_eq, retS_eq, retN_eq, ifS_eq, raiseS_eq, appS_eq, augS_eq, forS_eq, setE_eq, nilE_eq, consE_eq, tupE_eq, tryS_eq, nxS_rt, nxS_nx, kX, pX, cX, sX, op1, op2, inX, slX, noI, toI, toO, toC, flt, tst, tru, andT, orT, notT, andX, orX, notX, ifX, nilA, consA, tupX, lstX, callX, methX, meth0X, joinX, itX, it2X, yesT, chX, consR, andR, orR, notR, andV, orV, blR_bl, truR_bl, Rs.bind_ok, Rs.bind_exn, Rs.bind_bad, So.of_ok, So.of_exn, So.of_bad, noX_ok, tup_k, lst_k, intR_i, List.set_cons_zero, List.set_cons_succ, List.length_cons, List.length_nil, Nat.reduceAdd, Nat.reduceEqDiff, Nat.reduceLeDiff, reduceIte, if_true, if_false, Bool.not_true, Bool.not_false, decide_eq_true_eq, Bool.not_eq_true', decide_eq_false_iff_not, decide_true, decide_false, ite_self, Bool.false_eq_true, Bool.true_and, Bool.and_true, Bool.false_and, Bool.and_false, Bool.true_or, Bool.or_true, Bool.false_or, Bool.or_false, Bool.and_eq_true, Bool.or_eq_true, true_and, and_true, false_and, and_false, true_or, or_true, false_or, or_false, not_true_eq_false, not_false_eq_true, and_self, or_self, eq_self, add_i, sub_i, neg_i, min_i, max_i, lt_i, le_i, gt_i, ge_i, int1_i, int1_b, eq_i, ne_i, eq_b, ne_b, eq_s, ne_s, len_s, sl_s, sl_l, ix_t0, ix_t1, ix_t2, ix_t3, ix_t4, ix_l0, ix_l1, len_l, len_t, isStr_tx, ite_bl, ite_blt, ite_b, ite_bt, tru_i, tru_b, lit_0, lit_1, lit_2, lit_3, lit_4, lit_5, lit_6, lit_7, lit_8, lc_eq, rng1_i (show (mk : Int).natAbs ≤ 4611686018427387903 by omega), Int.toNat_natCast]
  simp only [retR_nx, retR_rt, retR_xn, vC_0, vC_s, vP_0, vP_s, vS_0, vS_0l, vS_s, frz_sh, frz_l, frzL_nil, frzL_cons, frzL_map, lstE_0, lstE_s, retV_0, retV_s, frzE_0, frzE_s, seqS_eq, setS_eq, tgtS_eq, exprS_eq, retS_eq, retN_eq, ifS_eq, raiseS_eq, appS_eq, augS_eq, forS_eq, setE_eq, nilE_eq, consE_eq, tupE_eq, tryS_eq, nxS_rt, nxS_nx, kX, pX, cX, sX, op1, op2, inX, slX, noI, toI, toO, toC, flt, tst, tru, andT, orT, notT, andX, orX, notX, ifX, nilA, consA, tupX, lstX, callX, methX, meth0X, joinX, itX, it2X, yesT, chX, consR, andR, orR, notR, andV, orV, blR_bl, truR_bl, Rs.bind_ok, Rs.bind_exn, Rs.bind_bad, So.of_ok, So.of_exn, So.of_bad, noX_ok, tup_k, lst_k, intR_i, List.set_cons_zero, List.set_cons_succ, List.length_cons, List.length_nil, Nat.reduceAdd, Nat.reduceEqDiff, Nat.reduceLeDiff, reduceIte, if_true, if_false, Bool.not_true, Bool.not_false, decide_eq_true_eq, Bool.not_eq_true', decide_eq_false_iff_not, decide_true, decide_false, ite_self, Bool.false_eq_true, Bool.true_and, Bool.and_true, Bool.false_and, Bool.and_false, Bool.true_or, Bool.or_true, Bool.false_or, Bool.or_false, Bool.and_eq_true, Bool.or_eq_true, true_and, and_true, false_and, and_false, true_or, or_true, false_or, or_false, not_true_eq_false, not_false_eq_true, and_self, or_self, eq_self, add_i, sub_i, neg_i, min_i, max_i, lt_i, le_i, gt_i, ge_i, int1_i, int1_b, eq_i, ne_i, eq_b, ne_b, eq_s, ne_s, len_s, sl_s, sl_l, ix_t0, ix_t1, ix_t2, ix_t3, ix_t4, ix_l0, ix_l1, len_l, len_t, isStr_tx, ite_bl, ite_blt, ite_b, ite_bt, tru_i, tru_b, lit_0, lit_1, lit_2, lit_3, lit_4, lit_5, lit_6, lit_7, lit_8] at k1 k2
  rw [k1]
  simp only [retR_nx, retR_rt, retR_xn, vC_0, vC_s, vP_0, vP_s, vS_0, vS_0l, vS_s, frz_sh, frz_l, frzL_nil, frzL_cons, frzL_map, lstE_0, lstE_s, retV_0, retV_s, frzE_0, frzE_s, seqS_eq, setS_eq, tgtS_eq, exprS_eq, retS_eq, retN_eq, ifS_eq, raiseS_eq, appS_eq, augS_eq, forS_eq, setE_eq, nilE_eq, consE_eq, tupE_eq, tryS_eq, nxS_rt, nxS_nx, kX, pX, cX, sX, op1, op2, inX, slX, noI, toI, toO, toC, flt, tst, tru, andT, orT, notT, andX, orX, notX, ifX, nilA, consA, tupX, lstX, callX, methX, meth0X, joinX, itX, it2X, yesT, chX, consR, andR, orR, notR, andV, orV, blR_bl, truR_bl, Rs.bind_ok, Rs.bind_exn, Rs.bind_bad, So.of_ok, So.of_exn, So.of_bad, noX_ok, tup_k, lst_k, intR_i, List.set_cons_zero, List.set_cons_succ, List.length_cons, List.length_nil, Nat.reduceAdd, Nat.reduceEqDiff, Nat.reduceLeDiff, reduceIte, if_true, if_false, Bool.not_true, Bool.not_false, decide_eq_true_eq, Bool.not_eq_true', decide_eq_false_iff_not, decide_true, decide_false, ite_self, Bool.false_eq_true, Bool.true_and, Bool.and_true, Bool.false_and, Bool.and_false, Bool.true_or, Bool.or_true, Bool.false_or, Bool.or_false, Bool.and_eq_true, Bool.or_eq_true, true_and, and_true, false_and, and_false, true_or, or_true, false_or, or_false, not_true_eq_false, not_false_eq_true, and_self, or_self, eq_self, add_i, sub_i, neg_i, min_i, max_i, lt_i, le_i, gt_i, ge_i, int1_i, int1_b, eq_i, ne_i, eq_b, ne_b, eq_s, ne_s, len_s, sl_s, sl_l, ix_t0, ix_t1, ix_t2, ix_t3, ix_t4, ix_l0, ix_l1, len_l, len_t, isStr_tx, ite_bl, ite_blt, ite_b, ite_bt, tru_i, tru_b, lit_0, lit_1, lit_2, lit_3, lit_4, lit_5, lit_6, lit_7, lit_8, k2]
  rfl
def clash (a b c d : Int) : Bool := if a = b ∧ c = d then false else if a = b then decide (c < a ∧ a < d) else if c = d then decide (a < c ∧ c < b) else decide (a < d ∧ c < b)
theorem p_clash (n : Nat) (a b c d : Int) : d_spans_clash n [.tup [.int a, .int b], .tup [.int c, .int d]] = .ok (.sh (.bl (clash a b c d))) := by
  rw [e_spans_clash]
  unfold b_spans_clash clash
  by_cases h1 : a = b <;> by_cases h2 : c = d <;> simp only [retR_nx, retR_rt, retR_xn, vC_0, vC_s, vP_0, vP_s, vS_0, vS_0l, vS_s, frz_sh, frz_l, frzL_nil, frzL_cons, frzL_map, lstE_0, lstE_s, retV_0, retV_s, frzE_0, frzE_s, seqS_eq, setS_eq, tgtS_eq, exprS_eq, retS_eq, retN_eq, ifS_eq, raiseS_eq, appS_eq, augS_eq, forS_eq, setE_eq, nilE_eq, consE_eq, tupE_eq, tryS_eq, nxS_rt, nxS_nx, kX, pX, cX, sX, op1, op2, inX, slX, noI, toI, toO, toC, flt, tst, tru, andT, orT, notT, andX, orX, notX, ifX, nilA, consA, tupX, lstX, callX, methX, meth0X, joinX, itX, it2X, yesT, chX, consR, andR, orR, notR, andV, orV, blR_bl, truR_bl, Rs.bind_ok, Rs.bind_exn, Rs.bind_bad, So.of_ok, So.of_exn, So.of_bad, noX_ok, tup_k, lst_k, intR_i, List.set_cons_zero, List.set_cons_succ, List.length_cons, List.length_nil, Nat.reduceAdd, Nat.reduceEqDiff, Nat.reduceLeDiff, reduceIte, if_true, if_false, Bool.not_true, Bool.not_false, decide_eq_true_eq, Bool.not_eq_true', decide_eq_false_iff_not, decide_true, decide_false, ite_self, Bool.false_eq_true, Bool.true_and, Bool.and_true, Bool.false_and, Bool.and_false, Bool.true_or, Bool.or_true, Bool.false_or, Bool.or_false, Bool.and_eq_true, Bool.or_eq_true, true_and, and_true, false_and, and_false, true_or, or_true, false_or, or_false, not_true_eq_false, not_false_eq_true, and_self, or_self, eq_self, add_i, sub_i, neg_i, min_i, max_i, lt_i, le_i, gt_i, ge_i, int1_i, int1_b, eq_i, ne_i, eq_b, ne_b, eq_s, ne_s, len_s, sl_s, sl_l, ix_t0, ix_t1, ix_t2, ix_t3, ix_t4, ix_l0, ix_l1, len_l, len_t, isStr_tx, ite_bl, ite_blt, ite_b, ite_bt, tru_i, tru_b, lit_0, lit_1, lit_2, lit_3, lit_4, lit_5, lit_6, lit_7, lit_8, h1, h2] <;> simp
theorem sl_ed (b e : Int) (m : List Nat) : slR (ed b e m) none (some 2) = .ok (.sh (.tup [.int b, .int e])) := rfl
theorem ed0 (b e : Int) (m : List Nat) : ixA (ed b e m) (.int 0) = .ok (.int b) := ix_t0
theorem ed1 (b e : Int) (m : List Nat) : ixA (ed b e m) (.int 1) = .ok (.int e) := ix_t1
theorem ed2 (b e : Int) (m : List Nat) : ixA (ed b e m) (.int 2) = .ok (tx m) := ix_t2
theorem tup_ed {fs : List D → Dn.Env → Rs Dn.Env} {ρ : Dn.Env} {b e : Int} {m : List Nat} : tupE 3 fs (ed b e m) ρ = fs [.int b, .int e, tx m] ρ := rfl
theorem p_cross (n : Nat) (a b c d : Int) (m m' : List Nat) : d_cross n [ed a b m, ed c d m'] = .ok (.sh (.bl (clash a b c d))) := by
  rw [e_cross]
  unfold b_cross
  simp only [retR_nx, retR_rt, retR_xn, vC_0, vC_s, vP_0, vP_s, vS_0, vS_0l, vS_s, frz_sh, frz_l, frzL_nil, frzL_cons, frzL_map, lstE_0, lstE_s, retV_0, retV_s, frzE_0, frzE_s, seqS_eq, setS_eq, tgtS_eq, exprS_eq, retS_eq, retN_eq, ifS_eq, raiseS_eq, appS_eq, augS_eq, forS_eq, setE_eq, nilE_eq, consE_eq, tupE_eq, tryS_eq, nxS_rt, nxS_nx, kX, pX, cX, sX, op1, op2, inX, slX, noI, toI, toO, toC, flt, tst, tru, andT, orT, notT, andX, orX, notX, ifX, nilA, consA, tupX, lstX, callX, methX, meth0X, joinX, itX, it2X, yesT, chX, consR, andR, orR, notR, andV, orV, blR_bl, truR_bl, Rs.bind_ok, Rs.bind_exn, Rs.bind_bad, So.of_ok, So.of_exn, So.of_bad, noX_ok, tup_k, lst_k, intR_i, List.set_cons_zero, List.set_cons_succ, List.length_cons, List.length_nil, Nat.reduceAdd, Nat.reduceEqDiff, Nat.reduceLeDiff, reduceIte, if_true, if_false, Bool.not_true, Bool.not_false, decide_eq_true_eq, Bool.not_eq_true', decide_eq_false_iff_not, decide_true, decide_false, ite_self, Bool.false_eq_true, Bool.true_and, Bool.and_true, Bool.false_and, Bool.and_false, Bool.true_or, Bool.or_true, Bool.false_or, Bool.or_false, Bool.and_eq_true, Bool.or_eq_true, true_and, and_true, false_and, and_false, true_or, or_true, false_or, or_false, not_true_eq_false, not_false_eq_true, and_self, or_self, eq_self, add_i, sub_i, neg_i, min_i, max_i, lt_i, le_i, gt_i, ge_i, int1_i, int1_b, eq_i, ne_i, eq_b, ne_b, eq_s, ne_s, len_s, sl_s, sl_l, ix_t0, ix_t1, ix_t2, ix_t3, ix_t4, ix_l0, ix_l1, len_l, len_t, isStr_tx, ite_bl, ite_blt, ite_b, ite_bt, tru_i, tru_b, lit_0, lit_1, lit_2, lit_3, lit_4, lit_5, lit_6, lit_7, lit_8, sl_ed, p_clash]
theorem m2 (a : Int) (h : 0 ≤ a ∧ a ≤ 10000000) : mulR (.int 2) (.int a) = .ok (.int (2 * a)) := mul_i (by decide) (by omega)
theorem p_law_cross (n : Nat) (a b c d : Int) (m m' : List Nat) (h1 : 0 ≤ a ∧ a ≤ 10000000) (h2 : 0 ≤ b ∧ b ≤ 10000000) (h3 : 0 ≤ c ∧ c ≤ 10000000) (h4 : 0 ≤ d ∧ d ≤ 10000000) (h5 : a ≤ b) (h6 : c ≤ d) : d__law_cross n [ed a b m, ed c d m'] = .ok (.sh (.bl (clash a b c d))) := by
  rw [e__law_cross]
  unfold b__law_cross clash
  have i1 : ∀ x y : D, (D.lst [x, y]) = .lst ([x, y].map id) := fun _ _ => rfl
  have s2 : ∀ (ρ : Dn.Env) (x0 x1 x y : D), vS (some (.sh x0) :: some (.sh x1) :: some (.lst [.sh x, .sh y]) :: ρ) 2 = .ok (.lst [x, y]) := fun _ _ _ _ _ => rfl
  by_cases g1 : a = b <;> by_cases g2 : c = d
  · subst g1; subst g2
    simp only [retR_nx, retR_rt, retR_xn, vC_0, vC_s, vP_0, vP_s, vS_0, vS_0l, vS_s, frz_sh, frz_l, frzL_nil, frzL_cons, frzL_map, lstE_0, lstE_s, retV_0, retV_s, frzE_0, frzE_s, seqS_eq, setS_eq, tgtS_eq, exprS_eq, retS_eq, retN_eq, ifS_eq, raiseS_eq, appS_eq, augS_eq, forS_eq, setE_eq, nilE_eq, consE_eq, tupE_eq, tryS_eq, nxS_rt, nxS_nx, kX, pX, cX, sX, op1, op2, inX, slX, noI, toI, toO, toC, flt, tst, tru, andT, orT, notT, andX, orX, notX, ifX, nilA, consA, tupX, lstX, callX, methX, meth0X, joinX, itX, it2X, yesT, chX, consR, andR, orR, notR, andV, orV, blR_bl, truR_bl, Rs.bind_ok, Rs.bind_exn, Rs.bind_bad, So.of_ok, So.of_exn, So.of_bad, noX_ok, tup_k, lst_k, intR_i, List.set_cons_zero, List.set_cons_succ, List.length_cons, List.length_nil, Nat.reduceAdd, Nat.reduceEqDiff, Nat.reduceLeDiff, reduceIte, if_true, if_false, Bool.not_true, Bool.not_false, decide_eq_true_eq, Bool.not_eq_true', decide_eq_false_iff_not, decide_true, decide_false, ite_self, Bool.false_eq_true, Bool.true_and, Bool.and_true, Bool.false_and, Bool.and_false, Bool.true_or, Bool.or_true, Bool.false_or, Bool.or_false, Bool.and_eq_true, Bool.or_eq_true, true_and, and_true, false_and, and_false, true_or, or_true, false_or, or_false, not_true_eq_false, not_false_eq_true, and_self, or_self, eq_self, add_i, sub_i, neg_i, min_i, max_i, lt_i, le_i, gt_i, ge_i, int1_i, int1_b, eq_i, ne_i, eq_b, ne_b, eq_s, ne_s, len_s, sl_s, sl_l, ix_t0, ix_t1, ix_t2, ix_t3, ix_t4, ix_l0, ix_l1, len_l, len_t, isStr_tx, ite_bl, ite_blt, ite_b, ite_bt, tru_i, tru_b, lit_0, lit_1, lit_2, lit_3, lit_4, lit_5, lit_6, lit_7, lit_8, ed0, ed1]
  all_goals
    simp only [retR_nx, retR_rt, retR_xn, vC_0, vC_s, vP_0, vP_s, vS_0, vS_0l, vS_s, frz_sh, frz_l, frzL_nil, frzL_cons, frzL_map, lstE_0, lstE_s, retV_0, retV_s, frzE_0, frzE_s, seqS_eq, setS_eq, tgtS_eq, exprS_eq, retS_eq, retN_eq, ifS_eq, raiseS_eq, appS_eq, augS_eq, forS_eq, setE_eq, nilE_eq, consE_eq, tupE_eq, tryS_eq, nxS_rt, nxS_nx, kX, pX, cX, sX, op1, op2, inX, slX, noI, toI, toO, toC, flt, tst, tru, andT, orT, notT, andX, orX, notX, ifX, nilA, consA, tupX, lstX, callX, methX, meth0X, joinX, itX, it2X, yesT, chX, consR, andR, orR, notR, andV, orV, blR_bl, truR_bl, Rs.bind_ok, Rs.bind_exn, Rs.bind_bad, So.of_ok, So.of_exn, So.of_bad, noX_ok, tup_k, lst_k, intR_i, List.set_cons_zero, List.set_cons_succ, List.length_cons, List.length_nil, Nat.reduceAdd, Nat.reduceEqDiff, Nat.reduceLeDiff, reduceIte, if_true, if_false, Bool.not_true, Bool.not_false, decide_eq_true_eq, Bool.not_eq_true', decide_eq_false_iff_not, decide_true, decide_false, ite_self, Bool.false_eq_true, Bool.true_and, Bool.and_true, Bool.false_and, Bool.and_false, Bool.true_or, Bool.or_true, Bool.false_or, Bool.or_false, Bool.and_eq_true, Bool.or_eq_true, true_and, and_true, false_and, and_false, true_or, or_true, false_or, or_false, not_true_eq_false, not_false_eq_true, and_self, or_self, eq_self, add_i, sub_i, neg_i, min_i, max_i, lt_i, le_i, gt_i, ge_i, int1_i, int1_b, eq_i, ne_i, eq_b, ne_b, eq_s, ne_s, len_s, sl_s, sl_l, ix_t0, ix_t1, ix_t2, ix_t3, ix_t4, ix_l0, ix_l1, len_l, len_t, isStr_tx, ite_bl, ite_blt, ite_b, ite_bt, tru_i, tru_b, lit_0, lit_1, lit_2, lit_3, lit_4, lit_5, lit_6, lit_7, lit_8, ed0, ed1, items_t, forR_cons, forR_nil, tup_ed, m2 _ h1, m2 _ h2, m2 _ h3, m2 _ h4, g1, g2, List.nil_append, List.cons_append, Nat.reduceLT, s2]
  all_goals
    congr 3
    rw [Bool.eq_iff_iff]
    simp
    omega
def crossing : D := .tup [tx [114, 101, 102, 117, 115, 101, 100], tx [99, 114, 111, 115, 115, 105, 110, 103]]
def shift (a b c d : Int) (m m' : List Nat) (first : Bool) : D := if a < d ∨ ((a = b ∧ c = d ∧ a = c) ∧ first = true) then ed a b m else ed (a + (m'.length - (d - c))) (b + (m'.length - (d - c))) m
theorem p_led_past (n : Nat) (a b c d : Int) (m m' : List Nat) (first : Bool) : d_led_past n [ed a b m, ed c d m', .bl first] = if clash a b c d = true then .exn "Crossing" none else .ok (.sh (shift a b c d m m' first)) := by
  rw [e_led_past]
  unfold b_led_past
  by_cases h0 : clash a b c d = true
  · simp only [retR_nx, retR_rt, retR_xn, vC_0, vC_s, vP_0, vP_s, vS_0, vS_0l, vS_s, frz_sh, frz_l, frzL_nil, frzL_cons, frzL_map, lstE_0, lstE_s, retV_0, retV_s, frzE_0, frzE_s, seqS_eq, setS_eq, tgtS_eq, exprS_eq, retS_eq, retN_eq, ifS_eq, raiseS_eq, appS_eq, augS_eq, forS_eq, setE_eq, nilE_eq, consE_eq, tupE_eq, tryS_eq, nxS_rt, nxS_nx, kX, pX, cX, sX, op1, op2, inX, slX, noI, toI, toO, toC, flt, tst, tru, andT, orT, notT, andX, orX, notX, ifX, nilA, consA, tupX, lstX, callX, methX, meth0X, joinX, itX, it2X, yesT, chX, consR, andR, orR, notR, andV, orV, blR_bl, truR_bl, Rs.bind_ok, Rs.bind_exn, Rs.bind_bad, So.of_ok, So.of_exn, So.of_bad, noX_ok, tup_k, lst_k, intR_i, List.set_cons_zero, List.set_cons_succ, List.length_cons, List.length_nil, Nat.reduceAdd, Nat.reduceEqDiff, Nat.reduceLeDiff, reduceIte, if_true, if_false, Bool.not_true, Bool.not_false, decide_eq_true_eq, Bool.not_eq_true', decide_eq_false_iff_not, decide_true, decide_false, ite_self, Bool.false_eq_true, Bool.true_and, Bool.and_true, Bool.false_and, Bool.and_false, Bool.true_or, Bool.or_true, Bool.false_or, Bool.or_false, Bool.and_eq_true, Bool.or_eq_true, true_and, and_true, false_and, and_false, true_or, or_true, false_or, or_false, not_true_eq_false, not_false_eq_true, and_self, or_self, eq_self, add_i, sub_i, neg_i, min_i, max_i, lt_i, le_i, gt_i, ge_i, int1_i, int1_b, eq_i, ne_i, eq_b, ne_b, eq_s, ne_s, len_s, sl_s, sl_l, ix_t0, ix_t1, ix_t2, ix_t3, ix_t4, ix_l0, ix_l1, len_l, len_t, isStr_tx, ite_bl, ite_blt, ite_b, ite_bt, tru_i, tru_b, lit_0, lit_1, lit_2, lit_3, lit_4, lit_5, lit_6, lit_7, lit_8, p_cross, h0]
  · rw [Bool.not_eq_true] at h0
    unfold shift
    refine rq [some (.sh (ed a b m)), some (.sh (ed c d m')), some (.sh (.bl first)), none, none, none, none, none, none, none, none] (by simp only [retR_nx, retR_rt, retR_xn, vC_0, vC_s, vP_0, vP_s, vS_0, vS_0l, vS_s, frz_sh, frz_l, frzL_nil, frzL_cons, frzL_map, lstE_0, lstE_s, retV_0, retV_s, frzE_0, frzE_s, seqS_eq, setS_eq, tgtS_eq, exprS_eq, retS_eq, retN_eq, ifS_eq, raiseS_eq, appS_eq, augS_eq, forS_eq, setE_eq, nilE_eq, consE_eq, tupE_eq, tryS_eq, nxS_rt, nxS_nx, kX, pX, cX, sX, op1, op2, inX, slX, noI, toI, toO, toC, flt, tst, tru, andT, orT, notT, andX, orX, notX, ifX, nilA, consA, tupX, lstX, callX, methX, meth0X, joinX, itX, it2X, yesT, chX, consR, andR, orR, notR, andV, orV, blR_bl, truR_bl, Rs.bind_ok, Rs.bind_exn, Rs.bind_bad, So.of_ok, So.of_exn, So.of_bad, noX_ok, tup_k, lst_k, intR_i, List.set_cons_zero, List.set_cons_succ, List.length_cons, List.length_nil, Nat.reduceAdd, Nat.reduceEqDiff, Nat.reduceLeDiff, reduceIte, if_true, if_false, Bool.not_true, Bool.not_false, decide_eq_true_eq, Bool.not_eq_true', decide_eq_false_iff_not, decide_true, decide_false, ite_self, Bool.false_eq_true, Bool.true_and, Bool.and_true, Bool.false_and, Bool.and_false, Bool.true_or, Bool.or_true, Bool.false_or, Bool.or_false, Bool.and_eq_true, Bool.or_eq_true, true_and, and_true, false_and, and_false, true_or, or_true, false_or, or_false, not_true_eq_false, not_false_eq_true, and_self, or_self, eq_self, add_i, sub_i, neg_i, min_i, max_i, lt_i, le_i, gt_i, ge_i, int1_i, int1_b, eq_i, ne_i, eq_b, ne_b, eq_s, ne_s, len_s, sl_s, sl_l, ix_t0, ix_t1, ix_t2, ix_t3, ix_t4, ix_l0, ix_l1, len_l, len_t, isStr_tx, ite_bl, ite_blt, ite_b, ite_bt, tru_i, tru_b, lit_0, lit_1, lit_2, lit_3, lit_4, lit_5, lit_6, lit_7, lit_8, p_cross, h0]) ?_
    by_cases h1 : a < d ∨ ((a = b ∧ c = d ∧ a = c) ∧ first = true)
    · simp only [retR_nx, retR_rt, retR_xn, vC_0, vC_s, vP_0, vP_s, vS_0, vS_0l, vS_s, frz_sh, frz_l, frzL_nil, frzL_cons, frzL_map, lstE_0, lstE_s, retV_0, retV_s, frzE_0, frzE_s, seqS_eq, setS_eq, tgtS_eq, exprS_eq, retS_eq, retN_eq, ifS_eq, raiseS_eq, appS_eq, augS_eq, forS_eq, setE_eq, nilE_eq, consE_eq, tupE_eq, tryS_eq, nxS_rt, nxS_nx, kX, pX, cX, sX, op1, op2, inX, slX, noI, toI, toO, toC, flt, tst, tru, andT, orT, notT, andX, orX, notX, ifX, nilA, consA, tupX, lstX, callX, methX, meth0X, joinX, itX, it2X, yesT, chX, consR, andR, orR, notR, andV, orV, blR_bl, truR_bl, Rs.bind_ok, Rs.bind_exn, Rs.bind_bad, So.of_ok, So.of_exn, So.of_bad, noX_ok, tup_k, lst_k, intR_i, List.set_cons_zero, List.set_cons_succ, List.length_cons, List.length_nil, Nat.reduceAdd, Nat.reduceEqDiff, Nat.reduceLeDiff, reduceIte, if_true, if_false, Bool.not_true, Bool.not_false, decide_eq_true_eq, Bool.not_eq_true', decide_eq_false_iff_not, decide_true, decide_false, ite_self, Bool.false_eq_true, Bool.true_and, Bool.and_true, Bool.false_and, Bool.and_false, Bool.true_or, Bool.or_true, Bool.false_or, Bool.or_false, Bool.and_eq_true, Bool.or_eq_true, true_and, and_true, false_and, and_false, true_or, or_true, false_or, or_false, not_true_eq_false, not_false_eq_true, and_self, or_self, eq_self, add_i, sub_i, neg_i, min_i, max_i, lt_i, le_i, gt_i, ge_i, int1_i, int1_b, eq_i, ne_i, eq_b, ne_b, eq_s, ne_s, len_s, sl_s, sl_l, ix_t0, ix_t1, ix_t2, ix_t3, ix_t4, ix_l0, ix_l1, len_l, len_t, isStr_tx, ite_bl, ite_blt, ite_b, ite_bt, tru_i, tru_b, lit_0, lit_1, lit_2, lit_3, lit_4, lit_5, lit_6, lit_7, lit_8, tup_ed, h1, h0]
    · simp only [retR_nx, retR_rt, retR_xn, vC_0, vC_s, vP_0, vP_s, vS_0, vS_0l, vS_s, frz_sh, frz_l, frzL_nil, frzL_cons, frzL_map, lstE_0, lstE_s, retV_0, retV_s, frzE_0, frzE_s, seqS_eq, setS_eq, tgtS_eq, exprS_eq, retS_eq, retN_eq, ifS_eq, raiseS_eq, appS_eq, augS_eq, forS_eq, setE_eq, nilE_eq, consE_eq, tupE_eq, tryS_eq, nxS_rt, nxS_nx, kX, pX, cX, sX, op1, op2, inX, slX, noI, toI, toO, toC, flt, tst, tru, andT, orT, notT, andX, orX, notX, ifX, nilA, consA, tupX, lstX, callX, methX, meth0X, joinX, itX, it2X, yesT, chX, consR, andR, orR, notR, andV, orV, blR_bl, truR_bl, Rs.bind_ok, Rs.bind_exn, Rs.bind_bad, So.of_ok, So.of_exn, So.of_bad, noX_ok, tup_k, lst_k, intR_i, List.set_cons_zero, List.set_cons_succ, List.length_cons, List.length_nil, Nat.reduceAdd, Nat.reduceEqDiff, Nat.reduceLeDiff, reduceIte, if_true, if_false, Bool.not_true, Bool.not_false, decide_eq_true_eq, Bool.not_eq_true', decide_eq_false_iff_not, decide_true, decide_false, ite_self, Bool.false_eq_true, Bool.true_and, Bool.and_true, Bool.false_and, Bool.and_false, Bool.true_or, Bool.or_true, Bool.false_or, Bool.or_false, Bool.and_eq_true, Bool.or_eq_true, true_and, and_true, false_and, and_false, true_or, or_true, false_or, or_false, not_true_eq_false, not_false_eq_true, and_self, or_self, eq_self, add_i, sub_i, neg_i, min_i, max_i, lt_i, le_i, gt_i, ge_i, int1_i, int1_b, eq_i, ne_i, eq_b, ne_b, eq_s, ne_s, len_s, sl_s, sl_l, ix_t0, ix_t1, ix_t2, ix_t3, ix_t4, ix_l0, ix_l1, len_l, len_t, isStr_tx, ite_bl, ite_blt, ite_b, ite_bt, tru_i, tru_b, lit_0, lit_1, lit_2, lit_3, lit_4, lit_5, lit_6, lit_7, lit_8, tup_ed, h1, h0]
      rfl
theorem kt_cr : kt_Crossing (Str.ofString "Crossing") = some true := by decide +kernel
def told (a b c d : Int) (m m' : List Nat) (first : Bool) : D := if clash a b c d = true then crossing else shift a b c d m m' first
theorem p_told (n : Nat) (a b c d : Int) (m m' : List Nat) (first : Bool) : d__law_told n [ed a b m, ed c d m', .bl first] = .ok (.sh (told a b c d m m' first)) := by
  rw [e__law_told]
  unfold b__law_told told
  by_cases h0 : clash a b c d = true
  · simp only [retR_nx, retR_rt, retR_xn, vC_0, vC_s, vP_0, vP_s, vS_0, vS_0l, vS_s, frz_sh, frz_l, frzL_nil, frzL_cons, frzL_map, lstE_0, lstE_s, retV_0, retV_s, frzE_0, frzE_s, seqS_eq, setS_eq, tgtS_eq, exprS_eq, retS_eq, retN_eq, ifS_eq, raiseS_eq, appS_eq, augS_eq, forS_eq, setE_eq, nilE_eq, consE_eq, tupE_eq, tryS_eq, nxS_rt, nxS_nx, kX, pX, cX, sX, op1, op2, inX, slX, noI, toI, toO, toC, flt, tst, tru, andT, orT, notT, andX, orX, notX, ifX, nilA, consA, tupX, lstX, callX, methX, meth0X, joinX, itX, it2X, yesT, chX, consR, andR, orR, notR, andV, orV, blR_bl, truR_bl, Rs.bind_ok, Rs.bind_exn, Rs.bind_bad, So.of_ok, So.of_exn, So.of_bad, noX_ok, tup_k, lst_k, intR_i, List.set_cons_zero, List.set_cons_succ, List.length_cons, List.length_nil, Nat.reduceAdd, Nat.reduceEqDiff, Nat.reduceLeDiff, reduceIte, if_true, if_false, Bool.not_true, Bool.not_false, decide_eq_true_eq, Bool.not_eq_true', decide_eq_false_iff_not, decide_true, decide_false, ite_self, Bool.false_eq_true, Bool.true_and, Bool.and_true, Bool.false_and, Bool.and_false, Bool.true_or, Bool.or_true, Bool.false_or, Bool.or_false, Bool.and_eq_true, Bool.or_eq_true, true_and, and_true, false_and, and_false, true_or, or_true, false_or, or_false, not_true_eq_false, not_false_eq_true, and_self, or_self, eq_self, add_i, sub_i, neg_i, min_i, max_i, lt_i, le_i, gt_i, ge_i, int1_i, int1_b, eq_i, ne_i, eq_b, ne_b, eq_s, ne_s, len_s, sl_s, sl_l, ix_t0, ix_t1, ix_t2, ix_t3, ix_t4, ix_l0, ix_l1, len_l, len_t, isStr_tx, ite_bl, ite_blt, ite_b, ite_bt, tru_i, tru_b, lit_0, lit_1, lit_2, lit_3, lit_4, lit_5, lit_6, lit_7, lit_8, p_led_past, h0, kt_cr]
    rfl
  · simp only [retR_nx, retR_rt, retR_xn, vC_0, vC_s, vP_0, vP_s, vS_0, vS_0l, vS_s, frz_sh, frz_l, frzL_nil, frzL_cons, frzL_map, lstE_0, lstE_s, retV_0, retV_s, frzE_0, frzE_s, seqS_eq, setS_eq, tgtS_eq, exprS_eq, retS_eq, retN_eq, ifS_eq, raiseS_eq, appS_eq, augS_eq, forS_eq, setE_eq, nilE_eq, consE_eq, tupE_eq, tryS_eq, nxS_rt, nxS_nx, kX, pX, cX, sX, op1, op2, inX, slX, noI, toI, toO, toC, flt, tst, tru, andT, orT, notT, andX, orX, notX, ifX, nilA, consA, tupX, lstX, callX, methX, meth0X, joinX, itX, it2X, yesT, chX, consR, andR, orR, notR, andV, orV, blR_bl, truR_bl, Rs.bind_ok, Rs.bind_exn, Rs.bind_bad, So.of_ok, So.of_exn, So.of_bad, noX_ok, tup_k, lst_k, intR_i, List.set_cons_zero, List.set_cons_succ, List.length_cons, List.length_nil, Nat.reduceAdd, Nat.reduceEqDiff, Nat.reduceLeDiff, reduceIte, if_true, if_false, Bool.not_true, Bool.not_false, decide_eq_true_eq, Bool.not_eq_true', decide_eq_false_iff_not, decide_true, decide_false, ite_self, Bool.false_eq_true, Bool.true_and, Bool.and_true, Bool.false_and, Bool.and_false, Bool.true_or, Bool.or_true, Bool.false_or, Bool.or_false, Bool.and_eq_true, Bool.or_eq_true, true_and, and_true, false_and, and_false, true_or, or_true, false_or, or_false, not_true_eq_false, not_false_eq_true, and_self, or_self, eq_self, add_i, sub_i, neg_i, min_i, max_i, lt_i, le_i, gt_i, ge_i, int1_i, int1_b, eq_i, ne_i, eq_b, ne_b, eq_s, ne_s, len_s, sl_s, sl_l, ix_t0, ix_t1, ix_t2, ix_t3, ix_t4, ix_l0, ix_l1, len_l, len_t, isStr_tx, ite_bl, ite_blt, ite_b, ite_bt, tru_i, tru_b, lit_0, lit_1, lit_2, lit_3, lit_4, lit_5, lit_6, lit_7, lit_8, p_led_past, h0]
theorem p_due (n : Nat) (a b c d : Int) (m m' : List Nat) (first : Bool) (h1 : 0 ≤ a ∧ a ≤ 10000000) (h2 : 0 ≤ b ∧ b ≤ 10000000) (h3 : 0 ≤ c ∧ c ≤ 10000000) (h4 : 0 ≤ d ∧ d ≤ 10000000) (h5 : a ≤ b) (h6 : c ≤ d) : d__law_due n [ed a b m, ed c d m', .bl first] = .ok (.sh (told a b c d m m' first)) := by
  rw [e__law_due]
  unfold b__law_due told
  by_cases h0 : clash a b c d = true
  · simp only [retR_nx, retR_rt, retR_xn, vC_0, vC_s, vP_0, vP_s, vS_0, vS_0l, vS_s, frz_sh, frz_l, frzL_nil, frzL_cons, frzL_map, lstE_0, lstE_s, retV_0, retV_s, frzE_0, frzE_s, seqS_eq, setS_eq, tgtS_eq, exprS_eq, retS_eq, retN_eq, ifS_eq, raiseS_eq, appS_eq, augS_eq, forS_eq, setE_eq, nilE_eq, consE_eq, tupE_eq, tryS_eq, nxS_rt, nxS_nx, kX, pX, cX, sX, op1, op2, inX, slX, noI, toI, toO, toC, flt, tst, tru, andT, orT, notT, andX, orX, notX, ifX, nilA, consA, tupX, lstX, callX, methX, meth0X, joinX, itX, it2X, yesT, chX, consR, andR, orR, notR, andV, orV, blR_bl, truR_bl, Rs.bind_ok, Rs.bind_exn, Rs.bind_bad, So.of_ok, So.of_exn, So.of_bad, noX_ok, tup_k, lst_k, intR_i, List.set_cons_zero, List.set_cons_succ, List.length_cons, List.length_nil, Nat.reduceAdd, Nat.reduceEqDiff, Nat.reduceLeDiff, reduceIte, if_true, if_false, Bool.not_true, Bool.not_false, decide_eq_true_eq, Bool.not_eq_true', decide_eq_false_iff_not, decide_true, decide_false, ite_self, Bool.false_eq_true, Bool.true_and, Bool.and_true, Bool.false_and, Bool.and_false, Bool.true_or, Bool.or_true, Bool.false_or, Bool.or_false, Bool.and_eq_true, Bool.or_eq_true, true_and, and_true, false_and, and_false, true_or, or_true, false_or, or_false, not_true_eq_false, not_false_eq_true, and_self, or_self, eq_self, add_i, sub_i, neg_i, min_i, max_i, lt_i, le_i, gt_i, ge_i, int1_i, int1_b, eq_i, ne_i, eq_b, ne_b, eq_s, ne_s, len_s, sl_s, sl_l, ix_t0, ix_t1, ix_t2, ix_t3, ix_t4, ix_l0, ix_l1, len_l, len_t, isStr_tx, ite_bl, ite_blt, ite_b, ite_bt, tru_i, tru_b, lit_0, lit_1, lit_2, lit_3, lit_4, lit_5, lit_6, lit_7, lit_8, p_law_cross n a b c d m m' h1 h2 h3 h4 h5 h6, h0]
    rfl
  · rw [if_neg h0]
    rw [Bool.not_eq_true] at h0
    refine rq [some (.sh (ed a b m)), some (.sh (ed c d m')), some (.sh (.bl first)), none, none, none, none] (by simp only [retR_nx, retR_rt, retR_xn, vC_0, vC_s, vP_0, vP_s, vS_0, vS_0l, vS_s, frz_sh, frz_l, frzL_nil, frzL_cons, frzL_map, lstE_0, lstE_s, retV_0, retV_s, frzE_0, frzE_s, seqS_eq, setS_eq, tgtS_eq, exprS_eq, retS_eq, retN_eq, ifS_eq, raiseS_eq, appS_eq, augS_eq, forS_eq, setE_eq, nilE_eq, consE_eq, tupE_eq, tryS_eq, nxS_rt, nxS_nx, kX, pX, cX, sX, op1, op2, inX, slX, noI, toI, toO, toC, flt, tst, tru, andT, orT, notT, andX, orX, notX, ifX, nilA, consA, tupX, lstX, callX, methX, meth0X, joinX, itX, it2X, yesT, chX, consR, andR, orR, notR, andV, orV, blR_bl, truR_bl, Rs.bind_ok, Rs.bind_exn, Rs.bind_bad, So.of_ok, So.of_exn, So.of_bad, noX_ok, tup_k, lst_k, intR_i, List.set_cons_zero, List.set_cons_succ, List.length_cons, List.length_nil, Nat.reduceAdd, Nat.reduceEqDiff, Nat.reduceLeDiff, reduceIte, if_true, if_false, Bool.not_true, Bool.not_false, decide_eq_true_eq, Bool.not_eq_true', decide_eq_false_iff_not, decide_true, decide_false, ite_self, Bool.false_eq_true, Bool.true_and, Bool.and_true, Bool.false_and, Bool.and_false, Bool.true_or, Bool.or_true, Bool.false_or, Bool.or_false, Bool.and_eq_true, Bool.or_eq_true, true_and, and_true, false_and, and_false, true_or, or_true, false_or, or_false, not_true_eq_false, not_false_eq_true, and_self, or_self, eq_self, add_i, sub_i, neg_i, min_i, max_i, lt_i, le_i, gt_i, ge_i, int1_i, int1_b, eq_i, ne_i, eq_b, ne_b, eq_s, ne_s, len_s, sl_s, sl_l, ix_t0, ix_t1, ix_t2, ix_t3, ix_t4, ix_l0, ix_l1, len_l, len_t, isStr_tx, ite_bl, ite_blt, ite_b, ite_bt, tru_i, tru_b, lit_0, lit_1, lit_2, lit_3, lit_4, lit_5, lit_6, lit_7, lit_8, p_law_cross n a b c d m m' h1 h2 h3 h4 h5 h6, h0]) ?_
    have h0' := h0
    unfold clash at h0'
    have e1 : shift a b c d m m' first = if a = b ∧ c = d ∧ a = c then (if first = true then ed a b m else ed (a + (m'.length - d + c)) (b + (m'.length - d + c)) m) else if a = b ∧ a = c then ed a b m else if d ≤ a then ed (a + (m'.length - d + c)) (b + (m'.length - d + c)) m else ed a b m := by
      have ea : (m'.length : Int) - (d - c) = m'.length - d + c := by omega
      unfold shift
      rw [ea]
      by_cases k1 : a = b ∧ c = d ∧ a = c
      · rw [if_pos k1]
        by_cases k2 : first = true
        · rw [if_pos (.inr ⟨k1, k2⟩), if_pos k2]
        · rw [if_neg (fun h => by rcases h with h | h; omega; exact k2 h.2), if_neg k2]
      · rw [if_neg k1]
        by_cases k2 : a = b ∧ a = c
        · rw [if_pos k2, if_pos (by omega)]
        · rw [if_neg k2]
          by_cases k3 : d ≤ a
          · rw [if_pos k3, if_neg (by omega)]
          · rw [if_neg k3, if_pos (by omega)]
    rw [e1]
    by_cases k1 : a = b ∧ c = d ∧ a = c
    · cases first <;> simp only [retR_nx, retR_rt, retR_xn, vC_0, vC_s, vP_0, vP_s, vS_0, vS_0l, vS_s, frz_sh, frz_l, frzL_nil, frzL_cons, frzL_map, lstE_0, lstE_s, retV_0, retV_s, frzE_0, frzE_s, seqS_eq, setS_eq, tgtS_eq, exprS_eq, retS_eq, retN_eq, ifS_eq, raiseS_eq, appS_eq, augS_eq, forS_eq, setE_eq, nilE_eq, consE_eq, tupE_eq, tryS_eq, nxS_rt, nxS_nx, kX, pX, cX, sX, op1, op2, inX, slX, noI, toI, toO, toC, flt, tst, tru, andT, orT, notT, andX, orX, notX, ifX, nilA, consA, tupX, lstX, callX, methX, meth0X, joinX, itX, it2X, yesT, chX, consR, andR, orR, notR, andV, orV, blR_bl, truR_bl, Rs.bind_ok, Rs.bind_exn, Rs.bind_bad, So.of_ok, So.of_exn, So.of_bad, noX_ok, tup_k, lst_k, intR_i, List.set_cons_zero, List.set_cons_succ, List.length_cons, List.length_nil, Nat.reduceAdd, Nat.reduceEqDiff, Nat.reduceLeDiff, reduceIte, if_true, if_false, Bool.not_true, Bool.not_false, decide_eq_true_eq, Bool.not_eq_true', decide_eq_false_iff_not, decide_true, decide_false, ite_self, Bool.false_eq_true, Bool.true_and, Bool.and_true, Bool.false_and, Bool.and_false, Bool.true_or, Bool.or_true, Bool.false_or, Bool.or_false, Bool.and_eq_true, Bool.or_eq_true, true_and, and_true, false_and, and_false, true_or, or_true, false_or, or_false, not_true_eq_false, not_false_eq_true, and_self, or_self, eq_self, add_i, sub_i, neg_i, min_i, max_i, lt_i, le_i, gt_i, ge_i, int1_i, int1_b, eq_i, ne_i, eq_b, ne_b, eq_s, ne_s, len_s, sl_s, sl_l, ix_t0, ix_t1, ix_t2, ix_t3, ix_t4, ix_l0, ix_l1, len_l, len_t, isStr_tx, ite_bl, ite_blt, ite_b, ite_bt, tru_i, tru_b, lit_0, lit_1, lit_2, lit_3, lit_4, lit_5, lit_6, lit_7, lit_8, ed0, ed1, ed2, tup_ed, eq_true k1] <;> rfl
    · by_cases k2 : a = b ∧ a = c
      · by_cases k3 : d ≤ a <;> simp only [retR_nx, retR_rt, retR_xn, vC_0, vC_s, vP_0, vP_s, vS_0, vS_0l, vS_s, frz_sh, frz_l, frzL_nil, frzL_cons, frzL_map, lstE_0, lstE_s, retV_0, retV_s, frzE_0, frzE_s, seqS_eq, setS_eq, tgtS_eq, exprS_eq, retS_eq, retN_eq, ifS_eq, raiseS_eq, appS_eq, augS_eq, forS_eq, setE_eq, nilE_eq, consE_eq, tupE_eq, tryS_eq, nxS_rt, nxS_nx, kX, pX, cX, sX, op1, op2, inX, slX, noI, toI, toO, toC, flt, tst, tru, andT, orT, notT, andX, orX, notX, ifX, nilA, consA, tupX, lstX, callX, methX, meth0X, joinX, itX, it2X, yesT, chX, consR, andR, orR, notR, andV, orV, blR_bl, truR_bl, Rs.bind_ok, Rs.bind_exn, Rs.bind_bad, So.of_ok, So.of_exn, So.of_bad, noX_ok, tup_k, lst_k, intR_i, List.set_cons_zero, List.set_cons_succ, List.length_cons, List.length_nil, Nat.reduceAdd, Nat.reduceEqDiff, Nat.reduceLeDiff, reduceIte, if_true, if_false, Bool.not_true, Bool.not_false, decide_eq_true_eq, Bool.not_eq_true', decide_eq_false_iff_not, decide_true, decide_false, ite_self, Bool.false_eq_true, Bool.true_and, Bool.and_true, Bool.false_and, Bool.and_false, Bool.true_or, Bool.or_true, Bool.false_or, Bool.or_false, Bool.and_eq_true, Bool.or_eq_true, true_and, and_true, false_and, and_false, true_or, or_true, false_or, or_false, not_true_eq_false, not_false_eq_true, and_self, or_self, eq_self, add_i, sub_i, neg_i, min_i, max_i, lt_i, le_i, gt_i, ge_i, int1_i, int1_b, eq_i, ne_i, eq_b, ne_b, eq_s, ne_s, len_s, sl_s, sl_l, ix_t0, ix_t1, ix_t2, ix_t3, ix_t4, ix_l0, ix_l1, len_l, len_t, isStr_tx, ite_bl, ite_blt, ite_b, ite_bt, tru_i, tru_b, lit_0, lit_1, lit_2, lit_3, lit_4, lit_5, lit_6, lit_7, lit_8, ed0, ed1, ed2, tup_ed, k1, eq_true k2, k3]
      · by_cases k3 : d ≤ a <;> simp only [retR_nx, retR_rt, retR_xn, vC_0, vC_s, vP_0, vP_s, vS_0, vS_0l, vS_s, frz_sh, frz_l, frzL_nil, frzL_cons, frzL_map, lstE_0, lstE_s, retV_0, retV_s, frzE_0, frzE_s, seqS_eq, setS_eq, tgtS_eq, exprS_eq, retS_eq, retN_eq, ifS_eq, raiseS_eq, appS_eq, augS_eq, forS_eq, setE_eq, nilE_eq, consE_eq, tupE_eq, tryS_eq, nxS_rt, nxS_nx, kX, pX, cX, sX, op1, op2, inX, slX, noI, toI, toO, toC, flt, tst, tru, andT, orT, notT, andX, orX, notX, ifX, nilA, consA, tupX, lstX, callX, methX, meth0X, joinX, itX, it2X, yesT, chX, consR, andR, orR, notR, andV, orV, blR_bl, truR_bl, Rs.bind_ok, Rs.bind_exn, Rs.bind_bad, So.of_ok, So.of_exn, So.of_bad, noX_ok, tup_k, lst_k, intR_i, List.set_cons_zero, List.set_cons_succ, List.length_cons, List.length_nil, Nat.reduceAdd, Nat.reduceEqDiff, Nat.reduceLeDiff, reduceIte, if_true, if_false, Bool.not_true, Bool.not_false, decide_eq_true_eq, Bool.not_eq_true', decide_eq_false_iff_not, decide_true, decide_false, ite_self, Bool.false_eq_true, Bool.true_and, Bool.and_true, Bool.false_and, Bool.and_false, Bool.true_or, Bool.or_true, Bool.false_or, Bool.or_false, Bool.and_eq_true, Bool.or_eq_true, true_and, and_true, false_and, and_false, true_or, or_true, false_or, or_false, not_true_eq_false, not_false_eq_true, and_self, or_self, eq_self, add_i, sub_i, neg_i, min_i, max_i, lt_i, le_i, gt_i, ge_i, int1_i, int1_b, eq_i, ne_i, eq_b, ne_b, eq_s, ne_s, len_s, sl_s, sl_l, ix_t0, ix_t1, ix_t2, ix_t3, ix_t4, ix_l0, ix_l1, len_l, len_t, isStr_tx, ite_bl, ite_blt, ite_b, ite_bt, tru_i, tru_b, lit_0, lit_1, lit_2, lit_3, lit_4, lit_5, lit_6, lit_7, lit_8, ed0, ed1, ed2, tup_ed, k1, k2, k3] <;> rfl
def put (t : List Nat) (b e : Int) (m : List Nat) : List Nat := t.take b.toNat ++ m ++ t.drop e.toNat
theorem p_put (n : Nat) (t : List Nat) (b e : Int) (m : List Nat) (h1 : 0 ≤ b) (h2 : 0 ≤ e) (ht : t.length ≤ 1000000) (hm : m.length ≤ 1000) : d__law_put n [tx t, ed b e m] = .ok (.sh (tx (put t b e m))) := by
  rw [e__law_put]
  unfold b__law_put put
  have l1 : (t.take b.toNat).length ≤ t.length := by rw [List.length_take]; omega
  have l2 : (t.drop e.toNat).length ≤ t.length := by rw [List.length_drop]; omega
  simp only [retR_nx, retR_rt, retR_xn, vC_0, vC_s, vP_0, vP_s, vS_0, vS_0l, vS_s, frz_sh, frz_l, frzL_nil, frzL_cons, frzL_map, lstE_0, lstE_s, retV_0, retV_s, frzE_0, frzE_s, seqS_eq, setS_eq, tgtS_eq, exprS_eq, retS_eq, retN_eq, ifS_eq, raiseS_eq, appS_eq, augS_eq, forS_eq, setE_eq, nilE_eq, consE_eq, tupE_eq, tryS_eq, nxS_rt, nxS_nx, kX, pX, cX, sX, op1, op2, inX, slX, noI, toI, toO, toC, flt, tst, tru, andT, orT, notT, andX, orX, notX, ifX, nilA, consA, tupX, lstX, callX, methX, meth0X, joinX, itX, it2X, yesT, chX, consR, andR, orR, notR, andV, orV, blR_bl, truR_bl, Rs.bind_ok, Rs.bind_exn, Rs.bind_bad, So.of_ok, So.of_exn, So.of_bad, noX_ok, tup_k, lst_k, intR_i, List.set_cons_zero, List.set_cons_succ, List.length_cons, List.length_nil, Nat.reduceAdd, Nat.reduceEqDiff, Nat.reduceLeDiff, reduceIte, if_true, if_false, Bool.not_true, Bool.not_false, decide_eq_true_eq, Bool.not_eq_true', decide_eq_false_iff_not, decide_true, decide_false, ite_self, Bool.false_eq_true, Bool.true_and, Bool.and_true, Bool.false_and, Bool.and_false, Bool.true_or, Bool.or_true, Bool.false_or, Bool.or_false, Bool.and_eq_true, Bool.or_eq_true, true_and, and_true, false_and, and_false, true_or, or_true, false_or, or_false, not_true_eq_false, not_false_eq_true, and_self, or_self, eq_self, add_i, sub_i, neg_i, min_i, max_i, lt_i, le_i, gt_i, ge_i, int1_i, int1_b, eq_i, ne_i, eq_b, ne_b, eq_s, ne_s, len_s, sl_s, sl_l, ix_t0, ix_t1, ix_t2, ix_t3, ix_t4, ix_l0, ix_l1, len_l, len_t, isStr_tx, ite_bl, ite_blt, ite_b, ite_bt, tru_i, tru_b, lit_0, lit_1, lit_2, lit_3, lit_4, lit_5, lit_6, lit_7, lit_8, ed0, ed1, ed2, cut_hi (show b = (b.toNat : Int) by omega), cut_lo (show e = (e.toNat : Int) by omega),
    add_s (show (t.take b.toNat).length + m.length ≤ 16777216 by omega), add_s (show (t.take b.toNat ++ m).length + (t.drop e.toNat).length ≤ 16777216 by rw [List.length_append]; omega)]
theorem p_same (n : Nat) (a b : Bool) : d__law_same n [.bl a, .bl b] = .ok (.sh (.bl (decide (a = b)))) := by
  rw [e__law_same]
  unfold b__law_same
  have e : isiR .bool (.bl a) = .ok (.bl true) := rfl
  simp only [retR_nx, retR_rt, retR_xn, vC_0, vC_s, vP_0, vP_s, vS_0, vS_0l, vS_s, frz_sh, frz_l, frzL_nil, frzL_cons, frzL_map, lstE_0, lstE_s, retV_0, retV_s, frzE_0, frzE_s, seqS_eq, setS_eq, tgtS_eq, exprS_eq, retS_eq, retN_eq, ifS_eq, raiseS_eq, appS_eq, augS_eq, forS_eq, setE_eq, nilE_eq, consE_eq, tupE_eq, tryS_eq, nxS_rt, nxS_nx, kX, pX, cX, sX, op1, op2, inX, slX, noI, toI, toO, toC, flt, tst, tru, andT, orT, notT, andX, orX, notX, ifX, nilA, consA, tupX, lstX, callX, methX, meth0X, joinX, itX, it2X, yesT, chX, consR, andR, orR, notR, andV, orV, blR_bl, truR_bl, Rs.bind_ok, Rs.bind_exn, Rs.bind_bad, So.of_ok, So.of_exn, So.of_bad, noX_ok, tup_k, lst_k, intR_i, List.set_cons_zero, List.set_cons_succ, List.length_cons, List.length_nil, Nat.reduceAdd, Nat.reduceEqDiff, Nat.reduceLeDiff, reduceIte, if_true, if_false, Bool.not_true, Bool.not_false, decide_eq_true_eq, Bool.not_eq_true', decide_eq_false_iff_not, decide_true, decide_false, ite_self, Bool.false_eq_true, Bool.true_and, Bool.and_true, Bool.false_and, Bool.and_false, Bool.true_or, Bool.or_true, Bool.false_or, Bool.or_false, Bool.and_eq_true, Bool.or_eq_true, true_and, and_true, false_and, and_false, true_or, or_true, false_or, or_false, not_true_eq_false, not_false_eq_true, and_self, or_self, eq_self, add_i, sub_i, neg_i, min_i, max_i, lt_i, le_i, gt_i, ge_i, int1_i, int1_b, eq_i, ne_i, eq_b, ne_b, eq_s, ne_s, len_s, sl_s, sl_l, ix_t0, ix_t1, ix_t2, ix_t3, ix_t4, ix_l0, ix_l1, len_l, len_t, isStr_tx, ite_bl, ite_blt, ite_b, ite_bt, tru_i, tru_b, lit_0, lit_1, lit_2, lit_3, lit_4, lit_5, lit_6, lit_7, lit_8, e, and_t]
theorem put_len (t : List Nat) (b e : Int) (m : List Nat) (h : 0 ≤ b ∧ b ≤ e ∧ e ≤ t.length) : ((put t b e m).length : Int) = t.length - (e - b) + m.length := by
  unfold put
  rw [List.length_append, List.length_append, List.length_take, List.length_drop]
  omega
theorem put_comm (t : List Nat) (a b c d : Int) (m m' : List Nat) (h : 0 ≤ a ∧ a ≤ b ∧ b ≤ c ∧ c ≤ d ∧ d ≤ t.length) :
    put (put t a b m) (c + (m.length - (b - a))) (d + (m.length - (b - a))) m' = put (put t c d m') a b m := by
  obtain ⟨a, rfl⟩ := Int.eq_ofNat_of_zero_le (show 0 ≤ a by omega)
  obtain ⟨b, rfl⟩ := Int.eq_ofNat_of_zero_le (show 0 ≤ b by omega)
  obtain ⟨c, rfl⟩ := Int.eq_ofNat_of_zero_le (show 0 ≤ c by omega)
  obtain ⟨d, rfl⟩ := Int.eq_ofNat_of_zero_le (show 0 ≤ d by omega)
  have e1 : ((c : Int) + (m.length - ((b : Int) - a))).toNat = a + (m.length + (c - b)) := by omega
  have e2 : ((d : Int) + (m.length - ((b : Int) - a))).toNat = a + (m.length + (d - b)) := by omega
  unfold put
  rw [e1, e2]
  simp only [Int.toNat_natCast]
  have la : (t.take a).length = a := by rw [List.length_take]; omega
  have lc : (t.take c).length = c := by rw [List.length_take]; omega
  rw [List.append_assoc, List.append_assoc, List.append_assoc, List.append_assoc]
  have t1 : (t.take a ++ (m ++ t.drop b)).take (a + (m.length + (c - b))) = t.take a ++ (m ++ (t.drop b).take (c - b)) := by
    have := List.take_length_add_append (l₁ := t.take a) (l₂ := m ++ t.drop b) (i := m.length + (c - b))
    rw [la] at this
    rw [this, List.take_length_add_append]
  have t2 : (t.take a ++ (m ++ t.drop b)).drop (a + (m.length + (d - b))) = t.drop d := by
    have := List.drop_length_add_append (l₁ := t.take a) (l₂ := m ++ t.drop b) (i := m.length + (d - b))
    rw [la] at this
    rw [this, List.drop_length_add_append, List.drop_drop]
    congr 1
    omega
  have t3 : (t.take c ++ (m' ++ t.drop d)).take a = t.take a := by
    rw [List.take_append_of_le_length (by omega), List.take_take, Nat.min_eq_left (by omega)]
  have t4 : (t.take c ++ (m' ++ t.drop d)).drop b = (t.drop b).take (c - b) ++ (m' ++ t.drop d) := by
    rw [List.drop_append_of_le_length (by omega), List.drop_take]
  rw [t1, t2, t3, t4]
  simp only [List.append_assoc]
theorem p_check_offered (n : Nat) (l : List Nat) (h : ∀ c ∈ l, okc c) (h2 : l.length ≤ 400) : d_check_offered n [tx l] = .ok (.sh .non) := by
  rw [e_check_offered]
  unfold b_check_offered
  simp only [retR_nx, retR_rt, retR_xn, vC_0, vC_s, vP_0, vP_s, vS_0, vS_0l, vS_s, frz_sh, frz_l, frzL_nil, frzL_cons, frzL_map, lstE_0, lstE_s, retV_0, retV_s, frzE_0, frzE_s, seqS_eq, setS_eq, tgtS_eq, exprS_eq, retS_eq, retN_eq, ifS_eq, raiseS_eq, appS_eq, augS_eq, forS_eq, setE_eq, nilE_eq, consE_eq, tupE_eq, tryS_eq, nxS_rt, nxS_nx, kX, pX, cX, sX, op1, op2, inX, slX, noI, toI, toO, toC, flt, tst, tru, andT, orT, notT, andX, orX, notX, ifX, nilA, consA, tupX, lstX, callX, methX, meth0X, joinX, itX, it2X, yesT, chX, consR, andR, orR, notR, andV, orV, blR_bl, truR_bl, Rs.bind_ok, Rs.bind_exn, Rs.bind_bad, So.of_ok, So.of_exn, So.of_bad, noX_ok, tup_k, lst_k, intR_i, List.set_cons_zero, List.set_cons_succ, List.length_cons, List.length_nil, Nat.reduceAdd, Nat.reduceEqDiff, Nat.reduceLeDiff, reduceIte, if_true, if_false, Bool.not_true, Bool.not_false, decide_eq_true_eq, Bool.not_eq_true', decide_eq_false_iff_not, decide_true, decide_false, ite_self, Bool.false_eq_true, Bool.true_and, Bool.and_true, Bool.false_and, Bool.and_false, Bool.true_or, Bool.or_true, Bool.false_or, Bool.or_false, Bool.and_eq_true, Bool.or_eq_true, true_and, and_true, false_and, and_false, true_or, or_true, false_or, or_false, not_true_eq_false, not_false_eq_true, and_self, or_self, eq_self, add_i, sub_i, neg_i, min_i, max_i, lt_i, le_i, gt_i, ge_i, int1_i, int1_b, eq_i, ne_i, eq_b, ne_b, eq_s, ne_s, len_s, sl_s, sl_l, ix_t0, ix_t1, ix_t2, ix_t3, ix_t4, ix_l0, ix_l1, len_l, len_t, isStr_tx, ite_bl, ite_blt, ite_b, ite_bt, tru_i, tru_b, lit_0, lit_1, lit_2, lit_3, lit_4, lit_5, lit_6, lit_7, lit_8, p_is_text n l 400 h (by omega) (by omega)]
theorem p_check_edit (n : Nat) (t : List Nat) (b e : Int) (m : List Nat) (h : OkE t.length b e m) : d_check_edit n [tx t, ed b e m] = .ok (.sh .non) := by
  obtain ⟨h1, h2, h3, h4, h5, h6⟩ := h
  rw [e_check_edit]
  unfold b_check_edit
  have hc : ∀ c ∈ m, okc c := fun c hc => sg_ok c (h5 c hc)
  simp only [retR_nx, retR_rt, retR_xn, vC_0, vC_s, vP_0, vP_s, vS_0, vS_0l, vS_s, frz_sh, frz_l, frzL_nil, frzL_cons, frzL_map, lstE_0, lstE_s, retV_0, retV_s, frzE_0, frzE_s, seqS_eq, setS_eq, tgtS_eq, exprS_eq, retS_eq, retN_eq, ifS_eq, raiseS_eq, appS_eq, augS_eq, forS_eq, setE_eq, nilE_eq, consE_eq, tupE_eq, tryS_eq, nxS_rt, nxS_nx, kX, pX, cX, sX, op1, op2, inX, slX, noI, toI, toO, toC, flt, tst, tru, andT, orT, notT, andX, orX, notX, ifX, nilA, consA, tupX, lstX, callX, methX, meth0X, joinX, itX, it2X, yesT, chX, consR, andR, orR, notR, andV, orV, blR_bl, truR_bl, Rs.bind_ok, Rs.bind_exn, Rs.bind_bad, So.of_ok, So.of_exn, So.of_bad, noX_ok, tup_k, lst_k, intR_i, List.set_cons_zero, List.set_cons_succ, List.length_cons, List.length_nil, Nat.reduceAdd, Nat.reduceEqDiff, Nat.reduceLeDiff, reduceIte, if_true, if_false, Bool.not_true, Bool.not_false, decide_eq_true_eq, Bool.not_eq_true', decide_eq_false_iff_not, decide_true, decide_false, ite_self, Bool.false_eq_true, Bool.true_and, Bool.and_true, Bool.false_and, Bool.and_false, Bool.true_or, Bool.or_true, Bool.false_or, Bool.or_false, Bool.and_eq_true, Bool.or_eq_true, true_and, and_true, false_and, and_false, true_or, or_true, false_or, or_false, not_true_eq_false, not_false_eq_true, and_self, or_self, eq_self, add_i, sub_i, neg_i, min_i, max_i, lt_i, le_i, gt_i, ge_i, int1_i, int1_b, eq_i, ne_i, eq_b, ne_b, eq_s, ne_s, len_s, sl_s, sl_l, ix_t0, ix_t1, ix_t2, ix_t3, ix_t4, ix_l0, ix_l1, len_l, len_t, isStr_tx, ite_bl, ite_blt, ite_b, ite_bt, tru_i, tru_b, lit_0, lit_1, lit_2, lit_3, lit_4, lit_5, lit_6, lit_7, lit_8, tup_ed, p_is_within, p_check_offered n m hc (by omega), show (0 : Int) ≤ b ∧ b ≤ t.length from ⟨h1, by omega⟩, show (0 : Int) ≤ e ∧ e ≤ t.length from ⟨by omega, h3⟩, show ¬ e < b by omega, h6]
theorem p_applied (n : Nat) (t : List Nat) (b e : Int) (m : List Nat) (h : OkE t.length b e m) (ht : t.length ≤ 1000000) : d_applied n [tx t, ed b e m] = .ok (.sh (tx (put t b e m))) := by
  have hc := p_check_edit n t b e m h
  obtain ⟨h1, h2, h3, h4, h5, h6⟩ := h
  rw [e_applied]
  unfold b_applied put
  have l1 : (t.take b.toNat).length ≤ t.length := by rw [List.length_take]; omega
  have l2 : (t.drop e.toNat).length ≤ t.length := by rw [List.length_drop]; omega
  simp only [retR_nx, retR_rt, retR_xn, vC_0, vC_s, vP_0, vP_s, vS_0, vS_0l, vS_s, frz_sh, frz_l, frzL_nil, frzL_cons, frzL_map, lstE_0, lstE_s, retV_0, retV_s, frzE_0, frzE_s, seqS_eq, setS_eq, tgtS_eq, exprS_eq, retS_eq, retN_eq, ifS_eq, raiseS_eq, appS_eq, augS_eq, forS_eq, setE_eq, nilE_eq, consE_eq, tupE_eq, tryS_eq, nxS_rt, nxS_nx, kX, pX, cX, sX, op1, op2, inX, slX, noI, toI, toO, toC, flt, tst, tru, andT, orT, notT, andX, orX, notX, ifX, nilA, consA, tupX, lstX, callX, methX, meth0X, joinX, itX, it2X, yesT, chX, consR, andR, orR, notR, andV, orV, blR_bl, truR_bl, Rs.bind_ok, Rs.bind_exn, Rs.bind_bad, So.of_ok, So.of_exn, So.of_bad, noX_ok, tup_k, lst_k, intR_i, List.set_cons_zero, List.set_cons_succ, List.length_cons, List.length_nil, Nat.reduceAdd, Nat.reduceEqDiff, Nat.reduceLeDiff, reduceIte, if_true, if_false, Bool.not_true, Bool.not_false, decide_eq_true_eq, Bool.not_eq_true', decide_eq_false_iff_not, decide_true, decide_false, ite_self, Bool.false_eq_true, Bool.true_and, Bool.and_true, Bool.false_and, Bool.and_false, Bool.true_or, Bool.or_true, Bool.false_or, Bool.or_false, Bool.and_eq_true, Bool.or_eq_true, true_and, and_true, false_and, and_false, true_or, or_true, false_or, or_false, not_true_eq_false, not_false_eq_true, and_self, or_self, eq_self, add_i, sub_i, neg_i, min_i, max_i, lt_i, le_i, gt_i, ge_i, int1_i, int1_b, eq_i, ne_i, eq_b, ne_b, eq_s, ne_s, len_s, sl_s, sl_l, ix_t0, ix_t1, ix_t2, ix_t3, ix_t4, ix_l0, ix_l1, len_l, len_t, isStr_tx, ite_bl, ite_blt, ite_b, ite_bt, tru_i, tru_b, lit_0, lit_1, lit_2, lit_3, lit_4, lit_5, lit_6, lit_7, lit_8, tup_ed, hc, cut_hi (show b = (b.toNat : Int) by omega), cut_lo (show e = (e.toNat : Int) by omega),
    add_s (show (t.take b.toNat).length + m.length ≤ 16777216 by omega), add_s (show (t.take b.toNat ++ m).length + (t.drop e.toNat).length ≤ 16777216 by rw [List.length_append]; omega)]
/-! joined -/
def P1 (t u : List Nat) (k : Nat) : Bool := decide (t.getD k 0 = u.getD k 0)
def P2 (t u : List Nat) (k : Nat) : Bool := decide (t.getD (t.length - 1 - k) 0 = u.getD (u.length - 1 - k) 0)
def joinedD (t u : List Nat) : D :=
  if t = u then .non else
    ed (cnt (P1 t u) (min t.length u.length) : Nat) (t.length - (cnt (P2 t u) (min t.length u.length - cnt (P1 t u) (min t.length u.length)) : Nat))
      (cut u (some (cnt (P1 t u) (min t.length u.length) : Nat)) (some (u.length - (cnt (P2 t u) (min t.length u.length - cnt (P1 t u) (min t.length u.length)) : Nat))))
theorem p_law_joined (n : Nat) (t u : List Nat) (ht : t.length ≤ 1000000) (hu : u.length ≤ 1000000) : d__law_joined n [tx t, tx u] = .ok (.sh (joinedD t u)) := by
  rw [e__law_joined]
  unfold b__law_joined joinedD
  by_cases h0 : t = u
  · simp only [retR_nx, retR_rt, retR_xn, vC_0, vC_s, vP_0, vP_s, vS_0, vS_0l, vS_s, frz_sh, frz_l, frzL_nil, frzL_cons, frzL_map, lstE_0, lstE_s, retV_0, retV_s, frzE_0, frzE_s, seqS_eq, setS_eq, tgtS_eq, exprS_eq, retS_eq, retN_eq, ifS_eq, raiseS_eq, appS_eq, augS_eq, forS_eq, setE_eq, nilE_eq, consE_eq, tupE_eq, tryS_eq, nxS_rt, nxS_nx, kX, pX, cX, sX, op1, op2, inX, slX, noI, toI, toO, toC, flt, tst, tru, andT, orT, notT, andX, orX, notX, ifX, nilA, consA, tupX, lstX, callX, methX, meth0X, joinX, itX, it2X, yesT, chX, consR, andR, orR, notR, andV, orV, blR_bl, truR_bl, Rs.bind_ok, Rs.bind_exn, Rs.bind_bad, So.of_ok, So.of_exn, So.of_bad, noX_ok, tup_k, lst_k, intR_i, List.set_cons_zero, List.set_cons_succ, List.length_cons, List.length_nil, Nat.reduceAdd, Nat.reduceEqDiff, Nat.reduceLeDiff, reduceIte, if_true, if_false, Bool.not_true, Bool.not_false, decide_eq_true_eq, Bool.not_eq_true', decide_eq_false_iff_not, decide_true, decide_false, ite_self, Bool.false_eq_true, Bool.true_and, Bool.and_true, Bool.false_and, Bool.and_false, Bool.true_or, Bool.or_true, Bool.false_or, Bool.or_false, Bool.and_eq_true, Bool.or_eq_true, true_and, and_true, false_and, and_false, true_or, or_true, false_or, or_false, not_true_eq_false, not_false_eq_true, and_self, or_self, eq_self, add_i, sub_i, neg_i, min_i, max_i, lt_i, le_i, gt_i, ge_i, int1_i, int1_b, eq_i, ne_i, eq_b, ne_b, eq_s, ne_s, len_s, sl_s, sl_l, ix_t0, ix_t1, ix_t2, ix_t3, ix_t4, ix_l0, ix_l1, len_l, len_t, isStr_tx, ite_bl, ite_blt, ite_b, ite_bt, tru_i, tru_b, lit_0, lit_1, lit_2, lit_3, lit_4, lit_5, lit_6, lit_7, lit_8, eq_true h0]
  rw [if_neg h0]
  refine rq [some (.sh (tx t)), some (.sh (tx u)), none, none, none] (by simp only [retR_nx, retR_rt, retR_xn, vC_0, vC_s, vP_0, vP_s, vS_0, vS_0l, vS_s, frz_sh, frz_l, frzL_nil, frzL_cons, frzL_map, lstE_0, lstE_s, retV_0, retV_s, frzE_0, frzE_s, seqS_eq, setS_eq, tgtS_eq, exprS_eq, retS_eq, retN_eq, ifS_eq, raiseS_eq, appS_eq, augS_eq, forS_eq, setE_eq, nilE_eq, consE_eq, tupE_eq, tryS_eq, nxS_rt, nxS_nx, kX, pX, cX, sX, op1, op2, inX, slX, noI, toI, toO, toC, flt, tst, tru, andT, orT, notT, andX, orX, notX, ifX, nilA, consA, tupX, lstX, callX, methX, meth0X, joinX, itX, it2X, yesT, chX, consR, andR, orR, notR, andV, orV, blR_bl, truR_bl, Rs.bind_ok, Rs.bind_exn, Rs.bind_bad, So.of_ok, So.of_exn, So.of_bad, noX_ok, tup_k, lst_k, intR_i, List.set_cons_zero, List.set_cons_succ, List.length_cons, List.length_nil, Nat.reduceAdd, Nat.reduceEqDiff, Nat.reduceLeDiff, reduceIte, if_true, if_false, Bool.not_true, Bool.not_false, decide_eq_true_eq, Bool.not_eq_true', decide_eq_false_iff_not, decide_true, decide_false, ite_self, Bool.false_eq_true, Bool.true_and, Bool.and_true, Bool.false_and, Bool.and_false, Bool.true_or, Bool.or_true, Bool.false_or, Bool.or_false, Bool.and_eq_true, Bool.or_eq_true, true_and, and_true, false_and, and_false, true_or, or_true, false_or, or_false, not_true_eq_false, not_false_eq_true, and_self, or_self, eq_self, add_i, sub_i, neg_i, min_i, max_i, lt_i, le_i, gt_i, ge_i, int1_i, int1_b, eq_i, ne_i, eq_b, ne_b, eq_s, ne_s, len_s, sl_s, sl_l, ix_t0, ix_t1, ix_t2, ix_t3, ix_t4, ix_l0, ix_l1, len_l, len_t, isStr_tx, ite_bl, ite_blt, ite_b, ite_bt, tru_i, tru_b, lit_0, lit_1, lit_2, lit_3, lit_4, lit_5, lit_6, lit_7, lit_8, eq_false h0]) ?_
  refine rq [some (.sh (tx t)), some (.sh (tx u)), some (.sh (.int 0)), none, none] (by simp only [retR_nx, retR_rt, retR_xn, vC_0, vC_s, vP_0, vP_s, vS_0, vS_0l, vS_s, frz_sh, frz_l, frzL_nil, frzL_cons, frzL_map, lstE_0, lstE_s, retV_0, retV_s, frzE_0, frzE_s, seqS_eq, setS_eq, tgtS_eq, exprS_eq, retS_eq, retN_eq, ifS_eq, raiseS_eq, appS_eq, augS_eq, forS_eq, setE_eq, nilE_eq, consE_eq, tupE_eq, tryS_eq, nxS_rt, nxS_nx, kX, pX, cX, sX, op1, op2, inX, slX, noI, toI, toO, toC, flt, tst, tru, andT, orT, notT, andX, orX, notX, ifX, nilA, consA, tupX, lstX, callX, methX, meth0X, joinX, itX, it2X, yesT, chX, consR, andR, orR, notR, andV, orV, blR_bl, truR_bl, Rs.bind_ok, Rs.bind_exn, Rs.bind_bad, So.of_ok, So.of_exn, So.of_bad, noX_ok, tup_k, lst_k, intR_i, List.set_cons_zero, List.set_cons_succ, List.length_cons, List.length_nil, Nat.reduceAdd, Nat.reduceEqDiff, Nat.reduceLeDiff, reduceIte, if_true, if_false, Bool.not_true, Bool.not_false, decide_eq_true_eq, Bool.not_eq_true', decide_eq_false_iff_not, decide_true, decide_false, ite_self, Bool.false_eq_true, Bool.true_and, Bool.and_true, Bool.false_and, Bool.and_false, Bool.true_or, Bool.or_true, Bool.false_or, Bool.or_false, Bool.and_eq_true, Bool.or_eq_true, true_and, and_true, false_and, and_false, true_or, or_true, false_or, or_false, not_true_eq_false, not_false_eq_true, and_self, or_self, eq_self, add_i, sub_i, neg_i, min_i, max_i, lt_i, le_i, gt_i, ge_i, int1_i, int1_b, eq_i, ne_i, eq_b, ne_b, eq_s, ne_s, len_s, sl_s, sl_l, ix_t0, ix_t1, ix_t2, ix_t3, ix_t4, ix_l0, ix_l1, len_l, len_t, isStr_tx, ite_bl, ite_blt, ite_b, ite_bt, tru_i, tru_b, lit_0, lit_1, lit_2, lit_3, lit_4, lit_5, lit_6, lit_7, lit_8]) ?_
  generalize hm : min t.length u.length = m at *
  have hmin : minR (.int t.length) (.int u.length) = .ok (.int (m : Int)) := by rw [min_nat, hm]
  obtain ⟨ρ1, e1, o1, r1⟩ := forR_cnt (f := setE 3) (g := seqS (ifS (andT (tst (op2 eqR (cX 2) (cX 3))) (tst (op2 eqR (op2 ixA (cX 0) (cX 3)) (op2 ixA (cX 1) (cX 3))))) (seqS (setS 2 (toO (op2 addR (cX 3) (kX (.int 1)))))
 .nx) .nx)
 .nx) 0 (fun k ρ => ∃ o : Option T, ρ = [some (.sh (tx t)), some (.sh (tx u)), some (.sh (.int (cnt (P1 t u) k : Nat))), o, none]) m (fun k ρ hk ⟨o, e⟩ => by
      subst e
      refine ⟨_, rfl, _, .inl ?_, some (.sh (.int (k : Int))), rfl⟩
      rw [Int.zero_add]
      have i1 := ix_sD (a := t) (i := k) (k := k) rfl (by omega)
      have i2 := ix_sD (a := u) (i := k) (k := k) rfl (by omega)
      have ep : (P1 t u k = true) ↔ (t.getD k 0 = u.getD k 0) := by unfold P1; rw [decide_eq_true_eq]
      by_cases c : cnt (P1 t u) k = k ∧ t.getD k 0 = u.getD k 0
      · rw [cnt_yes ⟨c.1, ep.mpr c.2⟩]
        have c2 : (((cnt (P1 t u) k : Nat) : Int) = (k : Int) ∧ t.getD k 0 = u.getD k 0) = True := eq_true ⟨by omega, c.2⟩
        simp only [retR_nx, retR_rt, retR_xn, vC_0, vC_s, vP_0, vP_s, vS_0, vS_0l, vS_s, frz_sh, frz_l, frzL_nil, frzL_cons, frzL_map, lstE_0, lstE_s, retV_0, retV_s, frzE_0, frzE_s, seqS_eq, setS_eq, tgtS_eq, exprS_eq, retS_eq, retN_eq, ifS_eq, raiseS_eq, appS_eq, augS_eq, forS_eq, setE_eq, nilE_eq, consE_eq, tupE_eq, tryS_eq, nxS_rt, nxS_nx, kX, pX, cX, sX, op1, op2, inX, slX, noI, toI, toO, toC, flt, tst, tru, andT, orT, notT, andX, orX, notX, ifX, nilA, consA, tupX, lstX, callX, methX, meth0X, joinX, itX, it2X, yesT, chX, consR, andR, orR, notR, andV, orV, blR_bl, truR_bl, Rs.bind_ok, Rs.bind_exn, Rs.bind_bad, So.of_ok, So.of_exn, So.of_bad, noX_ok, tup_k, lst_k, intR_i, List.set_cons_zero, List.set_cons_succ, List.length_cons, List.length_nil, Nat.reduceAdd, Nat.reduceEqDiff, Nat.reduceLeDiff, reduceIte, if_true, if_false, Bool.not_true, Bool.not_false, decide_eq_true_eq, Bool.not_eq_true', decide_eq_false_iff_not, decide_true, decide_false, ite_self, Bool.false_eq_true, Bool.true_and, Bool.and_true, Bool.false_and, Bool.and_false, Bool.true_or, Bool.or_true, Bool.false_or, Bool.or_false, Bool.and_eq_true, Bool.or_eq_true, true_and, and_true, false_and, and_false, true_or, or_true, false_or, or_false, not_true_eq_false, not_false_eq_true, and_self, or_self, eq_self, add_i, sub_i, neg_i, min_i, max_i, lt_i, le_i, gt_i, ge_i, int1_i, int1_b, eq_i, ne_i, eq_b, ne_b, eq_s, ne_s, len_s, sl_s, sl_l, ix_t0, ix_t1, ix_t2, ix_t3, ix_t4, ix_l0, ix_l1, len_l, len_t, isStr_tx, ite_bl, ite_blt, ite_b, ite_bt, tru_i, tru_b, lit_0, lit_1, lit_2, lit_3, lit_4, lit_5, lit_6, lit_7, lit_8, i1, i2, List.cons.injEq, c2]
        simp
      · rw [cnt_no (fun h => c ⟨h.1, ep.mp h.2⟩)]
        have c2 : (((cnt (P1 t u) k : Nat) : Int) = (k : Int) ∧ t.getD k 0 = u.getD k 0) = False := eq_false fun h => c ⟨by omega, h.2⟩
        simp only [retR_nx, retR_rt, retR_xn, vC_0, vC_s, vP_0, vP_s, vS_0, vS_0l, vS_s, frz_sh, frz_l, frzL_nil, frzL_cons, frzL_map, lstE_0, lstE_s, retV_0, retV_s, frzE_0, frzE_s, seqS_eq, setS_eq, tgtS_eq, exprS_eq, retS_eq, retN_eq, ifS_eq, raiseS_eq, appS_eq, augS_eq, forS_eq, setE_eq, nilE_eq, consE_eq, tupE_eq, tryS_eq, nxS_rt, nxS_nx, kX, pX, cX, sX, op1, op2, inX, slX, noI, toI, toO, toC, flt, tst, tru, andT, orT, notT, andX, orX, notX, ifX, nilA, consA, tupX, lstX, callX, methX, meth0X, joinX, itX, it2X, yesT, chX, consR, andR, orR, notR, andV, orV, blR_bl, truR_bl, Rs.bind_ok, Rs.bind_exn, Rs.bind_bad, So.of_ok, So.of_exn, So.of_bad, noX_ok, tup_k, lst_k, intR_i, List.set_cons_zero, List.set_cons_succ, List.length_cons, List.length_nil, Nat.reduceAdd, Nat.reduceEqDiff, Nat.reduceLeDiff, reduceIte, if_true, if_false, Bool.not_true, Bool.not_false, decide_eq_true_eq, Bool.not_eq_true', decide_eq_false_iff_not, decide_true, decide_false, ite_self, Bool.false_eq_true, Bool.true_and, Bool.and_true, Bool.false_and, Bool.and_false, Bool.true_or, Bool.or_true, Bool.false_or, Bool.or_false, Bool.and_eq_true, Bool.or_eq_true, true_and, and_true, false_and, and_false, true_or, or_true, false_or, or_false, not_true_eq_false, not_false_eq_true, and_self, or_self, eq_self, add_i, sub_i, neg_i, min_i, max_i, lt_i, le_i, gt_i, ge_i, int1_i, int1_b, eq_i, ne_i, eq_b, ne_b, eq_s, ne_s, len_s, sl_s, sl_l, ix_t0, ix_t1, ix_t2, ix_t3, ix_t4, ix_l0, ix_l1, len_l, len_t, isStr_tx, ite_bl, ite_blt, ite_b, ite_bt, tru_i, tru_b, lit_0, lit_1, lit_2, lit_3, lit_4, lit_5, lit_6, lit_7, lit_8, i1, i2, List.cons.injEq, c2]) _ ⟨none, rfl⟩
  subst r1
  generalize hb : cnt (P1 t u) m = b at *
  have hbm : b ≤ m := by rw [← hb]; exact cnt_le _ _
  refine rq [some (.sh (tx t)), some (.sh (tx u)), some (.sh (.int b)), o1, none] (by simp only [retR_nx, retR_rt, retR_xn, vC_0, vC_s, vP_0, vP_s, vS_0, vS_0l, vS_s, frz_sh, frz_l, frzL_nil, frzL_cons, frzL_map, lstE_0, lstE_s, retV_0, retV_s, frzE_0, frzE_s, seqS_eq, setS_eq, tgtS_eq, exprS_eq, retS_eq, retN_eq, ifS_eq, raiseS_eq, appS_eq, augS_eq, forS_eq, setE_eq, nilE_eq, consE_eq, tupE_eq, tryS_eq, nxS_rt, nxS_nx, kX, pX, cX, sX, op1, op2, inX, slX, noI, toI, toO, toC, flt, tst, tru, andT, orT, notT, andX, orX, notX, ifX, nilA, consA, tupX, lstX, callX, methX, meth0X, joinX, itX, it2X, yesT, chX, consR, andR, orR, notR, andV, orV, blR_bl, truR_bl, Rs.bind_ok, Rs.bind_exn, Rs.bind_bad, So.of_ok, So.of_exn, So.of_bad, noX_ok, tup_k, lst_k, intR_i, List.set_cons_zero, List.set_cons_succ, List.length_cons, List.length_nil, Nat.reduceAdd, Nat.reduceEqDiff, Nat.reduceLeDiff, reduceIte, if_true, if_false, Bool.not_true, Bool.not_false, decide_eq_true_eq, Bool.not_eq_true', decide_eq_false_iff_not, decide_true, decide_false, ite_self, Bool.false_eq_true, Bool.true_and, Bool.and_true, Bool.false_and, Bool.and_false, Bool.true_or, Bool.or_true, Bool.false_or, Bool.or_false, Bool.and_eq_true, Bool.or_eq_true, true_and, and_true, false_and, and_false, true_or, or_true, false_or, or_false, not_true_eq_false, not_false_eq_true, and_self, or_self, eq_self, add_i, sub_i, neg_i, min_i, max_i, lt_i, le_i, gt_i, ge_i, int1_i, int1_b, eq_i, ne_i, eq_b, ne_b, eq_s, ne_s, len_s, sl_s, sl_l, ix_t0, ix_t1, ix_t2, ix_t3, ix_t4, ix_l0, ix_l1, len_l, len_t, isStr_tx, ite_bl, ite_blt, ite_b, ite_bt, tru_i, tru_b, lit_0, lit_1, lit_2, lit_3, lit_4, lit_5, lit_6, lit_7, lit_8, -min_i, hmin, rng1_i (show (m : Int).natAbs ≤ 4611686018427387903 by omega), Int.toNat_natCast]; exact e1) ?_
  refine rq [some (.sh (tx t)), some (.sh (tx u)), some (.sh (.int b)), o1, some (.sh (.int 0))] (by simp only [retR_nx, retR_rt, retR_xn, vC_0, vC_s, vP_0, vP_s, vS_0, vS_0l, vS_s, frz_sh, frz_l, frzL_nil, frzL_cons, frzL_map, lstE_0, lstE_s, retV_0, retV_s, frzE_0, frzE_s, seqS_eq, setS_eq, tgtS_eq, exprS_eq, retS_eq, retN_eq, ifS_eq, raiseS_eq, appS_eq, augS_eq, forS_eq, setE_eq, nilE_eq, consE_eq, tupE_eq, tryS_eq, nxS_rt, nxS_nx, kX, pX, cX, sX, op1, op2, inX, slX, noI, toI, toO, toC, flt, tst, tru, andT, orT, notT, andX, orX, notX, ifX, nilA, consA, tupX, lstX, callX, methX, meth0X, joinX, itX, it2X, yesT, chX, consR, andR, orR, notR, andV, orV, blR_bl, truR_bl, Rs.bind_ok, Rs.bind_exn, Rs.bind_bad, So.of_ok, So.of_exn, So.of_bad, noX_ok, tup_k, lst_k, intR_i, List.set_cons_zero, List.set_cons_succ, List.length_cons, List.length_nil, Nat.reduceAdd, Nat.reduceEqDiff, Nat.reduceLeDiff, reduceIte, if_true, if_false, Bool.not_true, Bool.not_false, decide_eq_true_eq, Bool.not_eq_true', decide_eq_false_iff_not, decide_true, decide_false, ite_self, Bool.false_eq_true, Bool.true_and, Bool.and_true, Bool.false_and, Bool.and_false, Bool.true_or, Bool.or_true, Bool.false_or, Bool.or_false, Bool.and_eq_true, Bool.or_eq_true, true_and, and_true, false_and, and_false, true_or, or_true, false_or, or_false, not_true_eq_false, not_false_eq_true, and_self, or_self, eq_self, add_i, sub_i, neg_i, min_i, max_i, lt_i, le_i, gt_i, ge_i, int1_i, int1_b, eq_i, ne_i, eq_b, ne_b, eq_s, ne_s, len_s, sl_s, sl_l, ix_t0, ix_t1, ix_t2, ix_t3, ix_t4, ix_l0, ix_l1, len_l, len_t, isStr_tx, ite_bl, ite_blt, ite_b, ite_bt, tru_i, tru_b, lit_0, lit_1, lit_2, lit_3, lit_4, lit_5, lit_6, lit_7, lit_8]) ?_
  obtain ⟨ρ2, e2, o2, r2⟩ := forR_cnt (f := setE 3) (g := seqS (ifS (andT (tst (op2 eqR (cX 4) (cX 3))) (tst (op2 eqR (op2 ixA (cX 0) (op2 subR (op2 subR (op1 lenR (cX 0)) (kX (.int 1))) (cX 3))) (op2 ixA (cX 1) (op2 subR (op2 subR (op1 lenR (cX 1)) (kX (.int 1))) (cX 3)))))) (seqS (setS 4 (toO (op2 addR (cX 3) (kX (.int 1)))))
 .nx) .nx)
 .nx) 0 (fun k ρ => ∃ o : Option T, ρ = [some (.sh (tx t)), some (.sh (tx u)), some (.sh (.int b)), o, some (.sh (.int (cnt (P2 t u) k : Nat)))]) (m - b) (fun k ρ hk ⟨o, e⟩ => by
      subst e
      refine ⟨_, rfl, _, .inl ?_, some (.sh (.int (k : Int))), rfl⟩
      rw [Int.zero_add]
      have i1 := ix_sD (a := t) (i := (t.length : Int) - 1 - k) (k := t.length - 1 - k) (by omega) (by omega)
      have i2 := ix_sD (a := u) (i := (u.length : Int) - 1 - k) (k := u.length - 1 - k) (by omega) (by omega)
      have ep : (P2 t u k = true) ↔ (t.getD (t.length - 1 - k) 0 = u.getD (u.length - 1 - k) 0) := by unfold P2; rw [decide_eq_true_eq]
      by_cases c : cnt (P2 t u) k = k ∧ t.getD (t.length - 1 - k) 0 = u.getD (u.length - 1 - k) 0
      · rw [cnt_yes ⟨c.1, ep.mpr c.2⟩]
        have c2 : (((cnt (P2 t u) k : Nat) : Int) = (k : Int) ∧ t.getD (t.length - 1 - k) 0 = u.getD (u.length - 1 - k) 0) = True := eq_true ⟨by omega, c.2⟩
        simp only [retR_nx, retR_rt, retR_xn, vC_0, vC_s, vP_0, vP_s, vS_0, vS_0l, vS_s, frz_sh, frz_l, frzL_nil, frzL_cons, frzL_map, lstE_0, lstE_s, retV_0, retV_s, frzE_0, frzE_s, seqS_eq, setS_eq, tgtS_eq, exprS_eq, retS_eq, retN_eq, ifS_eq, raiseS_eq, appS_eq, augS_eq, forS_eq, setE_eq, nilE_eq, consE_eq, tupE_eq, tryS_eq, nxS_rt, nxS_nx, kX, pX, cX, sX, op1, op2, inX, slX, noI, toI, toO, toC, flt, tst, tru, andT, orT, notT, andX, orX, notX, ifX, nilA, consA, tupX, lstX, callX, methX, meth0X, joinX, itX, it2X, yesT, chX, consR, andR, orR, notR, andV, orV, blR_bl, truR_bl, Rs.bind_ok, Rs.bind_exn, Rs.bind_bad, So.of_ok, So.of_exn, So.of_bad, noX_ok, tup_k, lst_k, intR_i, List.set_cons_zero, List.set_cons_succ, List.length_cons, List.length_nil, Nat.reduceAdd, Nat.reduceEqDiff, Nat.reduceLeDiff, reduceIte, if_true, if_false, Bool.not_true, Bool.not_false, decide_eq_true_eq, Bool.not_eq_true', decide_eq_false_iff_not, decide_true, decide_false, ite_self, Bool.false_eq_true, Bool.true_and, Bool.and_true, Bool.false_and, Bool.and_false, Bool.true_or, Bool.or_true, Bool.false_or, Bool.or_false, Bool.and_eq_true, Bool.or_eq_true, true_and, and_true, false_and, and_false, true_or, or_true, false_or, or_false, not_true_eq_false, not_false_eq_true, and_self, or_self, eq_self, add_i, sub_i, neg_i, min_i, max_i, lt_i, le_i, gt_i, ge_i, int1_i, int1_b, eq_i, ne_i, eq_b, ne_b, eq_s, ne_s, len_s, sl_s, sl_l, ix_t0, ix_t1, ix_t2, ix_t3, ix_t4, ix_l0, ix_l1, len_l, len_t, isStr_tx, ite_bl, ite_blt, ite_b, ite_bt, tru_i, tru_b, lit_0, lit_1, lit_2, lit_3, lit_4, lit_5, lit_6, lit_7, lit_8, i1, i2, List.cons.injEq, c2]
        simp
      · rw [cnt_no (fun h => c ⟨h.1, ep.mp h.2⟩)]
        have c2 : (((cnt (P2 t u) k : Nat) : Int) = (k : Int) ∧ t.getD (t.length - 1 - k) 0 = u.getD (u.length - 1 - k) 0) = False := eq_false fun h => c ⟨by omega, h.2⟩
        simp only [retR_nx, retR_rt, retR_xn, vC_0, vC_s, vP_0, vP_s, vS_0, vS_0l, vS_s, frz_sh, frz_l, frzL_nil, frzL_cons, frzL_map, lstE_0, lstE_s, retV_0, retV_s, frzE_0, frzE_s, seqS_eq, setS_eq, tgtS_eq, exprS_eq, retS_eq, retN_eq, ifS_eq, raiseS_eq, appS_eq, augS_eq, forS_eq, setE_eq, nilE_eq, consE_eq, tupE_eq, tryS_eq, nxS_rt, nxS_nx, kX, pX, cX, sX, op1, op2, inX, slX, noI, toI, toO, toC, flt, tst, tru, andT, orT, notT, andX, orX, notX, ifX, nilA, consA, tupX, lstX, callX, methX, meth0X, joinX, itX, it2X, yesT, chX, consR, andR, orR, notR, andV, orV, blR_bl, truR_bl, Rs.bind_ok, Rs.bind_exn, Rs.bind_bad, So.of_ok, So.of_exn, So.of_bad, noX_ok, tup_k, lst_k, intR_i, List.set_cons_zero, List.set_cons_succ, List.length_cons, List.length_nil, Nat.reduceAdd, Nat.reduceEqDiff, Nat.reduceLeDiff, reduceIte, if_true, if_false, Bool.not_true, Bool.not_false, decide_eq_true_eq, Bool.not_eq_true', decide_eq_false_iff_not, decide_true, decide_false, ite_self, Bool.false_eq_true, Bool.true_and, Bool.and_true, Bool.false_and, Bool.and_false, Bool.true_or, Bool.or_true, Bool.false_or, Bool.or_false, Bool.and_eq_true, Bool.or_eq_true, true_and, and_true, false_and, and_false, true_or, or_true, false_or, or_false, not_true_eq_false, not_false_eq_true, and_self, or_self, eq_self, add_i, sub_i, neg_i, min_i, max_i, lt_i, le_i, gt_i, ge_i, int1_i, int1_b, eq_i, ne_i, eq_b, ne_b, eq_s, ne_s, len_s, sl_s, sl_l, ix_t0, ix_t1, ix_t2, ix_t3, ix_t4, ix_l0, ix_l1, len_l, len_t, isStr_tx, ite_bl, ite_blt, ite_b, ite_bt, tru_i, tru_b, lit_0, lit_1, lit_2, lit_3, lit_4, lit_5, lit_6, lit_7, lit_8, i1, i2, List.cons.injEq, c2]) _ ⟨o1, rfl⟩
  subst r2
  have hmb : (((m : Int) - (b : Int)).toNat) = m - b := by omega
  generalize hs : cnt (P2 t u) (m - b) = s at *
  refine rq [some (.sh (tx t)), some (.sh (tx u)), some (.sh (.int b)), o2, some (.sh (.int s))] (by simp only [retR_nx, retR_rt, retR_xn, vC_0, vC_s, vP_0, vP_s, vS_0, vS_0l, vS_s, frz_sh, frz_l, frzL_nil, frzL_cons, frzL_map, lstE_0, lstE_s, retV_0, retV_s, frzE_0, frzE_s, seqS_eq, setS_eq, tgtS_eq, exprS_eq, retS_eq, retN_eq, ifS_eq, raiseS_eq, appS_eq, augS_eq, forS_eq, setE_eq, nilE_eq, consE_eq, tupE_eq, tryS_eq, nxS_rt, nxS_nx, kX, pX, cX, sX, op1, op2, inX, slX, noI, toI, toO, toC, flt, tst, tru, andT, orT, notT, andX, orX, notX, ifX, nilA, consA, tupX, lstX, callX, methX, meth0X, joinX, itX, it2X, yesT, chX, consR, andR, orR, notR, andV, orV, blR_bl, truR_bl, Rs.bind_ok, Rs.bind_exn, Rs.bind_bad, So.of_ok, So.of_exn, So.of_bad, noX_ok, tup_k, lst_k, intR_i, List.set_cons_zero, List.set_cons_succ, List.length_cons, List.length_nil, Nat.reduceAdd, Nat.reduceEqDiff, Nat.reduceLeDiff, reduceIte, if_true, if_false, Bool.not_true, Bool.not_false, decide_eq_true_eq, Bool.not_eq_true', decide_eq_false_iff_not, decide_true, decide_false, ite_self, Bool.false_eq_true, Bool.true_and, Bool.and_true, Bool.false_and, Bool.and_false, Bool.true_or, Bool.or_true, Bool.false_or, Bool.or_false, Bool.and_eq_true, Bool.or_eq_true, true_and, and_true, false_and, and_false, true_or, or_true, false_or, or_false, not_true_eq_false, not_false_eq_true, and_self, or_self, eq_self, add_i, sub_i, neg_i, min_i, max_i, lt_i, le_i, gt_i, ge_i, int1_i, int1_b, eq_i, ne_i, eq_b, ne_b, eq_s, ne_s, len_s, sl_s, sl_l, ix_t0, ix_t1, ix_t2, ix_t3, ix_t4, ix_l0, ix_l1, len_l, len_t, isStr_tx, ite_bl, ite_blt, ite_b, ite_bt, tru_i, tru_b, lit_0, lit_1, lit_2, lit_3, lit_4, lit_5, lit_6, lit_7, lit_8, -min_i, hmin, rng1_i (show ((m : Int) - (b : Int)).natAbs ≤ 4611686018427387903 by omega), hmb]; exact e2) ?_
  simp only [retR_nx, retR_rt, retR_xn, vC_0, vC_s, vP_0, vP_s, vS_0, vS_0l, vS_s, frz_sh, frz_l, frzL_nil, frzL_cons, frzL_map, lstE_0, lstE_s, retV_0, retV_s, frzE_0, frzE_s, seqS_eq, setS_eq, tgtS_eq, exprS_eq, retS_eq, retN_eq, ifS_eq, raiseS_eq, appS_eq, augS_eq, forS_eq, setE_eq, nilE_eq, consE_eq, tupE_eq, tryS_eq, nxS_rt, nxS_nx, kX, pX, cX, sX, op1, op2, inX, slX, noI, toI, toO, toC, flt, tst, tru, andT, orT, notT, andX, orX, notX, ifX, nilA, consA, tupX, lstX, callX, methX, meth0X, joinX, itX, it2X, yesT, chX, consR, andR, orR, notR, andV, orV, blR_bl, truR_bl, Rs.bind_ok, Rs.bind_exn, Rs.bind_bad, So.of_ok, So.of_exn, So.of_bad, noX_ok, tup_k, lst_k, intR_i, List.set_cons_zero, List.set_cons_succ, List.length_cons, List.length_nil, Nat.reduceAdd, Nat.reduceEqDiff, Nat.reduceLeDiff, reduceIte, if_true, if_false, Bool.not_true, Bool.not_false, decide_eq_true_eq, Bool.not_eq_true', decide_eq_false_iff_not, decide_true, decide_false, ite_self, Bool.false_eq_true, Bool.true_and, Bool.and_true, Bool.false_and, Bool.and_false, Bool.true_or, Bool.or_true, Bool.false_or, Bool.or_false, Bool.and_eq_true, Bool.or_eq_true, true_and, and_true, false_and, and_false, true_or, or_true, false_or, or_false, not_true_eq_false, not_false_eq_true, and_self, or_self, eq_self, add_i, sub_i, neg_i, min_i, max_i, lt_i, le_i, gt_i, ge_i, int1_i, int1_b, eq_i, ne_i, eq_b, ne_b, eq_s, ne_s, len_s, sl_s, sl_l, ix_t0, ix_t1, ix_t2, ix_t3, ix_t4, ix_l0, ix_l1, len_l, len_t, isStr_tx, ite_bl, ite_blt, ite_b, ite_bt, tru_i, tru_b, lit_0, lit_1, lit_2, lit_3, lit_4, lit_5, lit_6, lit_7, lit_8]
  rfl
abbrev Ed := Int × Int × List Nat
def enc (x : Ed) : D := ed x.1 x.2.1 x.2.2
def okRun : List Nat → List Ed → Prop
  | _, [] => True
  | t, x :: r => OkE t.length x.1 x.2.1 x.2.2 ∧ t.length ≤ 1000000 ∧ okRun (put t x.1 x.2.1 x.2.2) r
def runE : List Nat → List Ed → List Nat
  | t, [] => t
  | t, x :: r => runE (put t x.1 x.2.1 x.2.2) r
theorem p_joined_edit (n : Nat) (hn : 1000000 < n) (t u : List Nat) (es : List Ed) (ok : okRun t es) (eu : runE t es = u) (ht : t.length ≤ 1000000) (hu : u.length ≤ 1000000) : d_joined_edit n [tx t, .lst (es.map enc)] = .ok (.sh (joinedD t u)) := by
  rw [e_joined_edit]
  unfold b_joined_edit
  refine rq [some (.sh (tx t)), some (.sh (.lst (es.map enc))), some (.sh (tx t)), none, none, none] (by simp only [retR_nx, retR_rt, retR_xn, vC_0, vC_s, vP_0, vP_s, vS_0, vS_0l, vS_s, frz_sh, frz_l, frzL_nil, frzL_cons, frzL_map, lstE_0, lstE_s, retV_0, retV_s, frzE_0, frzE_s, seqS_eq, setS_eq, tgtS_eq, exprS_eq, retS_eq, retN_eq, ifS_eq, raiseS_eq, appS_eq, augS_eq, forS_eq, setE_eq, nilE_eq, consE_eq, tupE_eq, tryS_eq, nxS_rt, nxS_nx, kX, pX, cX, sX, op1, op2, inX, slX, noI, toI, toO, toC, flt, tst, tru, andT, orT, notT, andX, orX, notX, ifX, nilA, consA, tupX, lstX, callX, methX, meth0X, joinX, itX, it2X, yesT, chX, consR, andR, orR, notR, andV, orV, blR_bl, truR_bl, Rs.bind_ok, Rs.bind_exn, Rs.bind_bad, So.of_ok, So.of_exn, So.of_bad, noX_ok, tup_k, lst_k, intR_i, List.set_cons_zero, List.set_cons_succ, List.length_cons, List.length_nil, Nat.reduceAdd, Nat.reduceEqDiff, Nat.reduceLeDiff, reduceIte, if_true, if_false, Bool.not_true, Bool.not_false, decide_eq_true_eq, Bool.not_eq_true', decide_eq_false_iff_not, decide_true, decide_false, ite_self, Bool.false_eq_true, Bool.true_and, Bool.and_true, Bool.false_and, Bool.and_false, Bool.true_or, Bool.or_true, Bool.false_or, Bool.or_false, Bool.and_eq_true, Bool.or_eq_true, true_and, and_true, false_and, and_false, true_or, or_true, false_or, or_false, not_true_eq_false, not_false_eq_true, and_self, or_self, eq_self, add_i, sub_i, neg_i, min_i, max_i, lt_i, le_i, gt_i, ge_i, int1_i, int1_b, eq_i, ne_i, eq_b, ne_b, eq_s, ne_s, len_s, sl_s, sl_l, ix_t0, ix_t1, ix_t2, ix_t3, ix_t4, ix_l0, ix_l1, len_l, len_t, isStr_tx, ite_bl, ite_blt, ite_b, ite_bt, tru_i, tru_b, lit_0, lit_1, lit_2, lit_3, lit_4, lit_5, lit_6, lit_7, lit_8]) ?_
  obtain ⟨ρ1, e1, tt, rs, o, a1, a2, a3, r1⟩ := forR_inv (f := setE 3) (g := seqS (setS 2 (toO (toC (callX (d_applied n) (consA (cX 2) (consA (cX 3) nilA)))))) .nx)
    (fun ds ρ => ∃ (tt : List Nat) (rs : List Ed) (o : Option T), ds = rs.map enc ∧ okRun tt rs ∧ runE tt rs = u ∧ ρ = [some (.sh (tx t)), some (.sh (.lst (es.map enc))), some (.sh (tx tt)), o, none, none]) (fun d ds ρ ⟨tt, rs, o, a1, a2, a3, e⟩ => by
      subst e
      cases rs with
      | nil => cases a1
      | cons x rs =>
        cases a1
        obtain ⟨k1, k2, k3⟩ := a2
        refine ⟨_, rfl, [some (.sh (tx t)), some (.sh (.lst (es.map enc))), some (.sh (tx (put tt x.1 x.2.1 x.2.2))), some (.sh (enc x)), none, none], .inl ?_, _, rs, _, rfl, k3, a3, rfl⟩
        have := p_applied n tt x.1 x.2.1 x.2.2 k1 k2
        simp only [retR_nx, retR_rt, retR_xn, vC_0, vC_s, vP_0, vP_s, vS_0, vS_0l, vS_s, frz_sh, frz_l, frzL_nil, frzL_cons, frzL_map, lstE_0, lstE_s, retV_0, retV_s, frzE_0, frzE_s, seqS_eq, setS_eq, tgtS_eq, exprS_eq, retS_eq, retN_eq, ifS_eq, raiseS_eq, appS_eq, augS_eq, forS_eq, setE_eq, nilE_eq, consE_eq, tupE_eq, tryS_eq, nxS_rt, nxS_nx, kX, pX, cX, sX, op1, op2, inX, slX, noI, toI, toO, toC, flt, tst, tru, andT, orT, notT, andX, orX, notX, ifX, nilA, consA, tupX, lstX, callX, methX, meth0X, joinX, itX, it2X, yesT, chX, consR, andR, orR, notR, andV, orV, blR_bl, truR_bl, Rs.bind_ok, Rs.bind_exn, Rs.bind_bad, So.of_ok, So.of_exn, So.of_bad, noX_ok, tup_k, lst_k, intR_i, List.set_cons_zero, List.set_cons_succ, List.length_cons, List.length_nil, Nat.reduceAdd, Nat.reduceEqDiff, Nat.reduceLeDiff, reduceIte, if_true, if_false, Bool.not_true, Bool.not_false, decide_eq_true_eq, Bool.not_eq_true', decide_eq_false_iff_not, decide_true, decide_false, ite_self, Bool.false_eq_true, Bool.true_and, Bool.and_true, Bool.false_and, Bool.and_false, Bool.true_or, Bool.or_true, Bool.false_or, Bool.or_false, Bool.and_eq_true, Bool.or_eq_true, true_and, and_true, false_and, and_false, true_or, or_true, false_or, or_false, not_true_eq_false, not_false_eq_true, and_self, or_self, eq_self, add_i, sub_i, neg_i, min_i, max_i, lt_i, le_i, gt_i, ge_i, int1_i, int1_b, eq_i, ne_i, eq_b, ne_b, eq_s, ne_s, len_s, sl_s, sl_l, ix_t0, ix_t1, ix_t2, ix_t3, ix_t4, ix_l0, ix_l1, len_l, len_t, isStr_tx, ite_bl, ite_blt, ite_b, ite_bt, tru_i, tru_b, lit_0, lit_1, lit_2, lit_3, lit_4, lit_5, lit_6, lit_7, lit_8, enc, this]) (es.map enc) _ ⟨t, es, none, rfl, ok, eu, rfl⟩
  cases rs with
  | cons x rs => cases a1
  | nil =>
  have hu2 : tt = u := a3
  subst hu2
  subst r1
  refine rq [some (.sh (tx t)), some (.sh (.lst (es.map enc))), some (.sh (tx tt)), o, none, none] (by simp only [retR_nx, retR_rt, retR_xn, vC_0, vC_s, vP_0, vP_s, vS_0, vS_0l, vS_s, frz_sh, frz_l, frzL_nil, frzL_cons, frzL_map, lstE_0, lstE_s, retV_0, retV_s, frzE_0, frzE_s, seqS_eq, setS_eq, tgtS_eq, exprS_eq, retS_eq, retN_eq, ifS_eq, raiseS_eq, appS_eq, augS_eq, forS_eq, setE_eq, nilE_eq, consE_eq, tupE_eq, tryS_eq, nxS_rt, nxS_nx, kX, pX, cX, sX, op1, op2, inX, slX, noI, toI, toO, toC, flt, tst, tru, andT, orT, notT, andX, orX, notX, ifX, nilA, consA, tupX, lstX, callX, methX, meth0X, joinX, itX, it2X, yesT, chX, consR, andR, orR, notR, andV, orV, blR_bl, truR_bl, Rs.bind_ok, Rs.bind_exn, Rs.bind_bad, So.of_ok, So.of_exn, So.of_bad, noX_ok, tup_k, lst_k, intR_i, List.set_cons_zero, List.set_cons_succ, List.length_cons, List.length_nil, Nat.reduceAdd, Nat.reduceEqDiff, Nat.reduceLeDiff, reduceIte, if_true, if_false, Bool.not_true, Bool.not_false, decide_eq_true_eq, Bool.not_eq_true', decide_eq_false_iff_not, decide_true, decide_false, ite_self, Bool.false_eq_true, Bool.true_and, Bool.and_true, Bool.false_and, Bool.and_false, Bool.true_or, Bool.or_true, Bool.false_or, Bool.or_false, Bool.and_eq_true, Bool.or_eq_true, true_and, and_true, false_and, and_false, true_or, or_true, false_or, or_false, not_true_eq_false, not_false_eq_true, and_self, or_self, eq_self, add_i, sub_i, neg_i, min_i, max_i, lt_i, le_i, gt_i, ge_i, int1_i, int1_b, eq_i, ne_i, eq_b, ne_b, eq_s, ne_s, len_s, sl_s, sl_l, ix_t0, ix_t1, ix_t2, ix_t3, ix_t4, ix_l0, ix_l1, len_l, len_t, isStr_tx, ite_bl, ite_blt, ite_b, ite_bt, tru_i, tru_b, lit_0, lit_1, lit_2, lit_3, lit_4, lit_5, lit_6, lit_7, lit_8, items_l]; exact e1) ?_
  unfold joinedD
  by_cases h0 : t = tt
  · rw [if_pos h0]
    simp only [retR_nx, retR_rt, retR_xn, vC_0, vC_s, vP_0, vP_s, vS_0, vS_0l, vS_s, frz_sh, frz_l, frzL_nil, frzL_cons, frzL_map, lstE_0, lstE_s, retV_0, retV_s, frzE_0, frzE_s, seqS_eq, setS_eq, tgtS_eq, exprS_eq, retS_eq, retN_eq, ifS_eq, raiseS_eq, appS_eq, augS_eq, forS_eq, setE_eq, nilE_eq, consE_eq, tupE_eq, tryS_eq, nxS_rt, nxS_nx, kX, pX, cX, sX, op1, op2, inX, slX, noI, toI, toO, toC, flt, tst, tru, andT, orT, notT, andX, orX, notX, ifX, nilA, consA, tupX, lstX, callX, methX, meth0X, joinX, itX, it2X, yesT, chX, consR, andR, orR, notR, andV, orV, blR_bl, truR_bl, Rs.bind_ok, Rs.bind_exn, Rs.bind_bad, So.of_ok, So.of_exn, So.of_bad, noX_ok, tup_k, lst_k, intR_i, List.set_cons_zero, List.set_cons_succ, List.length_cons, List.length_nil, Nat.reduceAdd, Nat.reduceEqDiff, Nat.reduceLeDiff, reduceIte, if_true, if_false, Bool.not_true, Bool.not_false, decide_eq_true_eq, Bool.not_eq_true', decide_eq_false_iff_not, decide_true, decide_false, ite_self, Bool.false_eq_true, Bool.true_and, Bool.and_true, Bool.false_and, Bool.and_false, Bool.true_or, Bool.or_true, Bool.false_or, Bool.or_false, Bool.and_eq_true, Bool.or_eq_true, true_and, and_true, false_and, and_false, true_or, or_true, false_or, or_false, not_true_eq_false, not_false_eq_true, and_self, or_self, eq_self, add_i, sub_i, neg_i, min_i, max_i, lt_i, le_i, gt_i, ge_i, int1_i, int1_b, eq_i, ne_i, eq_b, ne_b, eq_s, ne_s, len_s, sl_s, sl_l, ix_t0, ix_t1, ix_t2, ix_t3, ix_t4, ix_l0, ix_l1, len_l, len_t, isStr_tx, ite_bl, ite_blt, ite_b, ite_bt, tru_i, tru_b, lit_0, lit_1, lit_2, lit_3, lit_4, lit_5, lit_6, lit_7, lit_8, eq_true h0, eq_true h0.symm]
  rw [if_neg h0]
  refine rq [some (.sh (tx t)), some (.sh (.lst (es.map enc))), some (.sh (tx tt)), o, none, none] (by simp only [retR_nx, retR_rt, retR_xn, vC_0, vC_s, vP_0, vP_s, vS_0, vS_0l, vS_s, frz_sh, frz_l, frzL_nil, frzL_cons, frzL_map, lstE_0, lstE_s, retV_0, retV_s, frzE_0, frzE_s, seqS_eq, setS_eq, tgtS_eq, exprS_eq, retS_eq, retN_eq, ifS_eq, raiseS_eq, appS_eq, augS_eq, forS_eq, setE_eq, nilE_eq, consE_eq, tupE_eq, tryS_eq, nxS_rt, nxS_nx, kX, pX, cX, sX, op1, op2, inX, slX, noI, toI, toO, toC, flt, tst, tru, andT, orT, notT, andX, orX, notX, ifX, nilA, consA, tupX, lstX, callX, methX, meth0X, joinX, itX, it2X, yesT, chX, consR, andR, orR, notR, andV, orV, blR_bl, truR_bl, Rs.bind_ok, Rs.bind_exn, Rs.bind_bad, So.of_ok, So.of_exn, So.of_bad, noX_ok, tup_k, lst_k, intR_i, List.set_cons_zero, List.set_cons_succ, List.length_cons, List.length_nil, Nat.reduceAdd, Nat.reduceEqDiff, Nat.reduceLeDiff, reduceIte, if_true, if_false, Bool.not_true, Bool.not_false, decide_eq_true_eq, Bool.not_eq_true', decide_eq_false_iff_not, decide_true, decide_false, ite_self, Bool.false_eq_true, Bool.true_and, Bool.and_true, Bool.false_and, Bool.and_false, Bool.true_or, Bool.or_true, Bool.false_or, Bool.or_false, Bool.and_eq_true, Bool.or_eq_true, true_and, and_true, false_and, and_false, true_or, or_true, false_or, or_false, not_true_eq_false, not_false_eq_true, and_self, or_self, eq_self, add_i, sub_i, neg_i, min_i, max_i, lt_i, le_i, gt_i, ge_i, int1_i, int1_b, eq_i, ne_i, eq_b, ne_b, eq_s, ne_s, len_s, sl_s, sl_l, ix_t0, ix_t1, ix_t2, ix_t3, ix_t4, ix_l0, ix_l1, len_l, len_t, isStr_tx, ite_bl, ite_blt, ite_b, ite_bt, tru_i, tru_b, lit_0, lit_1, lit_2, lit_3, lit_4, lit_5, lit_6, lit_7, lit_8, eq_false (fun h => h0 (Eq.symm h) : ¬ tt = t)]) ?_
  refine rq [some (.sh (tx t)), some (.sh (.lst (es.map enc))), some (.sh (tx tt)), o, some (.sh (.int 0)), none] (by simp only [retR_nx, retR_rt, retR_xn, vC_0, vC_s, vP_0, vP_s, vS_0, vS_0l, vS_s, frz_sh, frz_l, frzL_nil, frzL_cons, frzL_map, lstE_0, lstE_s, retV_0, retV_s, frzE_0, frzE_s, seqS_eq, setS_eq, tgtS_eq, exprS_eq, retS_eq, retN_eq, ifS_eq, raiseS_eq, appS_eq, augS_eq, forS_eq, setE_eq, nilE_eq, consE_eq, tupE_eq, tryS_eq, nxS_rt, nxS_nx, kX, pX, cX, sX, op1, op2, inX, slX, noI, toI, toO, toC, flt, tst, tru, andT, orT, notT, andX, orX, notX, ifX, nilA, consA, tupX, lstX, callX, methX, meth0X, joinX, itX, it2X, yesT, chX, consR, andR, orR, notR, andV, orV, blR_bl, truR_bl, Rs.bind_ok, Rs.bind_exn, Rs.bind_bad, So.of_ok, So.of_exn, So.of_bad, noX_ok, tup_k, lst_k, intR_i, List.set_cons_zero, List.set_cons_succ, List.length_cons, List.length_nil, Nat.reduceAdd, Nat.reduceEqDiff, Nat.reduceLeDiff, reduceIte, if_true, if_false, Bool.not_true, Bool.not_false, decide_eq_true_eq, Bool.not_eq_true', decide_eq_false_iff_not, decide_true, decide_false, ite_self, Bool.false_eq_true, Bool.true_and, Bool.and_true, Bool.false_and, Bool.and_false, Bool.true_or, Bool.or_true, Bool.false_or, Bool.or_false, Bool.and_eq_true, Bool.or_eq_true, true_and, and_true, false_and, and_false, true_or, or_true, false_or, or_false, not_true_eq_false, not_false_eq_true, and_self, or_self, eq_self, add_i, sub_i, neg_i, min_i, max_i, lt_i, le_i, gt_i, ge_i, int1_i, int1_b, eq_i, ne_i, eq_b, ne_b, eq_s, ne_s, len_s, sl_s, sl_l, ix_t0, ix_t1, ix_t2, ix_t3, ix_t4, ix_l0, ix_l1, len_l, len_t, isStr_tx, ite_bl, ite_blt, ite_b, ite_bt, tru_i, tru_b, lit_0, lit_1, lit_2, lit_3, lit_4, lit_5, lit_6, lit_7, lit_8]) ?_
  generalize hm : min t.length tt.length = m at *
  have hmin : minR (.int t.length) (.int tt.length) = .ok (.int (m : Int)) := by rw [min_nat, hm]
  have w1 := whileR_cnt (gc := (andT (tst (op2 ltR (cX 4) (op2 minR (op1 lenR (cX 0)) (op1 lenR (cX 2))))) (tst (op2 eqR (op2 ixA (cX 0) (cX 4)) (op2 ixA (cX 2) (cX 4)))))) (g := (seqS (augS 4 addR (kX (.int 1)))
 .nx)) (fun k => [some (.sh (tx t)), some (.sh (.lst (es.map enc))), some (.sh (tx tt)), o, some (.sh (.int (k : Int))), none]) (P1 t tt) m (fun k hk => by
      by_cases h : k < m
      · have i1 := ix_sD (a := t) (i := k) (k := k) rfl (by omega)
        have i2 := ix_sD (a := tt) (i := k) (k := k) rfl (by omega)
        simp only [retR_nx, retR_rt, retR_xn, vC_0, vC_s, vP_0, vP_s, vS_0, vS_0l, vS_s, frz_sh, frz_l, frzL_nil, frzL_cons, frzL_map, lstE_0, lstE_s, retV_0, retV_s, frzE_0, frzE_s, seqS_eq, setS_eq, tgtS_eq, exprS_eq, retS_eq, retN_eq, ifS_eq, raiseS_eq, appS_eq, augS_eq, forS_eq, setE_eq, nilE_eq, consE_eq, tupE_eq, tryS_eq, nxS_rt, nxS_nx, kX, pX, cX, sX, op1, op2, inX, slX, noI, toI, toO, toC, flt, tst, tru, andT, orT, notT, andX, orX, notX, ifX, nilA, consA, tupX, lstX, callX, methX, meth0X, joinX, itX, it2X, yesT, chX, consR, andR, orR, notR, andV, orV, blR_bl, truR_bl, Rs.bind_ok, Rs.bind_exn, Rs.bind_bad, So.of_ok, So.of_exn, So.of_bad, noX_ok, tup_k, lst_k, intR_i, List.set_cons_zero, List.set_cons_succ, List.length_cons, List.length_nil, Nat.reduceAdd, Nat.reduceEqDiff, Nat.reduceLeDiff, reduceIte, if_true, if_false, Bool.not_true, Bool.not_false, decide_eq_true_eq, Bool.not_eq_true', decide_eq_false_iff_not, decide_true, decide_false, ite_self, Bool.false_eq_true, Bool.true_and, Bool.and_true, Bool.false_and, Bool.and_false, Bool.true_or, Bool.or_true, Bool.false_or, Bool.or_false, Bool.and_eq_true, Bool.or_eq_true, true_and, and_true, false_and, and_false, true_or, or_true, false_or, or_false, not_true_eq_false, not_false_eq_true, and_self, or_self, eq_self, add_i, sub_i, neg_i, min_i, max_i, lt_i, le_i, gt_i, ge_i, int1_i, int1_b, eq_i, ne_i, eq_b, ne_b, eq_s, ne_s, len_s, sl_s, sl_l, ix_t0, ix_t1, ix_t2, ix_t3, ix_t4, ix_l0, ix_l1, len_l, len_t, isStr_tx, ite_bl, ite_blt, ite_b, ite_bt, tru_i, tru_b, lit_0, lit_1, lit_2, lit_3, lit_4, lit_5, lit_6, lit_7, lit_8, -min_i, hmin, i1, i2, h, show ((k : Int) < (m : Int)) by omega, P1, List.cons.injEq]
      · simp only [retR_nx, retR_rt, retR_xn, vC_0, vC_s, vP_0, vP_s, vS_0, vS_0l, vS_s, frz_sh, frz_l, frzL_nil, frzL_cons, frzL_map, lstE_0, lstE_s, retV_0, retV_s, frzE_0, frzE_s, seqS_eq, setS_eq, tgtS_eq, exprS_eq, retS_eq, retN_eq, ifS_eq, raiseS_eq, appS_eq, augS_eq, forS_eq, setE_eq, nilE_eq, consE_eq, tupE_eq, tryS_eq, nxS_rt, nxS_nx, kX, pX, cX, sX, op1, op2, inX, slX, noI, toI, toO, toC, flt, tst, tru, andT, orT, notT, andX, orX, notX, ifX, nilA, consA, tupX, lstX, callX, methX, meth0X, joinX, itX, it2X, yesT, chX, consR, andR, orR, notR, andV, orV, blR_bl, truR_bl, Rs.bind_ok, Rs.bind_exn, Rs.bind_bad, So.of_ok, So.of_exn, So.of_bad, noX_ok, tup_k, lst_k, intR_i, List.set_cons_zero, List.set_cons_succ, List.length_cons, List.length_nil, Nat.reduceAdd, Nat.reduceEqDiff, Nat.reduceLeDiff, reduceIte, if_true, if_false, Bool.not_true, Bool.not_false, decide_eq_true_eq, Bool.not_eq_true', decide_eq_false_iff_not, decide_true, decide_false, ite_self, Bool.false_eq_true, Bool.true_and, Bool.and_true, Bool.false_and, Bool.and_false, Bool.true_or, Bool.or_true, Bool.false_or, Bool.or_false, Bool.and_eq_true, Bool.or_eq_true, true_and, and_true, false_and, and_false, true_or, or_true, false_or, or_false, not_true_eq_false, not_false_eq_true, and_self, or_self, eq_self, add_i, sub_i, neg_i, min_i, max_i, lt_i, le_i, gt_i, ge_i, int1_i, int1_b, eq_i, ne_i, eq_b, ne_b, eq_s, ne_s, len_s, sl_s, sl_l, ix_t0, ix_t1, ix_t2, ix_t3, ix_t4, ix_l0, ix_l1, len_l, len_t, isStr_tx, ite_bl, ite_blt, ite_b, ite_bt, tru_i, tru_b, lit_0, lit_1, lit_2, lit_3, lit_4, lit_5, lit_6, lit_7, lit_8, -min_i, hmin, h, show ¬ ((k : Int) < (m : Int)) by omega])
    (fun k hk => by simp only [retR_nx, retR_rt, retR_xn, vC_0, vC_s, vP_0, vP_s, vS_0, vS_0l, vS_s, frz_sh, frz_l, frzL_nil, frzL_cons, frzL_map, lstE_0, lstE_s, retV_0, retV_s, frzE_0, frzE_s, seqS_eq, setS_eq, tgtS_eq, exprS_eq, retS_eq, retN_eq, ifS_eq, raiseS_eq, appS_eq, augS_eq, forS_eq, setE_eq, nilE_eq, consE_eq, tupE_eq, tryS_eq, nxS_rt, nxS_nx, kX, pX, cX, sX, op1, op2, inX, slX, noI, toI, toO, toC, flt, tst, tru, andT, orT, notT, andX, orX, notX, ifX, nilA, consA, tupX, lstX, callX, methX, meth0X, joinX, itX, it2X, yesT, chX, consR, andR, orR, notR, andV, orV, blR_bl, truR_bl, Rs.bind_ok, Rs.bind_exn, Rs.bind_bad, So.of_ok, So.of_exn, So.of_bad, noX_ok, tup_k, lst_k, intR_i, List.set_cons_zero, List.set_cons_succ, List.length_cons, List.length_nil, Nat.reduceAdd, Nat.reduceEqDiff, Nat.reduceLeDiff, reduceIte, if_true, if_false, Bool.not_true, Bool.not_false, decide_eq_true_eq, Bool.not_eq_true', decide_eq_false_iff_not, decide_true, decide_false, ite_self, Bool.false_eq_true, Bool.true_and, Bool.and_true, Bool.false_and, Bool.and_false, Bool.true_or, Bool.or_true, Bool.false_or, Bool.or_false, Bool.and_eq_true, Bool.or_eq_true, true_and, and_true, false_and, and_false, true_or, or_true, false_or, or_false, not_true_eq_false, not_false_eq_true, and_self, or_self, eq_self, add_i, sub_i, neg_i, min_i, max_i, lt_i, le_i, gt_i, ge_i, int1_i, int1_b, eq_i, ne_i, eq_b, ne_b, eq_s, ne_s, len_s, sl_s, sl_l, ix_t0, ix_t1, ix_t2, ix_t3, ix_t4, ix_l0, ix_l1, len_l, len_t, isStr_tx, ite_bl, ite_blt, ite_b, ite_bt, tru_i, tru_b, lit_0, lit_1, lit_2, lit_3, lit_4, lit_5, lit_6, lit_7, lit_8]; rfl) n 0 (Nat.zero_le _) (by have := cnt_le (P1 t tt) m; omega)
  generalize hb : cnt (P1 t tt) m = b at *
  have hbm : b ≤ m := by rw [← hb]; exact cnt_le _ _
  refine rq _ w1 ?_
  refine rq [some (.sh (tx t)), some (.sh (.lst (es.map enc))), some (.sh (tx tt)), o, some (.sh (.int b)), some (.sh (.int 0))] (by simp only [retR_nx, retR_rt, retR_xn, vC_0, vC_s, vP_0, vP_s, vS_0, vS_0l, vS_s, frz_sh, frz_l, frzL_nil, frzL_cons, frzL_map, lstE_0, lstE_s, retV_0, retV_s, frzE_0, frzE_s, seqS_eq, setS_eq, tgtS_eq, exprS_eq, retS_eq, retN_eq, ifS_eq, raiseS_eq, appS_eq, augS_eq, forS_eq, setE_eq, nilE_eq, consE_eq, tupE_eq, tryS_eq, nxS_rt, nxS_nx, kX, pX, cX, sX, op1, op2, inX, slX, noI, toI, toO, toC, flt, tst, tru, andT, orT, notT, andX, orX, notX, ifX, nilA, consA, tupX, lstX, callX, methX, meth0X, joinX, itX, it2X, yesT, chX, consR, andR, orR, notR, andV, orV, blR_bl, truR_bl, Rs.bind_ok, Rs.bind_exn, Rs.bind_bad, So.of_ok, So.of_exn, So.of_bad, noX_ok, tup_k, lst_k, intR_i, List.set_cons_zero, List.set_cons_succ, List.length_cons, List.length_nil, Nat.reduceAdd, Nat.reduceEqDiff, Nat.reduceLeDiff, reduceIte, if_true, if_false, Bool.not_true, Bool.not_false, decide_eq_true_eq, Bool.not_eq_true', decide_eq_false_iff_not, decide_true, decide_false, ite_self, Bool.false_eq_true, Bool.true_and, Bool.and_true, Bool.false_and, Bool.and_false, Bool.true_or, Bool.or_true, Bool.false_or, Bool.or_false, Bool.and_eq_true, Bool.or_eq_true, true_and, and_true, false_and, and_false, true_or, or_true, false_or, or_false, not_true_eq_false, not_false_eq_true, and_self, or_self, eq_self, add_i, sub_i, neg_i, min_i, max_i, lt_i, le_i, gt_i, ge_i, int1_i, int1_b, eq_i, ne_i, eq_b, ne_b, eq_s, ne_s, len_s, sl_s, sl_l, ix_t0, ix_t1, ix_t2, ix_t3, ix_t4, ix_l0, ix_l1, len_l, len_t, isStr_tx, ite_bl, ite_blt, ite_b, ite_bt, tru_i, tru_b, lit_0, lit_1, lit_2, lit_3, lit_4, lit_5, lit_6, lit_7, lit_8]) ?_
  have w2 := whileR_cnt (gc := (andT (tst (op2 ltR (cX 5) (op2 subR (op2 minR (op1 lenR (cX 0)) (op1 lenR (cX 2))) (cX 4)))) (tst (op2 eqR (op2 ixA (cX 0) (op2 subR (op1 negR (kX (.int 1))) (cX 5))) (op2 ixA (cX 2) (op2 subR (op1 negR (kX (.int 1))) (cX 5))))))) (g := (seqS (augS 5 addR (kX (.int 1)))
 .nx)) (fun k => [some (.sh (tx t)), some (.sh (.lst (es.map enc))), some (.sh (tx tt)), o, some (.sh (.int b)), some (.sh (.int (k : Int)))]) (P2 t tt) (m - b) (fun k hk => by
      by_cases h : k < m - b
      · have i1 := ix_snD (a := t) (j := k) (by omega)
        have i2 := ix_snD (a := tt) (j := k) (by omega)
        simp only [retR_nx, retR_rt, retR_xn, vC_0, vC_s, vP_0, vP_s, vS_0, vS_0l, vS_s, frz_sh, frz_l, frzL_nil, frzL_cons, frzL_map, lstE_0, lstE_s, retV_0, retV_s, frzE_0, frzE_s, seqS_eq, setS_eq, tgtS_eq, exprS_eq, retS_eq, retN_eq, ifS_eq, raiseS_eq, appS_eq, augS_eq, forS_eq, setE_eq, nilE_eq, consE_eq, tupE_eq, tryS_eq, nxS_rt, nxS_nx, kX, pX, cX, sX, op1, op2, inX, slX, noI, toI, toO, toC, flt, tst, tru, andT, orT, notT, andX, orX, notX, ifX, nilA, consA, tupX, lstX, callX, methX, meth0X, joinX, itX, it2X, yesT, chX, consR, andR, orR, notR, andV, orV, blR_bl, truR_bl, Rs.bind_ok, Rs.bind_exn, Rs.bind_bad, So.of_ok, So.of_exn, So.of_bad, noX_ok, tup_k, lst_k, intR_i, List.set_cons_zero, List.set_cons_succ, List.length_cons, List.length_nil, Nat.reduceAdd, Nat.reduceEqDiff, Nat.reduceLeDiff, reduceIte, if_true, if_false, Bool.not_true, Bool.not_false, decide_eq_true_eq, Bool.not_eq_true', decide_eq_false_iff_not, decide_true, decide_false, ite_self, Bool.false_eq_true, Bool.true_and, Bool.and_true, Bool.false_and, Bool.and_false, Bool.true_or, Bool.or_true, Bool.false_or, Bool.or_false, Bool.and_eq_true, Bool.or_eq_true, true_and, and_true, false_and, and_false, true_or, or_true, false_or, or_false, not_true_eq_false, not_false_eq_true, and_self, or_self, eq_self, add_i, sub_i, neg_i, min_i, max_i, lt_i, le_i, gt_i, ge_i, int1_i, int1_b, eq_i, ne_i, eq_b, ne_b, eq_s, ne_s, len_s, sl_s, sl_l, ix_t0, ix_t1, ix_t2, ix_t3, ix_t4, ix_l0, ix_l1, len_l, len_t, isStr_tx, ite_bl, ite_blt, ite_b, ite_bt, tru_i, tru_b, lit_0, lit_1, lit_2, lit_3, lit_4, lit_5, lit_6, lit_7, lit_8, -min_i, hmin, i1, i2, h, show ((k : Int) < (m : Int) - (b : Int)) by omega, P2, List.cons.injEq]
      · simp only [retR_nx, retR_rt, retR_xn, vC_0, vC_s, vP_0, vP_s, vS_0, vS_0l, vS_s, frz_sh, frz_l, frzL_nil, frzL_cons, frzL_map, lstE_0, lstE_s, retV_0, retV_s, frzE_0, frzE_s, seqS_eq, setS_eq, tgtS_eq, exprS_eq, retS_eq, retN_eq, ifS_eq, raiseS_eq, appS_eq, augS_eq, forS_eq, setE_eq, nilE_eq, consE_eq, tupE_eq, tryS_eq, nxS_rt, nxS_nx, kX, pX, cX, sX, op1, op2, inX, slX, noI, toI, toO, toC, flt, tst, tru, andT, orT, notT, andX, orX, notX, ifX, nilA, consA, tupX, lstX, callX, methX, meth0X, joinX, itX, it2X, yesT, chX, consR, andR, orR, notR, andV, orV, blR_bl, truR_bl, Rs.bind_ok, Rs.bind_exn, Rs.bind_bad, So.of_ok, So.of_exn, So.of_bad, noX_ok, tup_k, lst_k, intR_i, List.set_cons_zero, List.set_cons_succ, List.length_cons, List.length_nil, Nat.reduceAdd, Nat.reduceEqDiff, Nat.reduceLeDiff, reduceIte, if_true, if_false, Bool.not_true, Bool.not_false, decide_eq_true_eq, Bool.not_eq_true', decide_eq_false_iff_not, decide_true, decide_false, ite_self, Bool.false_eq_true, Bool.true_and, Bool.and_true, Bool.false_and, Bool.and_false, Bool.true_or, Bool.or_true, Bool.false_or, Bool.or_false, Bool.and_eq_true, Bool.or_eq_true, true_and, and_true, false_and, and_false, true_or, or_true, false_or, or_false, not_true_eq_false, not_false_eq_true, and_self, or_self, eq_self, add_i, sub_i, neg_i, min_i, max_i, lt_i, le_i, gt_i, ge_i, int1_i, int1_b, eq_i, ne_i, eq_b, ne_b, eq_s, ne_s, len_s, sl_s, sl_l, ix_t0, ix_t1, ix_t2, ix_t3, ix_t4, ix_l0, ix_l1, len_l, len_t, isStr_tx, ite_bl, ite_blt, ite_b, ite_bt, tru_i, tru_b, lit_0, lit_1, lit_2, lit_3, lit_4, lit_5, lit_6, lit_7, lit_8, -min_i, hmin, h, show ¬ ((k : Int) < (m : Int) - (b : Int)) by omega])
    (fun k hk => by simp only [retR_nx, retR_rt, retR_xn, vC_0, vC_s, vP_0, vP_s, vS_0, vS_0l, vS_s, frz_sh, frz_l, frzL_nil, frzL_cons, frzL_map, lstE_0, lstE_s, retV_0, retV_s, frzE_0, frzE_s, seqS_eq, setS_eq, tgtS_eq, exprS_eq, retS_eq, retN_eq, ifS_eq, raiseS_eq, appS_eq, augS_eq, forS_eq, setE_eq, nilE_eq, consE_eq, tupE_eq, tryS_eq, nxS_rt, nxS_nx, kX, pX, cX, sX, op1, op2, inX, slX, noI, toI, toO, toC, flt, tst, tru, andT, orT, notT, andX, orX, notX, ifX, nilA, consA, tupX, lstX, callX, methX, meth0X, joinX, itX, it2X, yesT, chX, consR, andR, orR, notR, andV, orV, blR_bl, truR_bl, Rs.bind_ok, Rs.bind_exn, Rs.bind_bad, So.of_ok, So.of_exn, So.of_bad, noX_ok, tup_k, lst_k, intR_i, List.set_cons_zero, List.set_cons_succ, List.length_cons, List.length_nil, Nat.reduceAdd, Nat.reduceEqDiff, Nat.reduceLeDiff, reduceIte, if_true, if_false, Bool.not_true, Bool.not_false, decide_eq_true_eq, Bool.not_eq_true', decide_eq_false_iff_not, decide_true, decide_false, ite_self, Bool.false_eq_true, Bool.true_and, Bool.and_true, Bool.false_and, Bool.and_false, Bool.true_or, Bool.or_true, Bool.false_or, Bool.or_false, Bool.and_eq_true, Bool.or_eq_true, true_and, and_true, false_and, and_false, true_or, or_true, false_or, or_false, not_true_eq_false, not_false_eq_true, and_self, or_self, eq_self, add_i, sub_i, neg_i, min_i, max_i, lt_i, le_i, gt_i, ge_i, int1_i, int1_b, eq_i, ne_i, eq_b, ne_b, eq_s, ne_s, len_s, sl_s, sl_l, ix_t0, ix_t1, ix_t2, ix_t3, ix_t4, ix_l0, ix_l1, len_l, len_t, isStr_tx, ite_bl, ite_blt, ite_b, ite_bt, tru_i, tru_b, lit_0, lit_1, lit_2, lit_3, lit_4, lit_5, lit_6, lit_7, lit_8]; rfl) n 0 (Nat.zero_le _) (by have := cnt_le (P2 t tt) (m - b); omega)
  generalize hs : cnt (P2 t tt) (m - b) = s at *
  refine rq _ w2 ?_
  simp only [retR_nx, retR_rt, retR_xn, vC_0, vC_s, vP_0, vP_s, vS_0, vS_0l, vS_s, frz_sh, frz_l, frzL_nil, frzL_cons, frzL_map, lstE_0, lstE_s, retV_0, retV_s, frzE_0, frzE_s, seqS_eq, setS_eq, tgtS_eq, exprS_eq, retS_eq, retN_eq, ifS_eq, raiseS_eq, appS_eq, augS_eq, forS_eq, setE_eq, nilE_eq, consE_eq, tupE_eq, tryS_eq, nxS_rt, nxS_nx, kX, pX, cX, sX, op1, op2, inX, slX, noI, toI, toO, toC, flt, tst, tru, andT, orT, notT, andX, orX, notX, ifX, nilA, consA, tupX, lstX, callX, methX, meth0X, joinX, itX, it2X, yesT, chX, consR, andR, orR, notR, andV, orV, blR_bl, truR_bl, Rs.bind_ok, Rs.bind_exn, Rs.bind_bad, So.of_ok, So.of_exn, So.of_bad, noX_ok, tup_k, lst_k, intR_i, List.set_cons_zero, List.set_cons_succ, List.length_cons, List.length_nil, Nat.reduceAdd, Nat.reduceEqDiff, Nat.reduceLeDiff, reduceIte, if_true, if_false, Bool.not_true, Bool.not_false, decide_eq_true_eq, Bool.not_eq_true', decide_eq_false_iff_not, decide_true, decide_false, ite_self, Bool.false_eq_true, Bool.true_and, Bool.and_true, Bool.false_and, Bool.and_false, Bool.true_or, Bool.or_true, Bool.false_or, Bool.or_false, Bool.and_eq_true, Bool.or_eq_true, true_and, and_true, false_and, and_false, true_or, or_true, false_or, or_false, not_true_eq_false, not_false_eq_true, and_self, or_self, eq_self, add_i, sub_i, neg_i, min_i, max_i, lt_i, le_i, gt_i, ge_i, int1_i, int1_b, eq_i, ne_i, eq_b, ne_b, eq_s, ne_s, len_s, sl_s, sl_l, ix_t0, ix_t1, ix_t2, ix_t3, ix_t4, ix_l0, ix_l1, len_l, len_t, isStr_tx, ite_bl, ite_blt, ite_b, ite_bt, tru_i, tru_b, lit_0, lit_1, lit_2, lit_3, lit_4, lit_5, lit_6, lit_7, lit_8]
  rfl
theorem okRun_add (x : Ed) : ∀ (es : List Ed) (t : List Nat), okRun t es → OkE (runE t es).length x.1 x.2.1 x.2.2 → (runE t es).length ≤ 1000000 → okRun t (es ++ [x])
  | [], t, _, h, l => ⟨h, l, trivial⟩
  | y :: es, t, a, h, l => ⟨a.1, a.2.1, okRun_add x es _ a.2.2 h l⟩
theorem runE_add (x : Ed) : ∀ (es : List Ed) (t : List Nat), runE t (es ++ [x]) = put (runE t es) x.1 x.2.1 x.2.2
  | [], t => rfl
  | y :: es, t => runE_add x es _
theorem clash_comm (a b c d : Int) (h : a ≤ b) (h2 : c ≤ d) : clash c d a b = clash a b c d := by
  unfold clash
  by_cases g1 : a = b <;> by_cases g2 : c = d <;> simp only [g1, g2, and_self, if_true, if_false, and_true, and_false, true_and, false_and] <;> rw [Bool.eq_iff_iff] <;> simp <;> omega
theorem cmp_ed (b e : Int) (m : List Nat) : cmpD (ed b e m) = true := rfl
theorem cmp_shift (a b c d : Int) (m m' : List Nat) (first : Bool) : cmpD (shift a b c d m m' first) = true := by
  unfold shift
  split <;> rfl
theorem cmp_told (a b c d : Int) (m m' : List Nat) (first : Bool) : cmpD (told a b c d m m' first) = true := by
  unfold told
  split
  · rfl
  · exact cmp_shift ..
theorem cmp_joined (t u : List Nat) : cmpD (joinedD t u) = true := by
  unfold joinedD
  split <;> rfl
theorem led_eq (t : List Nat) (a b c d : Int) (m m' : List Nat) (first : Bool) (h : OkE t.length a b m) (h' : OkE t.length c d m') (hc : clash a b c d = false) :
    ∃ x1 y1 x2 y2, told c d a b m' m (!first) = ed x1 y1 m' ∧ told a b c d m m' first = ed x2 y2 m ∧ 0 ≤ x1 ∧ 0 ≤ y1 ∧ 0 ≤ x2 ∧ 0 ≤ y2 ∧ put (put t a b m) x1 y1 m' = put (put t c d m') x2 y2 m := by
  obtain ⟨h1, h2, h3, h4, h5, h6⟩ := h
  obtain ⟨k1, k2, k3, k4, k5, k6⟩ := h'
  have hcc := clash_comm a b c d h2 k2
  rw [hc] at hcc
  have hnc : ¬ ((a = b ∧ c < a ∧ a < d) ∨ (c = d ∧ a < c ∧ c < b) ∨ (a ≠ b ∧ c ≠ d ∧ a < d ∧ c < b)) := by
    intro q
    have : clash a b c d = true := by
      unfold clash
      by_cases g1 : a = b <;> by_cases g2 : c = d <;> simp only [g1, g2, and_self, if_true, if_false, and_true, and_false, true_and, false_and] <;> simp <;> omega
    rw [hc] at this
    cases this
  unfold told shift
  rw [hc, hcc]
  simp only [Bool.false_eq_true, if_false]
  by_cases q : b ≤ c ∧ ¬ ((a = b ∧ c = d ∧ a = c) ∧ first = false)
  · have c1 : ¬ (c < b ∨ (c = d ∧ a = b ∧ c = a) ∧ (!first) = true) := by
      intro z
      rcases z with z | z
      · omega
      · exact q.2 ⟨by omega, by simpa using z.2⟩
    have c2 : a < d ∨ (a = b ∧ c = d ∧ a = c) ∧ first = true := by
      by_cases z : a < d
      · exact .inl z
      · refine .inr ⟨by omega, ?_⟩
        cases first with
        | true => rfl
        | false => exact absurd ⟨by omega, rfl⟩ q.2
    rw [if_neg c1, if_pos c2]
    exact ⟨_, _, _, _, rfl, rfl, by omega, by omega, h1, by omega, put_comm t a b c d m m' ⟨h1, h2, q.1, k2, k3⟩⟩
  · have c0 : d ≤ a := by
      by_cases z : b ≤ c
      · have : (a = b ∧ c = d ∧ a = c) := by
          by_cases z2 : (a = b ∧ c = d ∧ a = c) ∧ first = false
          · exact z2.1
          · exact absurd ⟨z, z2⟩ q
        omega
      · omega
    have c1 : c < b ∨ (c = d ∧ a = b ∧ c = a) ∧ (!first) = true := by
      by_cases z : b ≤ c
      · by_cases z2 : (a = b ∧ c = d ∧ a = c) ∧ first = false
        · exact .inr ⟨by omega, by simp [z2.2]⟩
        · exact absurd ⟨z, z2⟩ q
      · exact .inl (by omega)
    have c2 : ¬ (a < d ∨ (a = b ∧ c = d ∧ a = c) ∧ first = true) := by
      intro z
      rcases z with z | z
      · omega
      · by_cases z3 : b ≤ c
        · by_cases z2 : (a = b ∧ c = d ∧ a = c) ∧ first = false
          · rw [z.2] at z2
            cases z2.2
          · exact q ⟨z3, z2⟩
        · omega
    rw [if_pos c1, if_neg c2]
    exact ⟨_, _, _, _, rfl, rfl, k1, by omega, by omega, by omega, (put_comm t c d a b m' m ⟨k1, k2, c0, h2, h3⟩).symm⟩
theorem mulS_0 : mulS (tx [97]) (.int 0) = .ok (tx []) := rfl
theorem mulS_1 : mulS (tx [97]) (.int 1) = .ok (tx [97]) := rfl
theorem p_law (n : Nat) (hn : 1000000 < n) : LawD 63 (d_law n) := by
  intro ns hns
  obtain ⟨xs, en, hxl, hN⟩ := p_numbers n ns 60 (by decide)
  have hxl' : (xs.length : Int) = 60 := by omega
  obtain ⟨v0, e0, v00, v01⟩ := num_ex hN (i := 0) (by decide) (by omega)
  obtain ⟨v1, e1, v10, v11⟩ := num_ex hN (i := 1) (by decide) (by omega)
  obtain ⟨v2, e2, v20, v21⟩ := num_ex hN (i := 2) (by decide) (by omega)
  obtain ⟨v3, e3, v30, v31⟩ := num_ex hN (i := 3) (by decide) (by omega)
  obtain ⟨v4, e4, v40, v41⟩ := num_ex hN (i := 4) (by decide) (by omega)
  obtain ⟨t, et, tl, tc⟩ := p_text n xs hN 10 (v0 % 11) 0 (by decide) (by omega) (by decide) (by decide) (by omega) (by omega)
  have tl2 : t.length ≤ 10 := by omega
  have en : d__law_numbers n [D.scr ns, D.int 60] = .ok (.lst ((xs.map D.int).map T.sh)) := en
  obtain ⟨a, b, m, ee1, ok1, lm⟩ := p_edit n xs hN 20 t (by decide) (by omega) (by omega)
  obtain ⟨c0, d0, m0, ee2, ok2, lm0⟩ := p_edit n xs hN 23 t (by decide) (by omega) (by omega)
  rw [e_law]
  unfold b_law
  refine rq [some (.sh (.scr ns)), some (.sh (.lst (xs.map .int))), none, none, none, none, none, none, none, none, none, none, none, none] (by simp only [retR_nx, retR_rt, retR_xn, vC_0, vC_s, vP_0, vP_s, vS_0, vS_0l, vS_s, frz_sh, frz_l, frzL_nil, frzL_cons, frzL_map, lstE_0, lstE_s, retV_0, retV_s, frzE_0, frzE_s, seqS_eq, setS_eq, tgtS_eq, exprS_eq, retS_eq, retN_eq, ifS_eq, raiseS_eq, appS_eq, augS_eq, forS_eq, setE_eq, nilE_eq, consE_eq, tupE_eq, tryS_eq, nxS_rt, nxS_nx, kX, pX, cX, sX, op1, op2, inX, slX, noI, toI, toO, toC, flt, tst, tru, andT, orT, notT, andX, orX, notX, ifX, nilA, consA, tupX, lstX, callX, methX, meth0X, joinX, itX, it2X, yesT, chX, consR, andR, orR, notR, andV, orV, blR_bl, truR_bl, Rs.bind_ok, Rs.bind_exn, Rs.bind_bad, So.of_ok, So.of_exn, So.of_bad, noX_ok, tup_k, lst_k, intR_i, List.set_cons_zero, List.set_cons_succ, List.length_cons, List.length_nil, Nat.reduceAdd, Nat.reduceEqDiff, Nat.reduceLeDiff, reduceIte, if_true, if_false, Bool.not_true, Bool.not_false, decide_eq_true_eq, Bool.not_eq_true', decide_eq_false_iff_not, decide_true, decide_false, ite_self, Bool.false_eq_true, Bool.true_and, Bool.and_true, Bool.false_and, Bool.and_false, Bool.true_or, Bool.or_true, Bool.false_or, Bool.or_false, Bool.and_eq_true, Bool.or_eq_true, true_and, and_true, false_and, and_false, true_or, or_true, false_or, or_false, not_true_eq_false, not_false_eq_true, and_self, or_self, eq_self, add_i, sub_i, neg_i, min_i, max_i, lt_i, le_i, gt_i, ge_i, int1_i, int1_b, eq_i, ne_i, eq_b, ne_b, eq_s, ne_s, len_s, sl_s, sl_l, ix_t0, ix_t1, ix_t2, ix_t3, ix_t4, ix_l0, ix_l1, len_l, len_t, isStr_tx, ite_bl, ite_blt, ite_b, ite_bt, tru_i, tru_b, lit_0, lit_1, lit_2, lit_3, lit_4, lit_5, lit_6, lit_7, lit_8, en]) ?_
  refine rq [some (.sh (.scr ns)), some (.sh (.lst (xs.map .int))), some (.sh (tx t)), none, none, none, none, none, none, none, none, none, none, none] (by simp only [retR_nx, retR_rt, retR_xn, vC_0, vC_s, vP_0, vP_s, vS_0, vS_0l, vS_s, frz_sh, frz_l, frzL_nil, frzL_cons, frzL_map, lstE_0, lstE_s, retV_0, retV_s, frzE_0, frzE_s, seqS_eq, setS_eq, tgtS_eq, exprS_eq, retS_eq, retN_eq, ifS_eq, raiseS_eq, appS_eq, augS_eq, forS_eq, setE_eq, nilE_eq, consE_eq, tupE_eq, tryS_eq, nxS_rt, nxS_nx, kX, pX, cX, sX, op1, op2, inX, slX, noI, toI, toO, toC, flt, tst, tru, andT, orT, notT, andX, orX, notX, ifX, nilA, consA, tupX, lstX, callX, methX, meth0X, joinX, itX, it2X, yesT, chX, consR, andR, orR, notR, andV, orV, blR_bl, truR_bl, Rs.bind_ok, Rs.bind_exn, Rs.bind_bad, So.of_ok, So.of_exn, So.of_bad, noX_ok, tup_k, lst_k, intR_i, List.set_cons_zero, List.set_cons_succ, List.length_cons, List.length_nil, Nat.reduceAdd, Nat.reduceEqDiff, Nat.reduceLeDiff, reduceIte, if_true, if_false, Bool.not_true, Bool.not_false, decide_eq_true_eq, Bool.not_eq_true', decide_eq_false_iff_not, decide_true, decide_false, ite_self, Bool.false_eq_true, Bool.true_and, Bool.and_true, Bool.false_and, Bool.and_false, Bool.true_or, Bool.or_true, Bool.false_or, Bool.or_false, Bool.and_eq_true, Bool.or_eq_true, true_and, and_true, false_and, and_false, true_or, or_true, false_or, or_false, not_true_eq_false, not_false_eq_true, and_self, or_self, eq_self, add_i, sub_i, neg_i, min_i, max_i, lt_i, le_i, gt_i, ge_i, int1_i, int1_b, eq_i, ne_i, eq_b, ne_b, eq_s, ne_s, len_s, sl_s, sl_l, ix_t0, ix_t1, ix_t2, ix_t3, ix_t4, ix_l0, ix_l1, len_l, len_t, isStr_tx, ite_bl, ite_blt, ite_b, ite_bt, tru_i, tru_b, lit_0, lit_1, lit_2, lit_3, lit_4, lit_5, lit_6, lit_7, lit_8, e0, mod_i (show (0 : Int) < 11 by decide), et]) ?_
  refine rq [some (.sh (.scr ns)), some (.sh (.lst (xs.map .int))), some (.sh (tx t)), some (.sh (ed a b m)), none, none, none, none, none, none, none, none, none, none] (by simp only [retR_nx, retR_rt, retR_xn, vC_0, vC_s, vP_0, vP_s, vS_0, vS_0l, vS_s, frz_sh, frz_l, frzL_nil, frzL_cons, frzL_map, lstE_0, lstE_s, retV_0, retV_s, frzE_0, frzE_s, seqS_eq, setS_eq, tgtS_eq, exprS_eq, retS_eq, retN_eq, ifS_eq, raiseS_eq, appS_eq, augS_eq, forS_eq, setE_eq, nilE_eq, consE_eq, tupE_eq, tryS_eq, nxS_rt, nxS_nx, kX, pX, cX, sX, op1, op2, inX, slX, noI, toI, toO, toC, flt, tst, tru, andT, orT, notT, andX, orX, notX, ifX, nilA, consA, tupX, lstX, callX, methX, meth0X, joinX, itX, it2X, yesT, chX, consR, andR, orR, notR, andV, orV, blR_bl, truR_bl, Rs.bind_ok, Rs.bind_exn, Rs.bind_bad, So.of_ok, So.of_exn, So.of_bad, noX_ok, tup_k, lst_k, intR_i, List.set_cons_zero, List.set_cons_succ, List.length_cons, List.length_nil, Nat.reduceAdd, Nat.reduceEqDiff, Nat.reduceLeDiff, reduceIte, if_true, if_false, Bool.not_true, Bool.not_false, decide_eq_true_eq, Bool.not_eq_true', decide_eq_false_iff_not, decide_true, decide_false, ite_self, Bool.false_eq_true, Bool.true_and, Bool.and_true, Bool.false_and, Bool.and_false, Bool.true_or, Bool.or_true, Bool.false_or, Bool.or_false, Bool.and_eq_true, Bool.or_eq_true, true_and, and_true, false_and, and_false, true_or, or_true, false_or, or_false, not_true_eq_false, not_false_eq_true, and_self, or_self, eq_self, add_i, sub_i, neg_i, min_i, max_i, lt_i, le_i, gt_i, ge_i, int1_i, int1_b, eq_i, ne_i, eq_b, ne_b, eq_s, ne_s, len_s, sl_s, sl_l, ix_t0, ix_t1, ix_t2, ix_t3, ix_t4, ix_l0, ix_l1, len_l, len_t, isStr_tx, ite_bl, ite_blt, ite_b, ite_bt, tru_i, tru_b, lit_0, lit_1, lit_2, lit_3, lit_4, lit_5, lit_6, lit_7, lit_8, ee1]) ?_
  refine rq [some (.sh (.scr ns)), some (.sh (.lst (xs.map .int))), some (.sh (tx t)), some (.sh (ed a b m)), some (.sh (ed c0 d0 m0)), none, none, none, none, none, none, none, none, none] (by simp only [retR_nx, retR_rt, retR_xn, vC_0, vC_s, vP_0, vP_s, vS_0, vS_0l, vS_s, frz_sh, frz_l, frzL_nil, frzL_cons, frzL_map, lstE_0, lstE_s, retV_0, retV_s, frzE_0, frzE_s, seqS_eq, setS_eq, tgtS_eq, exprS_eq, retS_eq, retN_eq, ifS_eq, raiseS_eq, appS_eq, augS_eq, forS_eq, setE_eq, nilE_eq, consE_eq, tupE_eq, tryS_eq, nxS_rt, nxS_nx, kX, pX, cX, sX, op1, op2, inX, slX, noI, toI, toO, toC, flt, tst, tru, andT, orT, notT, andX, orX, notX, ifX, nilA, consA, tupX, lstX, callX, methX, meth0X, joinX, itX, it2X, yesT, chX, consR, andR, orR, notR, andV, orV, blR_bl, truR_bl, Rs.bind_ok, Rs.bind_exn, Rs.bind_bad, So.of_ok, So.of_exn, So.of_bad, noX_ok, tup_k, lst_k, intR_i, List.set_cons_zero, List.set_cons_succ, List.length_cons, List.length_nil, Nat.reduceAdd, Nat.reduceEqDiff, Nat.reduceLeDiff, reduceIte, if_true, if_false, Bool.not_true, Bool.not_false, decide_eq_true_eq, Bool.not_eq_true', decide_eq_false_iff_not, decide_true, decide_false, ite_self, Bool.false_eq_true, Bool.true_and, Bool.and_true, Bool.false_and, Bool.and_false, Bool.true_or, Bool.or_true, Bool.false_or, Bool.or_false, Bool.and_eq_true, Bool.or_eq_true, true_and, and_true, false_and, and_false, true_or, or_true, false_or, or_false, not_true_eq_false, not_false_eq_true, and_self, or_self, eq_self, add_i, sub_i, neg_i, min_i, max_i, lt_i, le_i, gt_i, ge_i, int1_i, int1_b, eq_i, ne_i, eq_b, ne_b, eq_s, ne_s, len_s, sl_s, sl_l, ix_t0, ix_t1, ix_t2, ix_t3, ix_t4, ix_l0, ix_l1, len_l, len_t, isStr_tx, ite_bl, ite_blt, ite_b, ite_bt, tru_i, tru_b, lit_0, lit_1, lit_2, lit_3, lit_4, lit_5, lit_6, lit_7, lit_8, ee2]) ?_
  obtain ⟨h1, h2, h3, h4, h5, h6⟩ := id ok1
  have add98 : ∀ l : List Nat, l.length ≤ 1000 → addR (tx l) (tx [98]) = .ok (tx (l ++ [98])) := fun l hl => add_s (by simp; omega)
  have sg98 : ∀ l : List Nat, (∀ x ∈ l, x ∈ sg) → ∀ x ∈ l ++ [98], x ∈ sg := fun l hl x hx => by
    rcases List.mem_append.mp hx with hx | hx
    · exact hl x hx
    · rw [List.mem_singleton.mp hx]; decide
  -- two, changed
  obtain ⟨c1, d1, m1, ok3, l3, q1⟩ : ∃ c1 d1 m1, OkE t.length c1 d1 m1 ∧ m1.length ≤ 4 ∧ ed c1 d1 m1 = if v1 % 3 = 0 then ed a a (m0 ++ [98]) else ed c0 d0 m0 := by
    by_cases z : v1 % 3 = 0
    · exact ⟨a, a, m0 ++ [98], ⟨h1, Int.le_refl _, by omega, by simp; omega, sg98 _ ok2.2.2.2.2.1, fun h => by simp at h⟩, by simp; omega, by rw [if_pos z]⟩
    · exact ⟨c0, d0, m0, ok2, by omega, by rw [if_neg z]⟩
  refine rq [some (.sh (.scr ns)), some (.sh (.lst (xs.map .int))), some (.sh (tx t)), some (.sh (ed a b m)), some (.sh (ed c1 d1 m1)), none, none, none, none, none, none, none, none, none] (by
    rw [q1]
    by_cases z : v1 % 3 = 0 <;> simp only [retR_nx, retR_rt, retR_xn, vC_0, vC_s, vP_0, vP_s, vS_0, vS_0l, vS_s, frz_sh, frz_l, frzL_nil, frzL_cons, frzL_map, lstE_0, lstE_s, retV_0, retV_s, frzE_0, frzE_s, seqS_eq, setS_eq, tgtS_eq, exprS_eq, retS_eq, retN_eq, ifS_eq, raiseS_eq, appS_eq, augS_eq, forS_eq, setE_eq, nilE_eq, consE_eq, tupE_eq, tryS_eq, nxS_rt, nxS_nx, kX, pX, cX, sX, op1, op2, inX, slX, noI, toI, toO, toC, flt, tst, tru, andT, orT, notT, andX, orX, notX, ifX, nilA, consA, tupX, lstX, callX, methX, meth0X, joinX, itX, it2X, yesT, chX, consR, andR, orR, notR, andV, orV, blR_bl, truR_bl, Rs.bind_ok, Rs.bind_exn, Rs.bind_bad, So.of_ok, So.of_exn, So.of_bad, noX_ok, tup_k, lst_k, intR_i, List.set_cons_zero, List.set_cons_succ, List.length_cons, List.length_nil, Nat.reduceAdd, Nat.reduceEqDiff, Nat.reduceLeDiff, reduceIte, if_true, if_false, Bool.not_true, Bool.not_false, decide_eq_true_eq, Bool.not_eq_true', decide_eq_false_iff_not, decide_true, decide_false, ite_self, Bool.false_eq_true, Bool.true_and, Bool.and_true, Bool.false_and, Bool.and_false, Bool.true_or, Bool.or_true, Bool.false_or, Bool.or_false, Bool.and_eq_true, Bool.or_eq_true, true_and, and_true, false_and, and_false, true_or, or_true, false_or, or_false, not_true_eq_false, not_false_eq_true, and_self, or_self, eq_self, add_i, sub_i, neg_i, min_i, max_i, lt_i, le_i, gt_i, ge_i, int1_i, int1_b, eq_i, ne_i, eq_b, ne_b, eq_s, ne_s, len_s, sl_s, sl_l, ix_t0, ix_t1, ix_t2, ix_t3, ix_t4, ix_l0, ix_l1, len_l, len_t, isStr_tx, ite_bl, ite_blt, ite_b, ite_bt, tru_i, tru_b, lit_0, lit_1, lit_2, lit_3, lit_4, lit_5, lit_6, lit_7, lit_8, e1, mod_i (show (0 : Int) < 3 by decide), z, ed0, ed2, add98 m0 (by omega)] <;> rfl) ?_
  obtain ⟨c, d, m', ok4, l4, q2⟩ : ∃ c d m', OkE t.length c d m' ∧ m'.length ≤ 5 ∧ ed c d m' = if v1 % 3 = 1 then ed b (if b + v2 % 2 < t.length then b + v2 % 2 else t.length) (m1 ++ [98]) else ed c1 d1 m1 := by
    by_cases z : v1 % 3 = 1
    · exact ⟨b, (if b + v2 % 2 < t.length then b + v2 % 2 else t.length), m1 ++ [98], ⟨by omega, by split <;> omega, by split <;> omega, by simp; omega, sg98 _ ok3.2.2.2.2.1, fun h => by simp at h⟩, by simp; omega, by rw [if_pos z]⟩
    · exact ⟨c1, d1, m1, ok3, by omega, by rw [if_neg z]⟩
  refine rq [some (.sh (.scr ns)), some (.sh (.lst (xs.map .int))), some (.sh (tx t)), some (.sh (ed a b m)), some (.sh (ed c d m')), none, none, none, none, none, none, none, none, none] (by
    rw [q2]
    by_cases z : v1 % 3 = 1 <;> simp only [retR_nx, retR_rt, retR_xn, vC_0, vC_s, vP_0, vP_s, vS_0, vS_0l, vS_s, frz_sh, frz_l, frzL_nil, frzL_cons, frzL_map, lstE_0, lstE_s, retV_0, retV_s, frzE_0, frzE_s, seqS_eq, setS_eq, tgtS_eq, exprS_eq, retS_eq, retN_eq, ifS_eq, raiseS_eq, appS_eq, augS_eq, forS_eq, setE_eq, nilE_eq, consE_eq, tupE_eq, tryS_eq, nxS_rt, nxS_nx, kX, pX, cX, sX, op1, op2, inX, slX, noI, toI, toO, toC, flt, tst, tru, andT, orT, notT, andX, orX, notX, ifX, nilA, consA, tupX, lstX, callX, methX, meth0X, joinX, itX, it2X, yesT, chX, consR, andR, orR, notR, andV, orV, blR_bl, truR_bl, Rs.bind_ok, Rs.bind_exn, Rs.bind_bad, So.of_ok, So.of_exn, So.of_bad, noX_ok, tup_k, lst_k, intR_i, List.set_cons_zero, List.set_cons_succ, List.length_cons, List.length_nil, Nat.reduceAdd, Nat.reduceEqDiff, Nat.reduceLeDiff, reduceIte, if_true, if_false, Bool.not_true, Bool.not_false, decide_eq_true_eq, Bool.not_eq_true', decide_eq_false_iff_not, decide_true, decide_false, ite_self, Bool.false_eq_true, Bool.true_and, Bool.and_true, Bool.false_and, Bool.and_false, Bool.true_or, Bool.or_true, Bool.false_or, Bool.or_false, Bool.and_eq_true, Bool.or_eq_true, true_and, and_true, false_and, and_false, true_or, or_true, false_or, or_false, not_true_eq_false, not_false_eq_true, and_self, or_self, eq_self, add_i, sub_i, neg_i, min_i, max_i, lt_i, le_i, gt_i, ge_i, int1_i, int1_b, eq_i, ne_i, eq_b, ne_b, eq_s, ne_s, len_s, sl_s, sl_l, ix_t0, ix_t1, ix_t2, ix_t3, ix_t4, ix_l0, ix_l1, len_l, len_t, isStr_tx, ite_bl, ite_blt, ite_b, ite_bt, tru_i, tru_b, lit_0, lit_1, lit_2, lit_3, lit_4, lit_5, lit_6, lit_7, lit_8, e1, e2, mod_i (show (0 : Int) < 3 by decide), mod_i (show (0 : Int) < 2 by decide), z, ed1, ed2, add98 m1 (by omega)] <;> rfl) ?_
  obtain ⟨k1, k2, k3, k4, k5, k6⟩ := id ok4
  have lc := p_law_cross n a b c d m m' ⟨h1, by omega⟩ ⟨by omega, by omega⟩ ⟨k1, by omega⟩ ⟨by omega, by omega⟩ h2 k2
  refine rq [some (.sh (.scr ns)), some (.sh (.lst (xs.map .int))), some (.sh (tx t)), some (.sh (ed a b m)), some (.sh (ed c d m')), some (.sh (.bl (clash a b c d))), none, none, none, none, none, none, none, none] (by simp only [retR_nx, retR_rt, retR_xn, vC_0, vC_s, vP_0, vP_s, vS_0, vS_0l, vS_s, frz_sh, frz_l, frzL_nil, frzL_cons, frzL_map, lstE_0, lstE_s, retV_0, retV_s, frzE_0, frzE_s, seqS_eq, setS_eq, tgtS_eq, exprS_eq, retS_eq, retN_eq, ifS_eq, raiseS_eq, appS_eq, augS_eq, forS_eq, setE_eq, nilE_eq, consE_eq, tupE_eq, tryS_eq, nxS_rt, nxS_nx, kX, pX, cX, sX, op1, op2, inX, slX, noI, toI, toO, toC, flt, tst, tru, andT, orT, notT, andX, orX, notX, ifX, nilA, consA, tupX, lstX, callX, methX, meth0X, joinX, itX, it2X, yesT, chX, consR, andR, orR, notR, andV, orV, blR_bl, truR_bl, Rs.bind_ok, Rs.bind_exn, Rs.bind_bad, So.of_ok, So.of_exn, So.of_bad, noX_ok, tup_k, lst_k, intR_i, List.set_cons_zero, List.set_cons_succ, List.length_cons, List.length_nil, Nat.reduceAdd, Nat.reduceEqDiff, Nat.reduceLeDiff, reduceIte, if_true, if_false, Bool.not_true, Bool.not_false, decide_eq_true_eq, Bool.not_eq_true', decide_eq_false_iff_not, decide_true, decide_false, ite_self, Bool.false_eq_true, Bool.true_and, Bool.and_true, Bool.false_and, Bool.and_false, Bool.true_or, Bool.or_true, Bool.false_or, Bool.or_false, Bool.and_eq_true, Bool.or_eq_true, true_and, and_true, false_and, and_false, true_or, or_true, false_or, or_false, not_true_eq_false, not_false_eq_true, and_self, or_self, eq_self, add_i, sub_i, neg_i, min_i, max_i, lt_i, le_i, gt_i, ge_i, int1_i, int1_b, eq_i, ne_i, eq_b, ne_b, eq_s, ne_s, len_s, sl_s, sl_l, ix_t0, ix_t1, ix_t2, ix_t3, ix_t4, ix_l0, ix_l1, len_l, len_t, isStr_tx, ite_bl, ite_blt, ite_b, ite_bt, tru_i, tru_b, lit_0, lit_1, lit_2, lit_3, lit_4, lit_5, lit_6, lit_7, lit_8, lc]) ?_
  refine rq [some (.sh (.scr ns)), some (.sh (.lst (xs.map .int))), some (.sh (tx t)), some (.sh (ed a b m)), some (.sh (ed c d m')), some (.sh (.bl (clash a b c d))), none, none, none, none, none, none, none, none] (by simp only [retR_nx, retR_rt, retR_xn, vC_0, vC_s, vP_0, vP_s, vS_0, vS_0l, vS_s, frz_sh, frz_l, frzL_nil, frzL_cons, frzL_map, lstE_0, lstE_s, retV_0, retV_s, frzE_0, frzE_s, seqS_eq, setS_eq, tgtS_eq, exprS_eq, retS_eq, retN_eq, ifS_eq, raiseS_eq, appS_eq, augS_eq, forS_eq, setE_eq, nilE_eq, consE_eq, tupE_eq, tryS_eq, nxS_rt, nxS_nx, kX, pX, cX, sX, op1, op2, inX, slX, noI, toI, toO, toC, flt, tst, tru, andT, orT, notT, andX, orX, notX, ifX, nilA, consA, tupX, lstX, callX, methX, meth0X, joinX, itX, it2X, yesT, chX, consR, andR, orR, notR, andV, orV, blR_bl, truR_bl, Rs.bind_ok, Rs.bind_exn, Rs.bind_bad, So.of_ok, So.of_exn, So.of_bad, noX_ok, tup_k, lst_k, intR_i, List.set_cons_zero, List.set_cons_succ, List.length_cons, List.length_nil, Nat.reduceAdd, Nat.reduceEqDiff, Nat.reduceLeDiff, reduceIte, if_true, if_false, Bool.not_true, Bool.not_false, decide_eq_true_eq, Bool.not_eq_true', decide_eq_false_iff_not, decide_true, decide_false, ite_self, Bool.false_eq_true, Bool.true_and, Bool.and_true, Bool.false_and, Bool.and_false, Bool.true_or, Bool.or_true, Bool.false_or, Bool.or_false, Bool.and_eq_true, Bool.or_eq_true, true_and, and_true, false_and, and_false, true_or, or_true, false_or, or_false, not_true_eq_false, not_false_eq_true, and_self, or_self, eq_self, add_i, sub_i, neg_i, min_i, max_i, lt_i, le_i, gt_i, ge_i, int1_i, int1_b, eq_i, ne_i, eq_b, ne_b, eq_s, ne_s, len_s, sl_s, sl_l, ix_t0, ix_t1, ix_t2, ix_t3, ix_t4, ix_l0, ix_l1, len_l, len_t, isStr_tx, ite_bl, ite_blt, ite_b, ite_bt, tru_i, tru_b, lit_0, lit_1, lit_2, lit_3, lit_4, lit_5, lit_6, lit_7, lit_8, p_cross, clash_comm a b c d h2 k2, p_same]) ?_
  obtain ⟨ρ1, f1, _, o6, o11, o12, r1⟩ := forR_inv (f := setE 6) (g := (seqS (ifS (orT (tst (op2 neR (toC (callX (d__law_told n) (consA (cX 3) (consA (cX 4) (consA (cX 6) nilA))))) (toC (callX (d__law_due n) (consA (cX 3) (consA (cX 4) (consA (cX 6) nilA))))))) (tst (op2 neR (toC (callX (d__law_told n) (consA (cX 4) (consA (cX 3) (consA (cX 6) nilA))))) (toC (callX (d__law_due n) (consA (cX 4) (consA (cX 3) (consA (cX 6) nilA)))))))) (seqS (retS (toO (kX (.bl false))))
 .nx) .nx)
 (seqS (ifS (notT (tru (cX 5))) (seqS (setS 11 (toO (toC (callX (d__law_put n) (consA (toC (callX (d__law_put n) (consA (cX 2) (consA (cX 3) nilA)))) (consA (toC (callX (d__law_told n) (consA (cX 4) (consA (cX 3) (consA (notX (cX 6)) nilA))))) nilA))))))
 (seqS (setS 12 (toO (toC (callX (d__law_put n) (consA (toC (callX (d__law_put n) (consA (cX 2) (consA (cX 4) nilA)))) (consA (toC (callX (d__law_told n) (consA (cX 3) (consA (cX 4) (consA (cX 6) nilA))))) nilA))))))
 (seqS (ifS (tst (op2 neR (cX 11) (cX 12))) (seqS (retS (toO (kX (.bl false))))
 .nx) .nx)
 .nx))) .nx)
 .nx)))
    (fun ds ρ => (∃ bs : List Bool, ds = bs.map D.bl) ∧ ∃ o6 o11 o12 : Option T, ρ = [some (.sh (.scr ns)), some (.sh (.lst (xs.map .int))), some (.sh (tx t)), some (.sh (ed a b m)), some (.sh (ed c d m')), some (.sh (.bl (clash a b c d))), o6, none, none, none, none, o11, o12, none]) (fun dd ds ρ ⟨⟨bs, hb⟩, o6, o11, o12, e⟩ => by
      subst e
      cases bs with
      | nil => cases hb
      | cons first bs =>
        cases hb
        have du1 := p_due n a b c d m m' first ⟨h1, by omega⟩ ⟨by omega, by omega⟩ ⟨k1, by omega⟩ ⟨by omega, by omega⟩ h2 k2
        have du2 := p_due n c d a b m' m first ⟨k1, by omega⟩ ⟨by omega, by omega⟩ ⟨h1, by omega⟩ ⟨by omega, by omega⟩ k2 h2
        refine ⟨_, rfl, ?_⟩
        by_cases hc : clash a b c d = true
        · simp only [retR_nx, retR_rt, retR_xn, vC_0, vC_s, vP_0, vP_s, vS_0, vS_0l, vS_s, frz_sh, frz_l, frzL_nil, frzL_cons, frzL_map, lstE_0, lstE_s, retV_0, retV_s, frzE_0, frzE_s, seqS_eq, setS_eq, tgtS_eq, exprS_eq, retS_eq, retN_eq, ifS_eq, raiseS_eq, appS_eq, augS_eq, forS_eq, setE_eq, nilE_eq, consE_eq, tupE_eq, tryS_eq, nxS_rt, nxS_nx, kX, pX, cX, sX, op1, op2, inX, slX, noI, toI, toO, toC, flt, tst, tru, andT, orT, notT, andX, orX, notX, ifX, nilA, consA, tupX, lstX, callX, methX, meth0X, joinX, itX, it2X, yesT, chX, consR, andR, orR, notR, andV, orV, blR_bl, truR_bl, Rs.bind_ok, Rs.bind_exn, Rs.bind_bad, So.of_ok, So.of_exn, So.of_bad, noX_ok, tup_k, lst_k, intR_i, List.set_cons_zero, List.set_cons_succ, List.length_cons, List.length_nil, Nat.reduceAdd, Nat.reduceEqDiff, Nat.reduceLeDiff, reduceIte, if_true, if_false, Bool.not_true, Bool.not_false, decide_eq_true_eq, Bool.not_eq_true', decide_eq_false_iff_not, decide_true, decide_false, ite_self, Bool.false_eq_true, Bool.true_and, Bool.and_true, Bool.false_and, Bool.and_false, Bool.true_or, Bool.or_true, Bool.false_or, Bool.or_false, Bool.and_eq_true, Bool.or_eq_true, true_and, and_true, false_and, and_false, true_or, or_true, false_or, or_false, not_true_eq_false, not_false_eq_true, and_self, or_self, eq_self, add_i, sub_i, neg_i, min_i, max_i, lt_i, le_i, gt_i, ge_i, int1_i, int1_b, eq_i, ne_i, eq_b, ne_b, eq_s, ne_s, len_s, sl_s, sl_l, ix_t0, ix_t1, ix_t2, ix_t3, ix_t4, ix_l0, ix_l1, len_l, len_t, isStr_tx, ite_bl, ite_blt, ite_b, ite_bt, tru_i, tru_b, lit_0, lit_1, lit_2, lit_3, lit_4, lit_5, lit_6, lit_7, lit_8, p_told, du1, du2, neR_refl (cmp_told _ _ _ _ _ _ _), hc]
          exact ⟨_, .inl rfl, ⟨bs, rfl⟩, some (.sh (.bl first)), o11, o12, rfl⟩
        · rw [Bool.not_eq_true] at hc
          obtain ⟨x1, y1, x2, y2, t1, t2, x10, y10, x20, y20, pe⟩ := led_eq t a b c d m m' first ok1 ok4 hc
          have pl := put_len t a b m ⟨h1, h2, h3⟩
          have pl' := put_len t c d m' ⟨k1, k2, k3⟩
          simp only [retR_nx, retR_rt, retR_xn, vC_0, vC_s, vP_0, vP_s, vS_0, vS_0l, vS_s, frz_sh, frz_l, frzL_nil, frzL_cons, frzL_map, lstE_0, lstE_s, retV_0, retV_s, frzE_0, frzE_s, seqS_eq, setS_eq, tgtS_eq, exprS_eq, retS_eq, retN_eq, ifS_eq, raiseS_eq, appS_eq, augS_eq, forS_eq, setE_eq, nilE_eq, consE_eq, tupE_eq, tryS_eq, nxS_rt, nxS_nx, kX, pX, cX, sX, op1, op2, inX, slX, noI, toI, toO, toC, flt, tst, tru, andT, orT, notT, andX, orX, notX, ifX, nilA, consA, tupX, lstX, callX, methX, meth0X, joinX, itX, it2X, yesT, chX, consR, andR, orR, notR, andV, orV, blR_bl, truR_bl, Rs.bind_ok, Rs.bind_exn, Rs.bind_bad, So.of_ok, So.of_exn, So.of_bad, noX_ok, tup_k, lst_k, intR_i, List.set_cons_zero, List.set_cons_succ, List.length_cons, List.length_nil, Nat.reduceAdd, Nat.reduceEqDiff, Nat.reduceLeDiff, reduceIte, if_true, if_false, Bool.not_true, Bool.not_false, decide_eq_true_eq, Bool.not_eq_true', decide_eq_false_iff_not, decide_true, decide_false, ite_self, Bool.false_eq_true, Bool.true_and, Bool.and_true, Bool.false_and, Bool.and_false, Bool.true_or, Bool.or_true, Bool.false_or, Bool.or_false, Bool.and_eq_true, Bool.or_eq_true, true_and, and_true, false_and, and_false, true_or, or_true, false_or, or_false, not_true_eq_false, not_false_eq_true, and_self, or_self, eq_self, add_i, sub_i, neg_i, min_i, max_i, lt_i, le_i, gt_i, ge_i, int1_i, int1_b, eq_i, ne_i, eq_b, ne_b, eq_s, ne_s, len_s, sl_s, sl_l, ix_t0, ix_t1, ix_t2, ix_t3, ix_t4, ix_l0, ix_l1, len_l, len_t, isStr_tx, ite_bl, ite_blt, ite_b, ite_bt, tru_i, tru_b, lit_0, lit_1, lit_2, lit_3, lit_4, lit_5, lit_6, lit_7, lit_8, p_told, du1, du2, neR_refl (cmp_told _ _ _ _ _ _ _), neR_refl (cmp_ed _ _ _), hc, p_put n t a b m h1 (by omega) (by omega) (by omega), p_put n t c d m' k1 (by omega) (by omega) (by omega), t1, t2,
            p_put n (put t a b m) x1 y1 m' x10 y10 (by omega) (by omega), p_put n (put t c d m') x2 y2 m x20 y20 (by omega) (by omega), pe]
          exact ⟨_, .inl rfl, ⟨bs, rfl⟩, some (.sh (.bl first)), _, _, rfl⟩) [.bl true, .bl false] _ ⟨⟨[true, false], rfl⟩, none, none, none, rfl⟩
  subst r1
  refine rq _ (by simp only [retR_nx, retR_rt, retR_xn, vC_0, vC_s, vP_0, vP_s, vS_0, vS_0l, vS_s, frz_sh, frz_l, frzL_nil, frzL_cons, frzL_map, lstE_0, lstE_s, retV_0, retV_s, frzE_0, frzE_s, seqS_eq, setS_eq, tgtS_eq, exprS_eq, retS_eq, retN_eq, ifS_eq, raiseS_eq, appS_eq, augS_eq, forS_eq, setE_eq, nilE_eq, consE_eq, tupE_eq, tryS_eq, nxS_rt, nxS_nx, kX, pX, cX, sX, op1, op2, inX, slX, noI, toI, toO, toC, flt, tst, tru, andT, orT, notT, andX, orX, notX, ifX, nilA, consA, tupX, lstX, callX, methX, meth0X, joinX, itX, it2X, yesT, chX, consR, andR, orR, notR, andV, orV, blR_bl, truR_bl, Rs.bind_ok, Rs.bind_exn, Rs.bind_bad, So.of_ok, So.of_exn, So.of_bad, noX_ok, tup_k, lst_k, intR_i, List.set_cons_zero, List.set_cons_succ, List.length_cons, List.length_nil, Nat.reduceAdd, Nat.reduceEqDiff, Nat.reduceLeDiff, reduceIte, if_true, if_false, Bool.not_true, Bool.not_false, decide_eq_true_eq, Bool.not_eq_true', decide_eq_false_iff_not, decide_true, decide_false, ite_self, Bool.false_eq_true, Bool.true_and, Bool.and_true, Bool.false_and, Bool.and_false, Bool.true_or, Bool.or_true, Bool.false_or, Bool.or_false, Bool.and_eq_true, Bool.or_eq_true, true_and, and_true, false_and, and_false, true_or, or_true, false_or, or_false, not_true_eq_false, not_false_eq_true, and_self, or_self, eq_self, add_i, sub_i, neg_i, min_i, max_i, lt_i, le_i, gt_i, ge_i, int1_i, int1_b, eq_i, ne_i, eq_b, ne_b, eq_s, ne_s, len_s, sl_s, sl_l, ix_t0, ix_t1, ix_t2, ix_t3, ix_t4, ix_l0, ix_l1, len_l, len_t, isStr_tx, ite_bl, ite_blt, ite_b, ite_bt, tru_i, tru_b, lit_0, lit_1, lit_2, lit_3, lit_4, lit_5, lit_6, lit_7, lit_8, items_l]; exact f1) ?_
  refine rq [some (.sh (.scr ns)), some (.sh (.lst (xs.map .int))), some (.sh (tx t)), some (.sh (ed a b m)), some (.sh (ed c d m')), some (.sh (.bl (clash a b c d))), o6, some (.lst []), none, none, none, o11, o12, none] (by simp only [retR_nx, retR_rt, retR_xn, vC_0, vC_s, vP_0, vP_s, vS_0, vS_0l, vS_s, frz_sh, frz_l, frzL_nil, frzL_cons, frzL_map, lstE_0, lstE_s, retV_0, retV_s, frzE_0, frzE_s, seqS_eq, setS_eq, tgtS_eq, exprS_eq, retS_eq, retN_eq, ifS_eq, raiseS_eq, appS_eq, augS_eq, forS_eq, setE_eq, nilE_eq, consE_eq, tupE_eq, tryS_eq, nxS_rt, nxS_nx, kX, pX, cX, sX, op1, op2, inX, slX, noI, toI, toO, toC, flt, tst, tru, andT, orT, notT, andX, orX, notX, ifX, nilA, consA, tupX, lstX, callX, methX, meth0X, joinX, itX, it2X, yesT, chX, consR, andR, orR, notR, andV, orV, blR_bl, truR_bl, Rs.bind_ok, Rs.bind_exn, Rs.bind_bad, So.of_ok, So.of_exn, So.of_bad, noX_ok, tup_k, lst_k, intR_i, List.set_cons_zero, List.set_cons_succ, List.length_cons, List.length_nil, Nat.reduceAdd, Nat.reduceEqDiff, Nat.reduceLeDiff, reduceIte, if_true, if_false, Bool.not_true, Bool.not_false, decide_eq_true_eq, Bool.not_eq_true', decide_eq_false_iff_not, decide_true, decide_false, ite_self, Bool.false_eq_true, Bool.true_and, Bool.and_true, Bool.false_and, Bool.and_false, Bool.true_or, Bool.or_true, Bool.false_or, Bool.or_false, Bool.and_eq_true, Bool.or_eq_true, true_and, and_true, false_and, and_false, true_or, or_true, false_or, or_false, not_true_eq_false, not_false_eq_true, and_self, or_self, eq_self, add_i, sub_i, neg_i, min_i, max_i, lt_i, le_i, gt_i, ge_i, int1_i, int1_b, eq_i, ne_i, eq_b, ne_b, eq_s, ne_s, len_s, sl_s, sl_l, ix_t0, ix_t1, ix_t2, ix_t3, ix_t4, ix_l0, ix_l1, len_l, len_t, isStr_tx, ite_bl, ite_blt, ite_b, ite_bt, tru_i, tru_b, lit_0, lit_1, lit_2, lit_3, lit_4, lit_5, lit_6, lit_7, lit_8]) ?_
  refine rq [some (.sh (.scr ns)), some (.sh (.lst (xs.map .int))), some (.sh (tx t)), some (.sh (ed a b m)), some (.sh (ed c d m')), some (.sh (.bl (clash a b c d))), o6, some (.lst []), some (.sh (tx t)), none, none, o11, o12, none] (by simp only [retR_nx, retR_rt, retR_xn, vC_0, vC_s, vP_0, vP_s, vS_0, vS_0l, vS_s, frz_sh, frz_l, frzL_nil, frzL_cons, frzL_map, lstE_0, lstE_s, retV_0, retV_s, frzE_0, frzE_s, seqS_eq, setS_eq, tgtS_eq, exprS_eq, retS_eq, retN_eq, ifS_eq, raiseS_eq, appS_eq, augS_eq, forS_eq, setE_eq, nilE_eq, consE_eq, tupE_eq, tryS_eq, nxS_rt, nxS_nx, kX, pX, cX, sX, op1, op2, inX, slX, noI, toI, toO, toC, flt, tst, tru, andT, orT, notT, andX, orX, notX, ifX, nilA, consA, tupX, lstX, callX, methX, meth0X, joinX, itX, it2X, yesT, chX, consR, andR, orR, notR, andV, orV, blR_bl, truR_bl, Rs.bind_ok, Rs.bind_exn, Rs.bind_bad, So.of_ok, So.of_exn, So.of_bad, noX_ok, tup_k, lst_k, intR_i, List.set_cons_zero, List.set_cons_succ, List.length_cons, List.length_nil, Nat.reduceAdd, Nat.reduceEqDiff, Nat.reduceLeDiff, reduceIte, if_true, if_false, Bool.not_true, Bool.not_false, decide_eq_true_eq, Bool.not_eq_true', decide_eq_false_iff_not, decide_true, decide_false, ite_self, Bool.false_eq_true, Bool.true_and, Bool.and_true, Bool.false_and, Bool.and_false, Bool.true_or, Bool.or_true, Bool.false_or, Bool.or_false, Bool.and_eq_true, Bool.or_eq_true, true_and, and_true, false_and, and_false, true_or, or_true, false_or, or_false, not_true_eq_false, not_false_eq_true, and_self, or_self, eq_self, add_i, sub_i, neg_i, min_i, max_i, lt_i, le_i, gt_i, ge_i, int1_i, int1_b, eq_i, ne_i, eq_b, ne_b, eq_s, ne_s, len_s, sl_s, sl_l, ix_t0, ix_t1, ix_t2, ix_t3, ix_t4, ix_l0, ix_l1, len_l, len_t, isStr_tx, ite_bl, ite_blt, ite_b, ite_bt, tru_i, tru_b, lit_0, lit_1, lit_2, lit_3, lit_4, lit_5, lit_6, lit_7, lit_8]) ?_
  obtain ⟨q, hq⟩ := Int.eq_ofNat_of_zero_le (emod_rng v3 (show (0 : Int) < 5 by decide)).1
  have hq5 : q ≤ 4 := by omega
  obtain ⟨ρ2, f2, es, u, o9, o10, o13, b1, b2, b3, b4, r2⟩ := forR_cnt (f := setE 9) (g := (seqS (setS 10 (toO (toC (callX (d__law_edit n) (consA (cX 1) (consA (op2 addR (kX (.int 30)) (op2 mulR (kX (.int 3)) (cX 9))) (consA (cX 8) nilA)))))))
 (seqS (ifS (andT (tst (op2 eqR (cX 9) (kX (.int 2)))) (tst (op2 eqR (op2 modR (op2 ixA (cX 1) (kX (.int 4))) (kX (.int 2))) (kX (.int 0))))) (seqS (setS 13 (toO (op2 ixA (sX 7) (kX (.int 1)))))
 (seqS (setS 10 (toO (tupX (consA (op2 ixA (cX 13) (kX (.int 0))) (consA (op2 addR (op2 ixA (cX 13) (kX (.int 0))) (op1 lenR (op2 ixA (cX 13) (kX (.int 2))))) (consA (op2 mulS (kX (.str "a")) (op1 int1R (op2 eqR (op1 lenR (op2 ixA (cX 13) (kX (.int 2)))) (kX (.int 0))))) nilA))))))
 .nx)) .nx)
 (seqS (appS 7 (toO (cX 10)))
 (seqS (setS 8 (toO (toC (callX (d__law_put n) (consA (cX 8) (consA (cX 10) nilA))))))
 .nx))))) 0
    (fun k ρ => ∃ (es : List Ed) (u : List Nat) (o9 o10 o13 : Option T), es.length = k ∧ okRun t es ∧ runE t es = u ∧ u.length ≤ 10 + 10 * k ∧ ρ = [some (.sh (.scr ns)), some (.sh (.lst (xs.map .int))), some (.sh (tx t)), some (.sh (ed a b m)), some (.sh (ed c d m')), some (.sh (.bl (clash a b c d))), o6, some (.lst ((es.map enc).map T.sh)), some (.sh (tx u)), o9, o10, o11, o12, o13]) q
    (fun k ρ hk ⟨es, u, o9, o10, o13, b1, b2, b3, b4, e⟩ => by
      subst e
      refine ⟨_, rfl, ?_⟩
      rw [Int.zero_add]
      obtain ⟨x, y, w, ee, okx, lw⟩ := p_edit n xs hN (30 + 3 * (k : Int)) u (by omega) (by omega) (by omega)
      have m3 : mulR (.int 3) (.int (k : Int)) = .ok (.int (3 * (k : Int))) := mul_i (by decide) (by omega)
      have lap : ((es.map enc).map T.sh).length < 16777216 := by simp; omega
      -- the edit that is put
      have key : ∀ (x y : Int) (w : List Nat) (o9 o13 : Option T), OkE u.length x y w → ∃ es' u' o9' o10' o13', seqS (appS 7 (toO (cX 10))) (seqS (setS 8 (toO (toC (callX (d__law_put n) (consA (cX 8) (consA (cX 10) nilA)))))) .nx)
          [some (.sh (.scr ns)), some (.sh (.lst (xs.map .int))), some (.sh (tx t)), some (.sh (ed a b m)), some (.sh (ed c d m')), some (.sh (.bl (clash a b c d))), o6, some (.lst ((es.map enc).map T.sh)), some (.sh (tx u)), o9, some (.sh (ed x y w)), o11, o12, o13]
          = .nx [some (.sh (.scr ns)), some (.sh (.lst (xs.map .int))), some (.sh (tx t)), some (.sh (ed a b m)), some (.sh (ed c d m')), some (.sh (.bl (clash a b c d))), o6, some (.lst ((es'.map enc).map T.sh)), some (.sh (tx u')), o9', o10', o11, o12, o13'] ∧ es'.length = k + 1 ∧ okRun t es' ∧ runE t es' = u' ∧ u'.length ≤ 10 + 10 * (k + 1) := by
        intro x y w o9 o13 ok
        have okk := ok
        obtain ⟨g1, g2, g3, g4, g5, g6⟩ := ok
        have pl := put_len u x y w ⟨g1, g2, g3⟩
        refine ⟨es ++ [(x, y, w)], put u x y w, o9, some (.sh (ed x y w)), o13, ?_, by simp [b1], okRun_add _ es t b2 (by rw [b3]; exact okk) (by rw [b3]; omega), by rw [runE_add, b3], by omega⟩
        simp only [retR_nx, retR_rt, retR_xn, vC_0, vC_s, vP_0, vP_s, vS_0, vS_0l, vS_s, frz_sh, frz_l, frzL_nil, frzL_cons, frzL_map, lstE_0, lstE_s, retV_0, retV_s, frzE_0, frzE_s, seqS_eq, setS_eq, tgtS_eq, exprS_eq, retS_eq, retN_eq, ifS_eq, raiseS_eq, appS_eq, augS_eq, forS_eq, setE_eq, nilE_eq, consE_eq, tupE_eq, tryS_eq, nxS_rt, nxS_nx, kX, pX, cX, sX, op1, op2, inX, slX, noI, toI, toO, toC, flt, tst, tru, andT, orT, notT, andX, orX, notX, ifX, nilA, consA, tupX, lstX, callX, methX, meth0X, joinX, itX, it2X, yesT, chX, consR, andR, orR, notR, andV, orV, blR_bl, truR_bl, Rs.bind_ok, Rs.bind_exn, Rs.bind_bad, So.of_ok, So.of_exn, So.of_bad, noX_ok, tup_k, lst_k, intR_i, List.set_cons_zero, List.set_cons_succ, List.length_cons, List.length_nil, Nat.reduceAdd, Nat.reduceEqDiff, Nat.reduceLeDiff, reduceIte, if_true, if_false, Bool.not_true, Bool.not_false, decide_eq_true_eq, Bool.not_eq_true', decide_eq_false_iff_not, decide_true, decide_false, ite_self, Bool.false_eq_true, Bool.true_and, Bool.and_true, Bool.false_and, Bool.and_false, Bool.true_or, Bool.or_true, Bool.false_or, Bool.or_false, Bool.and_eq_true, Bool.or_eq_true, true_and, and_true, false_and, and_false, true_or, or_true, false_or, or_false, not_true_eq_false, not_false_eq_true, and_self, or_self, eq_self, add_i, sub_i, neg_i, min_i, max_i, lt_i, le_i, gt_i, ge_i, int1_i, int1_b, eq_i, ne_i, eq_b, ne_b, eq_s, ne_s, len_s, sl_s, sl_l, ix_t0, ix_t1, ix_t2, ix_t3, ix_t4, ix_l0, ix_l1, len_l, len_t, isStr_tx, ite_bl, ite_blt, ite_b, ite_bt, tru_i, tru_b, lit_0, lit_1, lit_2, lit_3, lit_4, lit_5, lit_6, lit_7, lit_8, p_put n u x y w g1 (by omega) (by omega) (by omega), lap]
        rw [List.map_append, List.map_append]
        rfl
      have fin : ∀ {o : So}, (∃ es' u' o9' o10' o13', o = .nx [some (.sh (.scr ns)), some (.sh (.lst (xs.map .int))), some (.sh (tx t)), some (.sh (ed a b m)), some (.sh (ed c d m')), some (.sh (.bl (clash a b c d))), o6, some (.lst ((es'.map enc).map T.sh)), some (.sh (tx u')), o9', o10', o11, o12, o13'] ∧ es'.length = k + 1 ∧ okRun t es' ∧ runE t es' = u' ∧ u'.length ≤ 10 + 10 * (k + 1)) →
          ∃ ρ', (o = .nx ρ' ∨ o = .ct ρ') ∧ ∃ (es : List Ed) (u : List Nat) (o9 o10 o13 : Option T), es.length = k + 1 ∧ okRun t es ∧ runE t es = u ∧ u.length ≤ 10 + 10 * (k + 1) ∧ ρ' = [some (.sh (.scr ns)), some (.sh (.lst (xs.map .int))), some (.sh (tx t)), some (.sh (ed a b m)), some (.sh (ed c d m')), some (.sh (.bl (clash a b c d))), o6, some (.lst ((es.map enc).map T.sh)), some (.sh (tx u)), o9, o10, o11, o12, o13] := by
        intro o ⟨es', u', o9', o10', o13', z1, z2, z3, z4, z5⟩
        exact ⟨_, .inl z1, es', u', o9', o10', o13', z2, z3, z4, z5, rfl⟩
      apply fin
      rw [seqS_nx (g := setS 10 (toO (toC (callX (d__law_edit n) (consA (cX 1) (consA (op2 addR (kX (.int 30)) (op2 mulR (kX (.int 3)) (cX 9))) (consA (cX 8) nilA))))))) (ρ' := [some (.sh (.scr ns)), some (.sh (.lst (xs.map .int))), some (.sh (tx t)), some (.sh (ed a b m)), some (.sh (ed c d m')), some (.sh (.bl (clash a b c d))), o6, some (.lst ((es.map enc).map T.sh)), some (.sh (tx u)), some (.sh (.int (k : Int))), some (.sh (ed x y w)), o11, o12, o13]) (by simp only [retR_nx, retR_rt, retR_xn, vC_0, vC_s, vP_0, vP_s, vS_0, vS_0l, vS_s, frz_sh, frz_l, frzL_nil, frzL_cons, frzL_map, lstE_0, lstE_s, retV_0, retV_s, frzE_0, frzE_s, seqS_eq, setS_eq, tgtS_eq, exprS_eq, retS_eq, retN_eq, ifS_eq, raiseS_eq, appS_eq, augS_eq, forS_eq, setE_eq, nilE_eq, consE_eq, tupE_eq, tryS_eq, nxS_rt, nxS_nx, kX, pX, cX, sX, op1, op2, inX, slX, noI, toI, toO, toC, flt, tst, tru, andT, orT, notT, andX, orX, notX, ifX, nilA, consA, tupX, lstX, callX, methX, meth0X, joinX, itX, it2X, yesT, chX, consR, andR, orR, notR, andV, orV, blR_bl, truR_bl, Rs.bind_ok, Rs.bind_exn, Rs.bind_bad, So.of_ok, So.of_exn, So.of_bad, noX_ok, tup_k, lst_k, intR_i, List.set_cons_zero, List.set_cons_succ, List.length_cons, List.length_nil, Nat.reduceAdd, Nat.reduceEqDiff, Nat.reduceLeDiff, reduceIte, if_true, if_false, Bool.not_true, Bool.not_false, decide_eq_true_eq, Bool.not_eq_true', decide_eq_false_iff_not, decide_true, decide_false, ite_self, Bool.false_eq_true, Bool.true_and, Bool.and_true, Bool.false_and, Bool.and_false, Bool.true_or, Bool.or_true, Bool.false_or, Bool.or_false, Bool.and_eq_true, Bool.or_eq_true, true_and, and_true, false_and, and_false, true_or, or_true, false_or, or_false, not_true_eq_false, not_false_eq_true, and_self, or_self, eq_self, add_i, sub_i, neg_i, min_i, max_i, lt_i, le_i, gt_i, ge_i, int1_i, int1_b, eq_i, ne_i, eq_b, ne_b, eq_s, ne_s, len_s, sl_s, sl_l, ix_t0, ix_t1, ix_t2, ix_t3, ix_t4, ix_l0, ix_l1, len_l, len_t, isStr_tx, ite_bl, ite_blt, ite_b, ite_bt, tru_i, tru_b, lit_0, lit_1, lit_2, lit_3, lit_4, lit_5, lit_6, lit_7, lit_8, m3, ee])]
      by_cases z : (k : Int) = 2 ∧ v4 % 2 = 0
      · have k2 : k = 2 := by omega
        obtain ⟨x0, x1, hes⟩ : ∃ x0 x1, es = [x0, x1] := by
          match es, b1 with
          | [x0, x1], _ => exact ⟨x0, x1, rfl⟩
          | [], b1 => simp at b1; omega
          | [_], b1 => simp at b1; omega
          | _ :: _ :: _ :: _, b1 => simp at b1; omega
        · have b2' := b2
          have b3' := b3
          rw [hes] at b2' b3'
          obtain ⟨okA, _, okB, lB, _⟩ := b2'
          obtain ⟨g1, g2, g3, g4, g5, g6⟩ := okB
          have pl := put_len (put t x0.1 x0.2.1 x0.2.2) x1.1 x1.2.1 x1.2.2 ⟨g1, g2, g3⟩
          have hu : u = put (put t x0.1 x0.2.1 x0.2.2) x1.1 x1.2.1 x1.2.2 := b3'.symm
          rw [← hu] at pl
          have ie : ixA (.lst (es.map enc)) (.int 1) = .ok (ed x1.1 x1.2.1 x1.2.2) := by rw [hes]; exact ix_l1
          by_cases z2 : (x1.2.2.length : Int) = 0
          · rw [seqS_nx (ρ' := [some (.sh (.scr ns)), some (.sh (.lst (xs.map .int))), some (.sh (tx t)), some (.sh (ed a b m)), some (.sh (ed c d m')), some (.sh (.bl (clash a b c d))), o6, some (.lst ((es.map enc).map T.sh)), some (.sh (tx u)), some (.sh (.int (k : Int))), some (.sh (ed x1.1 (x1.1 + x1.2.2.length) [97])), o11, o12, some (.sh (ed x1.1 x1.2.1 x1.2.2))]) (by
              simp only [retR_nx, retR_rt, retR_xn, vC_0, vC_s, vP_0, vP_s, vS_0, vS_0l, vS_s, frz_sh, frz_l, frzL_nil, frzL_cons, frzL_map, lstE_0, lstE_s, retV_0, retV_s, frzE_0, frzE_s, seqS_eq, setS_eq, tgtS_eq, exprS_eq, retS_eq, retN_eq, ifS_eq, raiseS_eq, appS_eq, augS_eq, forS_eq, setE_eq, nilE_eq, consE_eq, tupE_eq, tryS_eq, nxS_rt, nxS_nx, kX, pX, cX, sX, op1, op2, inX, slX, noI, toI, toO, toC, flt, tst, tru, andT, orT, notT, andX, orX, notX, ifX, nilA, consA, tupX, lstX, callX, methX, meth0X, joinX, itX, it2X, yesT, chX, consR, andR, orR, notR, andV, orV, blR_bl, truR_bl, Rs.bind_ok, Rs.bind_exn, Rs.bind_bad, So.of_ok, So.of_exn, So.of_bad, noX_ok, tup_k, lst_k, intR_i, List.set_cons_zero, List.set_cons_succ, List.length_cons, List.length_nil, Nat.reduceAdd, Nat.reduceEqDiff, Nat.reduceLeDiff, reduceIte, if_true, if_false, Bool.not_true, Bool.not_false, decide_eq_true_eq, Bool.not_eq_true', decide_eq_false_iff_not, decide_true, decide_false, ite_self, Bool.false_eq_true, Bool.true_and, Bool.and_true, Bool.false_and, Bool.and_false, Bool.true_or, Bool.or_true, Bool.false_or, Bool.or_false, Bool.and_eq_true, Bool.or_eq_true, true_and, and_true, false_and, and_false, true_or, or_true, false_or, or_false, not_true_eq_false, not_false_eq_true, and_self, or_self, eq_self, add_i, sub_i, neg_i, min_i, max_i, lt_i, le_i, gt_i, ge_i, int1_i, int1_b, eq_i, ne_i, eq_b, ne_b, eq_s, ne_s, len_s, sl_s, sl_l, ix_t0, ix_t1, ix_t2, ix_t3, ix_t4, ix_l0, ix_l1, len_l, len_t, isStr_tx, ite_bl, ite_blt, ite_b, ite_bt, tru_i, tru_b, lit_0, lit_1, lit_2, lit_3, lit_4, lit_5, lit_6, lit_7, lit_8, e4, mod_i (show (0 : Int) < 2 by decide), eq_true z, eq_true z.1, eq_true z.2, ie, ed0, ed2, eq_true z2, mulS_1]
              rfl)]
            exact key x1.1 (x1.1 + x1.2.2.length) [97] _ _ ⟨g1, by omega, by omega, by decide, by decide, fun h => by cases h.2⟩
          · rw [seqS_nx (ρ' := [some (.sh (.scr ns)), some (.sh (.lst (xs.map .int))), some (.sh (tx t)), some (.sh (ed a b m)), some (.sh (ed c d m')), some (.sh (.bl (clash a b c d))), o6, some (.lst ((es.map enc).map T.sh)), some (.sh (tx u)), some (.sh (.int (k : Int))), some (.sh (ed x1.1 (x1.1 + x1.2.2.length) [])), o11, o12, some (.sh (ed x1.1 x1.2.1 x1.2.2))]) (by
              simp only [retR_nx, retR_rt, retR_xn, vC_0, vC_s, vP_0, vP_s, vS_0, vS_0l, vS_s, frz_sh, frz_l, frzL_nil, frzL_cons, frzL_map, lstE_0, lstE_s, retV_0, retV_s, frzE_0, frzE_s, seqS_eq, setS_eq, tgtS_eq, exprS_eq, retS_eq, retN_eq, ifS_eq, raiseS_eq, appS_eq, augS_eq, forS_eq, setE_eq, nilE_eq, consE_eq, tupE_eq, tryS_eq, nxS_rt, nxS_nx, kX, pX, cX, sX, op1, op2, inX, slX, noI, toI, toO, toC, flt, tst, tru, andT, orT, notT, andX, orX, notX, ifX, nilA, consA, tupX, lstX, callX, methX, meth0X, joinX, itX, it2X, yesT, chX, consR, andR, orR, notR, andV, orV, blR_bl, truR_bl, Rs.bind_ok, Rs.bind_exn, Rs.bind_bad, So.of_ok, So.of_exn, So.of_bad, noX_ok, tup_k, lst_k, intR_i, List.set_cons_zero, List.set_cons_succ, List.length_cons, List.length_nil, Nat.reduceAdd, Nat.reduceEqDiff, Nat.reduceLeDiff, reduceIte, if_true, if_false, Bool.not_true, Bool.not_false, decide_eq_true_eq, Bool.not_eq_true', decide_eq_false_iff_not, decide_true, decide_false, ite_self, Bool.false_eq_true, Bool.true_and, Bool.and_true, Bool.false_and, Bool.and_false, Bool.true_or, Bool.or_true, Bool.false_or, Bool.or_false, Bool.and_eq_true, Bool.or_eq_true, true_and, and_true, false_and, and_false, true_or, or_true, false_or, or_false, not_true_eq_false, not_false_eq_true, and_self, or_self, eq_self, add_i, sub_i, neg_i, min_i, max_i, lt_i, le_i, gt_i, ge_i, int1_i, int1_b, eq_i, ne_i, eq_b, ne_b, eq_s, ne_s, len_s, sl_s, sl_l, ix_t0, ix_t1, ix_t2, ix_t3, ix_t4, ix_l0, ix_l1, len_l, len_t, isStr_tx, ite_bl, ite_blt, ite_b, ite_bt, tru_i, tru_b, lit_0, lit_1, lit_2, lit_3, lit_4, lit_5, lit_6, lit_7, lit_8, e4, mod_i (show (0 : Int) < 2 by decide), eq_true z, eq_true z.1, eq_true z.2, ie, ed0, ed2, eq_false z2, mulS_0]
              rfl)]
            exact key x1.1 (x1.1 + x1.2.2.length) [] _ _ ⟨g1, by omega, by omega, by decide, (fun _ h => by cases h), fun h => by omega⟩
      · rw [seqS_nx (ρ' := [some (.sh (.scr ns)), some (.sh (.lst (xs.map .int))), some (.sh (tx t)), some (.sh (ed a b m)), some (.sh (ed c d m')), some (.sh (.bl (clash a b c d))), o6, some (.lst ((es.map enc).map T.sh)), some (.sh (tx u)), some (.sh (.int (k : Int))), some (.sh (ed x y w)), o11, o12, o13]) (by
          simp only [retR_nx, retR_rt, retR_xn, vC_0, vC_s, vP_0, vP_s, vS_0, vS_0l, vS_s, frz_sh, frz_l, frzL_nil, frzL_cons, frzL_map, lstE_0, lstE_s, retV_0, retV_s, frzE_0, frzE_s, seqS_eq, setS_eq, tgtS_eq, exprS_eq, retS_eq, retN_eq, ifS_eq, raiseS_eq, appS_eq, augS_eq, forS_eq, setE_eq, nilE_eq, consE_eq, tupE_eq, tryS_eq, nxS_rt, nxS_nx, kX, pX, cX, sX, op1, op2, inX, slX, noI, toI, toO, toC, flt, tst, tru, andT, orT, notT, andX, orX, notX, ifX, nilA, consA, tupX, lstX, callX, methX, meth0X, joinX, itX, it2X, yesT, chX, consR, andR, orR, notR, andV, orV, blR_bl, truR_bl, Rs.bind_ok, Rs.bind_exn, Rs.bind_bad, So.of_ok, So.of_exn, So.of_bad, noX_ok, tup_k, lst_k, intR_i, List.set_cons_zero, List.set_cons_succ, List.length_cons, List.length_nil, Nat.reduceAdd, Nat.reduceEqDiff, Nat.reduceLeDiff, reduceIte, if_true, if_false, Bool.not_true, Bool.not_false, decide_eq_true_eq, Bool.not_eq_true', decide_eq_false_iff_not, decide_true, decide_false, ite_self, Bool.false_eq_true, Bool.true_and, Bool.and_true, Bool.false_and, Bool.and_false, Bool.true_or, Bool.or_true, Bool.false_or, Bool.or_false, Bool.and_eq_true, Bool.or_eq_true, true_and, and_true, false_and, and_false, true_or, or_true, false_or, or_false, not_true_eq_false, not_false_eq_true, and_self, or_self, eq_self, add_i, sub_i, neg_i, min_i, max_i, lt_i, le_i, gt_i, ge_i, int1_i, int1_b, eq_i, ne_i, eq_b, ne_b, eq_s, ne_s, len_s, sl_s, sl_l, ix_t0, ix_t1, ix_t2, ix_t3, ix_t4, ix_l0, ix_l1, len_l, len_t, isStr_tx, ite_bl, ite_blt, ite_b, ite_bt, tru_i, tru_b, lit_0, lit_1, lit_2, lit_3, lit_4, lit_5, lit_6, lit_7, lit_8, e4, mod_i (show (0 : Int) < 2 by decide), eq_false z])]
        exact key _ _ _ _ _ okx) _ ⟨[], t, none, none, none, rfl, trivial, rfl, by omega, rfl⟩
  subst r2
  refine rq _ (by simp only [retR_nx, retR_rt, retR_xn, vC_0, vC_s, vP_0, vP_s, vS_0, vS_0l, vS_s, frz_sh, frz_l, frzL_nil, frzL_cons, frzL_map, lstE_0, lstE_s, retV_0, retV_s, frzE_0, frzE_s, seqS_eq, setS_eq, tgtS_eq, exprS_eq, retS_eq, retN_eq, ifS_eq, raiseS_eq, appS_eq, augS_eq, forS_eq, setE_eq, nilE_eq, consE_eq, tupE_eq, tryS_eq, nxS_rt, nxS_nx, kX, pX, cX, sX, op1, op2, inX, slX, noI, toI, toO, toC, flt, tst, tru, andT, orT, notT, andX, orX, notX, ifX, nilA, consA, tupX, lstX, callX, methX, meth0X, joinX, itX, it2X, yesT, chX, consR, andR, orR, notR, andV, orV, blR_bl, truR_bl, Rs.bind_ok, Rs.bind_exn, Rs.bind_bad, So.of_ok, So.of_exn, So.of_bad, noX_ok, tup_k, lst_k, intR_i, List.set_cons_zero, List.set_cons_succ, List.length_cons, List.length_nil, Nat.reduceAdd, Nat.reduceEqDiff, Nat.reduceLeDiff, reduceIte, if_true, if_false, Bool.not_true, Bool.not_false, decide_eq_true_eq, Bool.not_eq_true', decide_eq_false_iff_not, decide_true, decide_false, ite_self, Bool.false_eq_true, Bool.true_and, Bool.and_true, Bool.false_and, Bool.and_false, Bool.true_or, Bool.or_true, Bool.false_or, Bool.or_false, Bool.and_eq_true, Bool.or_eq_true, true_and, and_true, false_and, and_false, true_or, or_true, false_or, or_false, not_true_eq_false, not_false_eq_true, and_self, or_self, eq_self, add_i, sub_i, neg_i, min_i, max_i, lt_i, le_i, gt_i, ge_i, int1_i, int1_b, eq_i, ne_i, eq_b, ne_b, eq_s, ne_s, len_s, sl_s, sl_l, ix_t0, ix_t1, ix_t2, ix_t3, ix_t4, ix_l0, ix_l1, len_l, len_t, isStr_tx, ite_bl, ite_blt, ite_b, ite_bt, tru_i, tru_b, lit_0, lit_1, lit_2, lit_3, lit_4, lit_5, lit_6, lit_7, lit_8, e3, mod_i (show (0 : Int) < 5 by decide), hq, rng1_i (show (q : Int).natAbs ≤ 4611686018427387903 by omega), Int.toNat_natCast]; exact f2) ?_
  have lr : listR (.lst (es.map enc)) = .ok (.lst ((es.map enc).map T.sh)) := rfl
  have j1 := p_joined_edit n hn t u es b2 b3 (by omega) (by omega)
  have j2 := p_law_joined n t u (by omega) (by omega)
  simp only [retR_nx, retR_rt, retR_xn, vC_0, vC_s, vP_0, vP_s, vS_0, vS_0l, vS_s, frz_sh, frz_l, frzL_nil, frzL_cons, frzL_map, lstE_0, lstE_s, retV_0, retV_s, frzE_0, frzE_s, seqS_eq, setS_eq, tgtS_eq, exprS_eq, retS_eq, retN_eq, ifS_eq, raiseS_eq, appS_eq, augS_eq, forS_eq, setE_eq, nilE_eq, consE_eq, tupE_eq, tryS_eq, nxS_rt, nxS_nx, kX, pX, cX, sX, op1, op2, inX, slX, noI, toI, toO, toC, flt, tst, tru, andT, orT, notT, andX, orX, notX, ifX, nilA, consA, tupX, lstX, callX, methX, meth0X, joinX, itX, it2X, yesT, chX, consR, andR, orR, notR, andV, orV, blR_bl, truR_bl, Rs.bind_ok, Rs.bind_exn, Rs.bind_bad, So.of_ok, So.of_exn, So.of_bad, noX_ok, tup_k, lst_k, intR_i, List.set_cons_zero, List.set_cons_succ, List.length_cons, List.length_nil, Nat.reduceAdd, Nat.reduceEqDiff, Nat.reduceLeDiff, reduceIte, if_true, if_false, Bool.not_true, Bool.not_false, decide_eq_true_eq, Bool.not_eq_true', decide_eq_false_iff_not, decide_true, decide_false, ite_self, Bool.false_eq_true, Bool.true_and, Bool.and_true, Bool.false_and, Bool.and_false, Bool.true_or, Bool.or_true, Bool.false_or, Bool.or_false, Bool.and_eq_true, Bool.or_eq_true, true_and, and_true, false_and, and_false, true_or, or_true, false_or, or_false, not_true_eq_false, not_false_eq_true, and_self, or_self, eq_self, add_i, sub_i, neg_i, min_i, max_i, lt_i, le_i, gt_i, ge_i, int1_i, int1_b, eq_i, ne_i, eq_b, ne_b, eq_s, ne_s, len_s, sl_s, sl_l, ix_t0, ix_t1, ix_t2, ix_t3, ix_t4, ix_l0, ix_l1, len_l, len_t, isStr_tx, ite_bl, ite_blt, ite_b, ite_bt, tru_i, tru_b, lit_0, lit_1, lit_2, lit_3, lit_4, lit_5, lit_6, lit_7, lit_8, lr, j1, j2, eqR_refl (cmp_joined t u)]
end Lk35

theorem PySem.Challenge.cw_textoffers_k35_edits_led_past_edits_holds : PySem.Challenge.rw_textoffers_k35_edits_led_past_edits.Holds := by
  exact Lk35.holds_of 2000000 (Lk35.p_law 2000000 (by decide))
