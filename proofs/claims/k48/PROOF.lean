import PyProof.Rows.All
import Wide.All
import OpenK.AllK
import Wide.FinOn
import HandS.ForMost
import HandS.ForExc
import HandS.ExcIs
import HandS.Walk
import HandS.IsInst
import HandS.SortInts
import HandS.Zip
import HandS.WideBits
import HandS.Conv
import HandS.Style
import HandS.TupAny
import KE.KSortedM
import KE.GoesMore
import HandS.EndBits
import HandS.SortKw
import KE.DataFind
import HandS.Deep
import HandS.More
import KE.DataEq
import HandS.TryOnly
import HandS.SetFor
import PyProof.DictCopy
import PyProof.DictUpdate
import PyProof.DictDisplay
import KE.KDictPairs
import HandS.TryMany
import HandS.ExcValue
import PySem.Challenge.RW_leastreasons_k48_fitting
set_option Elab.async false
set_option linter.all false
set_option maxRecDepth 100000
set_option maxHeartbeats 4000000
/-! DL: data values, frozen heaps, slots, denotations -/
namespace DL
open PySem PySem.Spec PyProof.Rows L2

/-- data, without addresses -/
inductive D where
  | non | bl (b : Bool) | int (i : Int) | str (x : Str) | lst (xs : List D) | tup (xs : List D) | scr (ns : List Int) | dct (ks : List Key) (ds : List D) | tpx (xs : List D) | exc (c : Str)

/-- an exception object of the class cls -/
def ExK (cls : Value) (a : Addr) : HO := .ext fun h => ∃ (oe : Obj) (vs : Array Value), h.get? a = some oe ∧ Zc cls none oe ∧ oe.data = .fields vs
/-- what is known of an exception class -/
structure ExX (K : PySem.W.Frag) (c : Str) (C : Addr) : Prop where
  ns : PySem.W.nsIn K mainGlobals c = some (some (.ref C))
  ex : ExcC K C
  no : ∀ T ∈ ["NoneType", "bool", "int", "str", "list", "tuple", "dict"], PySem.W.kitOne K (.ref C) (.type T) = some false
mutual
/-- v reads as d in F -/
inductive R (K : PySem.W.Frag) (F : Hp) : V → D → Prop
  | non : R K F .non .non
  | bl (b : Bool) : R K F (.bl b) (.bl b)
  | int (i : Int) : R K F (.int i) (.int i)
  | str (x : Str) : R K F (.str x) (.str x)
  | lst {a : Addr} {xs : List V} {ds : List D} : F a = some (.lst xs) → Rs K F xs ds → R K F (.ref a) (.lst ds)
  | scr {a : Addr} {ns : List Int} : SqL K F a (ns.map V.int) → R K F (.ref a) (.scr ns)
  | tup {a : Addr} {xs : List V} {ds : List D} : SqT K F a xs → Rs K F xs ds → R K F (.ref a) (.tup ds)
  | dct {a : Addr} {od : Obj} {kvs : List (Key × V)} {ks : List Key} {ds : List D} : F a = some (.frz od (.dK kvs)) → kvs.map (·.1) = ks → Rs K F (kvs.map (·.2)) ds → R K F (.ref a) (.dct ks ds)
  | tpx {a : Addr} {od : Obj} {xs : List V} {ds : List D} : F a = some (.frz od (.tup xs)) → od.dict = none → Rs K F xs ds → R K F (.ref a) (.tpx ds)
  | exc {a C : Addr} {c : Str} : F a = some (ExK (.ref C) a) → ExX K c C → R K F (.ref a) (.exc c)
inductive Rs (K : PySem.W.Frag) (F : Hp) : List V → List D → Prop
  | nil : Rs K F [] []
  | cons {v : V} {vs : List V} {d : D} {ds : List D} : R K F v d → Rs K F vs ds → Rs K F (v :: vs) (d :: ds)
end

theorem same_seqT {K : PySem.W.Frag} {H H' : Hp} {a : Addr} {xs : List V} (e : Same H H') (h : SqT K H a xs) : SqT K H' a xs := by
  rcases h with (h | ⟨o, h⟩) | h
  · exact .inl (.inl (e _ _ h))
  · exact .inl (.inr ⟨o, e _ _ h⟩)
  · exact .inr h
mutual
theorem R.mono {K : PySem.W.Frag} {F F' : Hp} (e : Same F F') : ∀ (d : D) (v : V), R K F v d → R K F' v d
  | .non, _, h => by cases h; exact .non
  | .bl _, _, h => by cases h; exact .bl _
  | .int _, _, h => by cases h; exact .int _
  | .str _, _, h => by cases h; exact .str _
  | .lst ds, _, h => by cases h with | lst hs ha => exact .lst (e _ _ hs) (Rs.mono e ds _ ha)
  | .scr ns, _, h => by cases h with | scr hs => exact .scr (e.seq hs)
  | .tup ds, _, h => by cases h with | tup hs ha => exact .tup (same_seqT e hs) (Rs.mono e ds _ ha)
  | .dct ks ds, _, h => by cases h with | dct hs hk ha => exact .dct (e _ _ hs) hk (Rs.mono e ds _ ha)
  | .tpx ds, _, h => by cases h with | tpx hs hk ha => exact .tpx (e _ _ hs) hk (Rs.mono e ds _ ha)
  | .exc _, _, h => by cases h with | exc hs hx => exact .exc (e _ _ hs) hx
theorem Rs.mono {K : PySem.W.Frag} {F F' : Hp} (e : Same F F') : ∀ (ds : List D) (vs : List V), Rs K F vs ds → Rs K F' vs ds
  | [], _, h => by cases h; exact .nil
  | d :: ds, _, h => by cases h with | cons h1 h2 => exact .cons (R.mono e d _ h1) (Rs.mono e ds _ h2)
end
theorem R.up {K : PySem.W.Frag} {F F' : Hp} {d : D} {v : V} (h : R K F v d) (e : Same F F') : R K F' v d := R.mono e d v h
theorem Rs.up {K : PySem.W.Frag} {F F' : Hp} {d : List D} {v : List V} (h : Rs K F v d) (e : Same F F') : Rs K F' v d := Rs.mono e d v h

section
variable {K : PySem.W.Frag} {F : Hp}
theorem Rs.length : ∀ {vs : List V} {ds : List D}, Rs K F vs ds → vs.length = ds.length
  | _, _, .nil => rfl
  | _, _, .cons _ t => by rw [List.length_cons, List.length_cons, Rs.length t]
theorem Rs.get : ∀ {vs : List V} {ds : List D} {i : Nat} {d : D}, Rs K F vs ds → ds[i]? = some d → ∃ v, vs[i]? = some v ∧ R K F v d
  | _, _, _, _, .nil, e => by simp at e
  | _, _, 0, _, .cons r _, e => by simp at e; subst e; exact ⟨_, rfl, r⟩
  | _, _, i + 1, d, .cons _ t, e => by
    obtain ⟨v, h1, h2⟩ := Rs.get (i := i) (d := d) t (by simpa using e)
    exact ⟨v, by simpa using h1, h2⟩
theorem Rs.get' : ∀ {vs : List V} {ds : List D} {i : Nat} {v : V}, Rs K F vs ds → vs[i]? = some v → ∃ d, ds[i]? = some d ∧ R K F v d
  | _, _, _, _, .nil, e => by simp at e
  | _, _, 0, _, .cons r _, e => by simp at e; subst e; exact ⟨_, rfl, r⟩
  | _, _, i + 1, d, .cons _ t, e => by
    obtain ⟨v, h1, h2⟩ := Rs.get' (i := i) (v := d) t (by simpa using e)
    exact ⟨v, by simpa using h1, h2⟩
theorem Rs.append : ∀ {vs ws : List V} {ds es : List D}, Rs K F vs ds → Rs K F ws es → Rs K F (vs ++ ws) (ds ++ es)
  | _, _, _, _, .nil, s => s
  | _, _, _, _, .cons r t, s => .cons r (Rs.append t s)
theorem Rs.take : ∀ {vs : List V} {ds : List D} (n : Nat), Rs K F vs ds → Rs K F (vs.take n) (ds.take n)
  | _, _, 0, _ => .nil
  | _, _, _ + 1, .nil => .nil
  | _, _, n + 1, .cons r t => .cons r (Rs.take n t)
theorem Rs.drop : ∀ {vs : List V} {ds : List D} (n : Nat), Rs K F vs ds → Rs K F (vs.drop n) (ds.drop n)
  | _, _, 0, r => r
  | _, _, _ + 1, .nil => .nil
  | _, _, n + 1, .cons _ t => Rs.drop n t
theorem Rs.set {v : V} {d : D} (r : R K F v d) : ∀ {vs : List V} {ds : List D} (i : Nat), Rs K F vs ds → Rs K F (vs.set i v) (ds.set i d)
  | _, _, _, .nil => .nil
  | _, _, 0, .cons _ t => .cons r t
  | _, _, i + 1, .cons q t => .cons q (Rs.set r i t)
theorem Rs.ints : ∀ {vs : List V} {ns : List Int}, Rs K F vs (ns.map D.int) → vs = ns.map V.int
  | _, [], h => by cases h; rfl
  | _, n :: ns, h => by
    cases h with
    | cons h1 h2 => cases h1; rw [Rs.ints h2]; rfl
theorem Rs.bls : ∀ {vs : List V} {ns : List Bool}, Rs K F vs (ns.map D.bl) → vs = ns.map V.bl
  | _, [], h => by cases h; rfl
  | _, n :: ns, h => by
    cases h with
    | cons h1 h2 => cases h1; rw [Rs.bls h2]; rfl
theorem Rs.of_ints : ∀ ns : List Int, Rs K F (ns.map V.int) (ns.map D.int)
  | [] => .nil
  | n :: ns => .cons (.int n) (Rs.of_ints ns)
end

/-- scalars -/
def D.flat : D → Bool
  | .non | .bl _ | .int _ | .str _ => true
  | _ => false
def D.v : D → V
  | .bl b => .bl b
  | .int i => .int i
  | .str x => .str x
  | _ => .non
theorem R.flat_v {K : PySem.W.Frag} {F : Hp} {v : V} {d : D} (h : R K F v d) (f : d.flat = true) : v = d.v := by
  cases h <;> first | rfl | cases f
theorem R.of_flat {K : PySem.W.Frag} {F : Hp} {d : D} (f : d.flat = true) : R K F d.v d := by
  cases d <;> first | exact .non | exact .bl _ | exact .int _ | exact .str _ | cases f
theorem R.flat_any {K : PySem.W.Frag} {F G : Hp} {v : V} {d : D} (h : R K F v d) (f : d.flat = true) : R K G v d := by
  rw [h.flat_v f]; exact .of_flat f

/-! ### slots -/
inductive Slot where
  | un | sh (d : D) | own (xs : List D) | par (xs : List D) | po (xs : List D) | pk (d : D) | od (kxs : List (Key × D))
abbrev Own := Addr → Option Nat
/-- what a slot of the frame holds -/
def SlotOk (K : PySem.W.Frag) (F H : Hp) (O : Own) (i : Nat) : Slot → Option V → Prop
  | .un, _ => True
  | .sh d, o => ∃ v, o = some v ∧ R K F v d
  | .own xs, o => ∃ a vs, o = some (.ref a) ∧ H a = some (.lst vs) ∧ O a = some i ∧ Rs K F vs xs
  | .par xs, o => ∃ a vs, o = some (.ref a) ∧ H a = some (.lst vs) ∧ O a = some i ∧ Rs K F vs xs
  | .od kxs, o => ∃ a kvs, o = some (.ref a) ∧ H a = some (.dK kvs) ∧ O a = some i ∧ kvs.map (·.1) = kxs.map (·.1) ∧ Rs K F (kvs.map (·.2)) (kxs.map (·.2))
  | .po _, _ => False
  | .pk _, _ => False
/-- what a value is known to be: shared, fresh, a slot's own list, or whatever reads so now -/
def VOk (K : PySem.W.Frag) (F H : Hp) (O : Own) (n : Nat) : Slot → V → Prop
  | .sh d, v => R K F v d
  | .own xs, v => ∃ a vs, v = .ref a ∧ H a = some (.lst vs) ∧ O a = some n ∧ Rs K F vs xs
  | .po xs, v => ∃ a vs, v = .ref a ∧ H a = some (.lst vs) ∧ Rs K F vs xs
  | .pk d, v => R K H v d
  | .od kxs, v => ∃ a kvs, v = .ref a ∧ H a = some (.dK kvs) ∧ O a = some n ∧ kvs.map (·.1) = kxs.map (·.1) ∧ Rs K F (kvs.map (·.2)) (kxs.map (·.2))
  | _, _ => False
structure RS (K : PySem.W.Frag) (F : Hp) (σ : L2.St) (ρ : List Slot) (H : Hp) (O : Own) : Prop where
  len : ρ.length = σ.length
  fh : Same F H
  ok : ∀ i s, ρ[i]? = some s → SlotOk K F H O i s (σ[i]?.join)
  out : ∀ b i, O b = some i → F b = none ∧ ∃ o, H b = some o
structure Step (F H : Hp) (O : Own) (F' H' : Hp) (O' : Own) : Prop where
  keep : ∀ b o, H b = some o → O b = none → H' b = some o
  there : ∀ b o, H b = some o → ∃ o', H' b = some o'
  fr : Same F F'
  low : ∀ b o, F' b = some o → F b = some o ∨ (∃ i, O b = some i) ∨ H b = none
  fp : ∀ b i, O' b = some i → (∃ j, O b = some j) ∨ H b = none
theorem Step.refl {F H : Hp} {O : Own} : Step F H O F H O := ⟨fun _ _ h _ => h, fun _ o h => ⟨o, h⟩, Same.refl F, fun _ _ h => .inl h, fun _ i h => .inl ⟨i, h⟩⟩
theorem none_back {F H H1 : Hp} (t : ∀ b o, H b = some o → ∃ o', H1 b = some o') {b : Addr} (h : H1 b = none) : H b = none := by
  cases q : H b with
  | none => rfl
  | some o =>
    obtain ⟨o', e⟩ := t b o q
    rw [h] at e; cases e
theorem Step.back {F H : Hp} {O : Own} {F1 H1 : Hp} {O1 : Own} (s : Step F H O F1 H1 O1) {b : Addr} (h : H1 b = none) : H b = none := none_back (F := F) s.there h
theorem Step.own_none {F H : Hp} {O : Own} {F1 H1 : Hp} {O1 : Own} (s : Step F H O F1 H1 O1) {b : Addr} {o : HO} (h : H b = some o) (n : O b = none) : O1 b = none := by
  cases q : O1 b with
  | none => rfl
  | some i =>
    rcases s.fp b i q with ⟨j, e⟩ | e
    · rw [n] at e; cases e
    · rw [h] at e; cases e
theorem Step.trans {F H F1 H1 F2 H2 : Hp} {O O1 O2 : Own} (a : Step F H O F1 H1 O1) (b : Step F1 H1 O1 F2 H2 O2) : Step F H O F2 H2 O2 where
  keep := fun c o h n => b.keep c o (a.keep c o h n) (a.own_none h n)
  there := fun c o h => by
    obtain ⟨o1, e1⟩ := a.there c o h
    exact b.there c o1 e1
  fr := a.fr.trans b.fr
  low := fun c o h => by
    rcases b.low c o h with h | ⟨i, h⟩ | h
    · exact a.low c o h
    · rcases a.fp c i h with h | h
      · exact .inr (.inl h)
      · exact .inr (.inr h)
    · exact .inr (.inr (a.back h))
  fp := fun c i h => by
    rcases b.fp c i h with ⟨j, h⟩ | h
    · exact a.fp c j h
    · exact .inr (a.back h)

section
variable {K : PySem.W.Frag} {F F' H H' : Hp} {O O' : Own} {σ : L2.St} {ρ : List Slot} {v : V} {s : Slot} {d : D} {n : Nat}
@[simp] def Slot.val : Slot → Option D
  | .sh d => some d
  | .own xs => some (.lst xs)
  | .po xs => some (.lst xs)
  | .pk d => some d
  | _ => none
theorem VOk.read (h : VOk K F H O n s v) (fh : Same F H) (e : s.val = some d) : R K H v d := by
  cases s with
  | un => cases e
  | par _ => cases e
  | sh d' => cases e; exact R.up h fh
  | own xs =>
    cases e
    obtain ⟨a, vs, rfl, q, _, r⟩ := h
    exact .lst q (r.up fh)
  | po xs =>
    cases e
    obtain ⟨a, vs, rfl, q, r⟩ := h
    exact .lst q (r.up fh)
  | pk d' => cases e; exact h
  | od _ => cases e
/-- what is stored stays, where nothing of the slot is changed -/
theorem SlotOk.ext {i : Nat} {o : Option V} (h : SlotOk K F H O i s o) (e : Same F F') (k : ∀ a u, O a = some i → H a = some u → H' a = some u ∧ O' a = some i) : SlotOk K F' H' O' i s o := by
  cases s with
  | un => trivial
  | sh d' => obtain ⟨v, rfl, r⟩ := h; exact ⟨v, rfl, r.up e⟩
  | own xs => obtain ⟨a, vs, rfl, q, p, r⟩ := h; exact ⟨a, vs, rfl, (k a _ p q).1, (k a _ p q).2, r.up e⟩
  | par xs => obtain ⟨a, vs, rfl, q, p, r⟩ := h; exact ⟨a, vs, rfl, (k a _ p q).1, (k a _ p q).2, r.up e⟩
  | po _ => exact h.elim
  | pk _ => exact h.elim
  | od kxs => obtain ⟨a, kvs, rfl, q, p, m, r⟩ := h; exact ⟨a, kvs, rfl, (k a _ p q).1, (k a _ p q).2, m, r.up e⟩
theorem RS.ext (r : RS K F σ ρ H O) (e : Same F F') (fh : Same F' H') (k : ∀ a i u, O a = some i → i < ρ.length → H a = some u → H' a = some u ∧ O' a = some i) (out : ∀ b i, O' b = some i → F' b = none ∧ ∃ o, H' b = some o) : RS K F' σ ρ H' O' :=
  ⟨r.len, fh, fun i s hs => (r.ok i s hs).ext e fun a u p q => k a i u p (List.getElem?_eq_some_iff.mp hs).1 q, out⟩
/-- a fresh list is shared from now on; what can be shared -/
@[simp] def Slot.fz : Slot → Option D
  | .sh d => some d
  | .own xs => some (.lst xs)
  | .pk d => if d.flat then some d else none
  | _ => none
theorem RS.freeze (r : RS K F σ ρ H O) (h : VOk K F H O ρ.length s v) (e : s.fz = some d) : ∃ F' O', RS K F' σ ρ H O' ∧ R K F' v d ∧ Step F H O F' H O' := by
  cases s with
  | un => cases e
  | par _ => cases e
  | po _ => cases e
  | od _ => cases e
  | sh d' => cases e; exact ⟨F, O, r, h, .refl⟩
  | pk d' =>
    unfold Slot.fz at e
    by_cases f : d'.flat = true
    · simp only [f, if_true, Option.some.injEq] at e
      subst e
      exact ⟨F, O, r, R.flat_any h f, .refl⟩
    · simp [f] at e
  | own xs =>
    cases e
    obtain ⟨a, vs, rfl, q, p, rr⟩ := h
    obtain ⟨fa, _⟩ := r.out a _ p
    have sm : Same F (upd F a (.lst vs)) := fun b o e => by rw [upd_ne (ne_of_none e fa)]; exact e
    have st : Step F H O (upd F a (.lst vs)) H (fun b => if b = a then none else O b) := by
      refine ⟨fun _ _ h _ => h, fun _ o h => ⟨o, h⟩, sm, fun b o e => ?_, fun b i e => ?_⟩
      · by_cases hb : b = a
        · subst hb; exact .inr (.inl ⟨_, p⟩)
        · rw [upd_ne hb] at e; exact .inl e
      · by_cases hb : b = a
        · simp [hb] at e
        · simp [hb] at e; exact .inl ⟨i, e⟩
    refine ⟨_, _, r.ext sm (fun b o e => ?_) (fun c i u hc hi hu => ⟨hu, ?_⟩) (fun b i e => ?_), .lst upd_same (rr.up sm), st⟩
    · by_cases hb : b = a
      · subst hb; rw [upd_same] at e; rw [q]; exact e
      · rw [upd_ne hb] at e; exact r.fh b o e
    · by_cases hb : c = a
      · subst hb; rw [p] at hc; cases hc; exact absurd hi (Nat.lt_irrefl _)
      · simp [hb, hc]
    · by_cases hb : b = a
      · simp [hb] at e
      · simp [hb] at e
        rw [upd_ne hb]; exact r.out b i e
/-- held while another expression runs: it is shared, or that one changes nothing -/
@[simp] def Slot.hold (pb : Bool) : Slot → Option D
  | .sh d => some d
  | .own xs => some (.lst xs)
  | .po xs => if pb then some (.lst xs) else none
  | .pk d => if pb || d.flat then some d else none
  | _ => none
theorem RS.hold {pb : Bool} (r : RS K F σ ρ H O) (h : VOk K F H O ρ.length s v) (e : s.hold pb = some d) : ∃ F' O', RS K F' σ ρ H O' ∧ Step F H O F' H O' ∧ (R K F' v d ∨ (pb = true ∧ R K H v d)) := by
  cases s with
  | un => cases e
  | par _ => cases e
  | od _ => cases e
  | sh d' => obtain ⟨F', O', a, b, c⟩ := r.freeze (d := d) h e; exact ⟨F', O', a, c, .inl b⟩
  | own xs => obtain ⟨F', O', a, b, c⟩ := r.freeze (d := d) h e; exact ⟨F', O', a, c, .inl b⟩
  | po xs =>
    unfold Slot.hold at e
    cases pb with
    | false => simp at e
    | true => simp only [if_true] at e; exact ⟨F, O, r, .refl, .inr ⟨rfl, h.read r.fh e⟩⟩
  | pk d' =>
    unfold Slot.hold at e
    cases pb with
    | true => simp only [Bool.true_or, if_true, Option.some.injEq] at e; subst e; exact ⟨F, O, r, .refl, .inr ⟨rfl, h⟩⟩
    | false =>
      simp only [Bool.false_or] at e
      by_cases f : d'.flat = true
      · simp only [f, if_true, Option.some.injEq] at e; subst e; exact ⟨F, O, r, .refl, .inl (R.flat_any h f)⟩
      · simp [f] at e
end

/-! ### results -/
inductive Res (α : Type) where
  | ok (a : α) | ex (c : Str) (ρ : List Slot) | stuck
@[simp] def Res.bind {α β : Type} : Res α → (α → Res β) → Res β
  | .ok a, k => k a
  | .ex c ρ, _ => .ex c ρ
  | .stuck, _ => .stuck
@[simp] def Res.lift {α : Type} : Option α → Res α
  | some a => .ok a
  | none => .stuck
def Res.wp {α : Type} (P : α → Prop) (E : Str → List Slot → Prop) : Res α → Prop
  | .ok a => P a
  | .ex c ρ => E c ρ
  | .stuck => False
theorem Res.wp_bind {α β : Type} {P : β → Prop} {E : Str → List Slot → Prop} {r : Res α} {k : α → Res β} : (r.bind k).wp P E ↔ r.wp (fun a => (k a).wp P E) E := by
  cases r <;> exact Iff.rfl
theorem Res.wp_lift {α : Type} {P : α → Prop} {E : Str → List Slot → Prop} {o : Option α} : (Res.lift o).wp P E ↔ ∃ a, o = some a ∧ P a := by
  cases o with
  | none => exact ⟨fun h => h.elim, fun ⟨_, h, _⟩ => nomatch h⟩
  | some a => exact ⟨fun h => ⟨a, rfl, h⟩, fun ⟨_, h, p⟩ => by cases h; exact p⟩
theorem Res.wp_mono {α : Type} {P P' : α → Prop} {E E' : Str → List Slot → Prop} {r : Res α} (h : r.wp P E) (p : ∀ a, P a → P' a) (e : ∀ c ρ, E c ρ → E' c ρ) : r.wp P' E' := by
  cases r with
  | ok a => exact p a h
  | ex c ρ => exact e c ρ h
  | stuck => exact h
abbrev DEn := List Slot → Res (Slot × List Slot)
abbrev DTn := List Slot → Res (Bool × List Slot)
abbrev DAn := List Slot → Res (List Slot × List Slot)
/-- an exception's class by its name -/
def exv (mg : Str → Option Value) (c : Str) : Value := (mg c).getD .none
section
variable (K : PySem.W.Frag) (mg : Str → Option Value) (W : WX)
/-- an exception that leaves -/
def PX (F : Hp) (O : Own) (σ : L2.St) (H : Hp) : Str → List Slot → Prop := fun c ρ' => ∀ F' O' H', RS K F' σ ρ' H' O' → Step F H O F' H' O' → W (exv mg c) none σ H'
def PV (pu : Bool) (F : Hp) (O : Own) (σ : L2.St) (H : Hp) (Q : VK) : Slot × List Slot → Prop := fun p =>
  ∀ F' O' v H', RS K F' σ p.2 H' O' → VOk K F' H' O' p.2.length p.1 v → Step F H O F' H' O' → (pu = true → Same H H') → Q v H'
def PB (pu : Bool) (F : Hp) (O : Own) (σ : L2.St) (H : Hp) (Q : Bool → Hp → Prop) : Bool × List Slot → Prop := fun p =>
  ∀ F' O' H', RS K F' σ p.2 H' O' → Step F H O F' H' O' → (pu = true → Same H H') → Q p.1 H'
def dE (pu : Bool) (f : DEn) : TE := fun σ H Q => ∃ F O ρ, RS K F σ ρ H O ∧ (f ρ).wp (PV K pu F O σ H Q) (PX K mg W F O σ H)
def dT (pu : Bool) (f : DTn) : TT := fun σ H Q => ∃ F O ρ, RS K F σ ρ H O ∧ (f ρ).wp (PB K pu F O σ H Q) (PX K mg W F O σ H)
end
theorem PX.step {K : PySem.W.Frag} {mg : Str → Option Value} {W : WX} {F F1 H H1 : Hp} {O O1 : Own} {σ : L2.St} (st : Step F H O F1 H1 O1) : ∀ c ρ, PX K mg W F O σ H c ρ → PX K mg W F1 O1 σ H1 c ρ :=
  fun _ _ h F' O' H' r s => h F' O' H' r (st.trans s)
structure DE (X : Cx) (W : WX) (pu : Bool) (e : Expr) (f : DEn) : Prop where
  pe : PE X e (dE X.K X.mg W pu f)
structure DT (X : Cx) (W : WX) (pu : Bool) (e : Expr) (f : DTn) : Prop where
  pt : PT X e (dT X.K X.mg W pu f)
theorem PE_imp {X : Cx} {e : Expr} {t t' : TE} (h : PE X e t) (g : ∀ σ H Q, t' σ H Q → t σ H Q) : PE X e t' := ⟨fun pins s σ H Q I q => h.run pins s σ H Q I (g σ H Q q)⟩
theorem PT_imp {X : Cx} {e : Expr} {t t' : TT} (h : PT X e t) (g : ∀ σ H Q, t' σ H Q → t σ H Q) : PT X e t' := ⟨fun pins s σ H Q I q => h.run pins s σ H Q I (g σ H Q q)⟩
theorem PW_imp {X : Cx} {e : Expr} {t t' : TT} (h : PW X e t) (g : ∀ σ H Q, t' σ H Q → t σ H Q) : PW X e t' := ⟨fun wh pins s σ H Q I q => h.run wh pins s σ H Q I (g σ H Q q)⟩
theorem PS_imp {X : Cx} {e : Stmt} {t t' : TS} (h : PS X e t) (g : ∀ D σ H, t' D σ H → t D σ H) : PS X e t' := ⟨fun pins s σ H Q I q => h.run pins s σ H Q I (g Q σ H q)⟩
theorem PSs_imp {X : Cx} {e : List Stmt} {t t' : TS} (h : PSs X e t) (g : ∀ D σ H, t' D σ H → t D σ H) : PSs X e t' := ⟨fun pins s σ H Q I q => h.run pins s σ H Q I (g Q σ H q)⟩
end DL
namespace DL
open PySem PySem.Spec PyProof.Rows L2

/-! ### names, constants -/
section
variable {X : Cx} {W : WX}
@[simp] def dName (i : Nat) (ρ : List Slot) : Res (Slot × List Slot) := match ρ[i]? with
  | some (.sh d) => .ok (.sh d, ρ)
  | some (.own xs) => .ok (.po xs, ρ)
  | some (.par xs) => .ok (.po xs, ρ)
  | _ => .stuck
/-- the name's list is shared from now on -/
@[simp] def dNameF (i : Nat) (ρ : List Slot) : Res (Slot × List Slot) := match ρ[i]? with
  | some (.sh d) => .ok (.sh d, ρ)
  | some (.own xs) => .ok (.sh (.lst xs), ρ.set i (.sh (.lst xs)))
  | _ => .stuck
/-- the name's list is given away -/
@[simp] def dNameM (i : Nat) (ρ : List Slot) : Res (Slot × List Slot) := match ρ[i]? with
  | some (.sh d) => .ok (.sh d, ρ)
  | some (.own xs) => .ok (.own xs, ρ.set i .un)
  | _ => .stuck
theorem slot_some {K : PySem.W.Frag} {F H : Hp} {O : Own} {σ : L2.St} {ρ : List Slot} (r : RS K F σ ρ H O) {i : Nat} {s : Slot} (h : ρ[i]? = some s) : SlotOk K F H O i s (σ[i]?.join) := r.ok i s h
theorem join_some {σ : L2.St} {i : Nat} {v : V} (h : σ[i]?.join = some v) : σ[i]? = some (some v) := by
  cases q : σ[i]? with
  | none => rw [q] at h; cases h
  | some o => rw [q] at h; simp at h; rw [h]
theorem de_name {x : Str} {pos : Pos} (i : Nat) (hN : X.N[i]? = some x := by rfl) (hv : Vis X.env.scope x := by first | exact Or.inl rfl | exact Or.inr (Or.inl rfl) | exact Or.inr (Or.inr rfl)) (hd : (x == ("__debug__" : Str)) = false := by decide)
    (hcd : (x == ("__classdict__" : Str)) = false := by decide) : DE X W true (.Name x pos) (dName i) := by
  refine ⟨PE_imp (pe_var hN hv hd hcd) fun σ H Q ⟨F, O, ρ, rs, h⟩ => ?_⟩
  unfold dName at h
  split at h
  · rename_i d e
    obtain ⟨v, hv, r⟩ := slot_some rs e
    exact ⟨v, join_some hv, h F O v H rs r .refl fun _ => Same.refl H⟩
  · rename_i xs e
    obtain ⟨a, vs, hv, q, p, r⟩ := slot_some rs e
    exact ⟨_, join_some hv, h F O _ H rs ⟨a, vs, rfl, q, r⟩ .refl fun _ => Same.refl H⟩
  · rename_i xs e
    obtain ⟨a, vs, hv, q, p, r⟩ := slot_some rs e
    exact ⟨_, join_some hv, h F O _ H rs ⟨a, vs, rfl, q, r⟩ .refl fun _ => Same.refl H⟩
  · exact h.elim
/-- an own list of slot i is shared from now on -/
theorem RS.share {K : PySem.W.Frag} {F H : Hp} {O : Own} {σ : L2.St} {ρ : List Slot} (r : RS K F σ ρ H O) {i : Nat} {xs : List D} (h : ρ[i]? = some (.own xs)) :
    ∃ F' O' v, RS K F' σ (ρ.set i (.sh (.lst xs))) H O' ∧ σ[i]?.join = some v ∧ R K F' v (.lst xs) ∧ Step F H O F' H O' := by
  obtain ⟨a, vs, hv, q, p, rr⟩ := slot_some r h
  obtain ⟨fa, _⟩ := r.out a _ p
  have sm : Same F (upd F a (.lst vs)) := fun b o e => by rw [upd_ne (ne_of_none e fa)]; exact e
  have ra : R K (upd F a (.lst vs)) (.ref a) (.lst xs) := .lst upd_same (rr.up sm)
  refine ⟨upd F a (.lst vs), fun b => if b = a then none else O b, .ref a, ⟨by rw [List.length_set]; exact r.len, fun b o e => ?_, fun j s hs => ?_, fun b j e => ?_⟩, hv, ra, ?_⟩
  · by_cases hb : b = a
    · subst hb; rw [upd_same] at e; rw [q]; exact e
    · rw [upd_ne hb] at e; exact r.fh b o e
  · by_cases hj : i = j
    · subst hj
      have hl : i < ρ.length := (List.getElem?_eq_some_iff.mp h).1
      rw [List.getElem?_set_self hl] at hs
      cases hs
      exact ⟨_, hv, ra⟩
    · rw [List.getElem?_set_ne hj] at hs
      refine (r.ok j s hs).ext sm fun c u pc hu => ⟨hu, ?_⟩
      by_cases hc : c = a
      · subst hc; rw [p] at pc; exact absurd (Option.some.inj pc) hj
      · simp [hc, pc]
  · by_cases hb : b = a
    · simp [hb] at e
    · simp [hb] at e
      rw [upd_ne hb]; exact r.out b j e
  · refine ⟨fun _ _ h _ => h, fun _ o h => ⟨o, h⟩, sm, fun b o e => ?_, fun b j e => ?_⟩
    · by_cases hb : b = a
      · subst hb; exact .inr (.inl ⟨_, p⟩)
      · rw [upd_ne hb] at e; exact .inl e
    · by_cases hb : b = a
      · simp [hb] at e
      · simp [hb] at e; exact .inl ⟨j, e⟩
theorem de_nameF {x : Str} {pos : Pos} (i : Nat) (hN : X.N[i]? = some x := by rfl) (hv : Vis X.env.scope x := by first | exact Or.inl rfl | exact Or.inr (Or.inl rfl) | exact Or.inr (Or.inr rfl)) (hd : (x == ("__debug__" : Str)) = false := by decide)
    (hcd : (x == ("__classdict__" : Str)) = false := by decide) : DE X W true (.Name x pos) (dNameF i) := by
  refine ⟨PE_imp (pe_var hN hv hd hcd) fun σ H Q ⟨F, O, ρ, rs, h⟩ => ?_⟩
  unfold dNameF at h
  split at h
  · rename_i d e
    obtain ⟨v, hv, r⟩ := slot_some rs e
    exact ⟨v, join_some hv, h F O v H rs r .refl fun _ => Same.refl H⟩
  · rename_i xs e
    obtain ⟨F', O', v, rs', hv, r, st⟩ := rs.share e
    exact ⟨v, join_some hv, h F' O' v H rs' r st fun _ => Same.refl H⟩
  · exact h.elim
theorem RS.give {K : PySem.W.Frag} {F H : Hp} {O : Own} {σ : L2.St} {ρ : List Slot} (r : RS K F σ ρ H O) {i : Nat} {xs : List D} (h : ρ[i]? = some (.own xs)) :
    ∃ O' v, RS K F σ (ρ.set i .un) H O' ∧ σ[i]?.join = some v ∧ VOk K F H O' (ρ.set i .un).length (.own xs) v ∧ Step F H O F H O' := by
  obtain ⟨a, vs, hv, q, p, rr⟩ := slot_some r h
  refine ⟨fun b => if b = a then some ρ.length else O b, .ref a, ⟨by rw [List.length_set]; exact r.len, r.fh, fun j s hs => ?_, fun b j e => ?_⟩, hv, ⟨a, vs, rfl, q, by simp, rr⟩, ?_⟩
  · by_cases hj : i = j
    · subst hj
      have hl : i < ρ.length := (List.getElem?_eq_some_iff.mp h).1
      rw [List.getElem?_set_self hl] at hs
      cases hs
      trivial
    · rw [List.getElem?_set_ne hj] at hs
      refine (r.ok j s hs).ext (Same.refl F) fun c u pc hu => ⟨hu, ?_⟩
      by_cases hc : c = a
      · subst hc; rw [p] at pc; exact absurd (Option.some.inj pc) hj
      · simp [hc, pc]
  · by_cases hb : b = a
    · subst hb; exact r.out b i p
    · simp [hb] at e
      exact r.out b j e
  · refine ⟨fun _ _ h _ => h, fun _ o h => ⟨o, h⟩, Same.refl F, fun b o e => .inl e, fun b j e => ?_⟩
    by_cases hb : b = a
    · subst hb; exact .inl ⟨i, p⟩
    · simp [hb] at e; exact .inl ⟨j, e⟩
theorem de_nameM {x : Str} {pos : Pos} (i : Nat) (hN : X.N[i]? = some x := by rfl) (hv : Vis X.env.scope x := by first | exact Or.inl rfl | exact Or.inr (Or.inl rfl) | exact Or.inr (Or.inr rfl)) (hd : (x == ("__debug__" : Str)) = false := by decide)
    (hcd : (x == ("__classdict__" : Str)) = false := by decide) : DE X W true (.Name x pos) (dNameM i) := by
  refine ⟨PE_imp (pe_var hN hv hd hcd) fun σ H Q ⟨F, O, ρ, rs, h⟩ => ?_⟩
  unfold dNameM at h
  split at h
  · rename_i d e
    obtain ⟨v, hv, r⟩ := slot_some rs e
    exact ⟨v, join_some hv, h F O v H rs r .refl fun _ => Same.refl H⟩
  · rename_i xs e
    obtain ⟨O', v, rs', hv, r, st⟩ := rs.give e
    exact ⟨v, join_some hv, h F O' v H rs' r st fun _ => Same.refl H⟩
  · exact h.elim
@[simp] def dC (d : D) (ρ : List Slot) : Res (Slot × List Slot) := .ok (.sh d, ρ)
theorem de_const {e : Expr} {d : D} (h : PE X e (tC d.v)) (f : d.flat = true) : DE X W true e (dC d) :=
  ⟨PE_imp h fun σ H Q ⟨F, O, ρ, rs, h⟩ => h F O _ H rs (R.of_flat f) .refl fun _ => Same.refl H⟩
theorem de_int {i j pos} : DE X W true (.Constant (.int i) j pos) (dC (.int i)) := de_const pe_int rfl
theorem de_bl {i j pos} : DE X W true (.Constant (.bool i) j pos) (dC (.bl i)) := de_const pe_bl rfl
theorem de_non {j pos} : DE X W true (.Constant .none j pos) (dC .non) := de_const pe_non rfl
theorem de_str {i j pos} : DE X W true (.Constant (.str i) j pos) (dC (.str i)) := de_const pe_str rfl
theorem de_glob {x : Str} {d : D} {u : Value} {pos : Pos} (hm : X.mg x = some u) (r : RelV d.v u) (f : d.flat = true) (hg : Gl X x := by rfl) (hd : (x == ("__debug__" : Str)) = false := by decide) : DE X W true (.Name x pos) (dC d) := de_const (pe_glob hg hm r hd) f

theorem de_gint {mg : Str → Option Value} {x : Str} {i : Int} {pos : Pos} (h : ∃ t, mg x = some (.int i t)) (hX : X.mg = mg := by rfl) (hg : Gl X x := by rfl) (hd : (x == ("__debug__" : Str)) = false := by decide) : DE X W true (.Name x pos) (dC (.int i)) := by
  obtain ⟨t, h⟩ := h
  subst hX
  exact de_glob h ⟨t, rfl⟩ rfl hg hd

/-! ### two expressions -/
theorem two_pe {K : PySem.W.Frag} {mg : Str → Option Value} {pa pb : Bool} {f1 f2 : DEn} {α : Type} {k : D → D → List Slot → Res α} {Pk : α → Prop} {G : V → V → Hp → Prop} {F H : Hp} {O : Own} {σ : L2.St} {ρ : List Slot} (rs : RS K F σ ρ H O)
    (h : ((f1 ρ).bind fun p => (Res.lift (p.1.hold pb)).bind fun d => (f2 p.2).bind fun q => (Res.lift q.1.val).bind fun e => k d e q.2).wp Pk (PX K mg W F O σ H))
    (fin : ∀ d e ρ2 F2 O2 x y H2, RS K F2 σ ρ2 H2 O2 → Step F H O F2 H2 O2 → ((pa && pb) = true → Same H H2) → R K H2 x d → R K H2 y e → (k d e ρ2).wp Pk (PX K mg W F O σ H) → G x y H2) :
    dE K mg W pa f1 σ H fun x H1 => dE K mg W pb f2 σ H1 fun y H2 => G x y H2 := by
  refine ⟨F, O, ρ, rs, ?_⟩
  rw [Res.wp_bind] at h
  refine Res.wp_mono h (fun p hp => ?_) (fun _ _ e => e)
  intro F1 O1 x H1 rs1 v1 st1 pu1
  rw [Res.wp_bind, Res.wp_lift] at hp
  obtain ⟨d, hd, hp⟩ := hp
  obtain ⟨F1', O1', rs1', st1', hh⟩ := rs1.hold v1 hd
  refine ⟨F1', O1', p.2, rs1', ?_⟩
  rw [Res.wp_bind] at hp
  refine Res.wp_mono hp (fun q hq => ?_) (PX.step (st1.trans st1'))
  intro F2 O2 y H2 rs2 v2 st2 pu2
  rw [Res.wp_bind, Res.wp_lift] at hq
  obtain ⟨e, he, hq⟩ := hq
  refine fin d e q.2 F2 O2 x y H2 rs2 (st1.trans (st1'.trans st2)) (fun a => ?_) ?_ (v2.read rs2.fh he) hq
  · simp only [Bool.and_eq_true] at a
    exact (pu1 a.1).trans (pu2 a.2)
  · rcases hh with r | ⟨b, r⟩
    · exact (r.up st2.fr).up rs2.fh
    · exact r.up (pu2 b)
@[simp] def kS (g : D → D → Option D) (d e : D) (ρ : List Slot) : Res (Slot × List Slot) := (Res.lift (g d e)).bind fun z => .ok (.sh z, ρ)
@[simp] def asBl : D → Option Bool
  | .bl b => some b
  | _ => none
theorem asBl_some {d : D} {b : Bool} (h : asBl d = some b) : d = .bl b := by
  cases d <;> first | (cases h; rfl) | cases h
@[simp] def kT (g : D → D → Option D) (d e : D) (ρ : List Slot) : Res (Bool × List Slot) := (Res.lift (g d e)).bind fun z => (Res.lift (asBl z)).bind fun b => .ok (b, ρ)
@[simp] def dBin (pb : Bool) (g : D → D → Option D) (f1 f2 : DEn) (ρ : List Slot) : Res (Slot × List Slot) :=
  (f1 ρ).bind fun p => (Res.lift (p.1.hold pb)).bind fun d => (f2 p.2).bind fun q => (Res.lift q.1.val).bind fun e => kS g d e q.2
@[simp] def dBinT (pb : Bool) (g : D → D → Option D) (f1 f2 : DEn) (ρ : List Slot) : Res (Bool × List Slot) :=
  (f1 ρ).bind fun p => (Res.lift (p.1.hold pb)).bind fun d => (f2 p.2).bind fun q => (Res.lift q.1.val).bind fun e => kT g d e q.2
/-- an operator by values, whose result is a scalar -/
structure OpS (X : Cx) (fn : Value → Value → Sem Value) (g : D → D → Option D) : Prop where
  op : ∃ r : R2, OpR X fn r ∧ ∀ H x y d e z Q, R X.K H x d → R X.K H y e → g d e = some z → (z.flat = true → Q z.v H) → r x y H Q
theorem de_bin {pa pb : Bool} {a b : Expr} {op : Operator} {pos : Pos} {g : D → D → Option D} {f1 f2 : DEn} (o : OpS X (binaryOp op) g) (ha : DE X W pa a f1) (hb : DE X W pb b f2) : DE X W (pa && pb) (.BinOp a op b pos) (dBin pb g f1 f2) := by
  obtain ⟨r, hr, hq⟩ := o.op
  refine ⟨PE_imp (pe_op hr ha.pe hb.pe) fun σ H Q ⟨F, O, ρ, rs, h⟩ => two_pe (k := kS g) rs h fun d e ρ2 F2 O2 x y H2 rs2 st p rx ry hk => ?_⟩
  unfold kS at hk
  rw [Res.wp_bind, Res.wp_lift] at hk
  obtain ⟨z, hz, hk⟩ := hk
  exact hq H2 x y d e z Q rx ry hz fun fl => hk F2 O2 z.v H2 rs2 (R.of_flat fl) st p
theorem de_cmp {pa pb : Bool} {a b : Expr} {op : CmpOp} {pos : Pos} {g : D → D → Option D} {f1 f2 : DEn} (o : OpS X (compareOp op) g) (ha : DE X W pa a f1) (hb : DE X W pb b f2) (hm : behindInMarks op b = false := by first | exact nomark _ | rfl) :
    DE X W (pa && pb) (.Compare a [op] [b] pos) (dBin pb g f1 f2) := by
  obtain ⟨r, hr, hq⟩ := o.op
  refine ⟨PE_imp (pe_cmpR hr ha.pe hb.pe hm) fun σ H Q ⟨F, O, ρ, rs, h⟩ => two_pe (k := kS g) rs h fun d e ρ2 F2 O2 x y H2 rs2 st p rx ry hk => ?_⟩
  unfold kS at hk
  rw [Res.wp_bind, Res.wp_lift] at hk
  obtain ⟨z, hz, hk⟩ := hk
  exact hq H2 x y d e z Q rx ry hz fun fl => hk F2 O2 z.v H2 rs2 (R.of_flat fl) st p
theorem dt_cmp {pa pb : Bool} {a b : Expr} {op : CmpOp} {pos : Pos} {g : D → D → Option D} {f1 f2 : DEn} (o : OpS X (compareOp op) g) (ha : DE X W pa a f1) (hb : DE X W pb b f2) (hm : behindInMarks op b = false := by first | exact nomark _ | rfl) :
    DT X W (pa && pb) (.Compare a [op] [b] pos) (dBinT pb g f1 f2) := by
  obtain ⟨r, hr, hq⟩ := o.op
  refine ⟨PT_imp (pt_cmpR hr ha.pe hb.pe hm) fun σ H Q ⟨F, O, ρ, rs, h⟩ => two_pe (k := kT g) rs h fun d e ρ2 F2 O2 x y H2 rs2 st p rx ry hk => ?_⟩
  unfold kT at hk
  rw [Res.wp_bind, Res.wp_lift] at hk
  obtain ⟨z, hz, hk⟩ := hk
  rw [Res.wp_bind, Res.wp_lift] at hk
  obtain ⟨k, hb, hk⟩ := hk
  have e := asBl_some hb
  subst e
  exact hq H2 x y d e _ _ rx ry hz fun fl => ⟨k, rfl, hk F2 O2 H2 rs2 st p⟩
/-- a < b < c -/
@[simp] def kC (g' : D → D → Option D) (e : D) (f3 : DEn) (ρ : List Slot) (z : Bool) : Res (Slot × List Slot) :=
  if z = true then (f3 ρ).bind fun t => (Res.lift t.1.val).bind fun e' => kS g' e e' t.2 else .ok (.sh (.bl false), ρ)
@[simp] def dChain (pb pc : Bool) (g g' : D → D → Option D) (f1 f2 f3 : DEn) (ρ : List Slot) : Res (Slot × List Slot) :=
  (f1 ρ).bind fun p => (Res.lift (p.1.hold pb)).bind fun d => (f2 p.2).bind fun q => (Res.lift (q.1.hold pc)).bind fun e => (Res.lift (g d e)).bind fun z => (Res.lift (asBl z)).bind fun z => kC g' e f3 q.2 z
theorem chain_imp {K : PySem.W.Frag} {mg : Str → Option Value} {pa pb pc : Bool} {g g' : D → D → Option D} {f1 f2 f3 : DEn} {r r' : R2} (hq : ∀ H x y d e z Q, R K H x d → R K H y e → g d e = some z → (z.flat = true → Q z.v H) → r x y H Q)
    (hq' : ∀ H x y d e z Q, R K H x d → R K H y e → g' d e = some z → (z.flat = true → Q z.v H) → r' x y H Q) {σ : L2.St} {H : Hp} {Q : VK} (h : dE K mg W (pa && pb && pc) (dChain pb pc g g' f1 f2 f3) σ H Q) :
    tChain r r' (dE K mg W pa f1) (dE K mg W pb f2) (dE K mg W pc f3) σ H Q := by
  obtain ⟨F, O, ρ, rs, h⟩ := h
  refine ⟨F, O, ρ, rs, ?_⟩
  unfold dChain at h
  rw [Res.wp_bind] at h
  refine Res.wp_mono h (fun p hp => ?_) (fun _ _ e => e)
  intro F1 O1 x H1 rs1 v1 st1 pu1
  rw [Res.wp_bind, Res.wp_lift] at hp
  obtain ⟨d, hd, hp⟩ := hp
  obtain ⟨F1', O1', rs1', st1', hh⟩ := rs1.hold v1 hd
  refine ⟨F1', O1', p.2, rs1', ?_⟩
  rw [Res.wp_bind] at hp
  refine Res.wp_mono hp (fun q hq2 => ?_) (PX.step (st1.trans st1'))
  intro F2 O2 y H2 rs2 v2 st2 pu2
  rw [Res.wp_bind, Res.wp_lift] at hq2
  obtain ⟨e, he, hq2⟩ := hq2
  obtain ⟨F2', O2', rs2', st2', hh2⟩ := rs2.hold v2 he
  rw [Res.wp_bind, Res.wp_lift] at hq2
  obtain ⟨z, hz, hq2⟩ := hq2
  rw [Res.wp_bind, Res.wp_lift] at hq2
  obtain ⟨k, hb, hq2⟩ := hq2
  have ek := asBl_some hb
  subst ek
  have rx : R K H2 x d := by
    rcases hh with r | ⟨b, r⟩
    · exact (r.up st2.fr).up rs2.fh
    · exact r.up (pu2 b)
  have ry : R K H2 y e := by
    rcases hh2 with r | ⟨b, r⟩
    · exact r.up rs2'.fh
    · exact r
  have st := (st1.trans st1').trans (st2.trans st2')
  refine hq H2 x y d e _ _ rx ry hz fun fl => ⟨k, rfl, ?_⟩
  cases k with
  | false =>
    simp only [Bool.false_eq_true, if_false]
    refine hq2 F2' O2' (.bl false) H2 rs2' (.bl false) st fun a => ?_
    simp only [Bool.and_eq_true] at a
    exact (pu1 a.1.1).trans (pu2 a.1.2)
  | true =>
    simp only [if_true]
    refine ⟨F2', O2', q.2, rs2', ?_⟩
    unfold kC at hq2
    simp only [if_true] at hq2
    rw [Res.wp_bind] at hq2
    refine Res.wp_mono hq2 (fun t ht => ?_) (PX.step st)
    intro F3 O3 w H3 rs3 v3 st3 pu3
    rw [Res.wp_bind, Res.wp_lift] at ht
    obtain ⟨e', he', ht⟩ := ht
    unfold kS at ht
    rw [Res.wp_bind, Res.wp_lift] at ht
    obtain ⟨z', hz', ht⟩ := ht
    have ry3 : R K H3 y e := by
      rcases hh2 with r | ⟨b, r⟩
      · exact (r.up st3.fr).up rs3.fh
      · exact r.up (pu3 b)
    refine hq' H3 y w e e' z' _ ry3 (v3.read rs3.fh he') hz' fun fl' => ht F3 O3 z'.v H3 rs3 (R.of_flat fl') (st.trans st3) fun a => ?_
    simp only [Bool.and_eq_true] at a
    exact ((pu1 a.1.1).trans (pu2 a.1.2)).trans (pu3 a.2)
theorem de_chain {pa pb pc : Bool} {a b c : Expr} {op op' : CmpOp} {pos : Pos} {g g' : D → D → Option D} {f1 f2 f3 : DEn} (o : OpS X (compareOp op) g) (o' : OpS X (compareOp op') g') (ha : DE X W pa a f1) (hb : DE X W pb b f2) (hc : DE X W pc c f3)
    (hm : lastMarks [op, op'] [b, c] = false := by with_unfolding_all rfl) : DE X W (pa && pb && pc) (.Compare a [op, op'] [b, c] pos) (dChain pb pc g g' f1 f2 f3) := by
  obtain ⟨r, hr, hq⟩ := o.op
  obtain ⟨r', hr', hq'⟩ := o'.op
  exact ⟨PE_imp (pe_chain hr hr' ha.pe hb.pe hc.pe hm) fun σ H Q h => chain_imp hq hq' h⟩

/-! ### tests -/
@[simp] def dTst (f : DEn) (ρ : List Slot) : Res (Bool × List Slot) := (f ρ).bind fun p => (Res.lift p.1.val).bind fun d => (Res.lift (asBl d)).bind fun b => .ok (b, p.2)
theorem tst_imp {K : PySem.W.Frag} {mg : Str → Option Value} {pu : Bool} {f : DEn} {σ : L2.St} {H : Hp} {Q : Bool → Hp → Prop} (h : dT K mg W pu (dTst f) σ H Q) : dE K mg W pu f σ H fun x H1 => ∃ c, x = .bl c ∧ Q c H1 := by
  obtain ⟨F, O, ρ, rs, h⟩ := h
  refine ⟨F, O, ρ, rs, ?_⟩
  unfold dTst at h
  rw [Res.wp_bind] at h
  refine Res.wp_mono h (fun p hp => ?_) (fun _ _ e => e)
  intro F1 O1 x H1 rs1 v1 st1 pu1
  rw [Res.wp_bind, Res.wp_lift] at hp
  obtain ⟨d, hd, hp⟩ := hp
  rw [Res.wp_bind, Res.wp_lift] at hp
  obtain ⟨b, hb, hp⟩ := hp
  have e := asBl_some hb
  subst e
  have r := v1.read rs1.fh hd
  cases r
  exact ⟨b, rfl, hp F1 O1 H1 rs1 st1 pu1⟩
theorem dt_val {pu : Bool} {e : Expr} {f : DEn} (h : DE X W pu e f) (he : ∀ whole, isTrue e X.env whole = (do let v ← whole; standAt e.pos; holding [v] (truthy v)) := by intro _; rfl) : DT X W pu e (dTst f) :=
  ⟨PT_imp (pt_val h.pe he) fun σ H Q h => tst_imp h⟩
theorem dt_chain {pa pb pc : Bool} {a b c : Expr} {op op' : CmpOp} {pos : Pos} {g g' : D → D → Option D} {f1 f2 f3 : DEn} (o : OpS X (compareOp op) g) (o' : OpS X (compareOp op') g') (ha : DE X W pa a f1) (hb : DE X W pb b f2) (hc : DE X W pc c f3)
    (hm : lastMarks [op, op'] [b, c] = false := by with_unfolding_all rfl) : DT X W (pa && pb && pc) (.Compare a [op, op'] [b, c] pos) (dTst (dChain pb pc g g' f1 f2 f3)) := by
  obtain ⟨r, hr, hq⟩ := o.op
  obtain ⟨r', hr', hq'⟩ := o'.op
  exact ⟨PT_imp (pt_chain hr hr' ha.pe hb.pe hc.pe hm) fun σ H Q h => chain_imp hq hq' (tst_imp h)⟩
end
end DL
namespace DL
open PySem PySem.Spec PyProof.Rows L2
section
variable {X : Cx} {W : WX}
/-! ### and, or, not, if-else as values -/
@[simp] def dAnd (f1 f2 : DEn) (ρ : List Slot) : Res (Slot × List Slot) := (f1 ρ).bind fun p => (Res.lift p.1.val).bind fun d => (Res.lift (asBl d)).bind fun b => if b = true then f2 p.2 else .ok (.sh (.bl false), p.2)
@[simp] def dOr (f1 f2 : DEn) (ρ : List Slot) : Res (Slot × List Slot) := (f1 ρ).bind fun p => (Res.lift p.1.val).bind fun d => (Res.lift (asBl d)).bind fun b => if b = true then .ok (.sh (.bl true), p.2) else f2 p.2
@[simp] def dNot (f : DEn) (ρ : List Slot) : Res (Slot × List Slot) := (f ρ).bind fun p => (Res.lift p.1.val).bind fun d => (Res.lift (asBl d)).bind fun b => .ok (.sh (.bl (!b)), p.2)
/-- an expression that gives a bool, then something -/
theorem bl_pe {K : PySem.W.Frag} {mg : Str → Option Value} {pa : Bool} {f1 : DEn} {α : Type} {k : Bool → List Slot → Res α} {Pk : α → Prop} {G : Bool → Hp → Prop} {F H : Hp} {O : Own} {σ : L2.St} {ρ : List Slot} (rs : RS K F σ ρ H O)
    (h : ((f1 ρ).bind fun p => (Res.lift p.1.val).bind fun d => (Res.lift (asBl d)).bind fun b => k b p.2).wp Pk (PX K mg W F O σ H))
    (fin : ∀ b ρ1 F1 O1 H1, RS K F1 σ ρ1 H1 O1 → Step F H O F1 H1 O1 → (pa = true → Same H H1) → (k b ρ1).wp Pk (PX K mg W F O σ H) → G b H1) :
    dE K mg W pa f1 σ H fun x H1 => ∃ c, x = .bl c ∧ G c H1 := by
  refine ⟨F, O, ρ, rs, ?_⟩
  rw [Res.wp_bind] at h
  refine Res.wp_mono h (fun p hp => ?_) (fun _ _ e => e)
  intro F1 O1 x H1 rs1 v1 st1 pu1
  rw [Res.wp_bind, Res.wp_lift] at hp
  obtain ⟨d, hd, hp⟩ := hp
  rw [Res.wp_bind, Res.wp_lift] at hp
  obtain ⟨b, hb, hp⟩ := hp
  have e := asBl_some hb
  subst e
  have r := v1.read rs1.fh hd
  cases r
  exact ⟨b, rfl, fin b p.2 F1 O1 H1 rs1 st1 pu1 hp⟩
/-- what follows a first part -/
theorem wp_after {K : PySem.W.Frag} {mg : Str → Option Value} {pb pu : Bool} {F F1 H H1 : Hp} {O O1 : Own} {σ : L2.St} {Q : VK} {f : DEn} {ρ1 : List Slot} (st : Step F H O F1 H1 O1) (pc : pu = true → Same H H1 ∧ pb = true)
    (h : (f ρ1).wp (PV K pu F O σ H Q) (PX K mg W F O σ H)) : (f ρ1).wp (PV K pb F1 O1 σ H1 Q) (PX K mg W F1 O1 σ H1) := by
  refine Res.wp_mono h (fun p hp F' O' v H' rs vo st' pu' => hp F' O' v H' rs vo (st.trans st') fun a => ?_) (PX.step st)
  obtain ⟨a1, a2⟩ := pc a
  exact a1.trans (pu' a2)
theorem de_and {pa pb : Bool} {a b : Expr} {rest : List Expr} {pos : Pos} {f1 f2 : DEn} (ha : DE X W pa a f1) (hb : DE X W pb (.BoolOp .And (b :: rest) pos) f2) : DE X W (pa && pb) (.BoolOp .And (a :: b :: rest) pos) (dAnd f1 f2) := by
  refine ⟨PE_imp (pe_and ha.pe hb.pe) fun σ H Q ⟨F, O, ρ, rs, h⟩ => bl_pe (k := fun b ρ1 => if b = true then f2 ρ1 else Res.ok (Slot.sh (.bl false), ρ1)) rs h fun b ρ1 F1 O1 H1 rs1 st1 p1 hk => ?_⟩
  cases b with
  | true =>
    simp only [if_true] at hk ⊢
    refine ⟨F1, O1, ρ1, rs1, wp_after st1 (fun a => ?_) hk⟩
    simp only [Bool.and_eq_true] at a
    exact ⟨p1 a.1, a.2⟩
  | false =>
    simp only [Bool.false_eq_true, if_false] at hk ⊢
    refine hk F1 O1 _ H1 rs1 (.bl false) st1 fun a => ?_
    simp only [Bool.and_eq_true] at a
    exact p1 a.1
theorem de_or {pa pb : Bool} {a b : Expr} {rest : List Expr} {pos : Pos} {f1 f2 : DEn} (ha : DE X W pa a f1) (hb : DE X W pb (.BoolOp .Or (b :: rest) pos) f2) : DE X W (pa && pb) (.BoolOp .Or (a :: b :: rest) pos) (dOr f1 f2) := by
  refine ⟨PE_imp (pe_or ha.pe hb.pe) fun σ H Q ⟨F, O, ρ, rs, h⟩ => bl_pe (k := fun b ρ1 => if b = true then Res.ok (Slot.sh (.bl true), ρ1) else f2 ρ1) rs h fun b ρ1 F1 O1 H1 rs1 st1 p1 hk => ?_⟩
  cases b with
  | true =>
    simp only [if_true] at hk ⊢
    refine hk F1 O1 _ H1 rs1 (.bl true) st1 fun a => ?_
    simp only [Bool.and_eq_true] at a
    exact p1 a.1
  | false =>
    simp only [Bool.false_eq_true, if_false] at hk ⊢
    refine ⟨F1, O1, ρ1, rs1, wp_after st1 (fun a => ?_) hk⟩
    simp only [Bool.and_eq_true] at a
    exact ⟨p1 a.1, a.2⟩
theorem de_one {pu : Bool} {op : PySem.BoolOp} {a : Expr} {pos : Pos} {f : DEn} (h : DE X W pu a f) : DE X W pu (.BoolOp op [a] pos) f := ⟨pe_one h.pe⟩
theorem de_not {pu : Bool} {a : Expr} {pos : Pos} {f : DEn} (ha : DE X W pu a f) : DE X W pu (.UnaryOp .Not a pos) (dNot f) := by
  refine ⟨PE_imp (pe_not ha.pe) fun σ H Q ⟨F, O, ρ, rs, h⟩ => bl_pe (k := fun b ρ1 => Res.ok (Slot.sh (.bl (!b)), ρ1)) rs h fun b ρ1 F1 O1 H1 rs1 st1 p1 hk => ?_⟩
  exact hk F1 O1 _ H1 rs1 (.bl (!b)) st1 p1
/-! tests -/
structure DW (X : Cx) (W : WX) (pu : Bool) (e : Expr) (f : DTn) : Prop where
  pw : PW X e (dT X.K X.mg W pu f)
@[simp] def dAndT (f1 f2 : DTn) (ρ : List Slot) : Res (Bool × List Slot) := (f1 ρ).bind fun p => if p.1 = true then f2 p.2 else .ok (false, p.2)
@[simp] def dOrT (f1 f2 : DTn) (ρ : List Slot) : Res (Bool × List Slot) := (f1 ρ).bind fun p => if p.1 = true then .ok (true, p.2) else f2 p.2
@[simp] def dNotT (f : DTn) (ρ : List Slot) : Res (Bool × List Slot) := (f ρ).bind fun p => .ok (!p.1, p.2)
theorem wpT_after {K : PySem.W.Frag} {mg : Str → Option Value} {pb pu : Bool} {F F1 H H1 : Hp} {O O1 : Own} {σ : L2.St} {Q : Bool → Hp → Prop} {f : DTn} {ρ1 : List Slot} (st : Step F H O F1 H1 O1) (pc : pu = true → Same H H1 ∧ pb = true)
    (h : (f ρ1).wp (PB K pu F O σ H Q) (PX K mg W F O σ H)) : (f ρ1).wp (PB K pb F1 O1 σ H1 Q) (PX K mg W F1 O1 σ H1) := by
  refine Res.wp_mono h (fun p hp F' O' H' rs st' pu' => hp F' O' H' rs (st.trans st') fun a => ?_) (PX.step st)
  obtain ⟨a1, a2⟩ := pc a
  exact a1.trans (pu' a2)
theorem dw_and1 {pu : Bool} {a : Expr} {pos : Pos} {f : DTn} (h : DT X W pu a f) : DW X W pu (.BoolOp .And [a] pos) f := ⟨pw_and1 h.pt⟩
theorem dw_or1 {pu : Bool} {a : Expr} {pos : Pos} {f : DTn} (h : DT X W pu a f) : DW X W pu (.BoolOp .Or [a] pos) f := ⟨pw_or1 h.pt⟩
theorem dw_and {pa pb : Bool} {a b : Expr} {rest : List Expr} {pos : Pos} {f1 f2 : DTn} (ha : DT X W pa a f1) (hb : DW X W pb (.BoolOp .And (b :: rest) pos) f2) : DW X W (pa && pb) (.BoolOp .And (a :: b :: rest) pos) (dAndT f1 f2) := by
  refine ⟨PW_imp (pw_and ha.pt hb.pw) fun σ H Q ⟨F, O, ρ, rs, h⟩ => ⟨F, O, ρ, rs, ?_⟩⟩
  unfold dAndT at h
  rw [Res.wp_bind] at h
  refine Res.wp_mono h (fun p hp => ?_) (fun _ _ e => e)
  intro F1 O1 H1 rs1 st1 p1
  obtain ⟨c, ρ1⟩ := p
  cases c with
  | true =>
    simp only [if_true] at hp ⊢
    refine ⟨F1, O1, ρ1, rs1, wpT_after st1 (fun a => ?_) hp⟩
    simp only [Bool.and_eq_true] at a
    exact ⟨p1 a.1, a.2⟩
  | false =>
    simp only [Bool.false_eq_true, if_false] at hp ⊢
    refine hp F1 O1 H1 rs1 st1 fun a => ?_
    simp only [Bool.and_eq_true] at a
    exact p1 a.1
theorem dw_or {pa pb : Bool} {a b : Expr} {rest : List Expr} {pos : Pos} {f1 f2 : DTn} (ha : DT X W pa a f1) (hb : DW X W pb (.BoolOp .Or (b :: rest) pos) f2) : DW X W (pa && pb) (.BoolOp .Or (a :: b :: rest) pos) (dOrT f1 f2) := by
  refine ⟨PW_imp (pw_or ha.pt hb.pw) fun σ H Q ⟨F, O, ρ, rs, h⟩ => ⟨F, O, ρ, rs, ?_⟩⟩
  unfold dOrT at h
  rw [Res.wp_bind] at h
  refine Res.wp_mono h (fun p hp => ?_) (fun _ _ e => e)
  intro F1 O1 H1 rs1 st1 p1
  obtain ⟨c, ρ1⟩ := p
  cases c with
  | true =>
    simp only [if_true] at hp ⊢
    refine hp F1 O1 H1 rs1 st1 fun a => ?_
    simp only [Bool.and_eq_true] at a
    exact p1 a.1
  | false =>
    simp only [Bool.false_eq_true, if_false] at hp ⊢
    refine ⟨F1, O1, ρ1, rs1, wpT_after st1 (fun a => ?_) hp⟩
    simp only [Bool.and_eq_true] at a
    exact ⟨p1 a.1, a.2⟩
theorem DW.dt {pu : Bool} {e : Expr} {f : DTn} (h : DW X W pu e f) : DT X W pu e f := ⟨h.pw.pt⟩
theorem dt_not {pu : Bool} {a : Expr} {pos : Pos} {f : DTn} (ha : DT X W pu a f) : DT X W pu (.UnaryOp .Not a pos) (dNotT f) := by
  refine ⟨PT_imp (pt_not ha.pt) fun σ H Q ⟨F, O, ρ, rs, h⟩ => ⟨F, O, ρ, rs, ?_⟩⟩
  unfold dNotT at h
  rw [Res.wp_bind] at h
  exact Res.wp_mono h (fun p hp => hp) (fun _ _ e => e)
@[simp] def dIfE (f : DTn) (f1 f2 : DEn) (ρ : List Slot) : Res (Slot × List Slot) := (f ρ).bind fun p => if p.1 = true then f1 p.2 else f2 p.2
theorem de_ifExp {pt pa pb : Bool} {c a b : Expr} {pos : Pos} {f : DTn} {f1 f2 : DEn} (hc : DT X W pt c f) (ha : DE X W pa a f1) (hb : DE X W pb b f2) : DE X W (pt && pa && pb) (.IfExp c a b pos) (dIfE f f1 f2) := by
  refine ⟨PE_imp (pe_ifExp hc.pt ha.pe hb.pe) fun σ H Q ⟨F, O, ρ, rs, h⟩ => ⟨F, O, ρ, rs, ?_⟩⟩
  unfold dIfE at h
  rw [Res.wp_bind] at h
  refine Res.wp_mono h (fun p hp => ?_) (fun _ _ e => e)
  intro F1 O1 H1 rs1 st1 p1
  obtain ⟨c, ρ1⟩ := p
  cases c with
  | true =>
    simp only [if_true] at hp ⊢
    refine ⟨F1, O1, ρ1, rs1, wp_after st1 (fun a => ?_) hp⟩
    simp only [Bool.and_eq_true] at a
    exact ⟨p1 a.1.1, a.1.2⟩
  | false =>
    simp only [Bool.false_eq_true, if_false] at hp ⊢
    refine ⟨F1, O1, ρ1, rs1, wp_after st1 (fun a => ?_) hp⟩
    simp only [Bool.and_eq_true] at a
    exact ⟨p1 a.1.1, a.2⟩

/-! ### one operand -/
structure OpU (X : Cx) (fn : Value → Sem Value) (g : D → Option D) : Prop where
  op : ∃ r : V → Hp → VK → Prop, UnR X fn r ∧ ∀ H x d z Q, R X.K H x d → g d = some z → (z.flat = true → Q z.v H) → r x H Q
@[simp] def dUn (g : D → Option D) (f : DEn) (ρ : List Slot) : Res (Slot × List Slot) := (f ρ).bind fun p => (Res.lift p.1.val).bind fun d => (Res.lift (g d)).bind fun z => .ok (.sh z, p.2)
theorem one_pe {K : PySem.W.Frag} {mg : Str → Option Value} {pa : Bool} {f1 : DEn} {α : Type} {k : D → List Slot → Res α} {Pk : α → Prop} {G : V → Hp → Prop} {F H : Hp} {O : Own} {σ : L2.St} {ρ : List Slot} (rs : RS K F σ ρ H O)
    (h : ((f1 ρ).bind fun p => (Res.lift p.1.val).bind fun d => k d p.2).wp Pk (PX K mg W F O σ H))
    (fin : ∀ d ρ1 F1 O1 x H1, RS K F1 σ ρ1 H1 O1 → Step F H O F1 H1 O1 → (pa = true → Same H H1) → R K H1 x d → (k d ρ1).wp Pk (PX K mg W F O σ H) → G x H1) :
    dE K mg W pa f1 σ H G := by
  refine ⟨F, O, ρ, rs, ?_⟩
  rw [Res.wp_bind] at h
  refine Res.wp_mono h (fun p hp => ?_) (fun _ _ e => e)
  intro F1 O1 x H1 rs1 v1 st1 pu1
  rw [Res.wp_bind, Res.wp_lift] at hp
  obtain ⟨d, hd, hp⟩ := hp
  exact fin d p.2 F1 O1 x H1 rs1 st1 pu1 (v1.read rs1.fh hd) hp
theorem de_un {pu : Bool} {a : Expr} {op : UnaryOp} {pos : Pos} {g : D → Option D} {f : DEn} (o : OpU X (unaryOp op) g) (ha : DE X W pu a f) : DE X W pu (.UnaryOp op a pos) (dUn g f) := by
  obtain ⟨r, hr, hq⟩ := o.op
  refine ⟨PE_imp (pe_un hr ha.pe) fun σ H Q ⟨F, O, ρ, rs, h⟩ => one_pe (k := fun d ρ1 => (Res.lift (g d)).bind fun z => Res.ok (Slot.sh z, ρ1)) rs h fun d ρ1 F1 O1 x H1 rs1 st1 p1 rx hk => ?_⟩
  rw [Res.wp_bind, Res.wp_lift] at hk
  obtain ⟨z, hz, hk⟩ := hk
  exact hq H1 x d z Q rx hz fun fl => hk F1 O1 z.v H1 rs1 (R.of_flat fl) st1 p1

/-! ### argument lists: shared values; values as they read when all are there -/
section
variable (K : PySem.W.Frag) (mg : Str → Option Value) (W : WX)
abbrev DLn := List Slot → Res (List D × List Slot)
def PLF (pu : Bool) (F : Hp) (O : Own) (σ : L2.St) (H : Hp) (Q : List V → Hp → Prop) : List D × List Slot → Prop := fun p =>
  ∀ F' O' vs H', RS K F' σ p.2 H' O' → Rs K F' vs p.1 → Step F H O F' H' O' → (pu = true → Same H H') → Q vs H'
def PLP (pu : Bool) (F : Hp) (O : Own) (σ : L2.St) (H : Hp) (Q : List V → Hp → Prop) : List D × List Slot → Prop := fun p =>
  ∀ F' O' vs H', RS K F' σ p.2 H' O' → Rs K H' vs p.1 → Step F H O F' H' O' → (pu = true → Same H H') → Q vs H'
def dAF (pu : Bool) (f : DLn) : TA := fun σ H Q => ∃ F O ρ, RS K F σ ρ H O ∧ (f ρ).wp (PLF K pu F O σ H Q) (PX K mg W F O σ H)
def dAP (pu : Bool) (f : DLn) : TA := fun σ H Q => ∃ F O ρ, RS K F σ ρ H O ∧ (f ρ).wp (PLP K pu F O σ H Q) (PX K mg W F O σ H)
end
structure AF (X : Cx) (W : WX) (pu : Bool) (es : List Expr) (f : DLn) : Prop where
  pa : PA X es (dAF X.K X.mg W pu f)
structure AP (X : Cx) (W : WX) (pu : Bool) (es : List Expr) (f : DLn) : Prop where
  pa : PA X es (dAP X.K X.mg W pu f)
theorem PA_imp {es : List Expr} {t t' : TA} (h : PA X es t) (g : ∀ σ H Q, t' σ H Q → t σ H Q) : PA X es t' := ⟨fun pos pins s σ H Q I q => h.run pos pins s σ H Q I (g σ H Q q)⟩
@[simp] def dNil (ρ : List Slot) : Res (List D × List Slot) := .ok ([], ρ)
@[simp] def dConsF (f1 : DEn) (f2 : DLn) (ρ : List Slot) : Res (List D × List Slot) := (f1 ρ).bind fun p => (Res.lift p.1.fz).bind fun d => (f2 p.2).bind fun q => .ok (d :: q.1, q.2)
@[simp] def dConsP (pb : Bool) (f1 : DEn) (f2 : DLn) (ρ : List Slot) : Res (List D × List Slot) := (f1 ρ).bind fun p => (Res.lift (p.1.hold pb)).bind fun d => (f2 p.2).bind fun q => .ok (d :: q.1, q.2)
theorem af_nil : AF X W true [] dNil := ⟨PA_imp pa_nil fun σ H Q ⟨F, O, ρ, rs, h⟩ => h F O [] H rs .nil .refl fun _ => Same.refl H⟩
theorem ap_nil : AP X W true [] dNil := ⟨PA_imp pa_nil fun σ H Q ⟨F, O, ρ, rs, h⟩ => h F O [] H rs .nil .refl fun _ => Same.refl H⟩
theorem af_cons {pa pb : Bool} {e : Expr} {es : List Expr} {f1 : DEn} {f2 : DLn} (ha : DE X W pa e f1) (hb : AF X W pb es f2) (hs : starEach (e :: es) X.env = (false, eval e X.env) :: starEach es X.env := by rfl) : AF X W (pa && pb) (e :: es) (dConsF f1 f2) := by
  refine ⟨PA_imp (pa_cons ha.pe hb.pa hs) fun σ H Q ⟨F, O, ρ, rs, h⟩ => ⟨F, O, ρ, rs, ?_⟩⟩
  unfold dConsF at h
  rw [Res.wp_bind] at h
  refine Res.wp_mono h (fun p hp => ?_) (fun _ _ e => e)
  intro F1 O1 x H1 rs1 v1 st1 pu1
  rw [Res.wp_bind, Res.wp_lift] at hp
  obtain ⟨d, hd, hp⟩ := hp
  obtain ⟨F1', O1', rs1', r1, st1'⟩ := rs1.freeze v1 hd
  refine ⟨F1', O1', p.2, rs1', ?_⟩
  rw [Res.wp_bind] at hp
  refine Res.wp_mono hp (fun q hq => ?_) (PX.step (st1.trans st1'))
  intro F2 O2 ys H2 rs2 v2 st2 pu2
  refine hq F2 O2 (x :: ys) H2 rs2 (.cons (r1.up st2.fr) v2) (st1.trans (st1'.trans st2)) fun a => ?_
  simp only [Bool.and_eq_true] at a
  exact (pu1 a.1).trans (pu2 a.2)
theorem ap_cons {pa pb : Bool} {e : Expr} {es : List Expr} {f1 : DEn} {f2 : DLn} (ha : DE X W pa e f1) (hb : AP X W pb es f2) (hs : starEach (e :: es) X.env = (false, eval e X.env) :: starEach es X.env := by rfl) : AP X W (pa && pb) (e :: es) (dConsP pb f1 f2) := by
  refine ⟨PA_imp (pa_cons ha.pe hb.pa hs) fun σ H Q ⟨F, O, ρ, rs, h⟩ => ⟨F, O, ρ, rs, ?_⟩⟩
  unfold dConsP at h
  rw [Res.wp_bind] at h
  refine Res.wp_mono h (fun p hp => ?_) (fun _ _ e => e)
  intro F1 O1 x H1 rs1 v1 st1 pu1
  rw [Res.wp_bind, Res.wp_lift] at hp
  obtain ⟨d, hd, hp⟩ := hp
  obtain ⟨F1', O1', rs1', st1', hh⟩ := rs1.hold v1 hd
  refine ⟨F1', O1', p.2, rs1', ?_⟩
  rw [Res.wp_bind] at hp
  refine Res.wp_mono hp (fun q hq => ?_) (PX.step (st1.trans st1'))
  intro F2 O2 ys H2 rs2 v2 st2 pu2
  refine hq F2 O2 (x :: ys) H2 rs2 (.cons ?_ v2) (st1.trans (st1'.trans st2)) fun a => ?_
  · rcases hh with r | ⟨b, r⟩
    · exact (r.up st2.fr).up rs2.fh
    · exact r.up (pu2 b)
  · simp only [Bool.and_eq_true] at a
    exact (pu1 a.1).trans (pu2 a.2)

/-! ### new lists, tuples -/
theorem RS.newList {K : PySem.W.Frag} {F H : Hp} {O : Own} {σ : L2.St} {ρ : List Slot} {vs : List V} {xs : List D} {p : Addr} (r : RS K F σ ρ H O) (np : H p = none) (rv : Rs K F vs xs) :
    RS K F σ ρ (upd H p (.lst vs)) (fun b => if b = p then some ρ.length else O b) ∧ VOk K F (upd H p (.lst vs)) (fun b => if b = p then some ρ.length else O b) ρ.length (.own xs) (.ref p) ∧
      Step F H O F (upd H p (.lst vs)) (fun b => if b = p then some ρ.length else O b) ∧ Same H (upd H p (.lst vs)) := by
  have sm : Same H (upd H p (.lst vs)) := fun b o e => by rw [upd_ne (ne_of_none e np)]; exact e
  refine ⟨r.ext (Same.refl F) (r.fh.trans sm) (fun a i u ha hi hu => ⟨sm _ _ hu, ?_⟩) (fun b i e => ?_), ⟨p, vs, rfl, upd_same, by simp, rv⟩, ⟨fun b o h _ => sm b o h, fun b o h => ⟨o, sm b o h⟩, Same.refl F, fun b o h => .inl h, fun b i e => ?_⟩, sm⟩
  · have : a ≠ p := ne_of_none hu np
    simp [this, ha]
  · by_cases hb : b = p
    · subst hb
      refine ⟨?_, _, upd_same⟩
      cases q : F b with
      | none => rfl
      | some o => have := r.fh b o q; rw [np] at this; cases this
    · simp [hb] at e
      obtain ⟨h1, o, h2⟩ := r.out b i e
      exact ⟨h1, o, sm b o h2⟩
  · by_cases hb : b = p
    · subst hb; exact .inr np
    · simp [hb] at e; exact .inl ⟨i, e⟩
theorem RS.newTup {K : PySem.W.Frag} {F H : Hp} {O : Own} {σ : L2.St} {ρ : List Slot} {vs : List V} {xs : List D} {p : Addr} (r : RS K F σ ρ H O) (np : H p = none) (rv : Rs K F vs xs) :
    RS K (upd F p (.tup vs)) σ ρ (upd H p (.tup vs)) O ∧ R K (upd F p (.tup vs)) (.ref p) (.tup xs) ∧ Step F H O (upd F p (.tup vs)) (upd H p (.tup vs)) O ∧ Same H (upd H p (.tup vs)) := by
  have fp : F p = none := by
    cases q : F p with
    | none => rfl
    | some o => have := r.fh p o q; rw [np] at this; cases this
  have sm : Same H (upd H p (.tup vs)) := fun b o e => by rw [upd_ne (ne_of_none e np)]; exact e
  have smF : Same F (upd F p (.tup vs)) := fun b o e => by rw [upd_ne (ne_of_none e fp)]; exact e
  refine ⟨r.ext smF (fun b o e => ?_) (fun a i u ha hi hu => ⟨sm _ _ hu, ha⟩) (fun b i e => ?_), .tup (SqT.of upd_same) (rv.up smF), ⟨fun b o h _ => sm b o h, fun b o h => ⟨o, sm b o h⟩, smF, fun b o h => ?_, fun b i e => .inl ⟨i, e⟩⟩, sm⟩
  · by_cases hb : b = p
    · subst hb; rw [upd_same] at e ⊢; exact e
    · rw [upd_ne hb] at e ⊢; exact r.fh b o e
  · obtain ⟨h1, o, h2⟩ := r.out b i e
    have : b ≠ p := ne_of_none h2 np
    exact ⟨by rw [upd_ne this]; exact h1, o, sm b o h2⟩
  · by_cases hb : b = p
    · subst hb; exact .inr (.inr np)
    · rw [upd_ne hb] at h; exact .inl h
@[simp] def dLst (f : DLn) (ρ : List Slot) : Res (Slot × List Slot) := (f ρ).bind fun p => if p.1.length ≤ 1000 then .ok (.own p.1, p.2) else .stuck
@[simp] def dTup (f : DLn) (ρ : List Slot) : Res (Slot × List Slot) := (f ρ).bind fun p => if p.1.length ≤ 1000 then .ok (.sh (.tup p.1), p.2) else .stuck
theorem le_line {n : Nat} (h : n ≤ 1000) : n ≤ sizeLine := Nat.le_of_lt (small1000 h)
theorem de_lst {pu : Bool} {es : List Expr} {pos : Pos} {f : DLn} (h : AF X W pu es f) : DE X W pu (.List es pos) (dLst f) := by
  refine ⟨PE_imp (pe_lst h.pa) fun σ H Q ⟨F, O, ρ, rs, h⟩ => ⟨F, O, ρ, rs, ?_⟩⟩
  unfold dLst at h
  rw [Res.wp_bind] at h
  refine Res.wp_mono h (fun p hp => ?_) (fun _ _ e => e)
  intro F1 O1 vs H1 rs1 v1 st1 pu1
  by_cases hl : p.1.length ≤ 1000
  · rw [if_pos hl] at hp
    refine ⟨by rw [v1.length]; exact le_line hl, fun q nq => ?_⟩
    obtain ⟨a, b, c, d⟩ := rs1.newList nq v1
    exact hp F1 _ _ _ a b (st1.trans c) fun z => (pu1 z).trans d
  · rw [if_neg hl] at hp; exact hp.elim
theorem de_tup {pu : Bool} {es : List Expr} {k : Nat} {pos : Pos} {f : DLn} (h : AF X W pu es f) : DE X W pu (.Tuple es k pos) (dTup f) := by
  refine ⟨PE_imp (pe_tup h.pa) fun σ H Q ⟨F, O, ρ, rs, h⟩ => ⟨F, O, ρ, rs, ?_⟩⟩
  unfold dTup at h
  rw [Res.wp_bind] at h
  refine Res.wp_mono h (fun p hp => ?_) (fun _ _ e => e)
  intro F1 O1 vs H1 rs1 v1 st1 pu1
  by_cases hl : p.1.length ≤ 1000
  · rw [if_pos hl] at hp
    refine ⟨by rw [v1.length]; exact le_line hl, fun q nq => ?_⟩
    obtain ⟨a, b, c, d⟩ := rs1.newTup nq v1
    exact hp _ _ _ _ a b (st1.trans c) fun z => (pu1 z).trans d
  · rw [if_neg hl] at hp; exact hp.elim

/-! ### the program's own defs -/
abbrev DFn := List Slot → Res (Slot × List Slot)
def spF (K : PySem.W.Frag) (mg : Str → Option Value) (n : Nat) (G : DFn) : Sp := fun vs H Q E => vs.length = n ∧ dE K mg (fun c d _ H' => E c d H') false G (vs.map some) H Q
/-- the def's object -/
def FdAt (K : PySem.W.Frag) (f : Addr) (fd : FuncData) : Prop := ∃ (oc : Value) (od : Option Addr) (osl : Array (Option Value)), K.lookup f = some ⟨oc, od, .func fd, osl⟩
theorem FdAt.one {K : PySem.W.Frag} {f : Addr} {fd fd' : FuncData} (h : FdAt K f fd) (h' : FdAt K f fd') : fd = fd' := by
  obtain ⟨a, b, c, e⟩ := h
  obtain ⟨a', b', c', e'⟩ := h'
  rw [e] at e'
  injection e' with e'
  injection e' with _ _ e' _
  injection e'
theorem fun_at {K : PySem.W.Frag} {x qual : Str} {st : Stmt} {f : Addr} {fd : FuncData} (F : Fun K x qual st f fd) : FdAt K f fd := by
  obtain ⟨oc, od, kV, doc, pm, an, cdv, ct, osl, rfl, lk, _⟩ := F.ex
  exact ⟨_, _, _, lk⟩
/-- the def named x keeps to G at level k -/
structure Dfn (P : Program) (w : World) (K : PySem.W.Frag) (mg : Str → Option Value) (base : Heap) (x : Str) (ps : List Str) (k : Nat) (G : DFn) : Prop where
  ok : ∃ (f : Addr) (fd : FuncData), FnOk P w K mg base (L2.CX P w) k f fd ps (spF K mg ps.length G) ∧ mg x = some (.ref f) ∧ PySem.W.keepIn K (.ref f) = true ∧ Binds K fd ps [] ∧ FdAt K f fd
@[simp] def Slot.ret : Slot → Option Slot
  | .sh d => some (.sh d)
  | .own xs => some (.own xs)
  | _ => none
@[simp] def dCall (n : Nat) (G : DFn) (fa : DLn) (ρ : List Slot) : Res (Slot × List Slot) := (fa ρ).bind fun p => if p.1.length = n then (match G (p.1.map .sh) with
  | .ok (s, _) => (Res.lift s.ret).bind fun s' => .ok (s', p.2)
  | .ex c _ => .ex c p.2
  | .stuck => .stuck) else .stuck
theorem RS.callee {K : PySem.W.Frag} {F H : Hp} {vs : List V} {ds : List D} (fh : Same F H) (r : Rs K F vs ds) : RS K F (vs.map some) (ds.map .sh) H (fun _ => none) := by
  refine ⟨by rw [List.length_map, List.length_map, r.length], fh, fun i s hs => ?_, fun b i e => nomatch e⟩
  rw [List.getElem?_map] at hs
  cases q : ds[i]? with
  | none => rw [q] at hs; cases hs
  | some d =>
    rw [q] at hs
    cases hs
    obtain ⟨v, hv, rv⟩ := r.get q
    exact ⟨v, by rw [List.getElem?_map, hv]; rfl, rv⟩
/-- behind a call that may change nothing of ours -/
theorem RS.back {K : PySem.W.Frag} {F H F' H' : Hp} {O O' : Own} {σ : L2.St} {ρ : List Slot} (r : RS K F σ ρ H O) (st : Step F H (fun _ => none) F' H' O') (fh : Same F' H') : RS K F' σ ρ H' O ∧ Step F H O F' H' O ∧ Same H H' := by
  have sm : Same H H' := fun b o h => st.keep b o h rfl
  have out : ∀ b i, O b = some i → F' b = none ∧ ∃ o, H' b = some o := fun b i e => by
    obtain ⟨h1, o, h2⟩ := r.out b i e
    refine ⟨?_, o, sm b o h2⟩
    cases q : F' b with
    | none => rfl
    | some u =>
      rcases st.low b u q with h | ⟨j, h⟩ | h
      · rw [h1] at h; cases h
      · cases h
      · rw [h2] at h; cases h
  refine ⟨r.ext st.fr fh (fun a i u ha hi hu => ⟨sm _ _ hu, ha⟩) out, ⟨fun b o h _ => sm b o h, fun b o h => ⟨o, sm b o h⟩, st.fr, fun b o h => ?_, fun b i e => .inl ⟨i, e⟩⟩, sm⟩
  rcases st.low b o h with h | ⟨j, h⟩ | h
  · exact .inl h
  · cases h
  · exact .inr (.inr h)
/-- .. and its result -/
theorem RS.result {K : PySem.W.Frag} {F H F' H' : Hp} {O O' : Own} {σ σ' : L2.St} {ρ ρ' : List Slot} {n : Nat} {s s' : Slot} {v : V} (r : RS K F σ ρ H O) (st : Step F H (fun _ => none) F' H' O') (r' : RS K F' σ' ρ' H' O') (vo : VOk K F' H' O' n s v) (e : s.ret = some s') :
    ∃ O2, RS K F' σ ρ H' O2 ∧ VOk K F' H' O2 ρ.length s' v ∧ Step F H O F' H' O2 ∧ Same H H' := by
  obtain ⟨a, b, c⟩ := r.back st r'.fh
  cases s with
  | un => cases e
  | par _ => cases e
  | po _ => cases e
  | pk _ => cases e
  | od _ => cases e
  | sh d => cases e; exact ⟨O, a, vo, b, c⟩
  | own xs =>
    cases e
    obtain ⟨p, vs, rfl, hp, op, rv⟩ := vo
    have np : H p = none := by
      rcases st.fp p n op with ⟨j, h⟩ | h
      · cases h
      · exact h
    refine ⟨fun b => if b = p then some ρ.length else O b, ⟨a.len, a.fh, fun i t ht => (a.ok i t ht).ext (Same.refl _) fun q u hq hu => ⟨hu, ?_⟩, fun b i e => ?_⟩, ⟨p, vs, rfl, hp, by simp, rv⟩, ⟨b.keep, b.there, b.fr, b.low, fun q i e => ?_⟩, c⟩
    · obtain ⟨_, o, h2⟩ := r.out q i hq
      have : q ≠ p := ne_of_none h2 np
      simp [this, hq]
    · by_cases hb : b = p
      · subst hb; exact r'.out b n op
      · simp [hb] at e; exact a.out b i e
    · by_cases hb : q = p
      · subst hb; exact .inr np
      · simp [hb] at e; exact .inl ⟨i, e⟩
theorem de_call {k : Nat} {x : Str} {ps : List Str} {G : DFn} {pu : Bool} {e : Expr} {es : List Expr} {p pos : Pos} {fa : DLn} {P : Program} {w : World} {K : PySem.W.Frag} {mg : Str → Option Value} {base : Heap} {A : Around} (tk : Takes X W) (hf : Dfn P w K mg base x ps k G) (hr : Room k A) (ha : AF X W pu (e :: es) fa) (hg : Gl X x := by rfl)
    (hdb : (x == ("__debug__" : Str)) = false := by decide) (he : starEach (e :: es) X.env = (false, eval e X.env) :: starEach es X.env := by rfl) (hpl : (backTo pos (starEach es X.env)).any (·.1) = false := by rfl) (hX : X.prog = P ∧ X.w = w ∧ X.K = K ∧ X.mg = mg ∧ X.base = base ∧ X.A = A := by exact ⟨rfl, rfl, rfl, rfl, rfl, rfl⟩) :
    DE X W pu (.Call (.Name x p) (e :: es) [] pos) (dCall ps.length G fa) := by
  obtain ⟨rfl, rfl, rfl, rfl, rfl, rfl⟩ := hX
  obtain ⟨f, fd, ok, hm, hk, hb, _⟩ := hf.ok
  refine ⟨PE_imp (pe_callS (E := WE W) ok hr hg hm hk hb (fun σ => passAt tk σ) ha.pa hdb he hpl) fun σ H Q ⟨F, O, ρ, rs, h⟩ => ⟨F, O, ρ, rs, ?_⟩⟩
  unfold dCall at h
  rw [Res.wp_bind] at h
  refine Res.wp_mono h (fun p hp => ?_) (fun _ _ e => e)
  intro F1 O1 vs H1 rs1 v1 st1 pu1
  by_cases hl : p.1.length = ps.length
  · rw [if_pos hl] at hp
    refine ⟨by rw [v1.length]; exact hl, F1, fun _ => none, p.1.map .sh, RS.callee rs1.fh v1, ?_⟩
    cases hG : G (p.1.map .sh) with
    | stuck => rw [hG] at hp; exact hp.elim
    | ex c ρ' =>
      rw [hG] at hp
      intro F' O' H' rs' st'
      obtain ⟨a, b, _⟩ := rs1.back st' rs'.fh
      exact hp F' O1 H' a (st1.trans b)
    | ok q =>
      obtain ⟨s, ρ'⟩ := q
      rw [hG] at hp
      intro F' O' v H' rs' vo st' _
      have hp : ((Res.lift s.ret).bind fun s' => Res.ok (s', p.2)).wp (PV X.K pu F O σ H Q) (PX X.K X.mg W F O σ H) := hp
      rw [Res.wp_bind, Res.wp_lift] at hp
      obtain ⟨s', hs', hp⟩ := hp
      obtain ⟨O2, a, b, c, d⟩ := rs1.result st' rs' vo hs'
      exact hp F' O2 v H' a b (st1.trans c) fun z => (pu1 z).trans d
  · rw [if_neg hl] at hp; exact hp.elim
/-- a call by peeked arguments: what comes back is peeked, too -/
@[simp] def dCallP (n : Nat) (G : DFn) (fa : DLn) (ρ : List Slot) : Res (Slot × List Slot) := (fa ρ).bind fun p => if p.1.length = n then (match G (p.1.map .sh) with
  | .ok (s, _) => (Res.lift s.val).bind fun d => .ok (.pk d, p.2)
  | .ex c _ => .ex c p.2
  | .stuck => .stuck) else .stuck
theorem de_callP {k : Nat} {x : Str} {ps : List Str} {G : DFn} {pu : Bool} {e : Expr} {es : List Expr} {p pos : Pos} {fa : DLn} {P : Program} {w : World} {K : PySem.W.Frag} {mg : Str → Option Value} {base : Heap} {A : Around} (tk : Takes X W) (hf : Dfn P w K mg base x ps k G) (hr : Room k A) (ha : AP X W pu (e :: es) fa) (hg : Gl X x := by rfl)
    (hdb : (x == ("__debug__" : Str)) = false := by decide) (he : starEach (e :: es) X.env = (false, eval e X.env) :: starEach es X.env := by rfl) (hpl : (backTo pos (starEach es X.env)).any (·.1) = false := by rfl) (hX : X.prog = P ∧ X.w = w ∧ X.K = K ∧ X.mg = mg ∧ X.base = base ∧ X.A = A := by exact ⟨rfl, rfl, rfl, rfl, rfl, rfl⟩) :
    DE X W pu (.Call (.Name x p) (e :: es) [] pos) (dCallP ps.length G fa) := by
  obtain ⟨rfl, rfl, rfl, rfl, rfl, rfl⟩ := hX
  obtain ⟨f, fd, ok, hm, hk, hb, _⟩ := hf.ok
  refine ⟨PE_imp (pe_callS (E := WE W) ok hr hg hm hk hb (fun σ => passAt tk σ) ha.pa hdb he hpl) fun σ H Q ⟨F, O, ρ, rs, h⟩ => ⟨F, O, ρ, rs, ?_⟩⟩
  unfold dCallP at h
  rw [Res.wp_bind] at h
  refine Res.wp_mono h (fun p hp => ?_) (fun _ _ e => e)
  intro F1 O1 vs H1 rs1 v1 st1 pu1
  have same : ∀ {F' H' : Hp} {O' : Own}, Step H1 H1 (fun _ => none) F' H' O' → RS X.K F1 σ p.2 H' O1 ∧ Step F H O F1 H' O1 ∧ Same H1 H' := fun {F' H' O'} st' => by
    have sm : Same H1 H' := fun b o h => st'.keep b o h rfl
    refine ⟨rs1.ext (Same.refl _) (rs1.fh.trans sm) (fun a i u ha hi hu => ⟨sm _ _ hu, ha⟩) (fun b i e => ?_), st1.trans ⟨fun b o h _ => sm b o h, fun b o h => ⟨o, sm b o h⟩, Same.refl _, fun b o h => .inl h, fun b i e => .inl ⟨i, e⟩⟩, sm⟩
    obtain ⟨h1, o, h2⟩ := rs1.out b i e
    exact ⟨h1, o, sm b o h2⟩
  by_cases hl : p.1.length = ps.length
  · rw [if_pos hl] at hp
    refine ⟨by rw [v1.length]; exact hl, H1, fun _ => none, p.1.map .sh, RS.callee (Same.refl _) v1, ?_⟩
    cases hG : G (p.1.map .sh) with
    | stuck => rw [hG] at hp; exact hp.elim
    | ex c ρ' =>
      rw [hG] at hp
      intro F' O' H' rs' st'
      obtain ⟨a, b, _⟩ := same st'
      exact hp F1 O1 H' a b
    | ok q =>
      obtain ⟨s, ρ'⟩ := q
      rw [hG] at hp
      intro F' O' v H' rs' vo st' _
      have hp : ((Res.lift s.val).bind fun d => Res.ok (Slot.pk d, p.2)).wp (PV X.K pu F O σ H Q) (PX X.K X.mg W F O σ H) := hp
      rw [Res.wp_bind, Res.wp_lift] at hp
      obtain ⟨d, hd, hp⟩ := hp
      obtain ⟨a, b, c⟩ := same st'
      exact hp F1 O1 v H' a (vo.read rs'.fh hd) b fun z => (pu1 z).trans c
  · rw [if_neg hl] at hp; exact hp.elim

/-! ### built-in functions by values -/
structure BlS (X : Cx) (f : Value) (g : List D → Option D) : Prop where
  op : ∃ r, CallR X f r ∧ ∀ H vs ds z Q, Rs X.K H vs ds → g ds = some z → (z.flat = true → Q z.v H) → r vs H Q
@[simp] def dBl (g : List D → Option D) (f : DLn) (ρ : List Slot) : Res (Slot × List Slot) := (f ρ).bind fun p => (Res.lift (g p.1)).bind fun z => .ok (.sh z, p.2)
theorem bl_imp {K : PySem.W.Frag} {mg : Str → Option Value} {g : List D → Option D} {r : List V → Hp → VK → Prop} {pu : Bool} {fa : DLn} (hq : ∀ H vs ds z Q, Rs K H vs ds → g ds = some z → (z.flat = true → Q z.v H) → r vs H Q) {σ : L2.St} {H : Hp} {Q : VK}
    (h : dE K mg W pu (dBl g fa) σ H Q) : tCB r (dAP K mg W pu fa) σ H Q := by
  obtain ⟨F, O, ρ, rs, h⟩ := h
  refine ⟨F, O, ρ, rs, ?_⟩
  unfold dBl at h
  rw [Res.wp_bind] at h
  refine Res.wp_mono h (fun p hp => ?_) (fun _ _ e => e)
  intro F1 O1 vs H1 rs1 v1 st1 pu1
  rw [Res.wp_bind, Res.wp_lift] at hp
  obtain ⟨z, hz, hp⟩ := hp
  exact hq H1 vs p.1 z Q v1 hz fun fl => hp F1 O1 z.v H1 rs1 (R.of_flat fl) st1 pu1
theorem de_blB {x : Str} {id : String} {g : List D → Option D} {pu : Bool} {e : Expr} {es : List Expr} {p pos : Pos} {fa : DLn} (o : BlS X (.builtin id) g) (hm : X.mg x = none) (hv : bootBuiltins x = some (.builtin id)) (ha : AP X W pu (e :: es) fa) (hg : Gl X x := by rfl)
    (hn : x ≠ "__name__" := by decide) (hdb : (x == ("__debug__" : Str)) = false := by decide) (he : starEach (e :: es) X.env = (false, eval e X.env) :: starEach es X.env := by rfl) (hpl : (backTo pos (starEach es X.env)).any (·.1) = false := by rfl) :
    DE X W pu (.Call (.Name x p) (e :: es) [] pos) (dBl g fa) := by
  obtain ⟨r, hr, hq⟩ := o.op
  exact ⟨PE_imp (pe_callB hr hg hm hv ha.pa hn hdb he hpl) fun σ H Q h => bl_imp hq h⟩
theorem de_blT {x : Str} {T : String} {g : List D → Option D} {pu : Bool} {e : Expr} {es : List Expr} {p pos : Pos} {fa : DLn} (o : BlS X (.type T) g) (hm : X.mg x = none) (hv : bootBuiltins x = some (.type T)) (ha : AP X W pu (e :: es) fa) (hg : Gl X x := by rfl)
    (hn : x ≠ "__name__" := by decide) (hdb : (x == ("__debug__" : Str)) = false := by decide) (he : starEach (e :: es) X.env = (false, eval e X.env) :: starEach es X.env := by rfl) (hpl : (backTo pos (starEach es X.env)).any (·.1) = false := by rfl) :
    DE X W pu (.Call (.Name x p) (e :: es) [] pos) (dBl g fa) := by
  obtain ⟨r, hr, hq⟩ := o.op
  exact ⟨PE_imp (pe_callTy hr hg hm hv ha.pa hn hdb he hpl) fun σ H Q h => bl_imp hq h⟩
end
end DL
namespace DL
open PySem PySem.Spec PyProof.Rows L2
section
variable {X : Cx} {W : WX}
/-! ### values held as slots -/
@[simp] noncomputable def Slot.holdS (pb : Bool) : Slot → Option Slot
  | .sh d => some (.sh d)
  | .own xs => some (.sh (.lst xs))
  | .po xs => if pb then some (.po xs) else none
  | .pk d => if pb then some (.pk d) else if d.flat then some (.sh d) else none
  | _ => none
noncomputable def Slot.kept (pb : Bool) : Slot → Prop
  | .sh _ => True
  | .po _ => pb = true
  | .pk _ => pb = true
  | _ => False
theorem RS.holdS {K : PySem.W.Frag} {F H : Hp} {O : Own} {σ : L2.St} {ρ : List Slot} {v : V} {s s' : Slot} {pb : Bool} (r : RS K F σ ρ H O) (h : VOk K F H O ρ.length s v) (e : s.holdS pb = some s') :
    ∃ F' O', RS K F' σ ρ H O' ∧ Step F H O F' H O' ∧ VOk K F' H O' ρ.length s' v ∧ s'.kept pb := by
  cases s with
  | un => cases e
  | par _ => cases e
  | od _ => cases e
  | sh d' => cases e; exact ⟨F, O, r, .refl, h, trivial⟩
  | own xs =>
    cases e
    obtain ⟨F', O', a, b, c⟩ := r.freeze (d := .lst xs) h rfl
    exact ⟨F', O', a, c, b, trivial⟩
  | po xs =>
    unfold Slot.holdS at e
    cases pb with
    | false => simp at e
    | true => simp only [if_true, Option.some.injEq] at e; subst e; exact ⟨F, O, r, .refl, h, rfl⟩
  | pk d' =>
    unfold Slot.holdS at e
    cases pb with
    | true => simp only [if_true, Option.some.injEq] at e; subst e; exact ⟨F, O, r, .refl, h, rfl⟩
    | false =>
      simp only [Bool.false_eq_true, if_false] at e
      by_cases f : d'.flat = true
      · simp only [f, if_true, Option.some.injEq] at e; subst e; exact ⟨F, O, r, .refl, R.flat_any h f, trivial⟩
      · simp [f] at e
theorem VOk.later {K : PySem.W.Frag} {F F' H H' : Hp} {O O' : Own} {n m : Nat} {v : V} {s : Slot} {pb : Bool} (h : VOk K F H O n s v) (k : s.kept pb) (e : Same F F') (sm : pb = true → Same H H') : VOk K F' H' O' m s v := by
  cases s with
  | sh d => exact R.up h e
  | po xs => obtain ⟨a, vs, rfl, q, r⟩ := h; exact ⟨a, vs, rfl, sm k _ _ q, r.up e⟩
  | pk d => exact R.up h (sm k)
  | _ => exact k.elim
theorem two_peS {K : PySem.W.Frag} {mg : Str → Option Value} {pa pb : Bool} {f1 f2 : DEn} {α : Type} {k : Slot → Slot → List Slot → Res α} {Pk : α → Prop} {G : V → V → Hp → Prop} {F H : Hp} {O : Own} {σ : L2.St} {ρ : List Slot} (rs : RS K F σ ρ H O)
    (h : ((f1 ρ).bind fun p => (Res.lift (p.1.holdS pb)).bind fun d => (f2 p.2).bind fun q => k d q.1 q.2).wp Pk (PX K mg W F O σ H))
    (fin : ∀ d e ρ2 F2 O2 x y H2, RS K F2 σ ρ2 H2 O2 → Step F H O F2 H2 O2 → ((pa && pb) = true → Same H H2) → VOk K F2 H2 O2 ρ2.length d x → VOk K F2 H2 O2 ρ2.length e y → (k d e ρ2).wp Pk (PX K mg W F O σ H) → G x y H2) :
    dE K mg W pa f1 σ H fun x H1 => dE K mg W pb f2 σ H1 fun y H2 => G x y H2 := by
  refine ⟨F, O, ρ, rs, ?_⟩
  rw [Res.wp_bind] at h
  refine Res.wp_mono h (fun p hp => ?_) (fun _ _ e => e)
  intro F1 O1 x H1 rs1 v1 st1 pu1
  rw [Res.wp_bind, Res.wp_lift] at hp
  obtain ⟨d, hd, hp⟩ := hp
  obtain ⟨F1', O1', rs1', st1', vh, kh⟩ := rs1.holdS v1 hd
  refine ⟨F1', O1', p.2, rs1', ?_⟩
  rw [Res.wp_bind] at hp
  refine Res.wp_mono hp (fun q hq => ?_) (PX.step (st1.trans st1'))
  intro F2 O2 y H2 rs2 v2 st2 pu2
  refine fin d q.1 q.2 F2 O2 x y H2 rs2 (st1.trans (st1'.trans st2)) (fun a => ?_) (vh.later kh st2.fr pu2) v2 hq
  simp only [Bool.and_eq_true] at a
  exact (pu1 a.1).trans (pu2 a.2)

/-! ### items of a list, a tuple -/
noncomputable def D.items : D → Option (List D)
  | .lst xs => some xs
  | .tup xs => some xs
  | .scr ns => some (ns.map D.int)
  | .tpx xs => some xs
  | _ => none
theorem R.items {K : PySem.W.Frag} {F : Hp} {v : V} {d : D} {ds : List D} (h : R K F v d) (e : d.items = some ds) : ∃ a vs, v = .ref a ∧ (SqL K F a vs ∨ SqT K F a vs) ∧ Rs K F vs ds := by
  cases h with
  | lst h r => cases e; exact ⟨_, _, rfl, .inl (SqL.of h), r⟩
  | tup h r => cases e; exact ⟨_, _, rfl, .inr h, r⟩
  | scr h => cases e; exact ⟨_, _, rfl, .inl h, Rs.of_ints _⟩
  | tpx h _ r => cases e; exact ⟨_, _, rfl, .inr (.inl (.inr ⟨_, h⟩)), r⟩
  | _ => cases e
/-- the items, all shared -/
@[simp] noncomputable def Slot.elems : Slot → Option (List D)
  | .sh d => d.items
  | .own xs => some xs
  | .po xs => some xs
  | _ => none
theorem VOk.elems {K : PySem.W.Frag} {F H : Hp} {O : Own} {n : Nat} {v : V} {s : Slot} {ds : List D} (h : VOk K F H O n s v) (fh : Same F H) (e : s.elems = some ds) : ∃ a vs, v = .ref a ∧ (SqL K H a vs ∨ SqT K H a vs) ∧ Rs K F vs ds := by
  cases s with
  | sh d =>
    obtain ⟨a, vs, rfl, q, r⟩ := R.items h e
    exact ⟨a, vs, rfl, q.imp (fun z => fh.seq z) (fun z => same_seqT fh z), r⟩
  | own xs => cases e; obtain ⟨a, vs, rfl, q, _, r⟩ := h; exact ⟨a, vs, rfl, .inl (SqL.of q), r⟩
  | po xs => cases e; obtain ⟨a, vs, rfl, q, r⟩ := h; exact ⟨a, vs, rfl, .inl (SqL.of q), r⟩
  | _ => cases e
/-- a tracked list, its items shared -/
@[simp] noncomputable def Slot.listD : Slot → Option (List D)
  | .sh (.lst xs) => some xs
  | .own xs => some xs
  | .po xs => some xs
  | _ => none
theorem VOk.listD {K : PySem.W.Frag} {F H : Hp} {O : Own} {n : Nat} {v : V} {s : Slot} {ds : List D} (h : VOk K F H O n s v) (fh : Same F H) (e : s.listD = some ds) : ∃ a vs, v = .ref a ∧ H a = some (.lst vs) ∧ Rs K F vs ds := by
  cases s with
  | sh d =>
    cases d with
    | lst xs => cases e; cases h with | lst q r => exact ⟨_, _, rfl, fh _ _ q, r⟩
    | _ => cases e
  | own xs => cases e; obtain ⟨a, vs, rfl, q, _, r⟩ := h; exact ⟨a, vs, rfl, q, r⟩
  | po xs => cases e; obtain ⟨a, vs, rfl, q, r⟩ := h; exact ⟨a, vs, rfl, q, r⟩
  | _ => cases e

/-! ### x[i] -/
theorem Rs.atI {K : PySem.W.Frag} {F : Hp} {vs : List V} {ds : List D} {i : Int} {d : D} (h : Rs K F vs ds) (e : L2.atI ds i = some d) : ∃ v, L2.atI vs i = some v ∧ R K F v d := by
  unfold L2.atI at e ⊢
  rw [h.length]
  cases q : L2.ixN ds.length i with
  | none => rw [q] at e; cases e
  | some j =>
    rw [q] at e
    exact h.get e
@[simp] noncomputable def ixS : Slot → D → Option Slot
  | .sh (.lst xs), .int i => (atI xs i).map .sh
  | .sh (.tup xs), .int i => (atI xs i).map .sh
  | .sh (.scr ns), .int i => (atI ns i).map fun n => .sh (.int n)
  | .po xs, .int i => (atI xs i).map .sh
  | .pk (.lst xs), .int i => (atI xs i).map .pk
  | .pk (.tup xs), .int i => (atI xs i).map .pk
  | _, _ => none
theorem atI_map {α β : Type} (f : α → β) (xs : List α) (i : Int) : L2.atI (xs.map f) i = (L2.atI xs i).map f := by
  unfold L2.atI
  rw [List.length_map]
  cases L2.ixN xs.length i with
  | none => rfl
  | some j => simp
theorem ixS_ok {K : PySem.W.Frag} {F H : Hp} {O : Own} {n m : Nat} {x y : V} {s s' : Slot} {e : D} {Q : VK} (fh : Same F H) (h : VOk K F H O n s x) (ry : R K H y e) (z : ixS s e = some s') (q : ∀ v, VOk K F H O m s' v → Q v H) : rIx K x y H Q := by
  unfold ixS at z
  split at z
  · rename_i xs i
    cases hd : L2.atI xs i with
    | none => rw [hd] at z; cases z
    | some d =>
      rw [hd] at z; cases z
      cases h with
      | lst q1 r =>
        cases ry
        obtain ⟨v, hv, rv⟩ := r.atI hd
        exact .inl ⟨_, _, _, _, rfl, rfl, fh.seq (SqL.of q1), hv, q v rv⟩
  · rename_i xs i
    cases hd : L2.atI xs i with
    | none => rw [hd] at z; cases z
    | some d =>
      rw [hd] at z; cases z
      cases h with
      | tup q1 r =>
        cases ry
        obtain ⟨v, hv, rv⟩ := r.atI hd
        exact .inr (.inl ⟨_, _, _, _, rfl, rfl, same_seqT fh q1, hv, q v rv⟩)
  · rename_i ns i
    cases hd : L2.atI ns i with
    | none => rw [hd] at z; cases z
    | some d =>
      rw [hd] at z; cases z
      cases h with
      | scr q1 =>
        cases ry
        exact .inl ⟨_, _, _, .int d, rfl, rfl, fh.seq q1, by rw [atI_map, hd]; rfl, q _ (.int d)⟩
  · rename_i xs i
    cases hd : L2.atI xs i with
    | none => rw [hd] at z; cases z
    | some d =>
      rw [hd] at z; cases z
      obtain ⟨a, vs, rfl, q1, r⟩ := h
      cases ry
      obtain ⟨v, hv, rv⟩ := r.atI hd
      exact .inl ⟨_, _, _, _, rfl, rfl, SqL.of q1, hv, q v rv⟩
  · rename_i xs i
    cases hd : L2.atI xs i with
    | none => rw [hd] at z; cases z
    | some d =>
      rw [hd] at z; cases z
      cases h with
      | lst q1 r =>
        cases ry
        obtain ⟨v, hv, rv⟩ := r.atI hd
        exact .inl ⟨_, _, _, _, rfl, rfl, SqL.of q1, hv, q v rv⟩
  · rename_i xs i
    cases hd : L2.atI xs i with
    | none => rw [hd] at z; cases z
    | some d =>
      rw [hd] at z; cases z
      cases h with
      | tup q1 r =>
        cases ry
        obtain ⟨v, hv, rv⟩ := r.atI hd
        exact .inr (.inl ⟨_, _, _, _, rfl, rfl, q1, hv, q v rv⟩)
  · cases z
@[simp] noncomputable def kIx (s t : Slot) (ρ : List Slot) : Res (Slot × List Slot) := (Res.lift t.val).bind fun e => (Res.lift (ixS s e)).bind fun u => .ok (u, ρ)
@[simp] noncomputable def dIx (pb : Bool) (f1 f2 : DEn) (ρ : List Slot) : Res (Slot × List Slot) := (f1 ρ).bind fun p => (Res.lift (p.1.holdS pb)).bind fun s => (f2 p.2).bind fun q => kIx s q.1 q.2
theorem de_ix {pa pb : Bool} {a b : Expr} {pos : Pos} {f1 f2 : DEn} (ha : DE X W pa a f1) (hb : DE X W pb b f2) (hs : PlainIx b := by intro _ _; rfl) : DE X W (pa && pb) (.Subscript a b pos) (dIx pb f1 f2) := by
  refine ⟨PE_imp (pe_ix ix_seq ha.pe hb.pe hs) fun σ H Q ⟨F, O, ρ, rs, h⟩ => two_peS (k := kIx) rs h fun s t ρ2 F2 O2 x y H2 rs2 st p vx vy hk => ?_⟩
  unfold kIx at hk
  rw [Res.wp_bind, Res.wp_lift] at hk
  obtain ⟨e, he, hk⟩ := hk
  rw [Res.wp_bind, Res.wp_lift] at hk
  obtain ⟨u, hu, hk⟩ := hk
  exact ixS_ok rs2.fh vx (vy.read rs2.fh he) hu fun v vo => hk F2 O2 v H2 rs2 vo st p

/-! ### operators that make a list -/
structure OpL (X : Cx) (fn : Value → Value → Sem Value) (g : Slot → Slot → Option (List D)) : Prop where
  op : ∃ r : R2, OpR X fn r ∧ ∀ F H O n x y s t ds Q, Same F H → VOk X.K F H O n s x → VOk X.K F H O n t y → g s t = some ds → (∀ p vs, H p = none → Rs X.K F vs ds → Q (.ref p) (upd H p (.lst vs))) → r x y H Q
@[simp] noncomputable def kL (g : Slot → Slot → Option (List D)) (s t : Slot) (ρ : List Slot) : Res (Slot × List Slot) := (Res.lift (g s t)).bind fun u => .ok (.own u, ρ)
@[simp] noncomputable def dBinL (pb : Bool) (g : Slot → Slot → Option (List D)) (f1 f2 : DEn) (ρ : List Slot) : Res (Slot × List Slot) := (f1 ρ).bind fun p => (Res.lift (p.1.holdS pb)).bind fun s => (f2 p.2).bind fun q => kL g s q.1 q.2
theorem de_binL {pa pb : Bool} {a b : Expr} {op : Operator} {pos : Pos} {g : Slot → Slot → Option (List D)} {f1 f2 : DEn} (o : OpL X (binaryOp op) g) (ha : DE X W pa a f1) (hb : DE X W pb b f2) : DE X W (pa && pb) (.BinOp a op b pos) (dBinL pb g f1 f2) := by
  obtain ⟨r, hr, hq⟩ := o.op
  refine ⟨PE_imp (pe_op hr ha.pe hb.pe) fun σ H Q ⟨F, O, ρ, rs, h⟩ => two_peS (k := kL g) rs h fun s t ρ2 F2 O2 x y H2 rs2 st p vx vy hk => ?_⟩
  unfold kL at hk
  rw [Res.wp_bind, Res.wp_lift] at hk
  obtain ⟨u, hu, hk⟩ := hk
  refine hq F2 H2 O2 ρ2.length x y s t u Q rs2.fh vx vy hu fun q vs nq rv => ?_
  obtain ⟨a, b, c, d⟩ := rs2.newList nq rv
  exact hk F2 _ _ _ a b (st.trans c) fun z => (p z).trans d
@[simp] noncomputable def catL (s t : Slot) : Option (List D) := do
  let xs ← s.listD
  let ys ← t.listD
  if xs.length + ys.length ≤ sizeLine then some (xs ++ ys) else none
theorem opl_cat : OpL X (binaryOp .Add) catL := by
  refine ⟨_, op_cat, fun F H O n x y s t ds Q fh vx vy e q => ?_⟩
  unfold catL at e
  cases hx : s.listD with
  | none => rw [hx] at e; cases e
  | some xs =>
    cases hy : t.listD with
    | none => rw [hx, hy] at e; cases e
    | some ys =>
      simp only [hx, hy, bind, Option.bind] at e
      by_cases hl : xs.length + ys.length ≤ sizeLine
      · rw [if_pos hl] at e
        cases e
        obtain ⟨a, vs, rfl, h1, r1⟩ := vx.listD fh hx
        obtain ⟨b, ws, rfl, h2, r2⟩ := vy.listD fh hy
        exact ⟨a, b, vs, ws, rfl, rfl, h1, h2, by rw [r1.length, r2.length]; exact hl, fun p np => q p _ np (r1.append r2)⟩
      · rw [if_neg hl] at e; cases e
@[simp] noncomputable def repL (s t : Slot) : Option (List D) := do
  let xs ← s.listD
  match t.val with
  | some (.int k) => @ite _ (k < 1000000 ∧ xs.length * k.toNat ≤ sizeLine ∧ -1000000 < k) (Classical.propDecidable _) (some (List.replicate k.toNat xs).flatten) none
  | _ => none
theorem Rs.rep {K : PySem.W.Frag} {F : Hp} {vs : List V} {ds : List D} (h : Rs K F vs ds) : ∀ k : Nat, Rs K F (List.replicate k vs).flatten (List.replicate k ds).flatten
  | 0 => .nil
  | k + 1 => by
    rw [List.replicate_succ, List.replicate_succ, List.flatten_cons, List.flatten_cons]
    exact h.append (Rs.rep h k)
theorem opl_rep : OpL X (binaryOp .Mult) repL := by
  refine ⟨_, op_rep, fun F H O n x y s t ds Q fh vx vy e q => ?_⟩
  unfold repL at e
  cases hx : s.listD with
  | none => rw [hx] at e; cases e
  | some xs =>
    simp only [hx, bind, Option.bind] at e
    split at e
    · rename_i k hk
      split at e
      · rename_i hc
        cases e
        obtain ⟨a, vs, rfl, h1, r1⟩ := vx.listD fh hx
        have ry := vy.read fh hk
        cases ry
        obtain ⟨c1, c2, c3⟩ := hc
        exact ⟨a, k, vs, rfl, rfl, h1, by omega, by omega, by rw [r1.length]; exact c2, fun p np => q p _ np (r1.rep _)⟩
      · cases e
    · cases e

/-! ### slices -/
abbrev DOn := List Slot → Res (Option Int × List Slot)
noncomputable def PBO (K : PySem.W.Frag) (pu : Bool) (F : Hp) (O : Own) (σ : L2.St) (H : Hp) (Q : Option Int → Hp → Prop) : Option Int × List Slot → Prop := fun p =>
  ∀ F' O' H', RS K F' σ p.2 H' O' → Step F H O F' H' O' → (pu = true → Same H H') → Q p.1 H'
noncomputable def dO (K : PySem.W.Frag) (mg : Str → Option Value) (W : WX) (pu : Bool) (f : DOn) : TO := fun σ H Q => ∃ F O ρ, RS K F σ ρ H O ∧ (f ρ).wp (PBO K pu F O σ H Q) (PX K mg W F O σ H)
structure DO (X : Cx) (W : WX) (pu : Bool) (e : Option Expr) (f : DOn) : Prop where
  po : PO X e (dO X.K X.mg W pu f)
@[simp] noncomputable def dNoP (ρ : List Slot) : Res (Option Int × List Slot) := .ok (none, ρ)
@[simp] noncomputable def asInt : D → Option Int
  | .int i => some i
  | _ => none
theorem asInt_some {d : D} {i : Int} (h : asInt d = some i) : d = .int i := by
  cases d <;> first | (cases h; rfl) | cases h
@[simp] noncomputable def dPart (f : DEn) (ρ : List Slot) : Res (Option Int × List Slot) := (f ρ).bind fun p => (Res.lift p.1.val).bind fun d => (Res.lift (asInt d)).bind fun i => .ok (some i, p.2)
theorem PO_imp {e : Option Expr} {t t' : TO} (h : PO X e t) (g : ∀ σ H Q, t' σ H Q → t σ H Q) : PO X e t' := ⟨fun pins s σ H Q I q => h.run pins s σ H Q I (g σ H Q q)⟩
theorem do_none : DO X W true none dNoP := ⟨PO_imp po_none fun σ H Q ⟨F, O, ρ, rs, h⟩ => h F O H rs .refl fun _ => Same.refl H⟩
theorem do_some {pu : Bool} {e : Expr} {f : DEn} (he : DE X W pu e f) : DO X W pu (some e) (dPart f) := by
  refine ⟨PO_imp (po_some he.pe) fun σ H Q ⟨F, O, ρ, rs, h⟩ => one_pe (k := fun d ρ1 => (Res.lift (asInt d)).bind fun i => Res.ok (some i, ρ1)) rs h fun d ρ1 F1 O1 x H1 rs1 st1 p1 rx hk => ?_⟩
  rw [Res.wp_bind, Res.wp_lift] at hk
  obtain ⟨i, hi, hk⟩ := hk
  have e := asInt_some hi
  subst e
  cases rx
  exact ⟨i, rfl, hk F1 O1 H1 rs1 st1 p1⟩
/-- xs[lo:hi] -/
noncomputable def cut {α : Type} (xs : List α) (lo hi : Option Int) : List α := (xs.drop (HT.sIx xs.length 0 lo)).take (HT.sIx xs.length xs.length hi - HT.sIx xs.length 0 lo)
theorem Rs.cut {K : PySem.W.Frag} {F : Hp} {vs : List V} {ds : List D} (h : Rs K F vs ds) (lo hi : Option Int) : Rs K F (cutV vs lo hi) (DL.cut ds lo hi) := by
  unfold cutV DL.cut
  rw [h.length]
  exact (h.drop _).take _
/-- the slice of a list is new; the slice of a tuple is that tuple itself or new -/
@[simp] noncomputable def slS (s : Slot) (lo hi : Option Int) : Option Slot := match s with
  | .sh (.lst xs) => some (.own (cut xs lo hi))
  | .own xs => some (.own (cut xs lo hi))
  | .po xs => some (.own (cut xs lo hi))
  | .sh (.scr ns) => some (.own ((cut ns lo hi).map D.int))
  | .sh (.tup xs) => some (.sh (.tup (cut xs lo hi)))
  | _ => none
@[simp] noncomputable def dSl (pl : Bool) (f : DEn) (fl fh : DOn) (ρ : List Slot) : Res (Slot × List Slot) := (f ρ).bind fun p => (Res.lift (p.1.holdS pl)).bind fun s => (fl p.2).bind fun l => (fh l.2).bind fun u => (Res.lift (slS s l.1 u.1)).bind fun t => .ok (t, u.2)
theorem cut_map {α β : Type} (f : α → β) (xs : List α) (lo hi : Option Int) : DL.cut (xs.map f) lo hi = (DL.cut xs lo hi).map f := by
  unfold DL.cut
  rw [List.length_map, List.map_take, List.map_drop]
theorem cutV_eq (xs : List V) (lo hi : Option Int) : cutV xs lo hi = DL.cut xs lo hi := rfl
theorem cut_whole {α : Type} {xs : List α} {lo hi : Option Int} (h : HT.sIx xs.length 0 lo = 0 ∧ HT.sIx xs.length xs.length hi = xs.length) : DL.cut xs lo hi = xs := by
  unfold DL.cut
  rw [h.1, h.2]
  simp
theorem de_slice {pa pl ph : Bool} {e : Expr} {lo hi : Option Expr} {p2 pos : Pos} {f : DEn} {fl fh : DOn} (he : DE X W pa e f) (hl : DO X W pl lo fl) (hu : DO X W ph hi fh) :
    DE X W (pa && (pl && ph)) (.Subscript e (.Slice lo hi none p2) pos) (dSl (pl && ph) f fl fh) := by
  refine ⟨PE_imp (pe_slice (r := fun x l u H Q => rSlL X.K x l u H Q ∨ rSlA X.K x l u H Q) (sl_list.or sl_tupA) he.pe hl.po hu.po) fun σ H Q ⟨F, O, ρ, rs, h⟩ => ⟨F, O, ρ, rs, ?_⟩⟩
  unfold dSl at h
  rw [Res.wp_bind] at h
  refine Res.wp_mono h (fun p hp => ?_) (fun _ _ e => e)
  intro F1 O1 x H1 rs1 v1 st1 pu1
  rw [Res.wp_bind, Res.wp_lift] at hp
  obtain ⟨s, hd, hp⟩ := hp
  obtain ⟨F1', O1', rs1', st1', vh, kh⟩ := rs1.holdS v1 hd
  refine ⟨F1', O1', p.2, rs1', ?_⟩
  rw [Res.wp_bind] at hp
  refine Res.wp_mono hp (fun l hp2 => ?_) (PX.step (st1.trans st1'))
  intro F2 O2 H2 rs2 st2 pu2
  refine ⟨F2, O2, l.2, rs2, ?_⟩
  rw [Res.wp_bind] at hp2
  refine Res.wp_mono hp2 (fun u hq => ?_) (PX.step ((st1.trans st1').trans st2))
  intro F3 O3 H3 rs3 st3 pu3
  rw [Res.wp_bind, Res.wp_lift] at hq
  obtain ⟨t, ht, hq⟩ := hq
  have st := (st1.trans st1').trans (st2.trans st3)
  have vs3 : VOk X.K F3 H3 O3 u.2.length s x := vh.later (m := u.2.length) (O' := O3) kh (st2.fr.trans st3.fr) fun z => by
    simp only [Bool.and_eq_true] at z
    exact (pu2 z.1).trans (pu3 z.2)
  have ps : (pa && (pl && ph)) = true → Same H H3 := fun z => by
    simp only [Bool.and_eq_true] at z
    exact (pu1 z.1).trans ((pu2 z.2.1).trans (pu3 z.2.2))
  have listy : ∀ {ds : List D}, s.elems = some ds → (∃ a vs, x = .ref a ∧ SqL X.K H3 a vs ∧ Rs X.K F3 vs ds) → t = .own (DL.cut ds l.1 u.1) → rSlL X.K x l.1 u.1 H3 Q := fun {ds} _ ⟨a, vs, e1, q1, r1⟩ e2 => by
    refine ⟨a, vs, e1, q1, fun q nq => ?_⟩
    obtain ⟨a, b, c, d⟩ := rs3.newList nq (r1.cut l.1 u.1)
    subst e2
    exact hq F3 _ _ _ a b (st.trans c) fun z => (ps z).trans d
  unfold slS at ht
  split at ht
  · rename_i xs
    cases ht
    cases vs3 with
    | lst q r => exact .inl (listy rfl ⟨_, _, rfl, SqL.of (rs3.fh _ _ q), r⟩ rfl)
  · rename_i xs
    exact kh.elim
  · rename_i xs
    cases ht
    obtain ⟨a, vs, rfl, q, r⟩ := vs3
    exact .inl (listy rfl ⟨_, _, rfl, SqL.of q, r⟩ rfl)
  · rename_i ns
    cases ht
    cases vs3 with
    | scr q => exact .inl (listy rfl ⟨_, _, rfl, rs3.fh.seq q, Rs.of_ints ns⟩ (by rw [cut_map]))
  · rename_i xs
    cases ht
    cases vs3 with
    | tup q r =>
      rename_i a vs
      refine .inr ⟨a, vs, rfl, same_seqT rs3.fh q, fun hw => ?_, fun hw q nq => ?_⟩
      · have ew : DL.cut xs l.1 u.1 = xs := cut_whole (by rw [← r.length]; exact hw)
        rw [ew] at hq
        exact hq F3 O3 _ H3 rs3 (.tup q r) st ps
      · obtain ⟨a, b, c, d⟩ := rs3.newTup nq (r.cut l.1 u.1)
        exact hq _ _ _ _ a b (st.trans c) fun z => (ps z).trans d
  · cases ht
end
end DL
namespace DL
open PySem PySem.Spec PyProof.Rows L2
/-! ### == of data -/
mutual
noncomputable def deq : D → D → Bool
  | .non, .non => true
  | .bl a, .bl b => a == b
  | .bl a, .int j => (if a then 1 else 0) == j
  | .int i, .bl b => i == (if b then 1 else 0)
  | .int i, .int j => i == j
  | .str x, .str y => x == y
  | .lst xs, .lst ys => deqs xs ys
  | .tup xs, .tup ys => deqs xs ys
  | _, _ => false
noncomputable def deqs : List D → List D → Bool
  | [], [] => true
  | x :: xs, y :: ys => deq x y && deqs xs ys
  | _, _ => false
end
mutual
noncomputable def D.toPy : D → PyData
  | .non => .none
  | .bl b => .bool b
  | .int i => .int i
  | .str x => .str x
  | .lst xs => .list (toPys xs)
  | .tup xs => .tuple (toPys xs)
  | .scr ns => .list (ns.map .int)
  | .dct _ _ => .none
  | .tpx _ => .none
  | .exc _ => .none
noncomputable def toPys : List D → List PyData
  | [] => []
  | x :: xs => x.toPy :: toPys xs
end
mutual
/-- data that == walks: no dict, no script, nested at most n deep -/
@[simp] noncomputable def D.fit : D → Nat → Bool
  | .non, _ => true
  | .bl _, _ => true
  | .int _, _ => true
  | .str x, _ => PyData.strOk x
  | .lst xs, n + 1 => fits xs n
  | .tup xs, n + 1 => fits xs n
  | _, _ => false
@[simp] noncomputable def fits : List D → Nat → Bool
  | [], _ => true
  | x :: xs, n => x.fit n && fits xs n
end
mutual
theorem deq_py : ∀ (d e : D) (n m : Nat), d.fit n = true → e.fit m = true → deq d e = PyData.eqv d.toPy e.toPy
  | .non, e, _, _, _, h => by cases e <;> first | rfl | (simp [D.fit] at h)
  | .bl a, e, _, _, _, h => by cases e <;> first | rfl | (simp [D.fit] at h)
  | .int a, e, _, _, _, h => by cases e <;> first | rfl | (simp [D.fit] at h)
  | .str a, e, _, _, _, h => by cases e <;> first | rfl | (simp [D.fit] at h)
  | .lst xs, e, n, m, h1, h => by
    cases e with
    | lst ys =>
      cases n with
      | zero => simp [D.fit] at h1
      | succ n =>
        cases m with
        | zero => simp [D.fit] at h
        | succ m => exact deqs_py xs ys n m h1 h
    | scr _ => simp [D.fit] at h
    | dct _ _ => simp [D.fit] at h
    | tpx _ => simp [D.fit] at h
    | exc _ => simp [D.fit] at h
    | _ => rfl
  | .tup xs, e, n, m, h1, h => by
    cases e with
    | tup ys =>
      cases n with
      | zero => simp [D.fit] at h1
      | succ n =>
        cases m with
        | zero => simp [D.fit] at h
        | succ m => exact deqs_py xs ys n m h1 h
    | scr _ => simp [D.fit] at h
    | dct _ _ => simp [D.fit] at h
    | tpx _ => simp [D.fit] at h
    | exc _ => simp [D.fit] at h
    | _ => rfl
  | .scr _, _, _, _, h, _ => by simp [D.fit] at h
  | .dct _ _, _, _, _, h, _ => by simp [D.fit] at h
  | .tpx _, _, _, _, h, _ => by simp [D.fit] at h
  | .exc _, _, _, _, h, _ => by simp [D.fit] at h
theorem deqs_py : ∀ (ds es : List D) (n m : Nat), fits ds n = true → fits es m = true → deqs ds es = PyData.eqvAll (toPys ds) (toPys es)
  | [], es, _, _, _, _ => by cases es <;> rfl
  | x :: xs, es, n, m, h1, h => by
    cases es with
    | nil => rfl
    | cons y ys =>
      have a : x.fit n = true ∧ fits xs n = true := by simpa [fits] using h1
      have b : y.fit m = true ∧ fits ys m = true := by simpa [fits] using h
      show (deq x y && deqs xs ys) = (PyData.eqv x.toPy y.toPy && PyData.eqvAll (toPys xs) (toPys ys))
      rw [deq_py x y n m a.1 b.1, deqs_py xs ys n m a.2 b.2]
end
mutual
theorem fit_py : ∀ (d : D) (n : Nat), d.fit n = true → d.toPy.canLay0 = true ∧ d.toPy.depth ≤ n
  | .non, _, _ => ⟨rfl, Nat.zero_le _⟩
  | .bl _, _, _ => ⟨rfl, Nat.zero_le _⟩
  | .int _, _, _ => ⟨rfl, Nat.zero_le _⟩
  | .str x, _, h => ⟨h, Nat.zero_le _⟩
  | .lst xs, 0, h => by simp [D.fit] at h
  | .lst xs, n + 1, h => by
    obtain ⟨a, b⟩ := fits_py xs n h
    exact ⟨a, Nat.succ_le_succ b⟩
  | .tup xs, 0, h => by simp [D.fit] at h
  | .tup xs, n + 1, h => by
    obtain ⟨a, b⟩ := fits_py xs n h
    exact ⟨a, Nat.succ_le_succ b⟩
  | .scr _, _, h => by simp [D.fit] at h
  | .dct _ _, _, h => by simp [D.fit] at h
  | .tpx _, _, h => by simp [D.fit] at h
  | .exc _, _, h => by simp [D.fit] at h
theorem fits_py : ∀ (ds : List D) (n : Nat), fits ds n = true → PyData.canLayAll0 (toPys ds) = true ∧ PyData.depthAll (toPys ds) ≤ n
  | [], n, _ => ⟨rfl, Nat.zero_le _⟩
  | x :: xs, n, h => by
    have a : x.fit n = true ∧ fits xs n = true := by simpa [fits] using h
    obtain ⟨a1, a2⟩ := fit_py x n a.1
    obtain ⟨b1, b2⟩ := fits_py xs n a.2
    refine ⟨?_, ?_⟩
    · show (PyData.canLay0 x.toPy && PyData.canLayAll0 (toPys xs)) = true
      rw [a1, b1]; rfl
    · show max x.toPy.depth (PyData.depthAll (toPys xs)) ≤ n
      omega
end
mutual
theorem R.dp {K : PySem.W.Frag} {F : Hp} : ∀ (d : D) (v : V) (n : Nat), d.fit n = true → R K F v d → Dp K F v d.toPy
  | .non, _, _, _, h => by cases h; exact .non
  | .bl _, _, _, _, h => by cases h; exact .bl _
  | .int _, _, _, _, h => by cases h; exact .int _
  | .str _, _, _, _, h => by cases h; exact .str _
  | .lst xs, _, 0, f, h => by simp [D.fit] at f
  | .lst xs, _, n + 1, f, h => by cases h with | lst q r => exact .lst (SqL.of q) (Rs.dp xs _ n f r)
  | .tup xs, _, 0, f, h => by simp [D.fit] at f
  | .tup xs, _, n + 1, f, h => by cases h with | tup q r => exact .tup q (Rs.dp xs _ n f r)
  | .scr _, _, _, f, _ => by simp [D.fit] at f
  | .dct _ _, _, _, f, _ => by simp [D.fit] at f
  | .tpx _, _, _, f, _ => by simp [D.fit] at f
  | .exc _, _, _, f, _ => by simp [D.fit] at f
theorem Rs.dp {K : PySem.W.Frag} {F : Hp} : ∀ (ds : List D) (vs : List V) (n : Nat), fits ds n = true → Rs K F vs ds → DpAll K F vs (toPys ds)
  | [], _, _, _, h => by cases h; exact .nil
  | x :: xs, _, n, f, h => by
    have a : x.fit n = true ∧ fits xs n = true := by simpa [fits] using f
    cases h with | cons r rs => exact .cons (R.dp x _ n a.1 r) (Rs.dp xs _ n a.2 rs)
end
theorem fit_shaped {d : D} (h : d.fit 60 = true) : SeqAt.shaped d.toPy = true := by
  obtain ⟨a, b⟩ := fit_py d 60 h
  unfold SeqAt.shaped
  rw [a, decide_eq_true (show d.toPy.depth ≤ 64 by omega)]
  rfl
@[simp] noncomputable def gEq (d e : D) : Option D := if d.fit 60 = true ∧ e.fit 60 = true then some (.bl (deq d e)) else none
@[simp] noncomputable def gNe (d e : D) : Option D := if d.fit 60 = true ∧ e.fit 60 = true then some (.bl (!deq d e)) else none

/-! ### operators on ints -/
@[simp] noncomputable def gAdd : D → D → Option D
  | .int i, .int j => some (.int (i + j))
  | _, _ => none
@[simp] noncomputable def gSub : D → D → Option D
  | .int i, .int j => some (.int (i - j))
  | _, _ => none
noncomputable def gMul : D → D → Option D
  | .int i, .int j => @ite _ (i.natAbs.log2 + j.natAbs.log2 < 100000000) (Classical.propDecidable _) (some (.int (i * j))) none
  | _, _ => none
noncomputable def gFdiv : D → D → Option D
  | .int i, .int j => @ite _ (0 < j ∧ j < 18446744073709551616) (Classical.propDecidable _) (some (.int (i / j))) none
  | _, _ => none
@[simp] noncomputable def gMod : D → D → Option D
  | .int i, .int j => if 0 < j then some (.int (i % j)) else none
  | _, _ => none
noncomputable def gPow : D → D → Option D
  | .int i, .int j => @ite _ (0 ≤ j ∧ j ≤ 1000000 ∧ i.natAbs < 18446744073709551616) (Classical.propDecidable _) (some (.int (i ^ j.toNat))) none
  | _, _ => none
noncomputable def gShl : D → D → Option D
  | .int i, .int j => @ite _ (0 ≤ j ∧ j ≤ 1000000 ∧ i.natAbs < 18446744073709551616) (Classical.propDecidable _) (some (.int (i * 2 ^ j.toNat))) none
  | _, _ => none
@[simp] noncomputable def gShr : D → D → Option D
  | .int i, .int j => if 0 ≤ j then some (.int (i / 2 ^ j.toNat)) else none
  | _, _ => none
@[simp] noncomputable def gAnd : D → D → Option D
  | .int i, .int j => some (.int (Builtin.bitAnd i j))
  | _, _ => none
@[simp] noncomputable def gOr : D → D → Option D
  | .int i, .int j => some (.int (Builtin.bitOr i j))
  | _, _ => none
@[simp] noncomputable def gXor : D → D → Option D
  | .int i, .int j => some (.int (Builtin.bitXor i j))
  | _, _ => none
@[simp] noncomputable def gLt : D → D → Option D
  | .int i, .int j => some (.bl (decide (i < j)))
  | _, _ => none
@[simp] noncomputable def gLe : D → D → Option D
  | .int i, .int j => some (.bl (decide (i ≤ j)))
  | _, _ => none
@[simp] noncomputable def gGt : D → D → Option D
  | .int i, .int j => some (.bl (decide (j < i)))
  | _, _ => none
@[simp] noncomputable def gGe : D → D → Option D
  | .int i, .int j => some (.bl (decide (j ≤ i)))
  | _, _ => none
@[simp] noncomputable def D.isNon : D → Bool
  | .non => true
  | _ => false
@[simp] noncomputable def gIs : D → D → Option D
  | d, .non => some (.bl d.isNon)
  | .bl a, .bl b => some (.bl (decide (a = b)))
  | _, _ => none
@[simp] noncomputable def gIsNot : D → D → Option D
  | d, .non => some (.bl (!d.isNon))
  | .bl a, .bl b => some (.bl (!decide (a = b)))
  | _, _ => none
/-- x in a list, a tuple of scalars -/
@[simp] noncomputable def D.flats : D → Option (List D)
  | .lst xs => if xs.all D.flat then some xs else none
  | .tup xs => if xs.all D.flat then some xs else none
  | .scr ns => some (ns.map D.int)
  | _ => none
@[simp] noncomputable def gIn (d e : D) : Option D := if d.flat then (e.flats.map fun xs => .bl (xs.any fun y => deq y d)) else none
@[simp] noncomputable def gNotIn (d e : D) : Option D := if d.flat then (e.flats.map fun xs => .bl (!xs.any fun y => deq y d)) else none
theorem eqV_v {a b : D} (ha : a.flat = true) (hb : b.flat = true) : eqV a.v b.v = deq a b := by
  cases a <;> cases b <;> first | (cases ha; done) | (cases hb; done) | rfl
theorem flat_v {d : D} (h : d.flat = true) : flatV d.v = true := by
  cases d <;> first | rfl | cases h
theorem Rs.flat {K : PySem.W.Frag} {F : Hp} : ∀ {vs : List V} {ds : List D}, Rs K F vs ds → ds.all D.flat = true → vs = ds.map D.v
  | _, [], h, _ => by cases h; rfl
  | _, d :: ds, h, f => by
    have f' : d.flat = true ∧ ds.all D.flat = true := by simpa using f
    cases h with
    | cons r t => rw [R.flat_v r f'.1, Rs.flat t f'.2]; rfl
theorem inV_v {d : D} (hd : d.flat = true) : ∀ {xs : List D}, xs.all D.flat = true → inV d.v (xs.map D.v) = xs.any fun y => deq y d
  | [], _ => rfl
  | x :: xs, h => by
    have h' : x.flat = true ∧ xs.all D.flat = true := by simpa using h
    have ih := inV_v hd h'.2
    unfold inV at ih ⊢
    rw [List.map_cons, List.any_cons, List.any_cons, eqV_v h'.1 hd, ih]
theorem flatV_all : ∀ {xs : List D}, xs.all D.flat = true → (xs.map D.v).all flatV = true
  | [], _ => rfl
  | x :: xs, h => by
    have h' : x.flat = true ∧ xs.all D.flat = true := by simpa using h
    rw [List.map_cons, List.all_cons, flat_v h'.1, flatV_all h'.2]
    rfl
theorem ints_flat (ns : List Int) : (ns.map D.int).all D.flat = true := by
  induction ns with
  | nil => rfl
  | cons n ns ih => rw [List.map_cons, List.all_cons, ih]; rfl
theorem ite_some {α : Type} {c : Prop} {_ : Decidable c} {a b : α} (h : (if c then some a else none) = some b) : c ∧ a = b := by
  by_cases q : c
  · rw [if_pos q] at h; exact ⟨q, Option.some.inj h⟩
  · rw [if_neg q] at h; cases h
theorem R.flats {K : PySem.W.Frag} {F : Hp} {v : V} {d : D} {xs : List D} (h : R K F v d) (e : d.flats = some xs) : xs.all D.flat = true ∧ ∃ a, v = .ref a ∧ (SqL K F a (xs.map D.v) ∨ SqT K F a (xs.map D.v)) := by
  cases h with
  | lst q r =>
    obtain ⟨hf, e⟩ := ite_some (show (if _ then some _ else none) = some xs from e)
    subst e
    rw [← Rs.flat r hf]
    exact ⟨hf, _, rfl, .inl (SqL.of q)⟩
  | tup q r =>
    obtain ⟨hf, e⟩ := ite_some (show (if _ then some _ else none) = some xs from e)
    subst e
    rw [← Rs.flat r hf]
    exact ⟨hf, _, rfl, .inr q⟩
  | scr q =>
    have e : xs = _ := (Option.some.inj e).symm
    subst e
    refine ⟨ints_flat _, _, rfl, .inl ?_⟩
    rw [List.map_map]
    exact q
  | _ => exact nomatch e
section
variable {X : Cx}
theorem opI_ok {fn : Value → Value → Sem Value} {C : Int → Int → Prop} {f : Int → Int → Int} {g : D → D → Option D} (h : OpR X fn (rI C fun i j => .int (f i j)))
    (hg : ∀ d e z, g d e = some z → ∃ i j, d = .int i ∧ e = .int j ∧ C i j ∧ z = .int (f i j)) : OpS X fn g :=
  ⟨_, h, fun H x y d e z Q rx ry hz q => by
    obtain ⟨i, j, rfl, rfl, c, rfl⟩ := hg d e z hz
    cases rx; cases ry
    exact ⟨i, j, rfl, rfl, c, q rfl⟩⟩
theorem opI0_ok {fn : Value → Value → Sem Value} {f : Int → Int → D} {g : D → D → Option D} (h : OpR X fn (rI0 fun i j => (f i j).v)) (hf : ∀ i j, (f i j).flat = true)
    (hg : ∀ d e z, g d e = some z → ∃ i j, d = .int i ∧ e = .int j ∧ z = f i j) : OpS X fn g :=
  ⟨_, h, fun H x y d e z Q rx ry hz q => by
    obtain ⟨i, j, rfl, rfl, rfl⟩ := hg d e z hz
    cases rx; cases ry
    exact ⟨i, j, rfl, rfl, q (hf i j)⟩⟩
theorem os_add : OpS X (binaryOp .Add) gAdd := opI0_ok (f := fun i j => .int (i + j)) op_add (fun _ _ => rfl) fun d e z h => by
  cases d <;> cases e <;> first | (cases h; done) | exact ⟨_, _, rfl, rfl, (Option.some.inj h).symm⟩
theorem os_sub : OpS X (binaryOp .Sub) gSub := opI0_ok (f := fun i j => .int (i - j)) op_sub (fun _ _ => rfl) fun d e z h => by
  cases d <;> cases e <;> first | (cases h; done) | exact ⟨_, _, rfl, rfl, (Option.some.inj h).symm⟩
theorem os_and : OpS X (binaryOp .BitAnd) gAnd := opI0_ok (f := fun i j => .int (Builtin.bitAnd i j)) op_and (fun _ _ => rfl) fun d e z h => by
  cases d <;> cases e <;> first | (cases h; done) | exact ⟨_, _, rfl, rfl, (Option.some.inj h).symm⟩
theorem os_or : OpS X (binaryOp .BitOr) gOr := opI0_ok (f := fun i j => .int (Builtin.bitOr i j)) op_or (fun _ _ => rfl) fun d e z h => by
  cases d <;> cases e <;> first | (cases h; done) | exact ⟨_, _, rfl, rfl, (Option.some.inj h).symm⟩
theorem os_xor : OpS X (binaryOp .BitXor) gXor := opI0_ok (f := fun i j => .int (Builtin.bitXor i j)) op_xor (fun _ _ => rfl) fun d e z h => by
  cases d <;> cases e <;> first | (cases h; done) | exact ⟨_, _, rfl, rfl, (Option.some.inj h).symm⟩
theorem os_lt : OpS X (compareOp .Lt) gLt := opI0_ok (f := fun i j => .bl (decide (i < j))) op_lt (fun _ _ => rfl) fun d e z h => by
  cases d <;> cases e <;> first | (cases h; done) | exact ⟨_, _, rfl, rfl, (Option.some.inj h).symm⟩
theorem os_le : OpS X (compareOp .LtE) gLe := opI0_ok (f := fun i j => .bl (decide (i ≤ j))) op_le (fun _ _ => rfl) fun d e z h => by
  cases d <;> cases e <;> first | (cases h; done) | exact ⟨_, _, rfl, rfl, (Option.some.inj h).symm⟩
theorem os_gt : OpS X (compareOp .Gt) gGt := opI0_ok (f := fun i j => .bl (decide (j < i))) op_gt (fun _ _ => rfl) fun d e z h => by
  cases d <;> cases e <;> first | (cases h; done) | exact ⟨_, _, rfl, rfl, (Option.some.inj h).symm⟩
theorem os_ge : OpS X (compareOp .GtE) gGe := opI0_ok (f := fun i j => .bl (decide (j ≤ i))) op_ge (fun _ _ => rfl) fun d e z h => by
  cases d <;> cases e <;> first | (cases h; done) | exact ⟨_, _, rfl, rfl, (Option.some.inj h).symm⟩
/-- * of two factors of together less than a hundred million bits -/
def CMulX (i j : Int) : Prop := i.natAbs.log2 + j.natAbs.log2 < 100000000
theorem bits_log (y : Int) : Builtin.Int.intBits y < y.natAbs.log2 + 2 := by
  unfold Builtin.Int.intBits
  split <;> omega
theorem CMulX.ok {i j : Int} (h : CMulX i j) : IntMulOk i j := by
  unfold IntMulOk
  intro t
  have b1 := bits_log i
  have b2 := bits_log j
  have q : i.natAbs.log2 + j.natAbs.log2 < 100000000 := h
  have line : bitsLine = 134217728 := by decide
  have big := (Bool.and_eq_true_iff.mp t).2
  unfold Builtin.Int.intTooBig at big
  have big2 := of_decide_eq_true big
  rw [line] at big2
  omega
theorem op_mulX : OpR X (binaryOp .Mult) (rI CMulX fun i j => .int (i * j)) := opI fun _ _ _ _ _ _ _ hc q => mul_int q hc.ok
theorem iop_mulX : OpR X (inplaceOp .Mult) (rI CMulX fun i j => .int (i * j)) := opI fun _ _ _ _ _ _ _ hc q => imul_int q hc.ok
theorem os_mul : OpS X (binaryOp .Mult) gMul := opI_ok op_mulX fun d e z h => by
  cases d <;> cases e <;> first | (cases h; done) | skip
  rename_i i j
  obtain ⟨c, e⟩ := ite_some h
  exact ⟨_, _, rfl, rfl, c, e.symm⟩
theorem os_fdiv : OpS X (binaryOp .FloorDiv) gFdiv := opI_ok op_fdivW fun d e z h => by
  cases d <;> cases e <;> first | (cases h; done) | skip
  rename_i i j
  obtain ⟨c, e⟩ := ite_some h
  exact ⟨_, _, rfl, rfl, wide_div (b := 64) c.1 (by have := c.2; omega) (by decide) (by decide), e.symm⟩
theorem os_mod : OpS X (binaryOp .Mod) gMod := opI_ok op_mod fun d e z h => by
  cases d <;> cases e <;> first | (cases h; done) | skip
  rename_i i j
  obtain ⟨c, e⟩ := ite_some h
  exact ⟨_, _, rfl, rfl, c, e.symm⟩
theorem os_pow : OpS X (binaryOp .Pow) gPow := opI_ok op_pow fun d e z h => by
  cases d <;> cases e <;> first | (cases h; done) | skip
  rename_i i j
  obtain ⟨c, e⟩ := ite_some h
  exact ⟨_, _, rfl, rfl, c, e.symm⟩
theorem os_shl : OpS X (binaryOp .LShift) gShl := opI_ok op_shl fun d e z h => by
  cases d <;> cases e <;> first | (cases h; done) | skip
  rename_i i j
  obtain ⟨c, e⟩ := ite_some h
  exact ⟨_, _, rfl, rfl, c, e.symm⟩
theorem os_shr : OpS X (binaryOp .RShift) gShr := opI_ok op_shr fun d e z h => by
  cases d <;> cases e <;> first | (cases h; done) | skip
  rename_i i j
  obtain ⟨c, e⟩ := ite_some h
  exact ⟨_, _, rfl, rfl, c, e.symm⟩
theorem os_eq {k : Nat} {A : Around} (hr : Room k A) (hA : X.A = A := by rfl) : OpS X (compareOp .Eq) gEq := ⟨_, op_eqD (by rw [hA]; exact hr.units), fun H x y d e z Q rx ry hz q => by
  unfold gEq at hz
  split at hz
  · rename_i c
    cases hz
    exact ⟨_, _, R.dp d x 60 c.1 rx, R.dp e y 60 c.2 ry, fit_shaped c.1, fit_shaped c.2, by rw [← deq_py d e 60 60 c.1 c.2]; exact q rfl⟩
  · cases hz⟩
theorem os_ne {k : Nat} {A : Around} (hr : Room k A) (hA : X.A = A := by rfl) : OpS X (compareOp .NotEq) gNe := ⟨_, op_neD (by rw [hA]; exact hr.units), fun H x y d e z Q rx ry hz q => by
  unfold gNe at hz
  split at hz
  · rename_i c
    cases hz
    exact ⟨_, _, R.dp d x 60 c.1 rx, R.dp e y 60 c.2 ry, fit_shaped c.1, fit_shaped c.2, by rw [← deq_py d e 60 60 c.1 c.2]; exact q rfl⟩
  · cases hz⟩
theorem isNon_v {K : PySem.W.Frag} {H : Hp} {x : V} {d : D} (r : R K H x d) : decide (x = .non) = d.isNon := by
  cases r <;> rfl
theorem os_is : OpS X (compareOp .Is) gIs := ⟨_, op_isN.or op_isBl, fun H x y d e z Q rx ry hz q => by
  cases ry with
  | non =>
    cases hz
    exact .inl ⟨rfl, by rw [isNon_v rx]; exact q rfl⟩
  | bl b =>
    cases rx <;> first | cases hz | skip
    exact .inr ⟨_, _, rfl, rfl, q rfl⟩
  | _ => cases rx <;> cases hz⟩
theorem os_isnot : OpS X (compareOp .IsNot) gIsNot := ⟨_, op_notN.or op_notBl, fun H x y d e z Q rx ry hz q => by
  cases ry with
  | non =>
    cases hz
    exact .inl ⟨rfl, by rw [isNon_v rx]; exact q rfl⟩
  | bl b =>
    cases rx <;> first | cases hz | skip
    exact .inr ⟨_, _, rfl, rfl, q rfl⟩
  | _ => cases rx <;> cases hz⟩
theorem os_in : OpS X (compareOp .In) gIn := ⟨_, op_in_seq, fun H x y d e z Q rx ry hz q => by
  unfold gIn at hz
  split at hz
  · rename_i fd
    cases he : e.flats with
    | none => rw [he] at hz; cases hz
    | some xs =>
      rw [he] at hz
      cases hz
      obtain ⟨fx, a, rfl, hs⟩ := R.flats ry he
      rw [R.flat_v rx fd]
      refine ⟨a, _, rfl, hs, flat_v fd, flatV_all fx, ?_⟩
      simp only [Bool.false_eq_true, if_false]
      rw [inV_v fd fx]
      exact q rfl
  · cases hz⟩
theorem os_notin : OpS X (compareOp .NotIn) gNotIn := ⟨_, op_notIn_seq, fun H x y d e z Q rx ry hz q => by
  unfold gNotIn at hz
  split at hz
  · rename_i fd
    cases he : e.flats with
    | none => rw [he] at hz; cases hz
    | some xs =>
      rw [he] at hz
      cases hz
      obtain ⟨fx, a, rfl, hs⟩ := R.flats ry he
      rw [R.flat_v rx fd]
      refine ⟨a, _, rfl, hs, flat_v fd, flatV_all fx, ?_⟩
      simp only [if_true]
      rw [inV_v fd fx]
      exact q rfl
  · cases hz⟩
@[simp] noncomputable def gNeg : D → Option D
  | .int i => some (.int (-i))
  | _ => none
theorem ou_neg : OpU X (unaryOp .USub) gNeg := ⟨_, un_neg, fun H x d z Q rx hz q => by
  cases rx <;> first | cases hz | skip
  exact ⟨_, rfl, q rfl⟩⟩

/-! ### built-ins by values -/
@[simp] noncomputable def gLen : List D → Option D
  | [.lst xs] => some (.int xs.length)
  | [.tup xs] => some (.int xs.length)
  | [.scr ns] => some (.int ns.length)
  | _ => none
theorem bs_len : BlS X (.builtin "len") gLen := ⟨_, call_len, fun H vs ds z Q r hz q => by
  unfold gLen at hz
  split at hz
  · cases hz
    cases r with
    | cons r t =>
      cases t
      cases r with
      | lst h rr => exact ⟨_, _, rfl, .inl ⟨_, SqL.of h, rfl⟩, by rw [rr.length]; exact q rfl⟩
  · cases hz
    cases r with
    | cons r t =>
      cases t
      cases r with
      | tup h rr => exact ⟨_, _, rfl, .inr ⟨_, h, rfl⟩, by rw [rr.length]; exact q rfl⟩
  · cases hz
    cases r with
    | cons r t =>
      cases t
      cases r with
      | scr h => exact ⟨_, _, rfl, .inl ⟨_, h, rfl⟩, by rw [List.length_map]; exact q rfl⟩
  · cases hz⟩
@[simp] noncomputable def asInts : List D → Option (List Int)
  | [] => some []
  | .int i :: ds => (asInts ds).map (i :: ·)
  | _ => none
theorem asInts_some : ∀ {ds : List D} {ns : List Int}, asInts ds = some ns → ds = ns.map D.int
  | [], _, h => by cases h; rfl
  | d :: ds, ns, h => by
    cases d with
    | int i =>
      have h' : (asInts ds).map (i :: ·) = some ns := h
      cases q : asInts ds with
      | none => rw [q] at h'; cases h'
      | some ms =>
        rw [q] at h'
        cases h'
        rw [asInts_some q]
        rfl
    | _ => cases h
theorem asInts_map : ∀ ns : List Int, asInts (ns.map D.int) = some ns
  | [] => rfl
  | n :: ns => by
    show (asInts (ns.map D.int)).map (n :: ·) = _
    rw [asInts_map ns]; rfl
@[simp] noncomputable def asBls : List D → Option (List Bool)
  | [] => some []
  | .bl i :: ds => (asBls ds).map (i :: ·)
  | _ => none
theorem asBls_some : ∀ {ds : List D} {ns : List Bool}, asBls ds = some ns → ds = ns.map D.bl
  | [], _, h => by cases h; rfl
  | d :: ds, ns, h => by
    cases d with
    | bl i =>
      have h' : (asBls ds).map (i :: ·) = some ns := h
      cases q : asBls ds with
      | none => rw [q] at h'; cases h'
      | some ms =>
        rw [q] at h'
        cases h'
        rw [asBls_some q]
        rfl
    | _ => cases h
theorem asBls_map : ∀ ns : List Bool, asBls (ns.map D.bl) = some ns
  | [] => rfl
  | n :: ns => by
    show (asBls (ns.map D.bl)).map (n :: ·) = _
    rw [asBls_map ns]; rfl
noncomputable def gSum : List D → Option D
  | [.lst xs] => (asInts xs).map fun ns => .int ns.sum
  | _ => none
noncomputable def gAll : List D → Option D
  | [.lst xs] => (asBls xs).map fun bs => .bl (bs.all id)
  | _ => none
noncomputable def gAny : List D → Option D
  | [.lst xs] => (asBls xs).map fun bs => .bl (bs.any id)
  | _ => none
theorem bs_sum (hc : X.calm = true) : BlS X (.builtin "sum") gSum := ⟨_, cr_sum hc, fun H vs ds z Q r hz q => by
  unfold gSum at hz
  split at hz
  · rename_i xs
    cases hx : asInts xs with
    | none => rw [hx] at hz; cases hz
    | some ns =>
      rw [hx] at hz
      cases hz
      have e := asInts_some hx
      subst e
      cases r with
      | cons r t =>
        cases t
        cases r with
        | lst h rr => exact ⟨_, ns, rfl, SqL.of (by rw [← rr.ints]; exact h), q rfl⟩
  · cases hz⟩
theorem bs_all (hc : X.calm = true) : BlS X (.builtin "all") gAll := ⟨_, cr_all hc, fun H vs ds z Q r hz q => by
  unfold gAll at hz
  split at hz
  · rename_i xs
    cases hx : asBls xs with
    | none => rw [hx] at hz; cases hz
    | some ns =>
      rw [hx] at hz
      cases hz
      have e := asBls_some hx
      subst e
      cases r with
      | cons r t =>
        cases t
        cases r with
        | lst h rr => exact ⟨_, ns, rfl, SqL.of (by rw [← rr.bls]; exact h), q rfl⟩
  · cases hz⟩
theorem bs_any (hc : X.calm = true) : BlS X (.builtin "any") gAny := ⟨_, cr_any hc, fun H vs ds z Q r hz q => by
  unfold gAny at hz
  split at hz
  · rename_i xs
    cases hx : asBls xs with
    | none => rw [hx] at hz; cases hz
    | some ns =>
      rw [hx] at hz
      cases hz
      have e := asBls_some hx
      subst e
      cases r with
      | cons r t =>
        cases t
        cases r with
        | lst h rr => exact ⟨_, ns, rfl, SqL.of (by rw [← rr.bls]; exact h), q rfl⟩
  · cases hz⟩
@[simp] noncomputable def gInt : List D → Option D
  | [.int i] => some (.int i)
  | [.bl k] => some (.int (if k then 1 else 0))
  | _ => none
theorem bs_int : BlS X (.type "int") gInt := ⟨_, call_int1, fun H vs ds z Q r hz q => by
  unfold gInt at hz
  split at hz
  · cases hz
    cases r with
    | cons r t => cases t; cases r; exact .inl ⟨_, rfl, q rfl⟩
  · cases hz
    cases r with
    | cons r t => cases t; cases r; exact .inr ⟨_, rfl, q rfl⟩
  · cases hz⟩
@[simp] noncomputable def gAbs : List D → Option D
  | [.int i] => some (.int (if i < 0 then -i else i))
  | _ => none
theorem bs_abs : BlS X (.builtin "abs") gAbs := ⟨_, call_abs, fun H vs ds z Q r hz q => by
  unfold gAbs at hz
  split at hz
  · cases hz
    cases r with
    | cons r t => cases t; cases r; exact ⟨_, rfl, q rfl⟩
  · cases hz⟩
/-- a greatest, a least item -/
noncomputable def gMax : List D → Option D
  | [.lst xs] => (asInts xs).bind fun ns => match ns with
    | [] => none
    | n :: ns => some (.int (ns.foldl max n))
  | [.int i, .int j] => some (.int (if j > i then j else i))
  | _ => none
noncomputable def gMin : List D → Option D
  | [.lst xs] => (asInts xs).bind fun ns => match ns with
    | [] => none
    | n :: ns => some (.int (ns.foldl min n))
  | [.int i, .int j] => some (.int (if j < i then j else i))
  | _ => none
theorem foldl_max_mem : ∀ (ns : List Int) (n : Int), ns.foldl max n ∈ n :: ns ∧ ∀ y ∈ n :: ns, y ≤ ns.foldl max n
  | [], n => ⟨by simp, by simp⟩
  | m :: ns, n => by
    obtain ⟨a, b⟩ := foldl_max_mem ns (max n m)
    simp only [List.foldl_cons]
    refine ⟨?_, fun y hy => ?_⟩
    · rcases List.mem_cons.mp a with a | a
      · rw [a]
        rcases Int.le_total n m with h | h
        · rw [Int.max_eq_right h]; simp
        · rw [Int.max_eq_left h]; simp
      · simp [a]
    · have h0 := b (max n m) List.mem_cons_self
      rcases List.mem_cons.mp hy with rfl | hy
      · exact Int.le_trans (Int.le_max_left _ _) h0
      · rcases List.mem_cons.mp hy with rfl | hy
        · exact Int.le_trans (Int.le_max_right _ _) h0
        · exact b y (List.mem_cons_of_mem _ hy)
theorem foldl_min_mem : ∀ (ns : List Int) (n : Int), ns.foldl min n ∈ n :: ns ∧ ∀ y ∈ n :: ns, ns.foldl min n ≤ y
  | [], n => ⟨by simp, by simp⟩
  | m :: ns, n => by
    obtain ⟨a, b⟩ := foldl_min_mem ns (min n m)
    simp only [List.foldl_cons]
    refine ⟨?_, fun y hy => ?_⟩
    · rcases List.mem_cons.mp a with a | a
      · rw [a]
        rcases Int.le_total n m with h | h
        · rw [Int.min_eq_left h]; simp
        · rw [Int.min_eq_right h]; simp
      · simp [a]
    · have h0 := b (min n m) List.mem_cons_self
      rcases List.mem_cons.mp hy with rfl | hy
      · exact Int.le_trans h0 (Int.min_le_left _ _)
      · rcases List.mem_cons.mp hy with rfl | hy
        · exact Int.le_trans h0 (Int.min_le_right _ _)
        · exact b y (List.mem_cons_of_mem _ hy)
theorem bs_max (hc : X.calm = true) : BlS X (.builtin "max") gMax := ⟨_, (cr_max hc).or (call_max2 hc), fun H vs ds z Q r hz q => by
  unfold gMax at hz
  split at hz
  · rename_i xs
    cases hx : asInts xs with
    | none => rw [hx] at hz; cases hz
    | some ns =>
      rw [hx] at hz
      have e := asInts_some hx
      subst e
      cases ns with
      | nil => cases hz
      | cons n ns =>
        cases hz
        cases r with
        | cons r t =>
          cases t
          cases r with
          | lst h rr =>
            refine .inl ⟨_, n :: ns, rfl, SqL.of (by rw [← rr.ints]; exact h), by simp, fun m hm hle => ?_⟩
            obtain ⟨a, b⟩ := foldl_max_mem ns n
            have e : m = ns.foldl max n := Int.le_antisymm (b m hm) (hle _ a)
            rw [e]
            exact q rfl
  · cases hz
    cases r with
    | cons r t => cases t with | cons r2 t2 => cases t2; cases r; cases r2; exact .inr ⟨_, _, rfl, q rfl⟩
  · cases hz⟩
theorem bs_min (hc : X.calm = true) : BlS X (.builtin "min") gMin := ⟨_, (cr_min hc).or (call_min2 hc), fun H vs ds z Q r hz q => by
  unfold gMin at hz
  split at hz
  · rename_i xs
    cases hx : asInts xs with
    | none => rw [hx] at hz; cases hz
    | some ns =>
      rw [hx] at hz
      have e := asInts_some hx
      subst e
      cases ns with
      | nil => cases hz
      | cons n ns =>
        cases hz
        cases r with
        | cons r t =>
          cases t
          cases r with
          | lst h rr =>
            refine .inl ⟨_, n :: ns, rfl, SqL.of (by rw [← rr.ints]; exact h), by simp, fun m hm hle => ?_⟩
            obtain ⟨a, b⟩ := foldl_min_mem ns n
            have e : m = ns.foldl min n := Int.le_antisymm (hle _ a) (b m hm)
            rw [e]
            exact q rfl
  · cases hz
    cases r with
    | cons r t => cases t with | cons r2 t2 => cases t2; cases r; cases r2; exact .inr ⟨_, _, rfl, q rfl⟩
  · cases hz⟩
end
end DL
namespace DL
open PySem PySem.Spec PyProof.Rows L2
section
variable {X : Cx} {W : WX}
/-! ### a built-in of one argument that makes a list -/
@[simp] noncomputable def dBlL (g : Slot → Option (List D)) (f : DEn) (ρ : List Slot) : Res (Slot × List Slot) := (f ρ).bind fun p => (Res.lift (g p.1)).bind fun u => .ok (.own u, p.2)
structure BlL (X : Cx) (f : Value) (g : Slot → Option (List D)) : Prop where
  op : ∃ r, CallR X f r ∧ ∀ F H O n x s ds Q, Same F H → VOk X.K F H O n s x → g s = some ds → (∀ p vs, H p = none → Rs X.K F vs ds → Q (.ref p) (upd H p (.lst vs))) → r [x] H Q
theorem blL_imp {K : PySem.W.Frag} {mg : Str → Option Value} {pu : Bool} {g : Slot → Option (List D)} {r : List V → Hp → VK → Prop} {f : DEn} (hq : ∀ F H O n x s ds Q, Same F H → VOk K F H O n s x → g s = some ds → (∀ p vs, H p = none → Rs K F vs ds → Q (.ref p) (upd H p (.lst vs))) → r [x] H Q)
    {σ : L2.St} {H : Hp} {Q : VK} (h : dE K mg W pu (dBlL g f) σ H Q) : tCB r (tCons (dE K mg W pu f) tNil) σ H Q := by
  obtain ⟨F, O, ρ, rs, h⟩ := h
  refine ⟨F, O, ρ, rs, ?_⟩
  unfold dBlL at h
  rw [Res.wp_bind] at h
  refine Res.wp_mono h (fun p hp => ?_) (fun _ _ e => e)
  intro F1 O1 x H1 rs1 v1 st1 pu1
  rw [Res.wp_bind, Res.wp_lift] at hp
  obtain ⟨u, hu, hp⟩ := hp
  refine hq F1 H1 O1 p.2.length x p.1 u Q rs1.fh v1 hu fun q vs nq rv => ?_
  obtain ⟨a, b, c, d⟩ := rs1.newList nq rv
  exact hp F1 _ _ _ a b (st1.trans c) fun z => (pu1 z).trans d
theorem de_blLB {x : Str} {id : String} {g : Slot → Option (List D)} {pu : Bool} {e : Expr} {p pos : Pos} {f : DEn} (o : BlL X (.builtin id) g) (hm : X.mg x = none) (hv : bootBuiltins x = some (.builtin id)) (ha : DE X W pu e f) (hg : Gl X x := by rfl)
    (hn : x ≠ "__name__" := by decide) (hdb : (x == ("__debug__" : Str)) = false := by decide) (he : starEach (e :: []) X.env = (false, eval e X.env) :: starEach [] X.env := by rfl) (hpl : (backTo pos (starEach [] X.env)).any (·.1) = false := by rfl) :
    DE X W pu (.Call (.Name x p) [e] [] pos) (dBlL g f) := by
  obtain ⟨r, hr, hq⟩ := o.op
  exact ⟨PE_imp (pe_callB hr hg hm hv (pa_cons ha.pe pa_nil he) hn hdb he hpl) fun σ H Q h => blL_imp hq h⟩
theorem de_blLT {x : Str} {T : String} {g : Slot → Option (List D)} {pu : Bool} {e : Expr} {p pos : Pos} {f : DEn} (o : BlL X (.type T) g) (hm : X.mg x = none) (hv : bootBuiltins x = some (.type T)) (ha : DE X W pu e f) (hg : Gl X x := by rfl)
    (hn : x ≠ "__name__" := by decide) (hdb : (x == ("__debug__" : Str)) = false := by decide) (he : starEach (e :: []) X.env = (false, eval e X.env) :: starEach [] X.env := by rfl) (hpl : (backTo pos (starEach [] X.env)).any (·.1) = false := by rfl) :
    DE X W pu (.Call (.Name x p) [e] [] pos) (dBlL g f) := by
  obtain ⟨r, hr, hq⟩ := o.op
  exact ⟨PE_imp (pe_callTy hr hg hm hv (pa_cons ha.pe pa_nil he) hn hdb he hpl) fun σ H Q h => blL_imp hq h⟩
theorem bl_list : BlL X (.type "list") Slot.elems := ⟨_, call_list_of, fun F H O n x s ds Q fh vo e q => by
  obtain ⟨a, vs, rfl, h, r⟩ := vo.elems fh e
  exact ⟨a, vs, rfl, h, fun l nl => q l vs nl r⟩⟩
/-- ints in their order -/
noncomputable def insI (n : Int) : List Int → List Int
  | [] => [n]
  | m :: ms => if n ≤ m then n :: m :: ms else m :: insI n ms
noncomputable def sortI : List Int → List Int
  | [] => []
  | n :: ns => insI n (sortI ns)
theorem insI_perm (n : Int) : ∀ ns : List Int, (insI n ns).Perm (n :: ns)
  | [] => .refl _
  | m :: ms => by
    unfold insI
    split
    · exact .refl _
    · exact ((insI_perm n ms).cons m).trans (List.Perm.swap n m ms)
theorem insI_sorted (n : Int) : ∀ ns : List Int, ns.Pairwise (· ≤ ·) → (insI n ns).Pairwise (· ≤ ·)
  | [], _ => by simp [insI]
  | m :: ms, h => by
    obtain ⟨h1, h2⟩ := List.pairwise_cons.mp h
    unfold insI
    split
    · rename_i c
      refine List.pairwise_cons.mpr ⟨fun y hy => ?_, h⟩
      rcases List.mem_cons.mp hy with rfl | hy
      · exact c
      · exact Int.le_trans c (h1 y hy)
    · rename_i c
      refine List.pairwise_cons.mpr ⟨fun y hy => ?_, insI_sorted n ms h2⟩
      rcases List.mem_cons.mp ((insI_perm n ms).mem_iff.mp hy) with rfl | hy
      · omega
      · exact h1 y hy
theorem sortI_perm : ∀ ns : List Int, (sortI ns).Perm ns
  | [] => .refl _
  | n :: ns => (insI_perm n (sortI ns)).trans ((sortI_perm ns).cons n)
theorem sortI_sorted : ∀ ns : List Int, (sortI ns).Pairwise (· ≤ ·)
  | [] => .nil
  | n :: ns => insI_sorted n _ (sortI_sorted ns)
theorem sortI_uniq {ns ms : List Int} (p : ms.Perm ns) (o : ms.Pairwise (· ≤ ·)) : ms = sortI ns := PySem.W.ksm_same (p.trans (sortI_perm ns).symm) o (sortI_sorted ns)
noncomputable def srtL (s : Slot) : Option (List D) := s.listD.bind fun xs => (asInts xs).map fun ns => (sortI ns).map D.int
theorem bl_sorted : BlL X (.builtin "sorted") srtL := ⟨_, cr_sortedI, fun F H O n x s ds Q fh vo e q => by
  unfold srtL at e
  cases hx : s.listD with
  | none => rw [hx] at e; cases e
  | some xs =>
    rw [hx] at e
    have e : (asInts xs).map (fun ns => (sortI ns).map D.int) = some ds := e
    cases hn : asInts xs with
    | none => rw [hn] at e; cases e
    | some ns =>
      rw [hn] at e
      cases e
      have e := asInts_some hn
      subst e
      obtain ⟨a, vs, rfl, h, r⟩ := vo.listD fh hx
      rw [r.ints] at h
      refine ⟨a, ns, rfl, SqL.of h, fun ns' p pm po np => ?_⟩
      rw [sortI_uniq pm po]
      exact q p _ np (Rs.of_ints _)⟩
/-- tuple(x): a new tuple of a list's items, the same tuple otherwise -/
@[simp] noncomputable def dTupOf (f : DEn) (ρ : List Slot) : Res (Slot × List Slot) := (f ρ).bind fun p => (Res.lift p.1.elems).bind fun u => .ok (.sh (.tup u), p.2)
theorem de_tupOf {pu : Bool} {e : Expr} {p pos : Pos} {f : DEn} (hm : X.mg "tuple" = none) (ha : DE X W pu e f) (hg : Gl X "tuple" := by rfl)
    (he : starEach (e :: []) X.env = (false, eval e X.env) :: starEach [] X.env := by rfl) (hpl : (backTo pos (starEach [] X.env)).any (·.1) = false := by rfl) :
    DE X W pu (.Call (.Name "tuple" p) [e] [] pos) (dTupOf f) := by
  refine ⟨PE_imp (pe_callTy call_tuple_of hg hm boot_tuple (pa_cons ha.pe pa_nil he) (by decide) (by decide) he hpl) fun σ H Q ⟨F, O, ρ, rs, h⟩ => ⟨F, O, ρ, rs, ?_⟩⟩
  unfold dTupOf at h
  rw [Res.wp_bind] at h
  refine Res.wp_mono h (fun p hp => ?_) (fun _ _ e => e)
  intro F1 O1 x H1 rs1 v1 st1 pu1
  rw [Res.wp_bind, Res.wp_lift] at hp
  obtain ⟨u, hu, hp⟩ := hp
  cases hs : p.1 with
  | sh d =>
    rw [hs] at hu v1
    cases d with
    | tup xs =>
      cases hu
      cases v1 with
      | tup q r => exact ⟨_, _, rfl, .inr ⟨same_seqT rs1.fh q, hp F1 O1 _ H1 rs1 (.tup q r) st1 pu1⟩⟩
    | tpx xs =>
      cases hu
      cases v1 with
      | tpx q _ r => exact ⟨_, _, rfl, .inr ⟨.inl (.inr ⟨_, rs1.fh _ _ q⟩), hp F1 O1 _ H1 rs1 (.tup (.inl (.inr ⟨_, q⟩)) r) st1 pu1⟩⟩
    | lst xs =>
      obtain ⟨a, vs, rfl, q, r⟩ := v1.listD rs1.fh (ds := xs) rfl
      cases hu
      refine ⟨a, vs, rfl, .inl ⟨SqL.of q, fun l nl => ?_⟩⟩
      obtain ⟨a, b, c, d⟩ := rs1.newTup nl r
      exact hp _ _ _ _ a b (st1.trans c) fun z => (pu1 z).trans d
    | scr ns =>
      cases hu
      cases v1 with
      | scr q =>
        refine ⟨_, _, rfl, .inl ⟨rs1.fh.seq q, fun l nl => ?_⟩⟩
        obtain ⟨a, b, c, d⟩ := rs1.newTup nl (Rs.of_ints ns)
        exact hp _ _ _ _ a b (st1.trans c) fun z => (pu1 z).trans d
    | _ => cases hu
  | own xs =>
    rw [hs] at hu v1
    obtain ⟨a, vs, rfl, q, r⟩ := v1.listD rs1.fh (ds := xs) rfl
    cases hu
    refine ⟨a, vs, rfl, .inl ⟨SqL.of q, fun l nl => ?_⟩⟩
    obtain ⟨a, b, c, d⟩ := rs1.newTup nl r
    exact hp _ _ _ _ a b (st1.trans c) fun z => (pu1 z).trans d
  | po xs =>
    rw [hs] at hu v1
    obtain ⟨a, vs, rfl, q, r⟩ := v1.listD rs1.fh (ds := xs) rfl
    cases hu
    refine ⟨a, vs, rfl, .inl ⟨SqL.of q, fun l nl => ?_⟩⟩
    obtain ⟨a, b, c, d⟩ := rs1.newTup nl r
    exact hp _ _ _ _ a b (st1.trans c) fun z => (pu1 z).trans d
  | un => rw [hs] at hu; cases hu
  | par _ => rw [hs] at hu; cases hu
  | pk _ => rw [hs] at hu; cases hu
  | od _ => rw [hs] at hu; cases hu

/-! ### list(range(..)) -/
noncomputable def rgD (a b : Int) : List D := (List.range (b - a).toNat).map fun i => D.int (a + (i : Nat))
theorem rgD_V {K : PySem.W.Frag} {F : Hp} (a b : Int) : Rs K F (rgV a b) (rgD a b) := by
  unfold rgV rgD
  induction List.range (b - a).toNat with
  | nil => exact .nil
  | cons i is ih => exact .cons (.int _) ih
noncomputable def rgOk (a b : Int) : Bool := @decide (-4611686018427387904 ≤ a ∧ a < 4611686018427387904 ∧ -4611686018427387904 ≤ b ∧ b < 4611686018427387904 ∧ (b - a).toNat ≤ 16777216) (Classical.propDecidable _)
theorem rgOk_ok {a b : Int} (h : rgOk a b = true) : RgOk a b := by
  have h := @of_decide_eq_true _ (_) h
  exact ⟨by omega, by omega, by omega, by omega, by omega⟩
noncomputable def dLRg1 (f : DEn) (ρ : List Slot) : Res (Slot × List Slot) := (f ρ).bind fun p => (Res.lift p.1.val).bind fun d => (Res.lift (asInt d)).bind fun n => if rgOk 0 n = true then .ok (.own (rgD 0 n), p.2) else .stuck
theorem de_listRg1 {pu : Bool} {e : Expr} {p pos p2 pos2 : Pos} {f : DEn} (hc : X.calm = true) (hl : X.mg "list" = none) (hm : X.mg "range" = none) (ha : DE X W pu e f) (hgl : Gl X "list" := by rfl) (hg : Gl X "range" := by rfl)
    (na : starEach [e] X.env = (false, eval e X.env) :: starEach [] X.env := by rfl) (na2 : starEach [.Call (.Name "range" p2) [e] [] pos2] X.env = (false, eval (.Call (.Name "range" p2) [e] [] pos2) X.env) :: starEach [] X.env := by rfl) :
    DE X W pu (.Call (.Name "list" p) [.Call (.Name "range" p2) [e] [] pos2] [] pos) (dLRg1 f) := by
  refine ⟨PE_imp (pe_listRg hc hgl hl (prg_1 hg hm ha.pe na) na2) fun σ H Q ⟨F, O, ρ, rs, h⟩ => one_pe (k := fun d ρ1 => (Res.lift (asInt d)).bind fun n => if rgOk 0 n = true then Res.ok (Slot.own (rgD 0 n), ρ1) else Res.stuck) rs h fun d ρ1 F1 O1 x H1 rs1 st1 p1 rx hk => ?_⟩
  rw [Res.wp_bind, Res.wp_lift] at hk
  obtain ⟨n, hn, hk⟩ := hk
  have e := asInt_some hn
  subst e
  cases rx
  by_cases c : rgOk 0 n = true
  · rw [if_pos c] at hk
    refine ⟨n, rfl, rgOk_ok c, fun q nq => ?_⟩
    obtain ⟨a, b, c, d⟩ := rs1.newList nq (rgD_V 0 n)
    exact hk F1 _ _ _ a b (st1.trans c) fun z => (p1 z).trans d
  · rw [if_neg c] at hk; exact hk.elim

/-! ### n.bit_length() -/
noncomputable def bitLen (i : Int) : Int := (Builtin.Int.intBits i : Nat)
@[simp] noncomputable def gBits : D → Option D
  | .int i => some (.int (bitLen i))
  | _ => none
theorem de_bits {pu : Bool} {o : Expr} {apos pos : Pos} {f : DEn} (ho : DE X W pu o f) (hbase : attributeBase o "bit_length" X.env (eval o X.env) = eval o X.env := by rfl) (hline : (apos.endLine == pos.line) = true := by rfl) :
    DE X W pu (.Call (.Attribute o "bit_length" apos) [] [] pos) (dUn gBits f) := by
  refine ⟨PE_imp (pe_bits ho.pe hbase hline) fun σ H Q ⟨F, O, ρ, rs, h⟩ => one_pe (k := fun d ρ1 => (Res.lift (gBits d)).bind fun z => Res.ok (Slot.sh z, ρ1)) rs h fun d ρ1 F1 O1 x H1 rs1 st1 p1 rx hk => ?_⟩
  rw [Res.wp_bind, Res.wp_lift] at hk
  obtain ⟨z, hz, hk⟩ := hk
  cases rx <;> first | (cases hz; done) | skip
  cases hz
  exact ⟨_, rfl, hk F1 O1 _ H1 rs1 (.int _) st1 p1⟩

/-! ### isinstance(x, T), T a built-in class -/
@[simp] noncomputable def D.ty : D → String
  | .non => "NoneType"
  | .bl _ => "bool"
  | .int _ => "int"
  | .str _ => "str"
  | .lst _ => "list"
  | .tup _ => "tuple"
  | .scr _ => "list"
  | .dct _ _ => "dict"
  | .tpx _ => "tuple"
  | .exc _ => "an own exception"
/-- x is a T -/
@[simp] noncomputable def D.isT (T : String) (d : D) : Bool := d.ty == T || (d.ty == "bool" && T == "int")
noncomputable def tysOk (T : String) : Bool := ["NoneType", "bool", "int", "str", "list", "tuple", "dict"].contains T && ["NoneType", "bool", "int", "str", "list", "tuple", "dict"].all fun t => decide (kitB t T = some (t == T || (t == "bool" && T == "int")))
def D.isX : D → Bool
  | .exc _ => true
  | _ => false
theorem kit_of_ok {T : String} (h : tysOk T = true) (d : D) (hx : d.isX = false) : kitB d.ty T = some (d.isT T) := by
  unfold tysOk at h
  rw [Bool.and_eq_true] at h
  obtain ⟨_, h⟩ := h
  rw [List.all_eq_true] at h
  have key : d.ty ∈ ["NoneType", "bool", "int", "str", "list", "tuple", "dict"] := by cases d <;> first | (simp [D.ty]; done) | cases hx
  exact of_decide_eq_true (h _ key)
theorem R.tyX {K : PySem.W.Frag} {F : Hp} {v : V} {d : D} (h : R K F v d) (hx : d.isX = false) : TyX K F v (.type d.ty) := by
  cases h with
  | non => exact .base .non
  | bl b => exact .base (.bl b)
  | int i => exact .base (.int i)
  | str x => exact .base (.str x)
  | lst h _ => exact .base (.lst h)
  | tup h _ =>
    rcases h with (h | ⟨o, h⟩) | ⟨o, its, n, h, c, _⟩
    · exact .base (.tup h)
    · exact .fTuple h
    · exact .kTuple h c
  | scr h =>
    rcases h with (h | ⟨o, h⟩) | ⟨o, its, n, h, c, _⟩
    · exact .base (.lst h)
    · exact .base (.frz h)
    · exact .kList h c
  | dct h _ _ => exact .fDict h
  | tpx h _ _ => exact .fTuple h
  | exc _ _ => cases hx
/-- isinstance(e, c), e an exception that is tracked -/
def rIsK (K : PySem.W.Frag) : List V → Hp → VK → Prop := fun xs H Q => ∃ (a C : Addr) (c : V) (cv : Value) (b : Bool), xs = [.ref a, c] ∧ H a = some (ExK (.ref C) a) ∧ ExcC K C ∧ (∀ u, RelV c u → u = cv) ∧ PySem.W.kitOne K (.ref C) cv = some b ∧ Q (.bl b) H
theorem call_isK {X : Cx} : CallR X (.builtin "isinstance") (rIsK X.K) := by
  intro pins s σ H xs us Q I r h
  obtain ⟨a, D, c, cv, b, rfl, ha, C, hcv, e, q⟩ := h
  cases r with
  | cons rx rr =>
    cases rr with
    | cons rt rr =>
      cases rr
      cases rx
      have ec := hcv _ rt
      subst ec
      obtain ⟨⟨oe, vs, hget, hz, hv⟩, _, _⟩ := I.hok a _ ha
      have J : PySem.W.InstAt s.heap a oe D none := by
        obtain ⟨oc, od, oda, osl⟩ := oe
        obtain ⟨h1, h2⟩ := hz
        dsimp only at h1 h2 hv
        subst h1 h2 hv
        exact ⟨hget, rfl, rfl, trivial⟩
      exact PySem.W.kia_one (PySem.W.handS_kitx_exc C.hg C.hk C.hs C.hd C.ha C.hn C.ht C.hm) I.kIn J e (fun z => nomatch z) fun tk => ⟨.bl b, H, I.kept (t' := tk) fun _ _ z => z, rfl, q⟩
theorem call_isX {X : Cx} : CallR X (.builtin "isinstance") (fun xs H Q => rIsi X.K xs H Q ∨ rIsK X.K xs H Q) := by
  intro pins s σ H xs us Q I r h
  rcases h with h | h
  · exact call_isi pins s σ H xs us Q I r h
  · exact call_isK pins s σ H xs us Q I r h
theorem tysOk_in {T : String} (h : T ∈ ["NoneType", "bool", "int", "str", "list", "tuple", "dict"]) (c : Str) : D.isT T (.exc c) = false := by
  simp only [List.mem_cons, List.not_mem_nil, or_false] at h
  rcases h with rfl | rfl | rfl | rfl | rfl | rfl | rfl <;> simp
@[simp] noncomputable def dIsi (T : String) (f : DEn) (ρ : List Slot) : Res (Slot × List Slot) := (f ρ).bind fun p => (Res.lift p.1.val).bind fun d => .ok (.sh (.bl (d.isT T)), p.2)
theorem de_isi {pu : Bool} {e : Expr} {x : Str} {T : String} {p p2 pos : Pos} {f : DEn} (hm : X.mg "isinstance" = none) (hx : X.mg x = none) (hv : bootBuiltins x = some (.type T)) (hT : tysOk T = true) (ha : DE X W pu e f) (hg : Gl X "isinstance" := by rfl) (hgx : Gl X x := by rfl)
    (hn : x ≠ "__name__" := by decide) (hdb : (x == ("__debug__" : Str)) = false := by decide)
    (he : starEach (e :: [.Name x p2]) X.env = (false, eval e X.env) :: starEach [.Name x p2] X.env := by rfl) (hpl : (backTo pos (starEach [.Name x p2] X.env)).any (·.1) = false := by rfl) :
    DE X W pu (.Call (.Name "isinstance" p) [e, .Name x p2] [] pos) (dIsi T f) := by
  refine ⟨PE_imp (pe_callB call_isX hg hm boot_isinstance (pa_cons ha.pe (pa_cons (pe_bltn (v := .ty T) hgx hx hv rfl hn hdb) pa_nil) he) (by decide) (by decide) he hpl) fun σ H Q ⟨F, O, ρ, rs, h⟩ => one_pe (k := fun d ρ1 => Res.ok (Slot.sh (.bl (d.isT T)), ρ1)) rs h fun d ρ1 F1 O1 x H1 rs1 st1 p1 rx hk => ?_⟩
  cases hx : d.isX with
  | false => exact .inl ⟨x, .ty T, .type d.ty, .type T, d.isT T, rfl, .ty T, rx.tyX hx, kit_ty (kit_of_ok hT d hx), hk F1 O1 _ H1 rs1 (.bl _) st1 p1⟩
  | true =>
    have mem : T ∈ ["NoneType", "bool", "int", "str", "list", "tuple", "dict"] := by
      unfold tysOk at hT
      rw [Bool.and_eq_true] at hT
      exact List.contains_iff_mem.mp hT.1
    cases d with
    | exc c =>
      have nt := tysOk_in mem c
      rw [nt] at hk
      cases rx with
      | exc ha hX => exact .inr ⟨_, _, .ty T, .type T, false, rfl, ha, hX.ex, fun u r => (ClsV.ty T).eq r, hX.no T mem, hk F1 O1 _ H1 rs1 (.bl _) st1 p1⟩
    | _ => cases hx

/-! ### a call whose first argument is one of our lists, which the def may change -/
@[simp] noncomputable def Slot.lp : Slot → Option (List D)
  | .own xs => some xs
  | .par xs => some xs
  | _ => none
@[simp] noncomputable def Slot.put : Slot → List D → Slot
  | .own _, ys => .own ys
  | .par _, ys => .par ys
  | s, _ => s
@[simp] noncomputable def dCallIO (i n : Nat) (G : DFn) (fa : DLn) (ρ : List Slot) : Res (Slot × List Slot) := (Res.lift (ρ[i]?.bind Slot.lp)).bind fun _ => (fa ρ).bind fun p => (Res.lift p.2[i]?).bind fun s => (Res.lift s.lp).bind fun xs => if p.1.length + 1 = n then (match G (.par xs :: p.1.map .sh) with
  | .ok (r, ρ') => (Res.lift r.ret).bind fun r' => (match ρ'.head? with
    | some (.par ys) => .ok (r', p.2.set i (s.put ys))
    | _ => .stuck)
  | .ex c ρ' => (match ρ'.head? with
    | some (.par ys) => .ex c (p.2.set i (s.put ys))
    | _ => .stuck)
  | .stuck => .stuck) else .stuck
theorem slot_lp {K : PySem.W.Frag} {F H : Hp} {O : Own} {i : Nat} {s : Slot} {o : Option V} {xs : List D} (h : SlotOk K F H O i s o) (e : s.lp = some xs) : ∃ a vs, o = some (.ref a) ∧ H a = some (.lst vs) ∧ O a = some i ∧ Rs K F vs xs := by
  cases s with
  | own _ => cases e; exact h
  | par _ => cases e; exact h
  | _ => cases e
theorem slot_put {K : PySem.W.Frag} {F H : Hp} {O : Own} {i : Nat} {s : Slot} {o : Option V} {xs ys : List D} (e : s.lp = some xs) {a : Addr} {vs : List V} (h1 : o = some (.ref a)) (h2 : H a = some (.lst vs)) (h3 : O a = some i) (h4 : Rs K F vs ys) : SlotOk K F H O i (s.put ys) o := by
  cases s with
  | own _ => exact ⟨a, vs, h1, h2, h3, h4⟩
  | par _ => exact ⟨a, vs, h1, h2, h3, h4⟩
  | _ => cases e
/-- behind a call that may change the list of slot i alone -/
theorem RS.backIO {K : PySem.W.Frag} {F H F' H' : Hp} {O O' : Own} {σ σ' : L2.St} {ρ ρ' : List Slot} {i : Nat} {s : Slot} {xs ys : List D} {a : Addr} (r : RS K F σ ρ H O) (hi : ρ[i]? = some s) (hl : s.lp = some xs) (ha : σ[i]?.join = some (.ref a)) (oa : O a = some i)
    (st : Step F H (fun b => if b = a then some 0 else none) F' H' O') (r' : RS K F' σ' ρ' H' O') (h0 : ρ'.head? = some (.par ys)) (hσ : σ'[0]? = some (some (.ref a))) :
    RS K F' σ (ρ.set i (s.put ys)) H' O ∧ Step F H O F' H' O ∧ O' a = some 0 := by
  have hp : ρ'[0]? = some (.par ys) := by rw [← List.head?_eq_getElem?]; exact h0
  obtain ⟨a', vs', e1, e2, e3, e4⟩ := r'.ok 0 _ hp
  rw [hσ] at e1
  cases e1
  have out : ∀ b j, O b = some j → F' b = none ∧ ∃ o, H' b = some o := fun b j e => by
    obtain ⟨h1, o, h2⟩ := r.out b j e
    by_cases hb : b = a
    · subst hb; exact ⟨(r'.out b 0 e3).1, _, e2⟩
    · refine ⟨?_, o, st.keep b o h2 (by simp [hb])⟩
      cases q : F' b with
      | none => rfl
      | some u =>
        rcases st.low b u q with h | ⟨j, h⟩ | h
        · rw [h1] at h; cases h
        · simp [hb] at h
        · rw [h2] at h; cases h
  refine ⟨⟨by rw [List.length_set]; exact r.len, r'.fh, fun j t ht => ?_, out⟩, ⟨fun b o h n => st.keep b o h (by
      by_cases hb : b = a
      · subst hb; rw [oa] at n; cases n
      · simp [hb]), st.there, st.fr, fun b o h => ?_, fun b j e => .inl ⟨j, e⟩⟩, e3⟩
  · by_cases hj : i = j
    · subst hj
      have hl' : i < ρ.length := (List.getElem?_eq_some_iff.mp hi).1
      rw [List.getElem?_set_self hl'] at ht
      cases ht
      exact slot_put hl ha e2 oa e4
    · rw [List.getElem?_set_ne hj] at ht
      refine (r.ok j t ht).ext st.fr fun b u pb hu => ⟨st.keep b u hu ?_, pb⟩
      by_cases hb : b = a
      · subst hb; rw [oa] at pb; exact absurd (Option.some.inj pb) hj
      · simp [hb]
  · rcases st.low b o h with h | ⟨j, h⟩ | h
    · exact .inl h
    · by_cases hb : b = a
      · subst hb; exact .inr (.inl ⟨i, oa⟩)
      · simp [hb] at h
    · exact .inr (.inr h)
theorem de_callIO {k : Nat} {x y : Str} {ps : List Str} {G : DFn} {pu : Bool} {es : List Expr} {p py pos : Pos} {fa : DLn} (i : Nat) {P : Program} {w : World} {K : PySem.W.Frag} {mg : Str → Option Value} {base : Heap} {A : Around} (tk : Takes X W) (hf : Dfn P w K mg base x ps k G) (hr : Room k A) (ha : AF X W pu es fa) (hN : X.N[i]? = some y := by rfl)
    (hvis : Vis X.env.scope y := by first | exact Or.inl rfl | exact Or.inr (Or.inl rfl) | exact Or.inr (Or.inr rfl)) (hg : Gl X x := by rfl)
    (hd : (y == ("__debug__" : Str)) = false := by decide) (hcd : (y == ("__classdict__" : Str)) = false := by decide)
    (hdb : (x == ("__debug__" : Str)) = false := by decide) (he : starEach (.Name y py :: es) X.env = (false, eval (.Name y py) X.env) :: starEach es X.env := by rfl) (hpl : (backTo pos (starEach es X.env)).any (·.1) = false := by rfl) (hX : X.prog = P ∧ X.w = w ∧ X.K = K ∧ X.mg = mg ∧ X.base = base ∧ X.A = A := by exact ⟨rfl, rfl, rfl, rfl, rfl, rfl⟩) :
    DE X W false (.Call (.Name x p) (.Name y py :: es) [] pos) (dCallIO i ps.length G fa) := by
  obtain ⟨rfl, rfl, rfl, rfl, rfl, rfl⟩ := hX
  obtain ⟨f, fd, ok, hm, hk, hb, _⟩ := hf.ok
  refine ⟨PE_imp (pe_callS (E := WE W) ok hr hg hm hk hb (fun σ => passAt tk σ) (pa_cons (pe_var hN hvis hd hcd) ha.pa he) hdb he hpl) fun σ H Q ⟨F, O, ρ, rs, h⟩ => ?_⟩
  unfold dCallIO at h
  rw [Res.wp_bind, Res.wp_lift] at h
  obtain ⟨xs0, h0, h⟩ := h
  cases hρ : ρ[i]? with
  | none => rw [hρ] at h0; cases h0
  | some s0 =>
    rw [hρ] at h0
    obtain ⟨a, vs0, ea, _, _, _⟩ := slot_lp (rs.ok i s0 hρ) h0
    refine ⟨.ref a, join_some ea, F, O, ρ, rs, ?_⟩
    rw [Res.wp_bind] at h
    refine Res.wp_mono h (fun p hp => ?_) (fun _ _ e => e)
    intro F1 O1 vs H1 rs1 v1 st1 pu1
    rw [Res.wp_bind, Res.wp_lift] at hp
    obtain ⟨s, hs, hp⟩ := hp
    rw [Res.wp_bind, Res.wp_lift] at hp
    obtain ⟨xs, hxs, hp⟩ := hp
    obtain ⟨a', ws, ea', ha1, oa, ra⟩ := slot_lp (rs1.ok i s hs) hxs
    rw [ea] at ea'
    cases ea'
    by_cases hl : p.1.length + 1 = ps.length
    · rw [if_pos hl] at hp
      have rc : RS X.K F1 ((.ref a :: vs).map some) (.par xs :: p.1.map .sh) H1 (fun b => if b = a then some 0 else none) := by
        refine ⟨by simp [v1.length], rs1.fh, fun j t ht => ?_, fun b j e => ?_⟩
        · cases j with
          | zero => cases ht; exact ⟨a, ws, rfl, ha1, by simp, ra⟩
          | succ j =>
            have ht' : (p.1.map Slot.sh)[j]? = some t := by simpa using ht
            rw [List.getElem?_map] at ht'
            cases q : p.1[j]? with
            | none => rw [q] at ht'; cases ht'
            | some d =>
              rw [q] at ht'
              cases ht'
              obtain ⟨v, hv, rv⟩ := v1.get q
              exact ⟨v, by simp [hv], rv⟩
        · by_cases hb : b = a
          · subst hb; exact rs1.out b i oa
          · simp [hb] at e
      refine ⟨by simp [v1.length]; omega, F1, _, _, rc, ?_⟩
      cases hG : G (.par xs :: p.1.map .sh) with
      | stuck => rw [hG] at hp; exact hp.elim
      | ex c ρ' =>
        rw [hG] at hp
        intro F' O' H' rs' st'
        cases hh : ρ'.head? with
        | none => simp [hh] at hp; exact hp.elim
        | some t =>
          cases t with
          | par ys =>
            simp only [hh] at hp
            obtain ⟨a1, b1, c1⟩ := rs1.backIO hs hxs ea oa st' rs' hh rfl
            exact hp F' O1 H' a1 (st1.trans b1)
          | _ => simp [hh] at hp; exact hp.elim
      | ok q =>
        obtain ⟨r, ρ'⟩ := q
        rw [hG] at hp
        intro F' O' v H' rs' vo st' _
        simp only at hp
        rw [Res.wp_bind, Res.wp_lift] at hp
        obtain ⟨r', hr', hp⟩ := hp
        cases hh : ρ'.head? with
        | none => simp [hh] at hp; exact hp.elim
        | some t =>
          cases t with
          | par ys =>
            simp only [hh] at hp
            obtain ⟨a1, b1, c1⟩ := rs1.backIO hs hxs ea oa st' rs' hh rfl
            cases r with
            | sh d =>
              cases hr'
              exact hp F' O1 v H' a1 (by rw [List.length_set]; exact vo) (st1.trans b1) fun z => nomatch z
            | own zs =>
              cases hr'
              obtain ⟨q, us, rfl, hq, oq, rq⟩ := vo
              have nqa : q ≠ a := fun z => by
                subst z
                rw [c1] at oq
                have : ρ'.length ≠ 0 := by
                  intro z
                  have : ρ' = [] := List.length_eq_zero_iff.mp z
                  rw [this] at hh; cases hh
                exact this (Option.some.inj oq).symm
              have nq : H1 q = none := by
                rcases st'.fp q _ oq with ⟨j, h⟩ | h
                · simp [nqa] at h
                · exact h
              refine hp F' (fun b => if b = q then some (p.2.set i (s.put ys)).length else O1 b) (.ref q) H' ⟨a1.len, a1.fh, fun j t ht => (a1.ok j t ht).ext (Same.refl _) fun b u pb hu => ⟨hu, ?_⟩, fun b j e => ?_⟩ ⟨q, us, rfl, hq, by simp, rq⟩ (st1.trans ⟨b1.keep, b1.there, b1.fr, b1.low, fun b j e => ?_⟩) fun z => nomatch z
              · obtain ⟨_, o, h2⟩ := rs1.out b j pb
                have : b ≠ q := ne_of_none h2 nq
                simp [this, pb]
              · by_cases hb : b = q
                · subst hb; exact rs'.out b _ oq
                · simp [hb] at e; exact a1.out b j e
              · by_cases hb : b = q
                · subst hb; exact .inr nq
                · simp [hb] at e; exact .inl ⟨j, e⟩
            | _ => cases hr'
          | _ => simp [hh] at hp; exact hp.elim
    · rw [if_neg hl] at hp; exact hp.elim
end
end DL
namespace DL
open PySem PySem.Spec PyProof.Rows L2
/-! ### statements -/
inductive Out where
  | nx (ρ : List Slot) | rt (s : Slot) (ρ : List Slot) | bk (ρ : List Slot) | ct (ρ : List Slot) | ex (c : Str) (ρ : List Slot) | stuck
abbrev DSn := List Slot → Out
noncomputable def Pin (I : List Nat) (σ σ' : L2.St) : Prop := σ'.length = σ.length ∧ ∀ i ∈ I, σ'[i]? = σ[i]?
theorem Pin.refl {I : List Nat} {σ : L2.St} : Pin I σ σ := ⟨rfl, fun _ _ => rfl⟩
theorem Pin.trans {I : List Nat} {σ σ1 σ2 : L2.St} (a : Pin I σ σ1) (b : Pin I σ1 σ2) : Pin I σ σ2 := ⟨b.1.trans a.1, fun i hi => (b.2 i hi).trans (a.2 i hi)⟩
theorem Pin.set {I : List Nat} {σ : L2.St} {i : Nat} {v : Option V} (h : i ∉ I) : Pin I σ (σ.set i v) := ⟨List.length_set .., fun j hj => List.getElem?_set_ne (fun e => h (by rw [e]; exact hj))⟩
section
variable (K : PySem.W.Frag) (mg : Str → Option Value) (W : WX) (I : List Nat)
noncomputable def OutOk (D : Ends) (F : Hp) (O : Own) (σ : L2.St) (H : Hp) : Out → Prop
  | .nx ρ' => ∀ F' O' σ' H', RS K F' σ' ρ' H' O' → Step F H O F' H' O' → Pin I σ σ' → D.nx σ' H'
  | .bk ρ' => ∀ F' O' σ' H', RS K F' σ' ρ' H' O' → Step F H O F' H' O' → Pin I σ σ' → D.bk σ' H'
  | .ct ρ' => ∀ F' O' σ' H', RS K F' σ' ρ' H' O' → Step F H O F' H' O' → Pin I σ σ' → D.ct σ' H'
  | .rt s ρ' => ∀ F' O' σ' H' v, RS K F' σ' ρ' H' O' → VOk K F' H' O' ρ'.length s v → Step F H O F' H' O' → Pin I σ σ' → D.rt v H'
  | .ex c ρ' => ∀ F' O' σ' H', RS K F' σ' ρ' H' O' → Step F H O F' H' O' → Pin I σ σ' → W (exv mg c) none σ' H'
  | .stuck => False
noncomputable def dS (f : DSn) : TS := fun D σ H => ∃ F O ρ, RS K F σ ρ H O ∧ OutOk K mg W I D F O σ H (f ρ)
end
structure DS (X : Cx) (W : WX) (I : List Nat) (st : Stmt) (f : DSn) : Prop where
  ps : PS X st (dS X.K X.mg W I f)
structure DSs (X : Cx) (W : WX) (I : List Nat) (st : List Stmt) (f : DSn) : Prop where
  pss : PSs X st (dS X.K X.mg W I f)
theorem OutOk.step {K : PySem.W.Frag} {mg : Str → Option Value} {W : WX} {I : List Nat} {D : Ends} {F F1 H H1 : Hp} {O O1 : Own} {σ σ1 : L2.St} {o : Out} (st : Step F H O F1 H1 O1) (p : Pin I σ σ1) (h : OutOk K mg W I D F O σ H o) : OutOk K mg W I D F1 O1 σ1 H1 o := by
  cases o with
  | nx ρ => exact fun F' O' σ' H' a b c => h F' O' σ' H' a (st.trans b) (p.trans c)
  | bk ρ => exact fun F' O' σ' H' a b c => h F' O' σ' H' a (st.trans b) (p.trans c)
  | ct ρ => exact fun F' O' σ' H' a b c => h F' O' σ' H' a (st.trans b) (p.trans c)
  | rt s ρ => exact fun F' O' σ' H' v a d b c => h F' O' σ' H' v a d (st.trans b) (p.trans c)
  | ex c ρ => exact fun F' O' σ' H' a b c => h F' O' σ' H' a (st.trans b) (p.trans c)
  | stuck => exact h
/-- an expression, then an end -/
@[simp] noncomputable def Res.out {α : Type} (r : Res (α × List Slot)) (k : α → List Slot → Out) : Out := match r with
  | .ok p => k p.1 p.2
  | .ex c ρ => .ex c ρ
  | .stuck => .stuck
theorem out_wp {α : Type} {K : PySem.W.Frag} {mg : Str → Option Value} {W : WX} {I : List Nat} {D : Ends} {F H : Hp} {O : Own} {σ : L2.St} {r : Res (α × List Slot)} {k : α → List Slot → Out} {P : α × List Slot → Prop} (h : OutOk K mg W I D F O σ H (r.out k))
    (hp : ∀ a ρ1, OutOk K mg W I D F O σ H (k a ρ1) → P (a, ρ1)) : r.wp P (PX K mg W F O σ H) := by
  cases r with
  | ok p => exact hp p.1 p.2 h
  | ex c ρ => exact fun F' O' H' rs st => h F' O' σ H' rs st .refl
  | stuck => exact h
section
variable {X : Cx} {W : WX} {I : List Nat}
@[simp] noncomputable def dSkip (ρ : List Slot) : Out := .nx ρ
@[simp] noncomputable def dSeq (f g : DSn) (ρ : List Slot) : Out := match f ρ with
  | .nx ρ1 => g ρ1
  | o => o
theorem dss_nil : DSs X W I [] dSkip := ⟨PSs_imp pss_nil fun D σ H ⟨F, O, ρ, rs, h⟩ => h F O σ H rs .refl .refl⟩
theorem dss_one {st : Stmt} {f : DSn} (h : DS X W I st f) : DSs X W I [st] f := ⟨pss_one h.ps⟩
theorem dss_cons {st : Stmt} {rest : List Stmt} {f g : DSn} (h1 : DS X W I st f) (h2 : DSs X W I rest g) : DSs X W I (st :: rest) (dSeq f g) := by
  refine ⟨PSs_imp (pss_cons h1.ps h2.pss) fun D σ H ⟨F, O, ρ, rs, h⟩ => ⟨F, O, ρ, rs, ?_⟩⟩
  unfold dSeq at h
  cases hf : f ρ with
  | nx ρ1 =>
    rw [hf] at h
    exact fun F' O' σ' H' a b c => ⟨F', O', ρ1, a, h.step b c⟩
  | bk ρ1 => rw [hf] at h; exact h
  | ct ρ1 => rw [hf] at h; exact h
  | rt s ρ1 => rw [hf] at h; exact h
  | ex c ρ1 => rw [hf] at h; exact h
  | stuck => rw [hf] at h; exact h
theorem ds_pass {pos : Pos} : DS X W I (.Pass pos) dSkip := ⟨PS_imp ps_pass fun D σ H ⟨F, O, ρ, rs, h⟩ => h F O σ H rs .refl .refl⟩
@[simp] noncomputable def dBrk (ρ : List Slot) : Out := .bk ρ
@[simp] noncomputable def dCnt (ρ : List Slot) : Out := .ct ρ
theorem ds_break {pos : Pos} : DS X W I (.Break pos) dBrk := ⟨PS_imp ps_break fun D σ H ⟨F, O, ρ, rs, h⟩ => h F O σ H rs .refl .refl⟩
theorem ds_continue {pos : Pos} : DS X W I (.Continue pos) dCnt := ⟨PS_imp ps_continue fun D σ H ⟨F, O, ρ, rs, h⟩ => h F O σ H rs .refl .refl⟩
/-! a store -/
@[simp] noncomputable def Slot.st : Slot → Option Slot
  | .sh d => some (.sh d)
  | .own xs => some (.own xs)
  | .pk d => if d.flat then some (.sh d) else none
  | .od kxs => some (.od kxs)
  | _ => none
theorem RS.store {K : PySem.W.Frag} {F H : Hp} {O : Own} {σ : L2.St} {ρ : List Slot} {s t : Slot} {v : V} (i : Nat) (r : RS K F σ ρ H O) (h : VOk K F H O ρ.length s v) (e : s.st = some t) :
    ∃ O', RS K F (σ.set i (some v)) (ρ.set i t) H O' ∧ Step F H O F H O' := by
  have shc : ∀ {d : D}, R K F v d → RS K F (σ.set i (some v)) (ρ.set i (.sh d)) H O := fun {d} rv => by
    refine ⟨by rw [List.length_set, List.length_set]; exact r.len, r.fh, fun j u hu => ?_, r.out⟩
    by_cases hj : i = j
    · subst hj
      by_cases hl : i < ρ.length
      · rw [List.getElem?_set_self hl] at hu
        cases hu
        rw [List.getElem?_set_self (by rw [← r.len]; exact hl)]
        exact ⟨v, rfl, rv⟩
      · rw [List.getElem?_eq_none (by rw [List.length_set]; omega)] at hu; cases hu
    · rw [List.getElem?_set_ne hj] at hu
      rw [List.getElem?_set_ne hj]
      exact r.ok j u hu
  cases s with
  | sh d => cases e; exact ⟨O, shc h, .refl⟩
  | pk d =>
    unfold Slot.st at e
    obtain ⟨f, e⟩ := ite_some e
    subst e
    exact ⟨O, shc (R.flat_any h f), .refl⟩
  | own xs =>
    cases e
    obtain ⟨a, vs, rfl, q, p, rr⟩ := h
    refine ⟨fun b => if b = a then some i else O b, ⟨by rw [List.length_set, List.length_set]; exact r.len, r.fh, fun j u hu => ?_, fun b j e => ?_⟩, ⟨fun _ _ h _ => h, fun _ o h => ⟨o, h⟩, Same.refl F, fun b o e => .inl e, fun b j e => ?_⟩⟩
    · by_cases hj : i = j
      · subst hj
        by_cases hl : i < ρ.length
        · rw [List.getElem?_set_self hl] at hu
          cases hu
          rw [List.getElem?_set_self (by rw [← r.len]; exact hl)]
          exact ⟨a, vs, rfl, q, by simp, rr⟩
        · rw [List.getElem?_eq_none (by rw [List.length_set]; omega)] at hu; cases hu
      · rw [List.getElem?_set_ne hj] at hu
        rw [List.getElem?_set_ne hj]
        have hl : j < ρ.length := (List.getElem?_eq_some_iff.mp hu).1
        refine (r.ok j u hu).ext (Same.refl F) fun c w pc hw => ⟨hw, ?_⟩
        by_cases hc : c = a
        · subst hc; rw [p] at pc; cases pc; exact absurd hl (Nat.lt_irrefl _)
        · simp [hc, pc]
    · by_cases hb : b = a
      · subst hb; exact r.out b _ p
      · simp [hb] at e; exact r.out b j e
    · by_cases hb : b = a
      · subst hb; exact .inl ⟨_, p⟩
      · simp [hb] at e; exact .inl ⟨j, e⟩
  | od kxs =>
    cases e
    obtain ⟨a, vs, rfl, q, p, mm, rr⟩ := h
    refine ⟨fun b => if b = a then some i else O b, ⟨by rw [List.length_set, List.length_set]; exact r.len, r.fh, fun j u hu => ?_, fun b j e => ?_⟩, ⟨fun _ _ h _ => h, fun _ o h => ⟨o, h⟩, Same.refl F, fun b o e => .inl e, fun b j e => ?_⟩⟩
    · by_cases hj : i = j
      · subst hj
        by_cases hl : i < ρ.length
        · rw [List.getElem?_set_self hl] at hu
          cases hu
          rw [List.getElem?_set_self (by rw [← r.len]; exact hl)]
          exact ⟨a, vs, rfl, q, by simp, mm, rr⟩
        · rw [List.getElem?_eq_none (by rw [List.length_set]; omega)] at hu; cases hu
      · rw [List.getElem?_set_ne hj] at hu
        rw [List.getElem?_set_ne hj]
        have hl : j < ρ.length := (List.getElem?_eq_some_iff.mp hu).1
        refine (r.ok j u hu).ext (Same.refl F) fun c w pc hw => ⟨hw, ?_⟩
        by_cases hc : c = a
        · subst hc; rw [p] at pc; cases pc; exact absurd hl (Nat.lt_irrefl _)
        · simp [hc, pc]
    · by_cases hb : b = a
      · subst hb; exact r.out b _ p
      · simp [hb] at e; exact r.out b j e
    · by_cases hb : b = a
      · subst hb; exact .inl ⟨_, p⟩
      · simp [hb] at e; exact .inl ⟨j, e⟩
  | _ => cases e
@[simp] noncomputable def dSet (i : Nat) (f : DEn) (ρ : List Slot) : Out := (f ρ).out fun s ρ1 => match s.st with
  | some t => .nx (ρ1.set i t)
  | none => .stuck
/-- a value, then its store -/
theorem set_ok {K : PySem.W.Frag} {mg : Str → Option Value} {pu : Bool} {D : Ends} {F H : Hp} {O : Own} {σ : L2.St} {ρ : List Slot} {i : Nat} {f : DEn} (hI : i ∉ I) (rs : RS K F σ ρ H O) (h : OutOk K mg W I D F O σ H (dSet i f ρ)) :
    dE K mg W pu f σ H fun x H1 => D.nx (σ.set i (some x)) H1 := by
  refine ⟨F, O, ρ, rs, out_wp h fun s ρ1 h => ?_⟩
  intro F1 O1 v H1 rs1 v1 st1 _
  cases hs : s.st with
  | none => simp only [hs] at h; exact h.elim
  | some t =>
    simp only [hs] at h
    obtain ⟨O2, rs2, st2⟩ := rs1.store i v1 hs
    exact h F1 O2 _ H1 rs2 (st1.trans st2) (Pin.set hI)
theorem ds_set {x : Str} {pu : Bool} {e : Expr} {f : DEn} {pos pos' : Pos} (i : Nat) (hN : X.N.Nodup) (he : DE X W pu e f) (hi : X.N[i]? = some x := by rfl) (hx : Loc X.env.scope x := by first | exact .inl rfl | exact .inr rfl) (hI : i ∉ I := by decide) (hs : swapsWith e (some (.Name x pos')) pos.line X.env = pure false := by rfl)
    (hf : X.fn x = true ∨ X.env.scope.names.lookup x = some .local := by first | exact .inl rfl | exact .inr rfl) : DS X W I (.Assign [.Name x pos'] e pos) (dSet i f) :=
  ⟨PS_imp (ps_set hN hi hx he.pe hs hf) fun D σ H ⟨F, O, ρ, rs, h⟩ => set_ok hI rs h⟩
@[simp] noncomputable def dRet (f : DEn) (ρ : List Slot) : Out := (f ρ).out fun s ρ1 => .rt s ρ1
theorem ds_ret {pu : Bool} {e : Expr} {f : DEn} {pos : Pos} (he : DE X W pu e f) : DS X W I (.Return (some e) pos) (dRet f) :=
  ⟨PS_imp (ps_ret he.pe) fun D σ H ⟨F, O, ρ, rs, h⟩ => ⟨F, O, ρ, rs, out_wp h fun s ρ1 h F1 O1 v H1 rs1 v1 st1 _ => h F1 O1 σ H1 v rs1 v1 st1 .refl⟩⟩
@[simp] noncomputable def dRetN (ρ : List Slot) : Out := .rt (.sh .non) ρ
theorem ds_retN {pos : Pos} : DS X W I (.Return none pos) dRetN := ⟨PS_imp ps_retN fun D σ H ⟨F, O, ρ, rs, h⟩ => h F O σ H .non rs .non .refl .refl⟩
@[simp] noncomputable def dDrop (f : DEn) (ρ : List Slot) : Out := (f ρ).out fun _ ρ1 => .nx ρ1
theorem ds_expr {pu : Bool} {e : Expr} {f : DEn} {pos : Pos} (he : DE X W pu e f) (hs : swapsWith e none pos.line X.env = pure false := by rfl) : DS X W I (.Expr e pos) (dDrop f) :=
  ⟨PS_imp (ps_expr he.pe hs) fun D σ H ⟨F, O, ρ, rs, h⟩ => ⟨F, O, ρ, rs, out_wp h fun s ρ1 h F1 O1 v H1 rs1 v1 st1 _ => h F1 O1 σ H1 rs1 st1 .refl⟩⟩
@[simp] noncomputable def dIf (c : DTn) (f g : DSn) (ρ : List Slot) : Out := (c ρ).out fun b ρ1 => if b = true then f ρ1 else g ρ1
theorem ds_if {pu : Bool} {c : Expr} {a b : List Stmt} {fc : DTn} {f g : DSn} {pos : Pos} (hc : DT X W pu c fc) (ha : DSs X W I a f) (hb : DSs X W I b g) : DS X W I (.If c a b pos) (dIf fc f g) := by
  refine ⟨PS_imp (ps_if hc.pt ha.pss hb.pss) fun D σ H ⟨F, O, ρ, rs, h⟩ => ⟨F, O, ρ, rs, out_wp h fun b ρ1 h F1 O1 H1 rs1 st1 _ => ?_⟩⟩
  cases b with
  | true =>
    simp only [if_true] at h ⊢
    exact ⟨F1, O1, ρ1, rs1, h.step st1 .refl⟩
  | false =>
    simp only [Bool.false_eq_true, if_false] at h ⊢
    exact ⟨F1, O1, ρ1, rs1, h.step st1 .refl⟩
/-- raise X("..") -/
@[simp] noncomputable def dRaise (c : Str) (ρ : List Slot) : Out := .ex c ρ
theorem ds_raise {c : Str} {e : Expr} {pos : Pos} (hc : X.calm = true) (tk : Takes X W) (he : PMk X e fun _ H Q => Q (exv X.mg c) none H) : DS X W I (.Raise (some e) none pos) (dRaise c) :=
  ⟨PS_imp (ps_raise hc tk he) fun D σ H ⟨F, O, ρ, rs, h⟩ => h F O σ H rs .refl .refl⟩

/-! ### a change of an own list -/
theorem RS.change {K : PySem.W.Frag} {F H : Hp} {O : Own} {σ : L2.St} {ρ : List Slot} {i : Nat} {s : Slot} {xs ys : List D} {a : Addr} {vs : List V} (r : RS K F σ ρ H O) (hi : ρ[i]? = some s) (hl : s.lp = some xs) (ha : σ[i]?.join = some (.ref a)) (oa : O a = some i) (ry : Rs K F vs ys) :
    RS K F σ (ρ.set i (s.put ys)) (upd H a (.lst vs)) O ∧ Step F H O F (upd H a (.lst vs)) O := by
  obtain ⟨fa, o, hoa⟩ := r.out a i oa
  have fh : Same F (upd H a (.lst vs)) := fun b u e => by
    rw [upd_ne (ne_of_none e fa)]; exact r.fh b u e
  refine ⟨⟨by rw [List.length_set]; exact r.len, fh, fun j t ht => ?_, fun b j e => ?_⟩, ⟨fun b u h n => ?_, fun b u h => ?_, Same.refl F, fun b u e => .inl e, fun b j e => .inl ⟨j, e⟩⟩⟩
  · by_cases hj : i = j
    · subst hj
      have hl' : i < ρ.length := (List.getElem?_eq_some_iff.mp hi).1
      rw [List.getElem?_set_self hl'] at ht
      cases ht
      exact slot_put hl ha upd_same oa ry
    · rw [List.getElem?_set_ne hj] at ht
      refine (r.ok j t ht).ext (Same.refl F) fun b u pb hu => ⟨?_, pb⟩
      rw [upd_ne (fun z => by subst z; rw [oa] at pb; exact hj (Option.some.inj pb))]
      exact hu
  · obtain ⟨h1, u, h2⟩ := r.out b j e
    refine ⟨h1, ?_⟩
    by_cases hb : b = a
    · subst hb; exact ⟨_, upd_same⟩
    · exact ⟨u, by rw [upd_ne hb]; exact h2⟩
  · rw [upd_ne (fun z => by subst z; rw [oa] at n; cases n)]
    exact h
  · by_cases hb : b = a
    · subst hb; exact ⟨_, upd_same⟩
    · exact ⟨u, by rw [upd_ne hb]; exact h⟩
/-- x.append(e), x a name of an own list -/
@[simp] noncomputable def dApp (i : Nat) (f : DEn) (ρ : List Slot) : Out := match ρ[i]?.bind Slot.lp with
  | none => .stuck
  | some _ => (f ρ).out fun s ρ1 => match s.fz, ρ1[i]? with
    | some d, some t => (match t.lp with
      | some xs => if xs.length < sizeLine then .nx (ρ1.set i (t.put (xs ++ [d]))) else .stuck
      | none => .stuck)
    | _, _ => .stuck
theorem ds_app {y : Str} {pu : Bool} {e : Expr} {f : DEn} {py apos pos cpos : Pos} (i : Nat) (he : DE X W pu e f) (hN : X.N[i]? = some y := by rfl)
    (hvis : Vis X.env.scope y := by first | exact Or.inl rfl | exact Or.inr (Or.inl rfl) | exact Or.inr (Or.inr rfl)) (hd : (y == ("__debug__" : Str)) = false := by decide) (hcd : (y == ("__classdict__" : Str)) = false := by decide)
    (ha : PE X (.Name y py) (tVar i) → PA X [e] (tCons (dE X.K X.mg W pu f) tNil) → PE X (.Call (.Attribute (.Name y py) "append" apos) [e] [] cpos) (tBM X.K "list" rAppend (tVar i) (tCons (dE X.K X.mg W pu f) tNil)) := by
      intro h1 h2; exact pe_bm PySem.F.plainAttrs_list PySem.F.slot_list_append PySem.F.type_list_append mt_append h1 h2)
    (hst : starEach (e :: []) X.env = (false, eval e X.env) :: starEach [] X.env := by rfl)
    (hs : swapsWith (.Call (.Attribute (.Name y py) "append" apos) [e] [] cpos) none pos.line X.env = pure false := by rfl) : DS X W I (.Expr (.Call (.Attribute (.Name y py) "append" apos) [e] [] cpos) pos) (dApp i f) := by
  refine ⟨PS_imp (ps_expr (ha (pe_var hN hvis hd hcd) (pa_cons he.pe pa_nil hst)) hs) fun D σ H ⟨F, O, ρ, rs, h⟩ => ?_⟩
  unfold dApp at h
  cases h0 : ρ[i]?.bind Slot.lp with
  | none => simp only [h0] at h; exact h.elim
  | some xs0 =>
    simp only [h0] at h
    cases hρ : ρ[i]? with
    | none => rw [hρ] at h0; cases h0
    | some s0 =>
      rw [hρ] at h0
      obtain ⟨a, vs0, ea, hH0, _, _⟩ := slot_lp (rs.ok i s0 hρ) h0
      refine ⟨.ref a, join_some ea, .inl ⟨rfl, _, SqL.of hH0⟩, F, O, ρ, rs, out_wp h fun s ρ1 h => ?_⟩
      intro F1 O1 v H1 rs1 v1 st1 _
      cases hz : s.fz with
      | none => simp only [hz] at h; exact h.elim
      | some d =>
        cases ht : ρ1[i]? with
        | none => simp only [hz, ht] at h; exact h.elim
        | some t =>
          simp only [hz, ht] at h
          cases hl : t.lp with
          | none => simp only [hl] at h; exact h.elim
          | some xs =>
            simp only [hl] at h
            obtain ⟨F2, O2, rs2, rv, st2⟩ := rs1.freeze v1 hz
            obtain ⟨a', vs, ea', hH, oa, rx⟩ := slot_lp (rs2.ok i t ht) hl
            rw [ea] at ea'
            cases ea'
            by_cases hc : xs.length < sizeLine
            · rw [if_pos hc] at h
              refine ⟨a, vs, v, rfl, rfl, hH, by rw [rx.length]; exact hc, ?_⟩
              obtain ⟨rs3, st3⟩ := rs2.change ht hl ea oa (rx.append (.cons rv .nil))
              exact h F2 O2 σ _ rs3 (st1.trans (st2.trans st3)) .refl
            · rw [if_neg hc] at h; exact h.elim
/-- x.extend(e), x a name of an own list, e a list -/
@[simp] noncomputable def dExt (i : Nat) (f : DEn) (ρ : List Slot) : Out := match ρ[i]?.bind Slot.lp with
  | none => .stuck
  | some _ => (f ρ).out fun s ρ1 => match s.fz, ρ1[i]? with
    | some (.lst ys), some t => (match t.lp with
      | some xs => if xs.length + ys.length ≤ sizeLine then .nx (ρ1.set i (t.put (xs ++ ys))) else .stuck
      | none => .stuck)
    | _, _ => .stuck
theorem ds_ext {y : Str} {pu : Bool} {e : Expr} {f : DEn} {py apos pos cpos : Pos} (i : Nat) (he : DE X W pu e f) (hN : X.N[i]? = some y := by rfl)
    (hvis : Vis X.env.scope y := by first | exact Or.inl rfl | exact Or.inr (Or.inl rfl) | exact Or.inr (Or.inr rfl)) (hd : (y == ("__debug__" : Str)) = false := by decide) (hcd : (y == ("__classdict__" : Str)) = false := by decide)
    (ha : PE X (.Name y py) (tVar i) → PA X [e] (tCons (dE X.K X.mg W pu f) tNil) → PE X (.Call (.Attribute (.Name y py) "extend" apos) [e] [] cpos) (tBM X.K "list" rExtend (tVar i) (tCons (dE X.K X.mg W pu f) tNil)) := by
      intro h1 h2; exact pe_bm PySem.F.plainAttrs_list PySem.F.slot_list_extend PySem.F.type_list_extend mt_extend h1 h2)
    (hst : starEach (e :: []) X.env = (false, eval e X.env) :: starEach [] X.env := by rfl)
    (hs : swapsWith (.Call (.Attribute (.Name y py) "extend" apos) [e] [] cpos) none pos.line X.env = pure false := by rfl) : DS X W I (.Expr (.Call (.Attribute (.Name y py) "extend" apos) [e] [] cpos) pos) (dExt i f) := by
  refine ⟨PS_imp (ps_expr (ha (pe_var hN hvis hd hcd) (pa_cons he.pe pa_nil hst)) hs) fun D σ H ⟨F, O, ρ, rs, h⟩ => ?_⟩
  unfold dExt at h
  cases h0 : ρ[i]?.bind Slot.lp with
  | none => simp only [h0] at h; exact h.elim
  | some xs0 =>
    simp only [h0] at h
    cases hρ : ρ[i]? with
    | none => rw [hρ] at h0; cases h0
    | some s0 =>
      rw [hρ] at h0
      obtain ⟨a, vs0, ea, hH0, _, _⟩ := slot_lp (rs.ok i s0 hρ) h0
      refine ⟨.ref a, join_some ea, .inl ⟨rfl, _, SqL.of hH0⟩, F, O, ρ, rs, out_wp h fun s ρ1 h => ?_⟩
      intro F1 O1 v H1 rs1 v1 st1 _
      cases hz : s.fz with
      | none => simp only [hz] at h; exact h.elim
      | some d =>
        cases d with
        | lst ys =>
          cases ht : ρ1[i]? with
          | none => simp only [hz, ht] at h; exact h.elim
          | some t =>
            simp only [hz, ht] at h
            cases hl : t.lp with
            | none => simp only [hl] at h; exact h.elim
            | some xs =>
              simp only [hl] at h
              obtain ⟨F2, O2, rs2, rv, st2⟩ := rs1.freeze v1 hz
              obtain ⟨a', vs, ea', hH, oa, rx⟩ := slot_lp (rs2.ok i t ht) hl
              rw [ea] at ea'
              cases ea'
              by_cases hc : xs.length + ys.length ≤ sizeLine
              · rw [if_pos hc] at h
                cases rv with
                | lst q ry =>
                  refine ⟨a, _, vs, _, rfl, rfl, hH, rs2.fh _ _ q, by rw [rx.length, ry.length]; exact hc, ?_⟩
                  obtain ⟨rs3, st3⟩ := rs2.change ht hl ea oa (rx.append ry)
                  exact h F2 O2 σ _ rs3 (st1.trans (st2.trans st3)) .refl
              · rw [if_neg hc] at h; exact h.elim
        | _ => simp only [hz] at h; exact h.elim
/-- x[e1] = e2, x a name of an own list -/
@[simp] noncomputable def dSto (i : Nat) (f : DEn) (fi : DEn) (ρ : List Slot) : Out := (f ρ).out fun s ρ1 => match s.fz with
  | none => .stuck
  | some d => match ρ1[i]?.bind Slot.lp with
    | none => .stuck
    | some _ => (fi ρ1).out fun j ρ2 => match j.val, ρ2[i]? with
      | some (.int k), some t => (match t.lp with
        | some xs => (match L2.ixN xs.length k with
          | some n => .nx (ρ2.set i (t.put (xs.set n d)))
          | none => .stuck)
        | none => .stuck)
      | _, _ => .stuck
theorem ds_sto {y : Str} {pu pi : Bool} {e ei : Expr} {f fi : DEn} {py spos pos : Pos} (i : Nat) (he : DE X W pu e f) (hi : DE X W pi ei fi) (hN : X.N[i]? = some y := by rfl)
    (hvis : Vis X.env.scope y := by first | exact Or.inl rfl | exact Or.inr (Or.inl rfl) | exact Or.inr (Or.inr rfl)) (hd : (y == ("__debug__" : Str)) = false := by decide) (hcd : (y == ("__classdict__" : Str)) = false := by decide)
    (ha : PE X (.Name y py) (tVar i) → PE X ei (dE X.K X.mg W pi fi) → PE X e (dE X.K X.mg W pu f) → PS X (.Assign [.Subscript (.Name y py) ei spos] e pos) (tAsg (dE X.K X.mg W pu f) (L2.gSub (tVar i) (dE X.K X.mg W pi fi) rSetL)) := by
      intro h1 h2 h3; exact ps_asg h3 (pg_sub h1 h2 set_list)) : DS X W I (.Assign [.Subscript (.Name y py) ei spos] e pos) (dSto i f fi) := by
  refine ⟨PS_imp (ha (pe_var hN hvis hd hcd) hi.pe he.pe) fun D σ H ⟨F, O, ρ, rs, h⟩ => ?_⟩
  refine ⟨F, O, ρ, rs, out_wp h fun s ρ1 h => ?_⟩
  intro F1 O1 v H1 rs1 v1 st1 _
  cases hz : s.fz with
  | none => simp only [hz] at h; exact h.elim
  | some d =>
    simp only [hz] at h
    obtain ⟨F2, O2, rs2, rv, st2⟩ := rs1.freeze v1 hz
    cases h0 : ρ1[i]?.bind Slot.lp with
    | none => simp only [h0] at h; exact h.elim
    | some xs0 =>
      simp only [h0] at h
      cases hρ : ρ1[i]? with
      | none => rw [hρ] at h0; cases h0
      | some s0 =>
        rw [hρ] at h0
        obtain ⟨a, vs0, ea, hH0, _, _⟩ := slot_lp (rs2.ok i s0 hρ) h0
        refine ⟨.ref a, join_some ea, F2, O2, ρ1, rs2, out_wp (h.step (st1.trans st2) .refl) fun j ρ2 h => ?_⟩
        intro F3 O3 w H3 rs3 v3 st3 _
        cases hj : j.val with
        | none => simp only [hj] at h; exact h.elim
        | some jd =>
          cases jd with
          | int k =>
            cases ht : ρ2[i]? with
            | none => simp only [hj, ht] at h; exact h.elim
            | some t =>
              simp only [hj, ht] at h
              cases hl : t.lp with
              | none => simp only [hl] at h; exact h.elim
              | some xs =>
                simp only [hl] at h
                obtain ⟨a', vs, ea', hH, oa, rx⟩ := slot_lp (rs3.ok i t ht) hl
                rw [ea] at ea'
                cases ea'
                have rw' := v3.read rs3.fh hj
                cases rw'
                cases hn : L2.ixN xs.length k with
                | none => simp only [hn] at h; exact h.elim
                | some n =>
                  simp only [hn] at h
                  refine ⟨a, vs, k, n, rfl, rfl, hH, by rw [rx.length]; exact hn, ?_⟩
                  obtain ⟨rs4, st4⟩ := rs3.change ht hl ea oa (rx.set (rv.up st3.fr) n)
                  exact h F3 O3 σ _ rs4 (st3.trans st4) .refl
          | _ => simp only [hj] at h; exact h.elim
/-- x op= e, by a scalar operator -/
@[simp] noncomputable def dAug (i : Nat) (g : D → D → Option D) (f : DEn) (ρ : List Slot) : Out := match ρ[i]? with
  | some (.sh d) => (f ρ).out fun s ρ1 => match s.val.bind fun e => g d e with
    | some z => .nx (ρ1.set i (.sh z))
    | none => .stuck
  | _ => .stuck
theorem ds_aug {x : Str} {pu : Bool} {e : Expr} {op : Operator} {f : DEn} {g : D → D → Option D} {pos pos' : Pos} (i : Nat) (o : OpS X (inplaceOp op) g) (hN : X.N.Nodup) (he : DE X W pu e f) (hi : X.N[i]? = some x := by rfl) (hx : Loc X.env.scope x := by first | exact .inl rfl | exact .inr rfl) (hI : i ∉ I := by decide)
    (hf : X.fn x = true ∨ X.env.scope.names.lookup x = some .local := by first | exact .inl rfl | exact .inr rfl) : DS X W I (.AugAssign (.Name x pos') op e pos) (dAug i g f) := by
  obtain ⟨r, hr, hq⟩ := o.op
  refine ⟨PS_imp (ps_aug (ti := r) hN hi hx he.pe (fun pins s σ H x y v u Q I r1 r2 h => hr pins s σ H x y v u Q I r1 r2 h) hf) fun D σ H ⟨F, O, ρ, rs, h⟩ => ?_⟩
  unfold dAug at h
  split at h
  · rename_i d hd
    obtain ⟨v, hv, rv⟩ := rs.ok i _ hd
    refine ⟨v, join_some hv, F, O, ρ, rs, out_wp h fun s ρ1 h => ?_⟩
    intro F1 O1 w H1 rs1 v1 st1 _
    cases hs : s.val with
    | none => simp only [hs] at h; exact h.elim
    | some e' =>
      cases hz : g d e' with
      | none => simp only [hs, Option.bind_some, hz] at h; exact h.elim
      | some z =>
        simp only [hs, Option.bind_some, hz] at h
        refine hq H1 v w d e' z _ ((rv.up st1.fr).up rs1.fh) (v1.read rs1.fh hs) hz fun fl => ?_
        obtain ⟨O2, rs2, st2⟩ := rs1.store (s := .sh z) (t := .sh z) i (v := z.v) (R.of_flat fl) rfl
        exact h F1 O2 _ H1 rs2 (st1.trans st2) (Pin.set hI)
  · exact h.elim
end
end DL
/-! DL: zip of lists and tuples, mixed -/
namespace DL
open PySem PySem.Spec PyProof.Rows L2
def SqA (K : PySem.W.Frag) : Bool → Hp → Addr → List V → Prop
  | true => SqL K
  | false => SqT K
def IsA (h : Heap) : Bool → Addr → Array Value → Prop
  | true => h.IsList
  | false => h.IsTuple
def ItA (h : Heap) : Bool → Addr → Addr → Nat → Prop
  | true => h.IsListIter
  | false => h.IsTupleIter
def nmA : Bool → String
  | true => "list_iterator"
  | false => "tuple_iterator"
theorem ItA.obj {h : Heap} {k : Bool} {it a : Addr} {i : Nat} (x : ItA h k it a i) : ∃ o, h.get? it = some o ∧ o.data = .fields #[.ref a, .int i 0] := by
  cases k <;> (obtain ⟨o, e, _, d⟩ := x; exact ⟨o, e, d⟩)
theorem ItA.at {h h' : Heap} {k : Bool} {it a : Addr} {i : Nat} (x : ItA h k it a i) (g : ∀ o, h.get? it = some o → h'.get? it = some o) : ItA h' k it a i := by
  cases k <;> (obtain ⟨o, e, r⟩ := x; exact ⟨o, g o e, r⟩)
theorem IsA.push {h : Heap} {k : Bool} {a : Addr} {its : Array Value} (x : IsA h k a its) (o : Obj) : IsA (h.push o) k a its := by
  cases k
  · exact Heap.IsTuple.push x o
  · exact Heap.IsList.push x o
theorem draws_A {prog : Program} {w : World} {A : Around} (hh : A.handled = none) (k : Bool) (it a : Addr) (hne : a ≠ it) (its : Array Value) :
    Draws prog w A it [it, a] its.size (fun i v => its[i]? = some v) (fun i h => ItA h k it a i ∧ IsA h k a its) := by
  cases k
  · exact Draws.tuple hh it a hne its
  · exact Draws.list hh it a hne its
theorem iter_A {prog : Program} {w : World} {A : Around} {E : Value → Shared → Prop} {s : Shared} {k : Bool} {l : Addr} {its : Array Value} {Q : Value → Shared → Prop} (hl : IsA s.heap k l its)
    (hQ : Q (.ref s.heap.objs.size) { s with heap := s.heap.push { cls := .type (nmA k), data := .fields #[.ref l, .int 0 0] } }) : wpAny (model prog w) A (pyIter (.ref l)) Q E s := by
  cases k
  · exact wpAny_pyIter_tuple hl hQ
  · exact wpAny_pyIter_list hl hQ
theorem inv_A {X : Cx} {pins : List (Addr × Obj)} {σ : L2.St} {H : Hp} {s : Shared} {k : Bool} {a : Addr} {xs : List V} (I : Inv X pins σ H s) (q : SqA X.K k H a xs) :
    ∃ its : List Value, Vals xs its ∧ IsA s.heap k a its.toArray ∧ a < s.heap.objs.size := by
  cases k
  · obtain ⟨its, r, p, _⟩ := I.tuple q
    obtain ⟨o, e, _⟩ := id p
    exact ⟨its, r, p, Heap.lt_size e⟩
  · obtain ⟨its, r, p, _⟩ := I.list q
    exact ⟨its, r, p.isList, p.lt⟩
theorem inj_A {X : Cx} {pins : List (Addr × Obj)} {σ : L2.St} {H : Hp} {s : Shared} {k : Bool} {a : Addr} {xs ys : List V} (I : Inv X pins σ H s) (q : SqA X.K k H a xs) (q' : SqA X.K k H a ys) : xs = ys := by
  cases k
  · exact I.tuple_inj q q'
  · exact I.list_inj q q'
/-- pairs of what stands at a and b -/
def ItPair (K : PySem.W.Frag) (k1 k2 : Bool) (a b : Addr) : It where
  go := fun i H => ∃ (xs ys : List V) (x y : V), SqA K k1 H a xs ∧ SqA K k2 H b ys ∧ xs[i]? = some x ∧ ys[i]? = some y
  yld := fun i H v H' => ∃ T x y, v = .ref T ∧ H T = none ∧ H' = upd H T (.tup [x, y]) ∧ (∀ xs, SqA K k1 H a xs → xs[i]? = some x) ∧ ∀ ys, SqA K k2 H b ys → ys[i]? = some y
  stop := fun i H => ∃ xs ys : List V, SqA K k1 H a xs ∧ SqA K k2 H b ys ∧ i = min xs.length ys.length
theorem sep_A {z TI TO i1 i2 a b : Addr} (D : ZipApart z TI TO i1 i2 a b) : ZipSep2 z TI TO i1 i2 [i1, a] [i2, b] where
  TIz := D.TIz
  TOz := D.TOz
  TITO := D.TITO
  TIi1 := D.TIi1
  mem1 := by simp
  zf1 := by simp [D.i1z.symm, D.l1z.symm]
  Tf1 := by simp [D.TOi1, D.l1TO.symm]
  TIi2 := D.TIi2
  mem2 := by simp
  zf2 := by simp [D.i2z.symm, D.l2z.symm]
  Tf2 := by simp [D.TOi2, D.l2TO.symm]
  sep1_2 := by simp [D.i12, D.l2i1.symm]
  sep2_1 := by simp [D.i12.symm, D.l1i2.symm]
theorem turn_pair {P : Program} {w : World} {K : PySem.W.Frag} {elts : List Expr} {kk : Nat} {tpos : Pos} {k1 k2 : Bool} {a b z TI TO i1 i2 : Addr} (D : ZipApart z TI TO i1 i2 a b) :
    Turn P w K (.Tuple elts kk tpos) (ItPair K k1 k2 a b) [z, TI, TO, i1, i2] z (fun i h => IsZip h z TI TO .none ∧ IsPair h TI (.ref i1) (.ref i2) ∧ (∃ x y, IsPair h TO x y) ∧ ItA h k1 i1 a i ∧ ItA h k2 i2 b i) where
  mem := by simp
  obj := fun i h st c hc => by
    obtain ⟨hz, hTI, ⟨x, y, hTO⟩, t1, t2⟩ := st
    obtain ⟨o1, e1, d1⟩ := t1.obj
    obtain ⟨o2, e2, d2⟩ := t2.obj
    simp only [List.mem_cons, List.not_mem_nil, or_false] at hc
    rcases hc with rfl | rfl | rfl | rfl | rfl
    · exact ⟨_, hz, fun v q => nomatch q⟩
    · exact ⟨_, hTI, fun v q => nomatch q⟩
    · exact ⟨_, hTO, fun v q => nomatch q⟩
    · exact ⟨o1, e1, fun v q => by rw [d1] at q; cases q⟩
    · exact ⟨o2, e2, fun v q => by rw [d2] at q; cases q⟩
  keep := fun i h h' st g => by
    obtain ⟨hz, hTI, ⟨x, y, hTO⟩, t1, t2⟩ := st
    exact ⟨g z (by simp) _ hz, g TI (by simp) _ hTI, ⟨x, y, g TO (by simp) _ hTO⟩, t1.at fun o q => g i1 (by simp) o q, t2.at fun o q => g i2 (by simp) o q⟩
  item := by
    intro X hP hw hK hc i pins s σ H E I hf st hg
    subst hP hw hK
    obtain ⟨hz, hTI, ⟨x0, y0, hTO⟩, t1, t2⟩ := st
    obtain ⟨xs, ys, x, y, qx, qy, hx, hy⟩ := hg
    obtain ⟨its, rv, p, la⟩ := inv_A I qx
    obtain ⟨its2, rv2, p2, lb⟩ := inv_A I qy
    obtain ⟨u, hu, ru⟩ := rv.get hx
    obtain ⟨u2, hu2, ru2⟩ := rv2.get hy
    have hh : X.A.in1.handled = none := show X.A.handled = none from I.ok.hd hc
    have L1 : i < its.toArray.size := by have := (List.getElem?_eq_some_iff.mp hu).1; simpa using this
    have L2 : i < its2.toArray.size := by have := (List.getElem?_eq_some_iff.mp hu2).1; simpa using this
    have hzl : z < s.heap.objs.size := Heap.lt_size hz
    refine wpAny_pyNext_zipD2_item (sep_A D) (draws_A hh k1 i1 a D.l1i1 its.toArray) (draws_A hh k2 i2 b D.l2i2 its2.toArray) hz hTI hTO ⟨t1, p⟩ ⟨t2, p2⟩ L1 L2 fun v1 v2 h' tk g1 g2 z' TO' s1' s2' hT hsz hk => ?_
    have ev1 : v1 = u := by rw [List.getElem?_toArray, hu] at g1; cases g1; rfl
    have ev2 : v2 = u2 := by rw [List.getElem?_toArray, hu2] at g2; cases g2; rfl
    subst ev1 ev2
    refine ⟨_, rfl, wpAny_letOwnedTupleGo_zip (s := { s with heap := h', toks := tk }) z' fun h'' z'' sb => ?_⟩
    have hT2 : h''.get? s.heap.objs.size = some { cls := .type "tuple", data := .seq #[v1, v2] } := (sb.2 _ (Nat.ne_of_gt hzl)).trans hT
    have new : ObjOk X.prog X.w (upd H s.heap.objs.size (.tup [x, y])) h'' s.heap.objs.size (.tup [x, y]) :=
      ⟨by show 2 ≤ sizeLine; decide, [v1, v2], .cons ru (.cons ru2 .nil), ⟨_, hT2, rfl, _, rfl⟩⟩
    have I1 : Inv X pins σ (upd H s.heap.objs.size (.tup [x, y])) { s with heap := h'', toks := tk } := by
      refine I.turnedNew (ch := [z, TI, TO, i1, i2]) (fun c o hb q => ?_) hf (Nat.le_refl _) new
      simp only [List.mem_cons, List.not_mem_nil, or_false, not_or] at hb
      exact (sb.2 c hb.1).trans (hk c o hb.1 hb.2.2.1 hb.2.2.2.1 hb.2.2.2.2 q)
    refine ⟨.ref s.heap.objs.size, _, I1, rfl, ⟨_, x, y, rfl, I.hok.fresh (Nat.le_refl _), rfl, fun l hl => by rw [inj_A I hl qx]; exact hx, fun l hl => by rw [inj_A I hl qy]; exact hy⟩, ⟨z'', ?_, ⟨v1, v2, ?_⟩, ?_, ?_⟩, fun c hcm => ?_⟩
    · exact (sb.2 _ D.TIz).trans (hk _ _ D.TIz D.TITO D.TIi1 D.TIi2 hTI)
    · exact (sb.2 _ D.TOz).trans TO'
    · exact s1'.1.at fun o q => (sb.2 _ D.i1z).trans q
    · exact s2'.1.at fun o q => (sb.2 _ D.i2z).trans q
    · obtain ⟨o1, e1, d1⟩ := t1.obj
      obtain ⟨o2, e2, d2⟩ := t2.obj
      have hlt : c < s.heap.objs.size := by
        simp only [List.mem_cons, List.not_mem_nil, or_false] at hcm
        rcases hcm with rfl | rfl | rfl | rfl | rfl
        · exact hzl
        · exact Heap.lt_size hTI
        · exact Heap.lt_size hTO
        · exact Heap.lt_size e1
        · exact Heap.lt_size e2
      rw [upd_ne (Nat.ne_of_lt hlt)]
      exact (hf c hcm).1
  done := by
    intro X hP hw hK hc i pins s σ H E I hf st hg
    subst hP hw hK
    obtain ⟨hz, hTI, ⟨x0, y0, hTO⟩, t1, t2⟩ := st
    obtain ⟨xs, ys, qx, qy, hend⟩ := hg
    obtain ⟨its, rv, p, la⟩ := inv_A I qx
    obtain ⟨its2, rv2, p2, lb⟩ := inv_A I qy
    have hh : X.A.in1.handled = none := show X.A.handled = none from I.ok.hd hc
    have n1 : xs.length = its.toArray.size := by rw [rv.length]; simp
    have n2 : ys.length = its2.toArray.size := by rw [rv2.length]; simp
    refine wpAny_pyNext_zipD2_end (sep_A D) (draws_A hh k1 i1 a D.l1i1 its.toArray) (draws_A hh k2 i2 b D.l2i2 its2.toArray) hz hTI hTO ⟨t1, p⟩ ⟨t2, p2⟩ (by omega) (by omega) (by omega) fun h' tk hk => ⟨rfl, ?_⟩
    refine I.turnedL (ch := [z, TI, TO, i1, i2]) (fun c o hb q => ?_) hf
    simp only [List.mem_cons, List.not_mem_nil, or_false, not_or] at hb
    exact hk c o hb.1 hb.2.2.1 hb.2.2.2.1 hb.2.2.2.2 q
  self := fun A i s Q E st h => wpAny_pyIter_zip st.1 h
abbrev zA1 (h : Heap) (k1 : Bool) (a : Addr) : Heap := h.push { cls := .type (nmA k1), data := .fields #[.ref a, .int 0 0] }
abbrev zA2 (h : Heap) (k1 k2 : Bool) (a b : Addr) : Heap := (zA1 h k1 a).push { cls := .type (nmA k2), data := .fields #[.ref b, .int 0 0] }
abbrev zA3 (h : Heap) (k1 k2 : Bool) (a b : Addr) : Heap := (zA2 h k1 k2 a b).push { cls := .type "tuple", data := .seq #[.ref h.objs.size, .ref (zA1 h k1 a).objs.size] }
abbrev zA4 (h : Heap) (k1 k2 : Bool) (a b : Addr) : Heap := (zA3 h k1 k2 a b).push { cls := .type "tuple", data := .seq #[.none, .none] }
abbrev zA5 (h : Heap) (k1 k2 : Bool) (a b : Addr) : Heap := (zA4 h k1 k2 a b).push { cls := .type "zip", data := .fields #[.none, .bool false, .bool false, .ref (zA2 h k1 k2 a b).objs.size, .ref (zA3 h k1 k2 a b).objs.size] }
theorem meets_pair (k1 k2 : Bool) (a b : Addr) (xs ys : Array Value) :
    Meets (Builtin.«zip.__new__» ⟨[.type "zip", .ref a, .ref b], []⟩) (fun _ R s => IsA s.heap k1 a xs ∧ IsA s.heap k2 b ys ∧ R (.ok (.ret (.ref (zA4 s.heap k1 k2 a b).objs.size))) { s with heap := zA5 s.heap k1 k2 a b }) :=
  .of_wp fun prog w A R s h => by
    obtain ⟨hp, g, d, tk, os⟩ := s
    obtain ⟨h1, h2, h⟩ := h
    have hsub := sub_zip
    have hA : IsA (Shared.heap ⟨hp, g, d, tk, os⟩) k1 a xs := h1
    have hB : IsA (Shared.heap ⟨hp.push { cls := .type (nmA k1), data := .fields #[.ref a, .int 0 0] }, g, d, tk, os⟩) k2 b ys := IsA.push h2 _
    wp_walk using iter_A hA, iter_A hB
    exact ⟨_, rfl, h⟩
theorem call_pair {prog : Program} {w : World} {A : Around} {E : Value → Shared → Prop} {s : Shared} {k1 k2 : Bool} {a b : Addr} {xs ys : Array Value} {Q : Value → Shared → Prop} (h1 : IsA s.heap k1 a xs) (h2 : IsA s.heap k2 b ys)
    (h : ∀ h' : Heap, (∀ n, n = s.heap.objs.size → IsZip h' (n + 4) (n + 2) (n + 3) .none ∧ IsPair h' (n + 2) (.ref n) (.ref (n + 1)) ∧ IsPair h' (n + 3) .none .none ∧ ItA h' k1 n a 0 ∧ ItA h' k2 (n + 1) b 0) →
      (∀ c o, s.heap.get? c = some o → h'.get? c = some o) → Q (.ref (s.heap.objs.size + 4)) { s with heap := h' }) :
    wpAny (model prog w) A (call (.type "zip") [.ref a, .ref b]) Q E s := by
  refine callType_new F.called_zip (by decide) (F.typeCall_zip_2 _ _) (F.newCall_zip_2 _ _) (fun obj => F.args_object_init_3 obj _ _) F.entry_zip_new
    (meets_pair k1 k2 a b xs ys) ⟨h1, h2, ?_⟩
  have n1 : (zA1 s.heap k1 a).objs.size = s.heap.objs.size + 1 := Heap.size_push ..
  have n2 : (zA2 s.heap k1 k2 a b).objs.size = s.heap.objs.size + 2 := (Heap.size_push ..).trans (by rw [n1])
  have n3 : (zA3 s.heap k1 k2 a b).objs.size = s.heap.objs.size + 3 := (Heap.size_push ..).trans (by rw [n2])
  have n4 : (zA4 s.heap k1 k2 a b).objs.size = s.heap.objs.size + 4 := (Heap.size_push ..).trans (by rw [n3])
  have up : ∀ {h : Heap} {c : Addr} {o o' : Obj}, h.get? c = some o → (h.push o').get? c = some o := fun e => Heap.get?_push_of_some _ e
  have g5 : (zA5 s.heap k1 k2 a b).get? (zA4 s.heap k1 k2 a b).objs.size = some _ := Heap.get?_push_size _ rfl
  have g4 : (zA5 s.heap k1 k2 a b).get? (zA3 s.heap k1 k2 a b).objs.size = some _ := up (Heap.get?_push_size _ rfl)
  have g3 : (zA5 s.heap k1 k2 a b).get? (zA2 s.heap k1 k2 a b).objs.size = some _ := up (up (Heap.get?_push_size _ rfl))
  have g2 : (zA5 s.heap k1 k2 a b).get? (zA1 s.heap k1 a).objs.size = some _ := up (up (up (Heap.get?_push_size _ rfl)))
  have g1 : (zA5 s.heap k1 k2 a b).get? s.heap.objs.size = some _ := up (up (up (up (Heap.get?_push_size _ rfl))))
  show _ ∧ _
  rw [n2, n3, n4] at g5
  rw [n1, n2] at g3
  rw [n3] at g4
  rw [n1] at g2
  rw [n4]
  refine ⟨⟨_, g5, rfl⟩, h _ (fun n e => ?_) fun c o x => up (up (up (up (up x))))⟩
  subst e
  refine ⟨g5, g3, g4, ?_, ?_⟩
  · cases k1 <;> exact ⟨_, g1, rfl, rfl⟩
  · cases k2 <;> exact ⟨_, g2, rfl, rfl⟩
def iPair (K : PySem.W.Frag) (ta : TA) : TI := fun σ H R => ta σ H fun vs H1 => ∃ (k1 k2 : Bool) (a b : Addr) (xs ys : List V), vs = [.ref a, .ref b] ∧ SqA K k1 H1 a xs ∧ SqA K k2 H1 b ys ∧ R (ItPair K k1 k2 a b) H1
theorem pi_pair {X : Cx} {e e2 : Expr} {ta : TA} {p pos tpos : Pos} {elts : List Expr} {kk : Nat} (hg : Gl X "zip") (hm : X.mg "zip" = none) (ha : PA X [e, e2] ta)
    (hs : starEach [e, e2] X.env = (false, eval e X.env) :: starEach [e2] X.env := by rfl) (hpl : (backTo pos (starEach [e2] X.env)).any (·.1) = false := by rfl) :
    PI X (.Tuple elts kk tpos) (.Call (.Name "zip" p) [e, e2] [] pos) (iPair X.K ta) := by
  refine ⟨fun pins s σ H R I h => ?_⟩
  refine Call_ (ld_blt I hg hm PyProof.Rows.boot_zip (PyProof.Rows.callWith_type1 (thn (ha.run pos pins s σ H _ I h) fun us s1 ⟨vs, H1, I1, r1, q1⟩ => ?_) hs hpl))
  obtain ⟨k1, k2, a, b, xs, ys, ex, qx, qy, q⟩ := q1
  subst ex
  cases r1 with
  | cons r rr =>
    cases rr with
    | cons r' rr =>
      cases rr
      cases r
      cases r'
      obtain ⟨its, rv, p1, la⟩ := inv_A I1 qx
      obtain ⟨its2, rv2, p2, lb⟩ := inv_A I1 qy
      refine call_pair p1 p2 fun h' hn hk => ?_
      obtain ⟨hz, hTI, hTO, t1, t2⟩ := hn _ rfl
      refine wpAny_pyIter_zip hz ?_
      refine ⟨s1.heap.objs.size + 4, [s1.heap.objs.size + 4, s1.heap.objs.size + 2, s1.heap.objs.size + 3, s1.heap.objs.size, s1.heap.objs.size + 1], _, _, H1, rfl, I1.kept (t' := s1.toks) hk, turn_pair (PySem.W.ktu_apart s1.heap.objs.size a b la lb), ⟨hz, hTI, ⟨_, _, hTO⟩, t1, t2⟩, fun c hcm => ?_, q⟩
      have hle : s1.heap.objs.size ≤ c := by
        simp only [List.mem_cons, List.not_mem_nil, or_false] at hcm
        rcases hcm with e | e | e | e | e <;> rw [e] <;> first | exact Nat.le_refl _ | exact Nat.le_add_right _ _
      exact I1.fpOk hle (I1.hok.fresh hle)
theorem walk_pairA {K : PySem.W.Frag} {k1 k2 : Bool} {a b : Addr} {xs ys : List V} {n : Nat} (hn : n = min xs.length ys.length) : Walk (ItPair K k1 k2 a b) n (fun H => SqA K k1 H a xs ∧ SqA K k2 H b ys) (YPair (fun i => xs[i]?) (fun i => ys[i]?)) := by
  subst hn
  refine ⟨fun i _ hi q => ?_, fun _ q => ⟨xs, ys, q.1, q.2, rfl⟩, fun i H v H' _ q y => ?_⟩
  · have h1 : i < xs.length := by omega
    have h2 : i < ys.length := by omega
    exact ⟨xs, ys, xs[i], ys[i], q.1, q.2, by simp [h1], by simp [h2]⟩
  · obtain ⟨T, x, z, h1, h2, h3, h4, h5⟩ := y
    exact ⟨T, x, z, h1, h2, h3, h4 xs q.1, h5 ys q.2⟩
theorem SqA.same {K : PySem.W.Frag} {F H : Hp} {k : Bool} {a : Addr} {xs : List V} (sm : Same F H) (q : SqA K k F a xs) : SqA K k H a xs := by
  cases k
  · exact same_seqT sm q
  · exact sm.seq q
end DL
namespace DL
open PySem PySem.Spec PyProof.Rows L2
/-! ### what is walked -/
/-- J gives the items its, one a turn; fz: it stands whatever happens to own lists -/
noncomputable def WalkD (K : PySem.W.Frag) (F H : Hp) (J : It) (fz : Bool) (its : List D) : Prop :=
  ∃ G Y, Walk J its.length G Y ∧ G H ∧ (fz = true → ∀ H', Same F H' → G H') ∧ (∀ H', Same H H' → G H') ∧
    ∀ i d x H1 H1' F1, its[i]? = some d → Y i H1 x H1' → Same F F1 → Same F1 H1 → ∃ F2, Same F1 F2 ∧ Same F2 H1' ∧ Same H1 H1' ∧ R K F2 x d ∧ ∀ b o, F2 b = some o → F1 b = some o ∨ H1 b = none
abbrev DIn := List Slot → Res ((Bool × List D) × List Slot)
section
variable (K : PySem.W.Frag) (mg : Str → Option Value) (W : WX)
noncomputable def PIt (pu : Bool) (F : Hp) (O : Own) (σ : L2.St) (H : Hp) (Q : It → Hp → Prop) : (Bool × List D) × List Slot → Prop := fun p =>
  ∀ F' O' H' J, RS K F' σ p.2 H' O' → Step F H O F' H' O' → (pu = true → Same H H') → WalkD K F' H' J p.1.1 p.1.2 → Q J H'
noncomputable def dI (pu : Bool) (f : DIn) : TI := fun σ H Q => ∃ F O ρ, RS K F σ ρ H O ∧ (f ρ).wp (PIt K pu F O σ H Q) (PX K mg W F O σ H)
end
structure DI (X : Cx) (W : WX) (pu : Bool) (tg iter : Expr) (f : DIn) : Prop where
  pi : PI X tg iter (dI X.K X.mg W pu f)
theorem PI_imp {X : Cx} {tg iter : Expr} {t t' : TI} (h : PI X tg iter t) (g : ∀ σ H Q, t' σ H Q → t σ H Q) : PI X tg iter t' := ⟨fun pins s σ H Q I q => h.run pins s σ H Q I (g σ H Q q)⟩
/-- a list or a tuple, walked -/
noncomputable def iSeq (K : PySem.W.Frag) (tl : TE) : TI := fun σ H R => tl σ H fun x H1 => (∃ a, x = .ref a ∧ (∃ xs, SqL K H1 a xs) ∧ R (Itl K a) H1) ∨ ∃ a, x = .ref a ∧ (∃ xs, SqT K H1 a xs) ∧ R (Itt K a) H1
theorem pi_seq {X : Cx} {tg l : Expr} {tl : TE} (hl : PE X l tl) : PI X tg l (iSeq X.K tl) := by
  refine ⟨fun pins s σ H R I h => ?_⟩
  refine thn (hl.run pins s σ H _ I h) fun v s1 ⟨x, H1, I1, r1, q1⟩ => ?_
  rcases q1 with ⟨a, e, ⟨xs, hq⟩, q⟩ | ⟨a, e, ⟨xs, hq⟩, q⟩
  · subst e
    cases r1
    obtain ⟨its, rv, p, hz⟩ := I1.list hq
    refine wpAny_pyIter_list p.isList ?_
    refine ⟨s1.heap.objs.size, [s1.heap.objs.size], _, _, H1, rfl, I1.kept (t' := s1.toks) fun b o e => Heap.get?_push_of_some _ e, turn_list a _, ⟨_, Heap.get?_push_size _ rfl, rfl, rfl⟩, fun b hb => ?_, q⟩
    have e : b = s1.heap.objs.size := by simpa using hb
    subst e
    exact I1.fpOk (Nat.le_refl _) (I1.hok.fresh (Nat.le_refl _))
  · subst e
    cases r1
    obtain ⟨its, rv, p, hz⟩ := I1.tuple hq
    refine wpAny_pyIter_tuple (show s1.heap.IsTuple a its.toArray from p) ?_
    refine ⟨s1.heap.objs.size, [s1.heap.objs.size], _, _, H1, rfl, I1.kept (t' := s1.toks) fun b o e => Heap.get?_push_of_some _ e, turn_tuple a _, ⟨_, Heap.get?_push_size _ rfl, rfl, rfl⟩, fun b hb => ?_, q⟩
    have e : b = s1.heap.objs.size := by simpa using hb
    subst e
    exact I1.fpOk (Nat.le_refl _) (I1.hok.fresh (Nat.le_refl _))
/-- the items of a value that is walked: a fresh list is shared first; an own list's as long as nothing is changed -/
@[simp] noncomputable def Slot.walk : Slot → Option (Bool × List D)
  | .sh d => d.items.map fun ds => (true, ds)
  | .own xs => some (true, xs)
  | .po xs => some (false, xs)
  | _ => none
theorem walk_at {K : PySem.W.Frag} {F : Hp} {vs : List V} {ds : List D} (r : Rs K F vs ds) {i : Nat} {d : D} {x : V} {H1 H1' F1 : Hp} (hd : ds[i]? = some d) (y : YAt vs i H1 x H1') (s1 : Same F F1) (s2 : Same F1 H1) :
    ∃ F2, Same F1 F2 ∧ Same F2 H1' ∧ Same H1 H1' ∧ R K F2 x d ∧ ∀ b o, F2 b = some o → F1 b = some o ∨ H1 b = none := by
  obtain ⟨e, hx⟩ := y
  subst e
  obtain ⟨v, hv, rv⟩ := r.get hd
  rw [hx] at hv
  cases hv
  exact ⟨F1, Same.refl _, s2, Same.refl _, rv.up s1, fun b o h => .inl h⟩
theorem RS.walk {K : PySem.W.Frag} {F H : Hp} {O : Own} {σ : L2.St} {ρ : List Slot} {s : Slot} {v : V} {p : Bool × List D} (r : RS K F σ ρ H O) (h : VOk K F H O ρ.length s v) (e : s.walk = some p) :
    ∃ F' O' a, v = .ref a ∧ RS K F' σ ρ H O' ∧ Step F H O F' H O' ∧ (((∃ xs, SqL K H a xs) ∧ WalkD K F' H (Itl K a) p.1 p.2) ∨ ((∃ xs, SqT K H a xs) ∧ WalkD K F' H (Itt K a) p.1 p.2)) := by
  have lst : ∀ {F' : Hp} {a : Addr} {vs : List V} {ds : List D}, Same F' H → F' a = some (.lst vs) → Rs K F' vs ds → WalkD K F' H (Itl K a) true ds := fun {F' a vs ds} fh q rr =>
    ⟨_, _, (by rw [← rr.length]; exact walk_list (K := K) (a := a) (xs := vs)), SqL.of (fh _ _ q), fun _ H' sm => SqL.of (sm _ _ q), fun H' sm => sm.seq (SqL.of (fh _ _ q)), fun i d x H1 H1' F1 hd y s1 s2 => walk_at rr hd y s1 s2⟩
  cases s with
  | sh d =>
    cases hd : d.items with
    | none => simp [Slot.walk, hd] at e
    | some ds =>
      simp only [Slot.walk, hd, Option.map_some, Option.some.injEq] at e
      subst e
      cases h with
      | lst q rr =>
        cases hd
        exact ⟨F, O, _, rfl, r, .refl, .inl ⟨⟨_, SqL.of (r.fh _ _ q)⟩, lst r.fh q rr⟩⟩
      | scr q =>
        cases hd
        rename_i a ns
        refine ⟨F, O, _, rfl, r, .refl, .inl ⟨⟨_, r.fh.seq q⟩, _, _, (by rw [List.length_map, ← List.length_map (f := V.int)]; exact walk_list (K := K) (a := a) (xs := ns.map V.int)), r.fh.seq q, fun _ H' sm => sm.seq q, fun H' sm => sm.seq (r.fh.seq q), fun i d x H1 H1' F1 hd y s1 s2 => walk_at (Rs.of_ints ns) hd y s1 s2⟩⟩
      | tup q rr =>
        cases hd
        rename_i a vs
        refine ⟨F, O, _, rfl, r, .refl, .inr ⟨⟨_, same_seqT r.fh q⟩, _, _, (by rw [← rr.length]; exact walk_tup (K := K) (a := a) (xs := vs)), same_seqT r.fh q, fun _ H' sm => same_seqT sm q, fun H' sm => same_seqT sm (same_seqT r.fh q), fun i d x H1 H1' F1 hd y s1 s2 => walk_at rr hd y s1 s2⟩⟩
      | tpx q0 _ rr =>
        cases hd
        rename_i a od vs _
        have q : SqT K F a vs := .inl (.inr ⟨_, q0⟩)
        refine ⟨F, O, _, rfl, r, .refl, .inr ⟨⟨_, same_seqT r.fh q⟩, _, _, (by rw [← rr.length]; exact walk_tup (K := K) (a := a) (xs := vs)), same_seqT r.fh q, fun _ H' sm => same_seqT sm q, fun H' sm => same_seqT sm (same_seqT r.fh q), fun i d x H1 H1' F1 hd y s1 s2 => walk_at rr hd y s1 s2⟩⟩
      | _ => cases hd
  | own xs =>
    cases e
    obtain ⟨F', O', a, b, c⟩ := r.freeze (d := .lst xs) h rfl
    cases b with
    | lst q rr => exact ⟨F', O', _, rfl, a, c, .inl ⟨⟨_, SqL.of (a.fh _ _ q)⟩, lst a.fh q rr⟩⟩
  | po xs =>
    cases e
    obtain ⟨a, vs, rfl, q, rr⟩ := h
    exact ⟨F, O, a, rfl, r, .refl, .inl ⟨⟨_, SqL.of q⟩, fun H => SqL K H a vs, YAt vs, (by show Walk _ xs.length _ _; rw [← rr.length]; exact walk_list (K := K) (a := a) (xs := vs)), SqL.of q, fun z => Bool.noConfusion z, fun H' sm => sm.seq (SqL.of q), fun i d x H1 H1' F1 hd y s1 s2 => walk_at rr hd y s1 s2⟩⟩
  | un => cases e
  | par _ => cases e
  | pk _ => cases e
  | od _ => cases e
section
variable {X : Cx} {W : WX}
@[simp] noncomputable def dSeqI (f : DEn) (ρ : List Slot) : Res ((Bool × List D) × List Slot) := (f ρ).bind fun p => (Res.lift p.1.walk).bind fun q => .ok (q, p.2)
theorem di_seq {pu : Bool} {tg e : Expr} {f : DEn} (he : DE X W pu e f) : DI X W pu tg e (dSeqI f) := by
  refine ⟨PI_imp (pi_seq he.pe) fun σ H Q ⟨F, O, ρ, rs, h⟩ => ⟨F, O, ρ, rs, ?_⟩⟩
  unfold dSeqI at h
  rw [Res.wp_bind] at h
  refine Res.wp_mono h (fun p hp => ?_) (fun _ _ e => e)
  intro F1 O1 x H1 rs1 v1 st1 pu1
  rw [Res.wp_bind, Res.wp_lift] at hp
  obtain ⟨q, hq, hp⟩ := hp
  obtain ⟨F2, O2, a, rfl, rs2, st2, hw⟩ := rs1.walk v1 hq
  rcases hw with ⟨e, w⟩ | ⟨e, w⟩
  · exact .inl ⟨a, rfl, e, hp F2 O2 H1 _ rs2 (st1.trans st2) pu1 w⟩
  · exact .inr ⟨a, rfl, e, hp F2 O2 H1 _ rs2 (st1.trans st2) pu1 w⟩
theorem walk_fn {K : PySem.W.Frag} {F H : Hp} {J : It} {n : Nat} {g : Nat → Int} (w : Walk J n (fun _ => True) (YFn fun i => .int (g i))) : WalkD K F H J true ((List.range n).map fun i => D.int (g i)) := by
  refine ⟨_, _, (by rw [List.length_map, List.length_range]; exact w), trivial, fun _ _ _ => trivial, fun _ _ => trivial, fun i d x H1 H1' F1 hd y s1 s2 => ?_⟩
  obtain ⟨rfl, rfl⟩ := y
  rw [List.getElem?_map] at hd
  cases q : (List.range n)[i]? with
  | none => rw [q] at hd; cases hd
  | some j =>
    rw [q] at hd
    cases hd
    have : j = i := by
      rw [List.getElem?_range] at q
      · exact (Option.some.inj q).symm
      · by_cases hl : i < n
        · exact hl
        · rw [List.getElem?_eq_none (by simpa using hl)] at q; cases q
    subst this
    exact ⟨F1, Same.refl _, s2, Same.refl _, .int _, fun b o h => .inl h⟩
noncomputable def b62 (i : Int) : Bool := @decide (-4611686018427387904 ≤ i ∧ i < 4611686018427387904) (Classical.propDecidable _)
theorem b62_ok {i : Int} (h : b62 i = true) : -(2 ^ 62) ≤ i ∧ i < 2 ^ 62 := by
  have h := @of_decide_eq_true _ (_) h
  exact ⟨by omega, by omega⟩
noncomputable def rng1 (j : Int) : List D := (List.range j.toNat).map fun i => D.int (0 + (i : Nat))
noncomputable def rng2 (i j : Int) : List D := (List.range (j - i).toNat).map fun k => D.int (i + (k : Nat))
noncomputable def dRng1 (f : DEn) (ρ : List Slot) : Res ((Bool × List D) × List Slot) := (f ρ).bind fun p => (Res.lift p.1.val).bind fun d => (Res.lift (asInt d)).bind fun j => if b62 j = true then .ok ((true, rng1 j), p.2) else .stuck
theorem di_rng1 {pu : Bool} {tg a : Expr} {p pos : Pos} {f : DEn} (hm : X.mg "range" = none) (ha : DE X W pu a f) (hg : Gl X "range" := by rfl) (hs : starEach [a] X.env = [(false, eval a X.env)] := by rfl) : DI X W pu tg (.Call (.Name "range" p) [a] [] pos) (dRng1 f) := by
  refine ⟨PI_imp (pi_range1 hg hm (pa_cons ha.pe pa_nil hs) hs) fun σ H Q ⟨F, O, ρ, rs, h⟩ => one_pe (k := fun d ρ1 => (Res.lift (asInt d)).bind fun j => if b62 j = true then Res.ok ((true, rng1 j), ρ1) else Res.stuck) rs h fun d ρ1 F1 O1 x H1 rs1 st1 p1 rx hk => ?_⟩
  rw [Res.wp_bind, Res.wp_lift] at hk
  obtain ⟨j, hj, hk⟩ := hk
  have e := asInt_some hj
  subst e
  cases rx
  by_cases c : b62 j = true
  · rw [if_pos c] at hk
    exact ⟨j, rfl, (b62_ok c).1, (b62_ok c).2, hk F1 O1 H1 _ rs1 st1 p1 (walk_fn walk_range)⟩
  · rw [if_neg c] at hk; exact hk.elim
noncomputable def kRng2 (d e : D) (ρ : List Slot) : Res ((Bool × List D) × List Slot) := (Res.lift (asInt d)).bind fun i => (Res.lift (asInt e)).bind fun j => if (b62 i && b62 j) = true then .ok ((true, rng2 i j), ρ) else .stuck
@[simp] noncomputable def dRng2 (pb : Bool) (f g : DEn) (ρ : List Slot) : Res ((Bool × List D) × List Slot) := (f ρ).bind fun p => (Res.lift (p.1.hold pb)).bind fun d => (g p.2).bind fun q => (Res.lift q.1.val).bind fun e => kRng2 d e q.2
theorem di_rng2 {pa pb : Bool} {tg a b : Expr} {p pos : Pos} {f g : DEn} (hm : X.mg "range" = none) (ha : DE X W pa a f) (hb : DE X W pb b g) (hg : Gl X "range" := by rfl) (hs : starEach [a, b] X.env = [(false, eval a X.env), (false, eval b X.env)] := by rfl)
    (hs2 : starEach [b] X.env = [(false, eval b X.env)] := by rfl) : DI X W (pa && pb) tg (.Call (.Name "range" p) [a, b] [] pos) (dRng2 pb f g) := by
  refine ⟨PI_imp (pi_range2 hg hm (pa_cons ha.pe (pa_cons hb.pe pa_nil hs2) (by rw [hs, hs2])) hs hs2) fun σ H Q ⟨F, O, ρ, rs, h⟩ => two_pe (k := kRng2) rs h fun d e ρ2 F2 O2 x y H2 rs2 st p rx ry hk => ?_⟩
  unfold kRng2 at hk
  rw [Res.wp_bind, Res.wp_lift] at hk
  obtain ⟨i, hi, hk⟩ := hk
  rw [Res.wp_bind, Res.wp_lift] at hk
  obtain ⟨j, hj, hk⟩ := hk
  have e1 := asInt_some hi
  have e2 := asInt_some hj
  subst e1 e2
  cases rx; cases ry
  by_cases c : (b62 i && b62 j) = true
  · rw [if_pos c] at hk
    simp only [Bool.and_eq_true] at c
    exact ⟨i, j, rfl, ⟨(b62_ok c.1).1, (b62_ok c.1).2, (b62_ok c.2).1, (b62_ok c.2).2⟩, hk F2 O2 H2 _ rs2 st p (walk_fn walk_range)⟩
  · rw [if_neg c] at hk; exact hk.elim
/-- range(a, b, c), c a written step -/
noncomputable def rng3 (i j c : Int) : List D := (List.range (Builtin.Range.rangeSize i j c).toNat).map fun k => D.int (i + (k : Nat) * c)
noncomputable def rgC (i j c : Int) : Bool := decide (c ≠ 0 ∧ c.natAbs < 1073741824) && Builtin.Range.small i j c && decide (0 ≤ Builtin.Range.rangeSize i j c)
noncomputable def kRng3 (ds : List D) (ρ : List Slot) : Res ((Bool × List D) × List Slot) := match ds with
  | [.int i, .int j, .int c] => if rgC i j c = true then .ok ((true, rng3 i j c), ρ) else .stuck
  | _ => .stuck
@[simp] noncomputable def dRng3 (f : DLn) (ρ : List Slot) : Res ((Bool × List D) × List Slot) := (f ρ).bind fun p => kRng3 p.1 p.2
theorem di_rng3 {pu : Bool} {tg a b c : Expr} {p pos : Pos} {f : DLn} (hm : X.mg "range" = none) (ha : AP X W pu [a, b, c] f) (hr : X.mg "range" = none → PA X [a, b, c] (dAP X.K X.mg W pu f) → PI X tg (.Call (.Name "range" p) [a, b, c] [] pos) (iRng3 (dAP X.K X.mg W pu f)) := by
    intro hm h; exact pi_range3 (by rfl) hm h) : DI X W pu tg (.Call (.Name "range" p) [a, b, c] [] pos) (dRng3 f) := by
  refine ⟨PI_imp (hr hm ha.pa) fun σ H Q ⟨F, O, ρ, rs, h⟩ => ⟨F, O, ρ, rs, ?_⟩⟩
  unfold dRng3 at h
  rw [Res.wp_bind] at h
  refine Res.wp_mono h (fun p hp => ?_) (fun _ _ e => e)
  intro F1 O1 vs H1 rs1 v1 st1 pu1
  unfold kRng3 at hp
  split at hp
  · rename_i ds i j c he
    rw [he] at v1
    cases v1 with
    | cons r1 t1 =>
      cases t1 with
      | cons r2 t2 =>
        cases t2 with
        | cons r3 t3 =>
          cases t3
          cases r1; cases r2; cases r3
          by_cases hc : rgC i j c = true
          · rw [if_pos hc] at hp
            unfold rgC at hc
            simp only [Bool.and_eq_true, decide_eq_true_eq] at hc
            obtain ⟨⟨⟨c1, c2⟩, c3⟩, c4⟩ := hc
            exact ⟨i, j, c, _, rfl, ⟨c1, c2, c3, (Int.toNat_of_nonneg c4).symm⟩, hp F1 O1 H1 _ rs1 st1 pu1 (walk_fn walk_rangeC)⟩
          · rw [if_neg hc] at hp; exact hp.elim
  · exact hp.elim
/-- pairs that are made turn by turn -/
theorem walk_pairs {K : PySem.W.Frag} {F H : Hp} {J : It} {n : Nat} {fz : Bool} {G : Hp → Prop} {xs ys : Nat → Option V} {ds es : List D} (w : Walk J n G (YPair xs ys)) (hn : n = min ds.length es.length) (g : G H) (g1 : fz = true → ∀ H', Same F H' → G H') (g2 : ∀ H', Same H H' → G H')
    (hx : ∀ (i : Nat) (d : D) (v : V), ds[i]? = some d → xs i = some v → R K F v d) (hy : ∀ (i : Nat) (d : D) (v : V), es[i]? = some d → ys i = some v → R K F v d) : WalkD K F H J fz ((ds.zip es).map fun p => D.tup [p.1, p.2]) := by
  refine ⟨G, _, (by rw [List.length_map, List.length_zip, ← hn]; exact w), g, g1, g2, fun i d x H1 H1' F1 hd y s1 s2 => ?_⟩
  obtain ⟨T, a, b, rfl, nT, rfl, ha, hb⟩ := y
  rw [List.getElem?_map] at hd
  cases q : (ds.zip es)[i]? with
  | none => rw [q] at hd; cases hd
  | some p =>
    rw [q] at hd
    cases hd
    have h1 : ds[i]? = some p.1 ∧ es[i]? = some p.2 := by
      have := List.getElem?_zip_eq_some.mp q
      exact this
    have fT : F1 T = none := by
      cases z : F1 T with
      | none => rfl
      | some o => have := s2 T o z; rw [nT] at this; cases this
    have sm : Same F1 (upd F1 T (.tup [a, b])) := fun c o e => by rw [upd_ne (ne_of_none e fT)]; exact e
    refine ⟨upd F1 T (.tup [a, b]), sm, fun c o e => ?_, fun c o e => ?_, .tup (SqT.of upd_same) (.cons (((hx i _ _ h1.1 ha).up s1).up sm) (.cons (((hy i _ _ h1.2 hb).up s1).up sm) .nil)), fun c o e => ?_⟩
    · by_cases hc : c = T
      · subst hc; rw [upd_same] at e ⊢; exact e
      · rw [upd_ne hc] at e ⊢; exact s2 c o e
    · rw [upd_ne (ne_of_none e nT)]; exact e
    · by_cases hc : c = T
      · subst hc; exact .inr nT
      · rw [upd_ne hc] at e; exact .inl e
/-- the list at v: its items, shared -/
theorem VOk.lsts {K : PySem.W.Frag} {F H : Hp} {O : Own} {n : Nat} {v : V} {s : Slot} {b : Bool} {ds : List D} (h : VOk K F H O n s v) (k : s.kept true ∨ s.kept false) (fh : Same F H) (e : s.walk = some (b, ds)) (hl : s.listD = some ds) :
    ∃ a vs, v = .ref a ∧ SqL K H a vs ∧ Rs K F vs ds ∧ (b = true → SqL K F a vs) := by
  cases s with
  | sh d =>
    cases d with
    | lst xs =>
      cases hl
      cases h with
      | lst q r => exact ⟨_, _, rfl, SqL.of (fh _ _ q), r, fun _ => SqL.of q⟩
    | _ => cases hl
  | po xs =>
    cases hl
    obtain ⟨a, vs, rfl, q, r⟩ := h
    exact ⟨a, vs, rfl, SqL.of q, r, fun z => by cases e; cases z⟩
  | own xs => rcases k with k | k <;> exact k.elim
  | _ => cases hl
@[simp] noncomputable def Slot.lw (s : Slot) : Option (Bool × List D) := match s with
  | .sh (.lst xs) => some (true, xs)
  | .po xs => some (false, xs)
  | _ => none
theorem lw_ok {s : Slot} {p : Bool × List D} (h : s.lw = some p) : s.walk = some (p.1, p.2) ∧ s.listD = some p.2 ∧ (s.kept true ∨ s.kept false) := by
  cases s with
  | sh d => cases d <;> first | (cases h; done) | (cases h; exact ⟨rfl, rfl, .inl trivial⟩)
  | po xs => cases h; exact ⟨rfl, rfl, .inl rfl⟩
  | _ => cases h
@[simp] noncomputable def Slot.zw (s : Slot) : Option (Bool × List D) := match s with
  | .sh (.lst xs) => some (true, xs)
  | .sh (.tup xs) => some (true, xs)
  | .po xs => some (false, xs)
  | _ => none
theorem zw_ok {s : Slot} {p : Bool × List D} (h : s.zw = some p) : s.kept true ∨ s.kept false := by
  cases s with
  | sh d => cases d <;> first | (cases h; done) | (cases h; exact .inl trivial)
  | po xs => cases h; exact .inl rfl
  | _ => cases h
/-- the list or tuple at v: its items -/
theorem VOk.seqs {K : PySem.W.Frag} {F H : Hp} {O : Own} {n : Nat} {v : V} {s : Slot} {b : Bool} {ds : List D} (h : VOk K F H O n s v) (fh : Same F H) (e : s.zw = some (b, ds)) :
    ∃ kd a vs, v = .ref a ∧ SqA K kd H a vs ∧ Rs K F vs ds ∧ (b = true → SqA K kd F a vs) := by
  cases s with
  | sh d =>
    cases d with
    | lst xs =>
      cases e
      cases h with
      | lst q r => exact ⟨true, _, _, rfl, SqA.same fh (k := true) (SqL.of q), r, fun _ => SqL.of q⟩
    | tup xs =>
      cases e
      cases h with
      | tup q r => exact ⟨false, _, _, rfl, SqA.same fh (k := false) q, r, fun _ => q⟩
    | _ => cases e
  | po xs =>
    cases e
    obtain ⟨a, vs, rfl, q, r⟩ := h
    exact ⟨true, a, vs, rfl, SqL.of q, r, fun z => by cases z⟩
  | _ => cases e
@[simp] noncomputable def kZip (s t : Slot) (ρ : List Slot) : Res ((Bool × List D) × List Slot) := (Res.lift s.zw).bind fun x => (Res.lift t.zw).bind fun y => .ok ((x.1 && y.1, (x.2.zip y.2).map fun p => D.tup [p.1, p.2]), ρ)
@[simp] noncomputable def dZip (pb : Bool) (f g : DEn) (ρ : List Slot) : Res ((Bool × List D) × List Slot) := (f ρ).bind fun p => (Res.lift (p.1.holdS pb)).bind fun s => (g p.2).bind fun q => (Res.lift (q.1.holdS true)).bind fun t => kZip s t q.2
theorem di_zip {pa pb : Bool} {a b : Expr} {p pos tpos : Pos} {elts : List Expr} {kk : Nat} {f g : DEn} (hm : X.mg "zip" = none) (ha : DE X W pa a f) (hb : DE X W pb b g)
    (hz : X.mg "zip" = none → PA X [a, b] (tCons (dE X.K X.mg W pa f) (tCons (dE X.K X.mg W pb g) tNil)) → PI X (.Tuple elts kk tpos) (.Call (.Name "zip" p) [a, b] [] pos) (iPair X.K (tCons (dE X.K X.mg W pa f) (tCons (dE X.K X.mg W pb g) tNil))) := by intro hm h; exact pi_pair (by rfl) hm h)
    (hs : starEach (a :: [b]) X.env = (false, eval a X.env) :: starEach [b] X.env := by rfl) (hs2 : starEach (b :: []) X.env = (false, eval b X.env) :: starEach [] X.env := by rfl) :
    DI X W (pa && pb) (.Tuple elts kk tpos) (.Call (.Name "zip" p) [a, b] [] pos) (dZip pb f g) := by
  refine ⟨PI_imp (hz hm (pa_cons ha.pe (pa_cons hb.pe pa_nil hs2) hs)) fun σ H Q ⟨F, O, ρ, rs, h⟩ => ?_⟩
  refine two_peS (k := fun s t ρ => (Res.lift (t.holdS true)).bind fun t => kZip s t ρ) rs h fun s t ρ2 F2 O2 x y H2 rs2 st p vx vy hk => ?_
  rw [Res.wp_bind, Res.wp_lift] at hk
  obtain ⟨t', ht, hk⟩ := hk
  obtain ⟨F3, O3, rs3, st3, vy', ky⟩ := rs2.holdS vy ht
  unfold kZip at hk
  rw [Res.wp_bind, Res.wp_lift] at hk
  obtain ⟨sx, hx, hk⟩ := hk
  rw [Res.wp_bind, Res.wp_lift] at hk
  obtain ⟨sy, hy, hk⟩ := hk
  have vx3 : VOk X.K F3 H2 O3 ρ2.length s x := by
    rcases zw_ok hx with k | k
    · exact vx.later k st3.fr fun _ => Same.refl _
    · exact vx.later k st3.fr fun z => nomatch z
  obtain ⟨k1, a, vs, rfl, q1, r1, f1⟩ := vx3.seqs rs3.fh hx
  obtain ⟨k2, b, ws, rfl, q2, r2, f2⟩ := vy'.seqs rs3.fh hy
  refine ⟨k1, k2, a, b, vs, ws, rfl, q1, q2, hk F3 O3 H2 _ rs3 (st.trans st3) p ?_⟩
  refine walk_pairs (walk_pairA (K := X.K) (k1 := k1) (k2 := k2) (a := a) (b := b) (xs := vs) (ys := ws) (n := min sx.2.length sy.2.length) (by rw [r1.length, r2.length])) rfl ⟨q1, q2⟩ (fun z H' sm => ?_) (fun H' sm => ⟨SqA.same sm q1, SqA.same sm q2⟩) (fun i d v hd hv => ?_) (fun i d v hd hv => ?_)
  · simp only [Bool.and_eq_true] at z
    exact ⟨SqA.same sm (f1 z.1), SqA.same sm (f2 z.2)⟩
  · obtain ⟨v', hv', rv⟩ := r1.get hd
    rw [hv'] at hv; cases hv; exact rv
  · obtain ⟨v', hv', rv⟩ := r2.get hd
    rw [hv'] at hv; cases hv; exact rv
@[simp] noncomputable def dEnum (f : DEn) (ρ : List Slot) : Res ((Bool × List D) × List Slot) := (f ρ).bind fun p => (Res.lift (p.1.holdS true)).bind fun s => (Res.lift s.lw).bind fun x => .ok ((x.1, (((List.range x.2.length).map fun i => D.int (i : Nat)).zip x.2).map fun p => D.tup [p.1, p.2]), p.2)
theorem di_enum {pa : Bool} {a : Expr} {p pos tpos : Pos} {elts : List Expr} {kk : Nat} {f : DEn} (hm : X.mg "enumerate" = none) (ha : DE X W pa a f)
    (hz : X.mg "enumerate" = none → PA X [a] (tCons (dE X.K X.mg W pa f) tNil) → PI X (.Tuple elts kk tpos) (.Call (.Name "enumerate" p) [a] [] pos) (iEnum X.K (tCons (dE X.K X.mg W pa f) tNil)) := by intro hm h; exact pi_enum (by rfl) hm h)
    (hs : starEach (a :: []) X.env = (false, eval a X.env) :: starEach [] X.env := by rfl) : DI X W pa (.Tuple elts kk tpos) (.Call (.Name "enumerate" p) [a] [] pos) (dEnum f) := by
  refine ⟨PI_imp (hz hm (pa_cons ha.pe pa_nil hs)) fun σ H Q ⟨F, O, ρ, rs, h⟩ => ⟨F, O, ρ, rs, ?_⟩⟩
  unfold dEnum at h
  rw [Res.wp_bind] at h
  refine Res.wp_mono h (fun p hp => ?_) (fun _ _ e => e)
  intro F1 O1 x H1 rs1 v1 st1 pu1
  rw [Res.wp_bind, Res.wp_lift] at hp
  obtain ⟨t', ht, hk⟩ := hp
  obtain ⟨F3, O3, rs3, st3, vy', ky⟩ := rs1.holdS v1 ht
  rw [Res.wp_bind, Res.wp_lift] at hk
  obtain ⟨sx, hx, hk⟩ := hk
  obtain ⟨wx, lx, kx⟩ := lw_ok hx
  obtain ⟨a, vs, rfl, q1, r1, f1⟩ := vy'.lsts kx rs3.fh wx lx
  refine ⟨a, vs, rfl, q1, hk F3 O3 H1 _ rs3 (st1.trans st3) pu1 ?_⟩
  refine walk_pairs (walk_enum (K := X.K) (a := a) (xs := vs)) (by simp [r1.length]) q1 (fun z H' sm => sm.seq (f1 z)) (fun H' sm => sm.seq q1) (fun i d v hd hv => ?_) (fun i d v hd hv => ?_)
  · cases hv
    rw [List.getElem?_map] at hd
    cases q : (List.range sx.2.length)[i]? with
    | none => rw [q] at hd; cases hd
    | some j =>
      rw [q] at hd
      cases hd
      have : j = i := by
        by_cases hl : i < sx.2.length
        · rw [List.getElem?_range hl] at q; exact (Option.some.inj q).symm
        · rw [List.getElem?_eq_none (by simpa using hl)] at q; cases q
      subst this
      exact .int _
  · obtain ⟨v', hv', rv⟩ := r1.get hd
    rw [hv'] at hv; cases hv; exact rv
@[simp] noncomputable def dRevI (f : DEn) (ρ : List Slot) : Res ((Bool × List D) × List Slot) := (f ρ).bind fun p => (Res.lift (p.1.holdS true)).bind fun s => (Res.lift s.lw).bind fun x => .ok ((x.1, x.2.reverse), p.2)
theorem di_rev {pa : Bool} {tg a : Expr} {p pos : Pos} {f : DEn} (hm : X.mg "reversed" = none) (ha : DE X W pa a f)
    (hz : X.mg "reversed" = none → PA X [a] (tCons (dE X.K X.mg W pa f) tNil) → PI X tg (.Call (.Name "reversed" p) [a] [] pos) (iRev X.K (tCons (dE X.K X.mg W pa f) tNil)) := by intro hm h; exact pi_reversed (by rfl) hm h)
    (hs : starEach (a :: []) X.env = (false, eval a X.env) :: starEach [] X.env := by rfl) : DI X W pa tg (.Call (.Name "reversed" p) [a] [] pos) (dRevI f) := by
  refine ⟨PI_imp (hz hm (pa_cons ha.pe pa_nil hs)) fun σ H Q ⟨F, O, ρ, rs, h⟩ => ⟨F, O, ρ, rs, ?_⟩⟩
  unfold dRevI at h
  rw [Res.wp_bind] at h
  refine Res.wp_mono h (fun p hp => ?_) (fun _ _ e => e)
  intro F1 O1 x H1 rs1 v1 st1 pu1
  rw [Res.wp_bind, Res.wp_lift] at hp
  obtain ⟨t', ht, hk⟩ := hp
  obtain ⟨F3, O3, rs3, st3, vy', ky⟩ := rs1.holdS v1 ht
  rw [Res.wp_bind, Res.wp_lift] at hk
  obtain ⟨sx, hx, hk⟩ := hk
  obtain ⟨wx, lx, kx⟩ := lw_ok hx
  obtain ⟨a, vs, rfl, q1, r1, f1⟩ := vy'.lsts kx rs3.fh wx lx
  refine ⟨a, vs, rfl, q1, hk F3 O3 H1 _ rs3 (st1.trans st3) pu1 ⟨_, _, (by rw [List.length_reverse, ← r1.length]; exact walk_rev (K := X.K) (a := a) (xs := vs)), q1, fun z H' sm => sm.seq (f1 z), fun H' sm => sm.seq q1, fun i d x H1 H1' F1 hd y s1 s2 => ?_⟩⟩
  obtain ⟨rfl, hv⟩ := y
  have hi : i < sx.2.length := by
    have := (List.getElem?_eq_some_iff.mp hd).1
    simpa using this
  rw [List.getElem?_reverse hi] at hd
  rw [r1.length] at hv
  obtain ⟨v', hv', rv⟩ := r1.get hd
  rw [hv'] at hv
  cases hv
  exact ⟨F1, Same.refl _, s2, Same.refl _, rv.up s1, fun b o h => .inl h⟩

/-! ### targets -/
abbrev DTg := D → List Slot → Option (List Slot)
noncomputable def dG (K : PySem.W.Frag) (vs : List Nat) (g : DTg) : TG := fun v σ H Q => ∃ F O ρ d ρ', RS K F σ ρ H O ∧ R K F v d ∧ g d ρ = some ρ' ∧ ∀ σ', RS K F σ' ρ' H O → (∀ i, i ∉ vs → σ'[i]? = σ[i]?) → σ'.length = σ.length → Q σ' H
noncomputable def dGs (K : PySem.W.Frag) (vs : List Nat) (g : List D → List Slot → Option (List Slot)) : TGs := fun us σ H Q => ∃ F O ρ ds ρ', RS K F σ ρ H O ∧ Rs K F us ds ∧ g ds ρ = some ρ' ∧ ∀ σ', RS K F σ' ρ' H O → (∀ i, i ∉ vs → σ'[i]? = σ[i]?) → σ'.length = σ.length → Q σ' H
structure DG (X : Cx) (vs : List Nat) (tg : Expr) (g : DTg) : Prop where
  pg : PG X tg (dG X.K vs g)
structure DGs (X : Cx) (vs : List Nat) (tg : List Expr) (g : List D → List Slot → Option (List Slot)) : Prop where
  pgs : PGs X tg (dGs X.K vs g)
@[simp] noncomputable def tgN (i : Nat) (d : D) (ρ : List Slot) : Option (List Slot) := some (ρ.set i (.sh d))
theorem PG_imp {tg : Expr} {t t' : TG} (h : PG X tg t) (g : ∀ v σ H Q, t' v σ H Q → t v σ H Q) : PG X tg t' := ⟨fun pins s σ H v u Q I r q => h.run pins s σ H v u Q I r (g v σ H Q q)⟩
theorem PGs_imp {tg : List Expr} {t t' : TGs} (h : PGs X tg t) (g : ∀ v σ H Q, t' v σ H Q → t v σ H Q) : PGs X tg t' := ⟨fun pins s σ H v u Q I r q => h.run pins s σ H v u Q I r (g v σ H Q q)⟩
theorem RS.setSh {K : PySem.W.Frag} {F H : Hp} {O : Own} {σ : L2.St} {ρ : List Slot} {v : V} {d : D} (i : Nat) (r : RS K F σ ρ H O) (rv : R K F v d) : RS K F (σ.set i (some v)) (ρ.set i (.sh d)) H O := by
  refine ⟨by rw [List.length_set, List.length_set]; exact r.len, r.fh, fun j u hu => ?_, r.out⟩
  by_cases hj : i = j
  · subst hj
    by_cases hl : i < ρ.length
    · rw [List.getElem?_set_self hl] at hu
      cases hu
      rw [List.getElem?_set_self (by rw [← r.len]; exact hl)]
      exact ⟨v, rfl, rv⟩
    · rw [List.getElem?_eq_none (by rw [List.length_set]; omega)] at hu; cases hu
  · rw [List.getElem?_set_ne hj] at hu
    rw [List.getElem?_set_ne hj]
    exact r.ok j u hu
theorem dg_name {x : Str} {pos : Pos} (i : Nat) (hN : X.N.Nodup) (hi : X.N[i]? = some x := by rfl) (hx : Loc X.env.scope x := by first | exact .inl rfl | exact .inr rfl) (hf : X.fn x = true ∨ X.env.scope.names.lookup x = some .local := by first | exact .inl rfl | exact .inr rfl) : DG X [i] (.Name x pos) (tgN i) :=
  ⟨PG_imp (pg_name hN hi hx hf) fun v σ H Q ⟨F, O, ρ, d, ρ', rs, r, e, q⟩ => by
    cases e
    exact q _ (rs.setSh i r) (fun j hj => List.getElem?_set_ne (fun z => hj (by simp [z]))) (by rw [List.length_set])⟩
@[simp] noncomputable def tgNil : List D → List Slot → Option (List Slot)
  | [], ρ => some ρ
  | _, _ => none
@[simp] noncomputable def tgCons (g : DTg) (gs : List D → List Slot → Option (List Slot)) : List D → List Slot → Option (List Slot)
  | d :: ds, ρ => (g d ρ).bind (gs ds)
  | [], _ => none
theorem dgs_nil : DGs X [] [] tgNil := ⟨PGs_imp pgs_nil fun v σ H Q ⟨F, O, ρ, ds, ρ', rs, r, e, q⟩ => by
  cases r with
  | nil => cases e; exact ⟨rfl, q σ rs (fun _ _ => rfl) rfl⟩
  | cons _ _ => cases e⟩
theorem dgs_cons {us ws : List Nat} {e : Expr} {es : List Expr} {g : DTg} {gs : List D → List Slot → Option (List Slot)} (h1 : DG X us e g) (h2 : DGs X ws es gs) (hs : (assignEach (e :: es) X.env).map (·.2) = assign e X.env :: (assignEach es X.env).map (·.2) := by rfl) : DGs X (us ++ ws) (e :: es) (tgCons g gs) :=
  ⟨PGs_imp (pgs_cons h1.pg h2.pgs hs) fun v σ H Q ⟨F, O, ρ, ds, ρ', rs, r, e, q⟩ => by
    cases r with
    | nil => cases e
    | @cons v vs d ds r1 r2 =>
      have e : (g d ρ).bind (gs ds) = some ρ' := e
      cases hg : g d ρ with
      | none => rw [hg] at e; cases e
      | some ρ1 =>
        rw [hg] at e
        exact ⟨v, vs, rfl, F, O, ρ, d, ρ1, rs, r1, hg, fun σ1 rs1 k1 l1 => ⟨F, O, ρ1, ds, ρ', rs1, r2, e, fun σ2 rs2 k2 l2 => q σ2 rs2 (fun i hi => by
          rw [k2 i (fun z => hi (List.mem_append_right _ z)), k1 i (fun z => hi (List.mem_append_left _ z))]) (l2.trans l1)⟩⟩⟩
@[simp] noncomputable def tgTup (gs : List D → List Slot → Option (List Slot)) (d : D) (ρ : List Slot) : Option (List Slot) := match d with
  | .tup ds => gs ds ρ
  | _ => none
theorem dg_tup {us : List Nat} {es : List Expr} {k : Nat} {pos : Pos} {gs : List D → List Slot → Option (List Slot)} {n : Nat} (hc : X.calm = true) (h : DGs X us es gs) (hln : ∀ ds ρ ρ', gs ds ρ = some ρ' → ds.length = n) (hn : (assignEach es X.env).length = n := by rfl) (hst : (assignEach es X.env).findIdx? (·.1) = none := by rfl) :
    DG X us (.Tuple es k pos) (tgTup gs) :=
  ⟨PG_imp (pg_tup hc h.pgs hn hst) fun v σ H Q ⟨F, O, ρ, d, ρ', rs, r, e, q⟩ => by
    cases r with
    | tup hq rr =>
      have e : gs _ ρ = some ρ' := e
      exact ⟨_, _, rfl, same_seqT rs.fh hq, by rw [rr.length]; exact hln _ _ _ e, F, O, ρ, _, ρ', rs, rr, e, q⟩
    | _ => cases e⟩
theorem tg_len0 : ∀ ds ρ ρ', tgNil ds ρ = some ρ' → ds.length = 0 := fun ds ρ ρ' h => by
  cases ds with
  | nil => rfl
  | cons _ _ => cases h
theorem tg_lenS {g : DTg} {gs : List D → List Slot → Option (List Slot)} {n : Nat} (h : ∀ ds ρ ρ', gs ds ρ = some ρ' → ds.length = n) : ∀ ds ρ ρ', tgCons g gs ds ρ = some ρ' → ds.length = n + 1 := fun ds ρ ρ' e => by
  cases ds with
  | nil => cases e
  | cons d ds =>
    have e : (g d ρ).bind (gs ds) = some ρ' := e
    cases hg : g d ρ with
    | none => rw [hg] at e; cases e
    | some ρ1 =>
      rw [hg] at e
      rw [List.length_cons, h ds ρ1 ρ' e]

/-! ### for -/
noncomputable def forL (g : DTg) (body : DSn) : List D → List Slot → Out
  | [], ρ => .nx ρ
  | d :: ds, ρ => match g d ρ with
    | none => .stuck
    | some ρ1 => match body ρ1 with
      | .nx ρ2 => forL g body ds ρ2
      | .ct ρ2 => forL g body ds ρ2
      | .bk ρ2 => .nx ρ2
      | .rt s ρ2 => .rt s ρ2
      | .ex c ρ2 => .ex c ρ2
      | .stuck => .stuck
noncomputable def dFor (it : DIn) (g : DTg) (body : DSn) (ρ : List Slot) : Out := (it ρ).out fun p ρ1 => if p.1 = true then forL g body p.2 ρ1 else .stuck
theorem ds_for {I : List Nat} {pu : Bool} {us : List Nat} {tg iter : Expr} {body : List Stmt} {fi : DIn} {g : DTg} {fb : DSn} {pos : Pos} (hp : PassesOwn (model X.prog X.w) X.A X.env X.xe) (hc : X.calm = true) (hi : DI X W pu tg iter fi) (hg : DG X us tg g) (hb : DSs X W I body fb)
    (hI : ∀ i ∈ I, i ∉ us := by decide) (hs : ∀ x, foldedSetIterable iter X.env x = pure x := by intro _; rfl) : DS X W I (.For tg iter body [] pos) (dFor fi g fb) := by
  refine ⟨PS_imp (ps_for hp hc hi.pi hg.pg hb.pss hs) fun D σ H ⟨F, O, ρ, rs, h⟩ => ⟨F, O, ρ, rs, out_wp h fun p ρ1 h => ?_⟩⟩
  intro F1 O1 H1 J rs1 st1 _ ⟨G, Y, w, g0, g1, g2, gy⟩
  obtain ⟨fz, its⟩ := p
  cases fz with
  | false => simp at h; exact h.elim
  | true =>
    simp only [if_true] at h
    refine for_it w (fun i σ' H' => ∃ F' O' ρ', RS X.K F' σ' ρ' H' O' ∧ Step F1 H1 O1 F' H' O' ∧ Pin I σ σ' ∧ OutOk X.K X.mg W I D F' O' σ' H' (forL g fb (its.drop i) ρ'))
      ⟨F1, O1, ρ1, rs1, .refl, .refl, h.step st1 .refl⟩ (fun i σ' H' _ ⟨F', O', ρ', rs', st', _, _⟩ => g1 rfl H' (st'.fr.trans rs'.fh)) (fun i x σ' H' H2 hi ⟨F', O', ρ', rs', st', pn, ho⟩ y => ?_) (fun σ' H' ⟨F', O', ρ', rs', st', pn, ho⟩ => ?_)
    · have hd : its[i]? = some its[i] := List.getElem?_eq_getElem hi
      rw [List.drop_eq_getElem_cons hi] at ho
      obtain ⟨F2, s1, s2, s3, rx, low⟩ := gy i _ x H' H2 F' hd y st'.fr rs'.fh
      have out2 : ∀ b j, O' b = some j → F2 b = none ∧ ∃ o, H2 b = some o := fun b j e => by
        obtain ⟨h1, o, h2⟩ := rs'.out b j e
        refine ⟨?_, o, s3 b o h2⟩
        cases q : F2 b with
        | none => rfl
        | some u =>
          rcases low b u q with h | h
          · rw [h1] at h; cases h
          · rw [h2] at h; cases h
      have rs2 : RS X.K F2 σ' ρ' H2 O' := rs'.ext s1 s2 (fun a j u ha _ hu => ⟨s3 _ _ hu, ha⟩) out2
      have st2 : Step F' H' O' F2 H2 O' := ⟨fun b o h _ => s3 b o h, fun b o h => ⟨o, s3 b o h⟩, s1, fun b o h => (low b o h).imp (fun z => z) .inr, fun b j e => .inl ⟨j, e⟩⟩
      have ho : OutOk X.K X.mg W I D F' O' σ' H' (match g its[i] ρ' with
        | none => .stuck
        | some ρ1 => match fb ρ1 with
          | .nx ρ2 => forL g fb (its.drop (i + 1)) ρ2
          | .ct ρ2 => forL g fb (its.drop (i + 1)) ρ2
          | .bk ρ2 => .nx ρ2
          | .rt s ρ2 => .rt s ρ2
          | .ex c ρ2 => .ex c ρ2
          | .stuck => .stuck) := ho
      cases hg' : g its[i] ρ' with
      | none => simp only [hg'] at ho; exact ho.elim
      | some ρ3 =>
        simp only [hg'] at ho
        refine ⟨F2, O', ρ', _, ρ3, rs2, rx, hg', fun σ3 rs3 k3 l3 => ⟨F2, O', ρ3, rs3, ?_⟩⟩
        have pn3 : Pin I σ' σ3 := ⟨l3, fun j hj => k3 j (hI j hj)⟩
        have ho3 := ho.step st2 pn3
        have go : ∀ ρ4, OutOk X.K X.mg W I D F2 O' σ3 H2 (forL g fb (its.drop (i + 1)) ρ4) → ∀ F' O'' σ' H', RS X.K F' σ' ρ4 H' O'' → Step F2 H2 O' F' H' O'' → Pin I σ3 σ' →
            ∃ F' O' ρ', RS X.K F' σ' ρ' H' O' ∧ Step F1 H1 O1 F' H' O' ∧ Pin I σ σ' ∧ OutOk X.K X.mg W I D F' O' σ' H' (forL g fb (its.drop (i + 1)) ρ') := fun ρ4 ho F4 O4 σ4 H4 rs4 st4 pn4 =>
          ⟨F4, O4, ρ4, rs4, st'.trans (st2.trans st4), (pn.trans pn3).trans pn4, ho.step st4 pn4⟩
        cases hf : fb ρ3 with
        | nx ρ4 => simp only [hf] at ho3; exact go ρ4 ho3
        | ct ρ4 => simp only [hf] at ho3; exact go ρ4 ho3
        | bk ρ4 => simp only [hf] at ho3; exact ho3
        | rt s ρ4 => simp only [hf] at ho3; exact ho3
        | ex c ρ4 => simp only [hf] at ho3; exact ho3
        | stuck => simp only [hf] at ho3; exact ho3
    · rw [List.drop_eq_nil_of_le (Nat.le_refl _)] at ho
      exact ho F' O' σ' H' rs' .refl .refl

/-! ### while -/
noncomputable def whileN (c : DTn) (body : DSn) : Nat → List Slot → Option Out
  | 0, _ => none
  | n + 1, ρ => match c ρ with
    | .ok (true, ρ1) => (match body ρ1 with
      | .nx ρ2 => whileN c body n ρ2
      | .ct ρ2 => whileN c body n ρ2
      | .bk ρ2 => some (.nx ρ2)
      | .rt s ρ2 => some (.rt s ρ2)
      | .ex e ρ2 => some (.ex e ρ2)
      | .stuck => some .stuck)
    | .ok (false, ρ1) => some (.nx ρ1)
    | .ex e ρ1 => some (.ex e ρ1)
    | .stuck => some .stuck
open Classical in
noncomputable def dWhile (c : DTn) (body : DSn) (ρ : List Slot) : Out := if h : ∃ n o, whileN c body n ρ = some o then h.choose_spec.choose else .stuck
theorem whileN_more {c : DTn} {body : DSn} : ∀ {n : Nat} {ρ : List Slot} {o : Out}, whileN c body n ρ = some o → whileN c body (n + 1) ρ = some o
  | 0, _, _, h => by cases h
  | n + 1, ρ, o, h => by
    unfold whileN at h ⊢
    cases hc : c ρ with
    | ok p =>
      obtain ⟨b, ρ1⟩ := p
      cases b with
      | true =>
        simp only [hc] at h ⊢
        cases hb : body ρ1 with
        | nx ρ2 => simp only [hb] at h ⊢; exact whileN_more h
        | ct ρ2 => simp only [hb] at h ⊢; exact whileN_more h
        | bk ρ2 => simp only [hb] at h ⊢; exact h
        | rt s ρ2 => simp only [hb] at h ⊢; exact h
        | ex e ρ2 => simp only [hb] at h ⊢; exact h
        | stuck => simp only [hb] at h ⊢; exact h
      | false => simp only [hc] at h ⊢; exact h
    | ex e ρ1 => simp only [hc] at h ⊢; exact h
    | stuck => simp only [hc] at h ⊢; exact h
theorem whileN_le {c : DTn} {body : DSn} {n m : Nat} {ρ : List Slot} {o : Out} (h : whileN c body n ρ = some o) (le : n ≤ m) : whileN c body m ρ = some o := by
  induction le with
  | refl => exact h
  | step _ ih => exact whileN_more ih
theorem while_eq {c : DTn} {body : DSn} {n : Nat} {ρ : List Slot} {o : Out} (h : whileN c body n ρ = some o) : dWhile c body ρ = o := by
  have hx : ∃ n o, whileN c body n ρ = some o := ⟨n, o, h⟩
  unfold dWhile
  rw [dif_pos hx]
  have h2 := hx.choose_spec.choose_spec
  have a := whileN_le h (Nat.le_max_left n hx.choose)
  have b := whileN_le h2 (Nat.le_max_right n hx.choose)
  rw [a] at b
  exact (Option.some.inj b).symm
theorem while_some {c : DTn} {body : DSn} {ρ : List Slot} (h : dWhile c body ρ ≠ .stuck) : ∃ n, whileN c body n ρ = some (dWhile c body ρ) := by
  by_cases hx : ∃ n o, whileN c body n ρ = some o
  · obtain ⟨n, o, e⟩ := hx
    exact ⟨n, by rw [while_eq e]; exact e⟩
  · exact absurd (by unfold dWhile; rw [dif_neg hx]) h
/-- one turn -/
theorem while_step {c : DTn} {body : DSn} {ρ ρ1 : List Slot} (hc : c ρ = .ok (true, ρ1)) : dWhile c body ρ = (match body ρ1 with
    | .nx ρ2 => dWhile c body ρ2
    | .ct ρ2 => dWhile c body ρ2
    | .bk ρ2 => .nx ρ2
    | .rt s ρ2 => .rt s ρ2
    | .ex e ρ2 => .ex e ρ2
    | .stuck => .stuck) := by
  have go : ∀ ρ2, (∀ n, whileN c body (n + 1) ρ = whileN c body n ρ2) → dWhile c body ρ = dWhile c body ρ2 := fun ρ2 hn => by
    by_cases hx : ∃ n o, whileN c body n ρ2 = some o
    · obtain ⟨n, o, e⟩ := hx
      rw [while_eq e, while_eq (n := n + 1) (o := o) (by rw [hn]; exact e)]
    · have hx' : ¬ ∃ n o, whileN c body n ρ = some o := fun ⟨n, o, e⟩ => by
        cases n with
        | zero => cases e
        | succ n => rw [hn] at e; exact hx ⟨n, o, e⟩
      unfold dWhile
      rw [dif_neg hx, dif_neg hx']
  cases hb : body ρ1 with
  | nx ρ2 => exact go ρ2 fun n => by simp only [whileN, hc, hb]
  | ct ρ2 => exact go ρ2 fun n => by simp only [whileN, hc, hb]
  | bk ρ2 => exact while_eq (n := 1) (by simp only [whileN, hc, hb])
  | rt s ρ2 => exact while_eq (n := 1) (by simp only [whileN, hc, hb])
  | ex e ρ2 => exact while_eq (n := 1) (by simp only [whileN, hc, hb])
  | stuck => exact while_eq (n := 1) (by simp only [whileN, hc, hb])
theorem while_stop {c : DTn} {body : DSn} {ρ ρ1 : List Slot} (hc : c ρ = .ok (false, ρ1)) : dWhile c body ρ = .nx ρ1 := while_eq (n := 1) (by simp only [whileN, hc])
theorem ds_while {I : List Nat} {pu : Bool} {c : Expr} {body : List Stmt} {fc : DTn} {fb : DSn} {pos : Pos} (hp : PassesOwn (model X.prog X.w) X.A X.env X.xe) (hc : DT X W pu c fc) (hb : DSs X W I body fb) : DS X W I (.While c body [] pos) (dWhile fc fb) := by
  refine ⟨PS_imp (ps_while hp hc.pt hb.pss) fun D σ H ⟨F, O, ρ, rs, h⟩ => ?_⟩
  have ns : dWhile fc fb ρ ≠ .stuck := fun e => by rw [e] at h; exact h
  obtain ⟨n0, e0⟩ := while_some ns
  refine ⟨fun n σ' H' => ∃ F' O' ρ' o, RS X.K F' σ' ρ' H' O' ∧ whileN fc fb n ρ' = some o ∧ OutOk X.K X.mg W I D F' O' σ' H' o, ⟨n0, F, O, ρ, _, rs, e0, h⟩, ?_⟩
  rintro n σ1 H1 ⟨F1, O1, ρ1, o, rs1, e1, h1⟩
  cases n with
  | zero => cases e1
  | succ n =>
    refine ⟨F1, O1, ρ1, rs1, ?_⟩
    unfold whileN at e1
    cases hcρ : fc ρ1 with
    | ok p =>
      obtain ⟨b, ρ2⟩ := p
      intro F2 O2 H2 rs2 st2 _
      cases b with
      | false =>
        simp only [hcρ, Option.some.injEq] at e1
        subst e1
        simp only [Bool.false_eq_true, if_false]
        exact h1 F2 O2 σ1 H2 rs2 st2 .refl
      | true =>
        simp only [hcρ] at e1
        simp only [if_true]
        refine ⟨fun σ' H' => ∃ F' O' ρ' o, RS X.K F' σ' ρ' H' O' ∧ whileN fc fb n ρ' = some o ∧ OutOk X.K X.mg W I D F' O' σ' H' o, fun σ' H' q => ⟨n, Nat.lt_succ_self n, q⟩, F2, O2, ρ2, rs2, ?_⟩
        have h2 := h1.step st2 (.refl (σ := σ1))
        cases hb2 : fb ρ2 with
        | nx ρ3 => simp only [hb2] at e1; exact fun F' O' σ' H' rs' st' pn' => ⟨F', O', ρ3, o, rs', e1, h2.step st' pn'⟩
        | ct ρ3 => simp only [hb2] at e1; exact fun F' O' σ' H' rs' st' pn' => ⟨F', O', ρ3, o, rs', e1, h2.step st' pn'⟩
        | bk ρ3 => simp only [hb2, Option.some.injEq] at e1; subst e1; exact h2
        | rt s ρ3 => simp only [hb2, Option.some.injEq] at e1; subst e1; exact h2
        | ex c ρ3 => simp only [hb2, Option.some.injEq] at e1; subst e1; exact h2
        | stuck => simp only [hb2, Option.some.injEq] at e1; subst e1; exact h2
    | ex c ρ2 =>
      simp only [hcρ, Option.some.injEq] at e1
      subst e1
      intro F' O' H' rs' st'
      exact h1 F' O' σ1 H' rs' st' .refl
    | stuck =>
      simp only [hcρ, Option.some.injEq] at e1
      subst e1
      exact h1
end
end DL
namespace DL
open PySem PySem.Spec PyProof.Rows L2
/-! ### comprehensions -/
@[simp] noncomputable def Res.noex {α : Type} : Res α → Res α
  | .ok a => .ok a
  | _ => .stuck
theorem noex_wp {α : Type} {P : α → Prop} {E E' : Str → List Slot → Prop} {r : Res α} (h : r.noex.wp P E) : r.wp P E' := by
  cases r <;> first | exact h | exact h.elim
@[simp] noncomputable def wipeS (ρ : List Slot) : List Nat → List Slot
  | [] => ρ
  | v :: vs => (wipeS ρ vs).set v .un
@[simp] noncomputable def backS (ρ1 ρk : List Slot) : List Nat → List Slot
  | [] => ρk
  | v :: vs => (backS ρ1 ρk vs).set v (ρ1[v]?.getD .un)
@[simp] noncomputable def Slot.low : Slot → Bool
  | .un => true
  | .sh _ => true
  | _ => false
@[simp] noncomputable def okV (ρ : List Slot) (vs : List Nat) : Bool := vs.all fun v => (ρ[v]?.getD .un).low
theorem wipeS_length (ρ : List Slot) : ∀ vs, (wipeS ρ vs).length = ρ.length
  | [] => rfl
  | v :: vs => by unfold wipeS; rw [List.length_set, wipeS_length ρ vs]
theorem backS_length (ρ1 ρk : List Slot) : ∀ vs, (backS ρ1 ρk vs).length = ρk.length
  | [] => rfl
  | v :: vs => by unfold backS; rw [List.length_set, backS_length ρ1 ρk vs]
theorem wipeS_out {ρ : List Slot} {i : Nat} : ∀ {vs : List Nat}, i ∉ vs → (wipeS ρ vs)[i]? = ρ[i]?
  | [], _ => rfl
  | v :: vs, h => by
    unfold wipeS
    rw [List.getElem?_set_ne (fun e => h (by simp [e]))]
    exact wipeS_out (fun z => h (List.mem_cons_of_mem _ z))
theorem backS_out {ρ1 ρk : List Slot} {i : Nat} : ∀ {vs : List Nat}, i ∉ vs → (backS ρ1 ρk vs)[i]? = ρk[i]?
  | [], _ => rfl
  | v :: vs, h => by
    unfold backS
    rw [List.getElem?_set_ne (fun e => h (by simp [e]))]
    exact backS_out (fun z => h (List.mem_cons_of_mem _ z))
theorem backS_in {ρ1 ρk : List Slot} {i : Nat} {s : Slot} : ∀ {vs : List Nat}, i ∈ vs → (backS ρ1 ρk vs)[i]? = some s → s = ρ1[i]?.getD .un
  | v :: vs, h, e => by
    unfold backS at e
    by_cases hv : v = i
    · subst hv
      by_cases hl : v < (backS ρ1 ρk vs).length
      · rw [List.getElem?_set_self hl] at e; exact (Option.some.inj e).symm
      · rw [List.getElem?_eq_none (by rw [List.length_set]; omega)] at e; cases e
    · rw [List.getElem?_set_ne hv] at e
      exact backS_in ((List.mem_cons.mp h).resolve_left (Ne.symm hv)) e
section
variable {K : PySem.W.Frag} {F H : Hp} {O : Own} {σ : L2.St} {ρ : List Slot}
theorem RS.setUn (i : Nat) (r : RS K F σ ρ H O) : RS K F (σ.set i none) (ρ.set i .un) H O := by
  refine ⟨by rw [List.length_set, List.length_set]; exact r.len, r.fh, fun j u hu => ?_, r.out⟩
  by_cases hj : i = j
  · subst hj
    by_cases hl : i < ρ.length
    · rw [List.getElem?_set_self hl] at hu
      cases hu
      trivial
    · rw [List.getElem?_eq_none (by rw [List.length_set]; omega)] at hu; cases hu
  · rw [List.getElem?_set_ne hj] at hu
    rw [List.getElem?_set_ne hj]
    exact r.ok j u hu
theorem RS.wipe (r : RS K F σ ρ H O) : ∀ vs : List Nat, RS K F (L2.wipe σ vs) (wipeS ρ vs) H O
  | [] => r
  | v :: vs => (RS.wipe r vs).setUn v
/-- an object that no slot owns is changed -/
theorem RS.updFree {D : Addr} {vs ws : List V} (r : RS K F σ ρ H O) (hD : H D = some (.lst vs)) (fD : F D = none) (oD : O D = none) : RS K F σ ρ (upd H D (.lst ws)) O := by
  refine r.ext (Same.refl F) (fun b o e => ?_) (fun a i u ha _ hu => ⟨?_, ha⟩) (fun b i e => ?_)
  · rw [upd_ne (ne_of_none e fD)]; exact r.fh b o e
  · rw [upd_ne (fun z => by subst z; rw [oD] at ha; cases ha)]; exact hu
  · obtain ⟨h1, o, h2⟩ := r.out b i e
    exact ⟨h1, o, by rw [upd_ne (fun z => by subst z; rw [oD] at e; cases e)]; exact h2⟩
/-- an object made later than the step's start may change -/
theorem Step.updNew {F H : Hp} {O : Own} {F' H' : Hp} {O' : Own} {D : Addr} {o : HO} (s : Step F H O F' H' O') (n : H D = none) : Step F H O F' (upd H' D o) O' := by
  refine ⟨fun b u h k => ?_, fun b u h => ?_, s.fr, s.low, s.fp⟩
  · rw [upd_ne (ne_of_none h n)]; exact s.keep b u h k
  · rw [upd_ne (ne_of_none h n)]; exact s.there b u h
theorem same_updNew {H H' : Hp} {D : Addr} {o : HO} (s : Same H H') (n : H D = none) : Same H (upd H' D o) := fun b u h => by rw [upd_ne (ne_of_none h n)]; exact s b u h
theorem Step.free {F H : Hp} {O : Own} {F' H' : Hp} {O' : Own} {D : Addr} {o : HO} (s : Step F H O F' H' O') (hD : H D = some o) (fD : F D = none) (oD : O D = none) : H' D = some o ∧ F' D = none ∧ O' D = none := by
  refine ⟨s.keep D o hD oD, ?_, s.own_none hD oD⟩
  cases q : F' D with
  | none => rfl
  | some u =>
    rcases s.low D u q with h | ⟨j, h⟩ | h
    · rw [fD] at h; cases h
    · rw [oD] at h; cases h
    · rw [hD] at h; cases h
/-- a turn's item comes -/
theorem RS.item {F2 H2 : Hp} (r : RS K F σ ρ H O) (s1 : Same F F2) (s2 : Same F2 H2) (s3 : Same H H2) (low : ∀ b o, F2 b = some o → F b = some o ∨ H b = none) : RS K F2 σ ρ H2 O ∧ Step F H O F2 H2 O := by
  have out2 : ∀ b j, O b = some j → F2 b = none ∧ ∃ o, H2 b = some o := fun b j e => by
    obtain ⟨h1, o, h2⟩ := r.out b j e
    refine ⟨?_, o, s3 b o h2⟩
    cases q : F2 b with
    | none => rfl
    | some u =>
      rcases low b u q with h | h
      · rw [h1] at h; cases h
      · rw [h2] at h; cases h
  exact ⟨r.ext s1 s2 (fun a j u ha _ hu => ⟨s3 _ _ hu, ha⟩) out2, ⟨fun b o h _ => s3 b o h, fun b o h => ⟨o, s3 b o h⟩, s1, fun b o h => (low b o h).imp (fun z => z) .inr, fun b j e => .inl ⟨j, e⟩⟩⟩
/-- behind a block the own slots of it stand as before -/
theorem RS.unwipe {F1 H1 : Hp} {O1 : Own} {ρ1 ρk : List Slot} {vs : List Nat} (r1 : RS K F1 σ ρ1 H1 O1) (r : RS K F (L2.wipe σ vs) (wipeS ρk vs) H O) (e : Same F1 F) (ok : okV ρ1 vs = true) : RS K F σ (backS ρ1 ρk vs) H O := by
  refine ⟨?_, r.fh, fun i s hs => ?_, r.out⟩
  · have := r.len
    rw [wipeS_length, wipe_length] at this
    rw [backS_length]; exact this
  · by_cases hi : i ∈ vs
    · have es := backS_in hi hs
      have lw : s.low = true := by
        rw [es]
        exact List.all_eq_true.mp ok i hi
      cases hq : ρ1[i]? with
      | none => rw [hq] at es; subst es; trivial
      | some t =>
        rw [hq] at es
        have es : s = t := es
        subst es
        have q := r1.ok i s hq
        cases s with
        | un => trivial
        | sh d => obtain ⟨v, hv, rv⟩ := q; exact ⟨v, hv, rv.up e⟩
        | _ => cases lw
    · rw [backS_out hi] at hs
      have q := r.ok i s (by rw [wipeS_out hi]; exact hs)
      rw [wipe_out hi] at q
      exact q
end
theorem wipe_ext {σ σ' : L2.St} : ∀ {vs : List Nat}, (∀ i, i ∉ vs → σ'[i]? = σ[i]?) → σ'.length = σ.length → L2.wipe σ' vs = L2.wipe σ vs := fun {vs} h l => by
  refine List.ext_getElem? fun i => ?_
  by_cases hi : i ∈ vs
  · have key : ∀ (τ : L2.St) (vs : List Nat), i ∈ vs → (L2.wipe τ vs)[i]? = if i < τ.length then some none else none := fun τ vs hi => by
      induction vs with
      | nil => cases hi
      | cons v vs ih =>
        unfold L2.wipe
        by_cases hv : v = i
        · subst hv
          by_cases hl : v < τ.length
          · rw [List.getElem?_set_self (by rw [wipe_length]; exact hl), if_pos hl]
          · rw [List.getElem?_eq_none (by rw [List.length_set, wipe_length]; omega), if_neg hl]
        · rw [List.getElem?_set_ne hv]
          exact ih ((List.mem_cons.mp hi).resolve_left (Ne.symm hv))
    rw [key σ' vs hi, key σ vs hi, l]
  · rw [wipe_out hi, wipe_out hi, h i hi]
noncomputable def compL (g : DTg) (tt : DTn) (te : DEn) (vs : List Nat) : List D → List Slot → Res (List D × List Slot)
  | [], ρ => .ok ([], ρ)
  | d :: ds, ρ => (Res.lift (g d (wipeS ρ vs))).bind fun ρ1 => (tt ρ1).noex.bind fun p => if p.1 = true then (te p.2).noex.bind fun q => (Res.lift q.1.fz).bind fun e => (compL g tt te vs ds q.2).bind fun r => .ok (e :: r.1, r.2)
    else compL g tt te vs ds p.2
noncomputable def dLc (fr : Bool) (it : DIn) (g : DTg) (tt : DTn) (te : DEn) (vs : List Nat) (ρ : List Slot) : Res (Slot × List Slot) := (it ρ).bind fun p => if ((p.1.1 || fr) && okV p.2 vs) = true ∧ p.1.2.length < sizeLine then (compL g tt te vs p.1.2 p.2).bind fun r => .ok (.own r.1, backS p.2 r.2 vs) else .stuck
abbrev W0 : WX := fun _ _ _ _ => False
theorem lc_imp {K : PySem.W.Frag} {mg : Str → Option Value} {W : WX} {pi pt pe : Bool} {it : DIn} {g : DTg} {tt : DTn} {te : DEn} {us vs : List Nat} (hus : ∀ i ∈ us, i ∈ vs) {σ : L2.St} {H : Hp} {Q : VK}
    (h : dE K mg W (pi && (pt && pe)) (dLc (pt && pe) it g tt te vs) σ H Q) : tLc (dI K mg W pi it) (dG K us g) (dT K mg W0 pt tt) (dE K mg W0 pe te) vs σ H Q := by
  obtain ⟨F, O, ρ, rs, h⟩ := h
  refine ⟨F, O, ρ, rs, ?_⟩
  unfold dLc at h
  rw [Res.wp_bind] at h
  refine Res.wp_mono h (fun p hp => ?_) (fun _ _ e => e)
  intro F1 O1 H1 J rs1 st1 pu1 ⟨G, Y, w, g0, g1, g2, gy⟩ D nD
  obtain ⟨⟨fz, its⟩, ρ1⟩ := p
  by_cases hc : ((fz || (pt && pe)) && okV ρ1 vs) = true ∧ its.length < sizeLine
  · rw [if_pos hc] at hp
    rw [Res.wp_bind] at hp
    simp only [Bool.and_eq_true] at hc
    obtain ⟨⟨hfz, hok⟩, hlen⟩ := hc
    have fD : F1 D = none := by
      cases q : F1 D with
      | none => rfl
      | some o => have := rs1.fh D o q; rw [nD] at this; cases this
    have oD : O1 D = none := by
      cases q : O1 D with
      | none => rfl
      | some i => obtain ⟨_, o, h2⟩ := rs1.out D i q; rw [nD] at h2; cases h2
    have sD : Same H1 (upd H1 D (.lst [])) := same_updNew (Same.refl _) nD
    have rsD : RS K F1 σ ρ1 (upd H1 D (.lst [])) O1 := rs1.ext (Same.refl _) (rs1.fh.trans sD) (fun a i u ha _ hu => ⟨sD _ _ hu, ha⟩) (fun b i e => by
      obtain ⟨h1, o, h2⟩ := rs1.out b i e
      exact ⟨h1, o, sD b o h2⟩)
    refine lc_it w (fun i Hk => ∃ Fk Ok ρk vacc acc, RS K Fk (L2.wipe σ vs) (wipeS ρk vs) Hk Ok ∧ Hk D = some (.lst vacc) ∧ Fk D = none ∧ Ok D = none ∧ Rs K Fk vacc acc ∧ acc.length ≤ i ∧ Step F1 H1 O1 Fk Hk Ok ∧ ((pt && pe) = true → Same H1 Hk) ∧
        (compL g tt te vs (its.drop i) ρk).wp (fun r => PV K (pi && (pt && pe)) F O σ H Q (.own (acc ++ r.1), backS ρ1 r.2 vs)) (PX K mg W F O σ H)) ?_ (fun i Hk _ ⟨Fk, Ok, ρk, vacc, acc, rk, hk, _, _, _, _, stk, puk, _⟩ => ?_)
      (fun i x Hk H2 hi ⟨Fk, Ok, ρk, vacc, acc, rk, hk, fk, ok, ra, la, stk, puk, hw⟩ y => ?_) (fun Hk ⟨Fk, Ok, ρk, vacc, acc, rk, hk, fk, ok, ra, la, stk, puk, hw⟩ => ?_)
    · refine ⟨F1, O1, ρ1, [], [], rsD.wipe vs, upd_same, fD, oD, .nil, Nat.le_refl _, (Step.refl.updNew nD), fun _ => sD, ?_⟩
      exact Res.wp_mono hp (fun r hr => hr) (fun _ _ e => e)
    · rcases Bool.or_eq_true_iff.mp hfz with z | z
      · exact g1 z Hk (stk.fr.trans rk.fh)
      · exact g2 Hk (puk z)
    · have hd : its[i]? = some its[i] := List.getElem?_eq_getElem hi
      rw [List.drop_eq_getElem_cons hi] at hw
      obtain ⟨F2, s1, s2, s3, rx, low⟩ := gy i _ x Hk H2 Fk hd y stk.fr rk.fh
      obtain ⟨rs2, st2⟩ := rk.item s1 s2 s3 low
      unfold compL at hw
      rw [Res.wp_bind, Res.wp_lift] at hw
      obtain ⟨ρ3, hg, hw⟩ := hw
      refine ⟨F2, Ok, wipeS ρk vs, _, ρ3, rs2, rx, hg, fun σ3 rs3 k3 l3 => ?_⟩
      have e3 : L2.wipe σ3 vs = L2.wipe σ vs := by
        have : L2.wipe σ3 vs = L2.wipe (L2.wipe σ vs) vs := wipe_ext (fun j hj => k3 j fun z => hj (hus j z)) l3
        rw [this]
        exact wipe_ext (fun j hj => wipe_out hj) (wipe_length _ _)
      refine ⟨e3, F2, Ok, ρ3, rs3, ?_⟩
      rw [Res.wp_bind] at hw
      refine noex_wp (E := PX K mg W F O σ H) ?_
      refine Res.wp_mono hw (fun b hb => ?_) (fun _ _ e => e)
      intro F4 O4 H4 rs4 st4 pu4
      obtain ⟨c, ρ4⟩ := b
      have stA := stk.trans (st2.trans st4)
      obtain ⟨h2D, f2D, o2D⟩ := st2.free hk fk ok
      obtain ⟨h4D, f4D, o4D⟩ := st4.free h2D f2D o2D
      cases c with
      | false =>
        simp only [Bool.false_eq_true, if_false] at hb ⊢
        refine ⟨F4, O4, ρ4, vacc, acc, by rw [← e3]; exact rs4.wipe vs, h4D, f4D, o4D, ra.up (st2.fr.trans st4.fr), Nat.le_succ_of_le la, stA, fun z => ?_, hb⟩
        have z' := z
        simp only [Bool.and_eq_true] at z'
        exact (puk z).trans (s3.trans (pu4 z'.1))
      | true =>
        simp only [if_true] at hb ⊢
        refine ⟨F4, O4, ρ4, rs4, ?_⟩
        rw [Res.wp_bind] at hb
        refine noex_wp (E := PX K mg W F O σ H) ?_
        refine Res.wp_mono hb (fun q hq => ?_) (fun _ _ e => e)
        intro F5 O5 v5 H5 rs5 v5ok st5 pu5
        rw [Res.wp_bind, Res.wp_lift] at hq
        obtain ⟨e, he, hq⟩ := hq
        obtain ⟨F6, O6, rs6, rv6, st6⟩ := rs5.freeze v5ok he
        obtain ⟨h6D, f6D, o6D⟩ := (st5.trans st6).free h4D f4D o4D
        refine ⟨vacc, h6D, ?_, F6, O6, q.2, vacc ++ [v5], acc ++ [e], ?_, upd_same, f6D, o6D, (ra.up (((st2.fr.trans st4.fr).trans st5.fr).trans st6.fr)).append (.cons rv6 .nil), by rw [List.length_append, List.length_singleton]; omega, (stA.trans (st5.trans st6)).updNew nD, fun z => ?_, ?_⟩
        · have hi' : i < its.length := hi
          rw [ra.length]; omega
        · have := (rs6.wipe vs).updFree (ws := vacc ++ [v5]) h6D f6D o6D
          rw [e3] at this
          exact this
        · have z' := z
          simp only [Bool.and_eq_true] at z'
          exact same_updNew ((puk z).trans (s3.trans ((pu4 z'.1).trans (pu5 z'.2)))) nD
        · rw [Res.wp_bind] at hq
          refine Res.wp_mono hq (fun r hr => ?_) (fun _ _ e => e)
          show PV K _ F O σ H Q (.own (acc ++ [e] ++ r.1), backS ρ1 r.2 vs)
          rw [List.append_assoc]
          exact hr
    · rw [List.drop_eq_nil_of_le (Nat.le_refl _)] at hw
      have hw : PV K (pi && (pt && pe)) F O σ H Q (.own (acc ++ []), backS ρ1 ρk vs) := hw
      rw [List.append_nil] at hw
      have ru := rs1.unwipe rk stk.fr hok
      refine hw Fk (fun b => if b = D then some (backS ρ1 ρk vs).length else Ok b) (.ref D) Hk ⟨ru.len, ru.fh, fun j t ht => (ru.ok j t ht).ext (Same.refl _) fun b u pb hu => ⟨hu, ?_⟩, fun b j e => ?_⟩ ⟨D, vacc, rfl, hk, by simp, ra⟩ (st1.trans ⟨stk.keep, stk.there, stk.fr, stk.low, fun b j e => ?_⟩) fun z => ?_
      · have : b ≠ D := fun z => by subst z; rw [ok] at pb; cases pb
        simp [this, pb]
      · by_cases hb : b = D
        · subst hb; exact ⟨fk, _, hk⟩
        · simp [hb] at e; exact ru.out b j e
      · by_cases hb : b = D
        · subst hb; exact .inr nD
        · simp [hb] at e; exact stk.fp b j e
      · have z' := z
        rw [Bool.and_eq_true] at z'
        exact (pu1 z'.1).trans (puk z'.2)
  · rw [if_neg hc] at hp; exact hp.elim
section
variable {X : Cx} {W : WX}
structure DTs (X : Cx) (W : WX) (pu : Bool) (ifs : List Expr) (f : DTn) : Prop where
  pts : PTs X ifs (dT X.K X.mg W pu f)
@[simp] noncomputable def dYes (ρ : List Slot) : Res (Bool × List Slot) := .ok (true, ρ)
theorem PTs_imp {ifs : List Expr} {t t' : TT} (h : PTs X ifs t) (g : ∀ σ H Q, t' σ H Q → t σ H Q) : PTs X ifs t' := ⟨fun pins s σ H Q I q => h.run pins s σ H Q I (g σ H Q q)⟩
theorem dts_nil : DTs X W true [] dYes := ⟨PTs_imp pts_nil fun σ H Q ⟨F, O, ρ, rs, h⟩ => h F O H rs .refl fun _ => Same.refl H⟩
theorem dts_one {pu : Bool} {c : Expr} {f : DTn} (h : DT X W pu c f) : DTs X W pu [c] f := ⟨pts_one h.pt⟩
theorem de_lc {pi pt pe : Bool} {elt tg iter : Expr} {ifs : List Expr} {scope : Scope} {pos : Pos} {it : DIn} {g : DTg} {tt : DTn} {te : DEn} {us : List Nat} (own : List (Str × Nat)) (hc : X.calm = true) (hN : X.N.Nodup) (hi : DI X W pi tg iter it) (ok : BlkOk X.N X.env.scope scope own)
    (hg : ∀ (s : Shared) (H : Hp) (C : Addr) (cl : List (Str × Addr)) (fp : List Addr), DG (X.blk s H scope (compEnvC scope cl C X.env) fp) us tg g) (ht : ∀ (s : Shared) (H : Hp) (C : Addr) (cl : List (Str × Addr)) (fp : List Addr), DTs (X.blk s H scope (compEnvC scope cl C X.env) fp) W0 pt ifs tt)
    (he : ∀ (s : Shared) (H : Hp) (C : Addr) (cl : List (Str × Addr)) (fp : List Addr), DE (X.blk s H scope (compEnvC scope cl C X.env) fp) W0 pe elt te) (hus : ∀ i ∈ us, i ∈ own.map (·.2) := by decide) (hs : ∀ x, foldedSetIterable iter X.env x = pure x := by intro _; rfl) :
    DE X W (pi && (pt && pe)) (.ListComp elt [⟨tg, iter, ifs, 0⟩] scope pos) (dLc (pt && pe) it g tt te (own.map (·.2))) :=
  ⟨PE_imp (pe_lc hc hN hi.pi ok (fun s H C cl fp => (hg s H C cl fp).pg) (fun s H C cl fp => (ht s H C cl fp).pts) (fun s H C cl fp => (he s H C cl fp).pe) hs) fun σ H Q h => lc_imp hus h⟩
theorem ds_setLc {I : List Nat} {pi pt pe : Bool} {y : Str} {py : Pos} {elt tg iter : Expr} {ifs : List Expr} {scope : Scope} {pos spos : Pos} {it : DIn} {g : DTg} {tt : DTn} {te : DEn} {us : List Nat} (i : Nat) (own : List (Str × Nat)) (hc : X.calm = true) (hN : X.N.Nodup)
    (hsw : swapsWith (.ListComp elt [⟨tg, iter, ifs, 0⟩] scope pos) (some (.Name y py)) spos.line X.env = pure true) (hi : DI X W pi tg iter it) (ok : BlkOk X.N X.env.scope scope own)
    (hg : ∀ (s : Shared) (H : Hp) (C : Addr) (cl : List (Str × Addr)) (fp : List Addr), DG (X.blk s H scope (compEnvC scope cl C X.env) fp) us tg g) (ht : ∀ (s : Shared) (H : Hp) (C : Addr) (cl : List (Str × Addr)) (fp : List Addr), DTs (X.blk s H scope (compEnvC scope cl C X.env) fp) W0 pt ifs tt)
    (he : ∀ (s : Shared) (H : Hp) (C : Addr) (cl : List (Str × Addr)) (fp : List Addr), DE (X.blk s H scope (compEnvC scope cl C X.env) fp) W0 pe elt te) (hy : X.N[i]? = some y := by rfl) (hyl : X.env.scope.names.lookup y = some .local := by rfl) (hus : ∀ i ∈ us, i ∈ own.map (·.2) := by decide) (hI : i ∉ I := by decide) (hs : ∀ x, foldedSetIterable iter X.env x = pure x := by intro _; rfl) :
    DS X W I (.Assign [.Name y py] (.ListComp elt [⟨tg, iter, ifs, 0⟩] scope pos) spos) (dSet i (dLc (pt && pe) it g tt te (own.map (·.2)))) :=
  ⟨PS_imp (ps_setLc hc hN hy hyl hsw hi.pi ok (fun s H C cl fp => (hg s H C cl fp).pg) (fun s H C cl fp => (ht s H C cl fp).pts) (fun s H C cl fp => (he s H C cl fp).pe) hs) fun D σ H ⟨F, O, ρ, rs, h⟩ => lc_imp hus (set_ok (pu := pi && (pt && pe)) hI rs h)⟩
end

/-! ### a def by its body -/
@[simp] noncomputable def Slot.isSh : Slot → Bool
  | .sh _ => true
  | _ => false
@[simp] noncomputable def argsOk (io : Bool) (ss : List Slot) : Bool := if io then (match ss with | .par _ :: r => r.all Slot.isSh | _ => false) else ss.all Slot.isSh
/-- the list parameter stands first, where there is one -/
noncomputable def fnG (N n : Nat) (io : Bool) (body : DSn) : DFn := fun ss =>
  if (ss.length = n ∧ n ≤ N) ∧ argsOk io ss = true then
    match body (ss ++ List.replicate (N - n) .un) with
    | .rt s ρ' => if io then (match ρ'.head? with | some (.par ys) => .ok (s, .par ys :: ss.tail) | _ => .stuck) else .ok (s, ss)
    | .nx ρ' => if io then (match ρ'.head? with | some (.par ys) => .ok (.sh .non, .par ys :: ss.tail) | _ => .stuck) else .ok (.sh .non, ss)
    | .ex c ρ' => if io then (match ρ'.head? with | some (.par ys) => .ex c (.par ys :: ss.tail) | _ => .stuck) else .ex c ss
    | _ => .stuck
  else .stuck
noncomputable def ioI (io : Bool) : List Nat := if io then [0] else []
section
variable {K : PySem.W.Frag} {F H : Hp} {O : Own}
theorem RS.enter {σ : L2.St} {ρ : List Slot} (r : RS K F σ ρ H O) (m : Nat) : RS K F (σ ++ List.replicate m none) (ρ ++ List.replicate m .un) H O := by
  refine ⟨by simp [r.len], r.fh, fun i s hs => ?_, r.out⟩
  by_cases hi : i < ρ.length
  · rw [List.getElem?_append_left hi] at hs
    rw [List.getElem?_append_left (by rw [← r.len]; exact hi)]
    exact r.ok i s hs
  · rw [List.getElem?_append_right (by omega)] at hs
    have : s = .un := List.eq_of_mem_replicate (List.mem_of_getElem? hs)
    subst this
    trivial
/-- what the caller knows behind the body -/
theorem RS.leave {σ σ' : L2.St} {ss ρ' : List Slot} {F' H' : Hp} {O' : Own} {io : Bool} (r : RS K F σ ss H O) (hss : argsOk io ss = true) (r' : RS K F' σ' ρ' H' O') (st : Step F H O F' H' O')
    {tt : List Slot} (ht : if io then ∃ ys, ρ'.head? = some (.par ys) ∧ tt = .par ys :: ss.tail else tt = ss) (hp : io = true → σ'[0]? = σ[0]?) : RS K F' σ tt H' O' := by
  have sh : ∀ i d, ss[i]? = some (.sh d) → SlotOk K F' H' O' i (.sh d) (σ[i]?.join) := fun i d h => by
    obtain ⟨v, hv, rv⟩ := r.ok i _ h
    exact ⟨v, hv, rv.up st.fr⟩
  have isSh : ∀ {l : List Slot} {i : Nat} {s : Slot}, l.all Slot.isSh = true → l[i]? = some s → ∃ d, s = .sh d := fun {l i s} h e => by
    have q := List.all_eq_true.mp h s (List.mem_of_getElem? e)
    cases s <;> first | (cases q; done) | exact ⟨_, rfl⟩
  cases io with
  | false =>
    have ht : tt = ss := ht
    subst ht
    refine ⟨r.len, r'.fh, fun i s hs => ?_, r'.out⟩
    obtain ⟨d, rfl⟩ := isSh hss hs
    exact sh i d hs
  | true =>
    obtain ⟨ys, hh, rfl⟩ := ht
    cases ss with
    | nil => cases hss
    | cons s0 rest =>
      cases s0 with
      | par xs =>
        have hss : rest.all Slot.isSh = true := hss
        refine ⟨r.len, r'.fh, fun i s hs => ?_, r'.out⟩
        cases i with
        | zero =>
          cases hs
          have q := r'.ok 0 (.par ys) (by rw [← List.head?_eq_getElem?]; exact hh)
          rw [hp rfl] at q
          exact q
        | succ i =>
          have hs' : rest[i]? = some s := by simpa using hs
          obtain ⟨d, rfl⟩ := isSh hss hs'
          exact sh (i + 1) d (by simpa using hs')
      | _ => cases hss
theorem VOk.move {σ : L2.St} {ρ tt : List Slot} {F' H' : Hp} {O' : Own} {s : Slot} {v : V} (r : RS K F' σ tt H' O') (h : VOk K F' H' O' ρ.length s v) (le : tt.length ≤ ρ.length) : ∃ O2, RS K F' σ tt H' O2 ∧ VOk K F' H' O2 tt.length s v ∧ ∀ b i, O2 b = some i → ∃ j, O' b = some j := by
  cases s with
  | sh d => exact ⟨O', r, h, fun b i e => ⟨i, e⟩⟩
  | po xs => exact ⟨O', r, h, fun b i e => ⟨i, e⟩⟩
  | pk d => exact ⟨O', r, h, fun b i e => ⟨i, e⟩⟩
  | un => exact h.elim
  | par _ => exact h.elim
  | od kxs =>
    obtain ⟨p, vs, rfl, hp, op, mm, rv⟩ := h
    refine ⟨fun b => if b = p then some tt.length else O' b, ⟨r.len, r.fh, fun i t ht => (r.ok i t ht).ext (Same.refl _) fun b u pb hu => ⟨hu, ?_⟩, fun b i e => ?_⟩, ⟨p, vs, rfl, hp, by simp, mm, rv⟩, fun b i e => ?_⟩
    · have hi : i < tt.length := (List.getElem?_eq_some_iff.mp ht).1
      have : b ≠ p := fun z => by
        subst z
        rw [op] at pb
        have := Option.some.inj pb
        omega
      simp [this, pb]
    · by_cases hb : b = p
      · subst hb; exact r.out b _ op
      · simp [hb] at e; exact r.out b i e
    · by_cases hb : b = p
      · subst hb; exact ⟨_, op⟩
      · simp [hb] at e; exact ⟨i, e⟩
  | own xs =>
    obtain ⟨p, vs, rfl, hp, op, rv⟩ := h
    refine ⟨fun b => if b = p then some tt.length else O' b, ⟨r.len, r.fh, fun i t ht => (r.ok i t ht).ext (Same.refl _) fun b u pb hu => ⟨hu, ?_⟩, fun b i e => ?_⟩, ⟨p, vs, rfl, hp, by simp, rv⟩, fun b i e => ?_⟩
    · have hi : i < tt.length := (List.getElem?_eq_some_iff.mp ht).1
      have : b ≠ p := fun z => by
        subst z
        rw [op] at pb
        have := Option.some.inj pb
        omega
      simp [this, pb]
    · by_cases hb : b = p
      · subst hb; exact r.out b _ op
      · simp [hb] at e; exact r.out b i e
    · by_cases hb : b = p
      · subst hb; exact ⟨_, op⟩
      · simp [hb] at e; exact ⟨i, e⟩
end
/-- THE RULE for a def -/
theorem fn_d {P : Program} {w : World} {K : PySem.W.Frag} {mg : Str → Option Value} {base : Heap} {x qual : Str} {st : Stmt} {f : Addr} {fd : FuncData} {N ps : List Str} {k : Nat} {body : DSn} (io : Bool) (Fn : Fun K x qual st f fd) (S : FnScope N ps (defScope st))
    (h : ∀ (cdv : Value) (A : Around) (outer : List Env) (s : Shared) (H : Hp) (E : XK), Room k (A.deeper (envOfC qual (defScope st) s.heap.objs.size f cdv)) →
      DSs (cxOf (L2.CX P w) P w K mg base N qual (defScope st) f cdv A outer s H E) (fun c d _ H' => E c d H') (ioI io) (defBody st) body) :
    FnOk P w K mg base (L2.CX P w) (k + 1) f fd ps (spF K mg ps.length (fnG N.length ps.length io body)) := by
  refine Fn.okX S (fun vs H Q E h => h.1) (fun cdv A outer s H vs Q E hr hsp => ?_)
  obtain ⟨hl, F, O, ss, rs, hw⟩ := hsp
  refine ⟨_, (h cdv A outer s H E hr).pss, F, O, ss ++ List.replicate (N.length - ps.length) .un, ?_, ?_⟩
  · have := rs.enter (N.length - ps.length)
    unfold L2.start
    rw [hl]
    exact this
  · unfold fnG at hw
    by_cases hc : (ss.length = ps.length ∧ ps.length ≤ N.length) ∧ argsOk io ss = true
    · rw [if_pos hc] at hw
      obtain ⟨⟨hn, hN⟩, hss⟩ := hc
      have hst : L2.start N vs = vs.map some ++ List.replicate (N.length - ps.length) none := by unfold L2.start; rw [hl]
      have pin0 : ∀ {σ' : L2.St}, Pin (ioI io) (L2.start N vs) σ' → io = true → σ'[0]? = (vs.map some)[0]? := fun {σ'} p e => by
        subst e
        have q := p.2 0 (by simp [ioI])
        rw [q, hst]
        have : 0 < (vs.map some).length := by
          have := rs.len
          cases ss with
          | nil => cases hss
          | cons _ _ => rw [← this]; simp
        rw [List.getElem?_append_left this]
      have len : ∀ {σ' : L2.St} {ρ' tt : List Slot} {F' H' : Hp} {O' : Own}, Pin (ioI io) (L2.start N vs) σ' → RS K F' σ' ρ' H' O' → tt.length = ss.length → tt.length ≤ ρ'.length := fun {σ' ρ' tt F' H' O'} p r e => by
        have h1 := p.1
        have h2 := r.len
        rw [hst, List.length_append, List.length_map, List.length_replicate] at h1
        omega
      generalize body (ss ++ List.replicate (N.length - ps.length) .un) = o at hw ⊢
      cases o with
      | rt s ρ' =>
        intro F' O' σ' H' v rs' vo st' pn
        have go : ∀ tt : List Slot, tt.length = ss.length → (if io then ∃ ys, ρ'.head? = some (.par ys) ∧ tt = .par ys :: ss.tail else tt = ss) → PV K false F O (vs.map some) H Q (s, tt) → Q v H' := fun tt lt ht hq => by
          have rl := rs.leave hss rs' st' ht (pin0 pn)
          obtain ⟨O2, r2, v2, o2⟩ := vo.move rl (len pn rs' lt)
          exact hq F' O2 v H' r2 v2 ⟨st'.keep, st'.there, st'.fr, st'.low, fun b i e => (o2 b i e).elim fun j hj => st'.fp b j hj⟩ fun z => nomatch z
        cases io with
        | false => exact go ss rfl rfl hw
        | true =>
          simp only [if_true] at hw
          cases hh : ρ'.head? with
          | none => rw [hh] at hw; exact hw.elim
          | some t =>
            cases t with
            | par ys =>
              rw [hh] at hw
              cases ss with
              | nil => cases hss
              | cons s0 rest => exact go (.par ys :: rest) rfl ⟨ys, hh, rfl⟩ hw
            | _ => rw [hh] at hw; exact hw.elim
      | nx ρ' =>
        intro F' O' σ' H' rs' st' pn
        have go : ∀ tt : List Slot, tt.length = ss.length → (if io then ∃ ys, ρ'.head? = some (.par ys) ∧ tt = .par ys :: ss.tail else tt = ss) → PV K false F O (vs.map some) H Q (.sh .non, tt) → Q .non H' := fun tt lt ht hq =>
          hq F' O' .non H' (rs.leave hss rs' st' ht (pin0 pn)) .non st' fun z => nomatch z
        cases io with
        | false => exact go ss rfl rfl hw
        | true =>
          simp only [if_true] at hw
          cases hh : ρ'.head? with
          | none => rw [hh] at hw; exact hw.elim
          | some t =>
            cases t with
            | par ys =>
              rw [hh] at hw
              cases ss with
              | nil => cases hss
              | cons s0 rest => exact go (.par ys :: rest) rfl ⟨ys, hh, rfl⟩ hw
            | _ => rw [hh] at hw; exact hw.elim
      | ex c ρ' =>
        intro F' O' σ' H' rs' st' pn
        have go : ∀ tt : List Slot, (if io then ∃ ys, ρ'.head? = some (.par ys) ∧ tt = .par ys :: ss.tail else tt = ss) → PX K mg (fun c d _ H' => E c d H') F O (vs.map some) H c tt → E (exv mg c) none H' := fun tt ht hq =>
          hq F' O' H' (rs.leave hss rs' st' ht (pin0 pn)) st'
        cases io with
        | false => exact go ss rfl hw
        | true =>
          simp only [if_true] at hw
          cases hh : ρ'.head? with
          | none => rw [hh] at hw; exact hw.elim
          | some t =>
            cases t with
            | par ys =>
              rw [hh] at hw
              cases ss with
              | nil => cases hss
              | cons s0 rest => exact go (.par ys :: rest) ⟨ys, hh, rfl⟩ hw
            | _ => rw [hh] at hw; exact hw.elim
      | bk ρ' => exact hw.elim
      | ct ρ' => exact hw.elim
      | stuck => exact hw.elim
    · rw [if_neg hc] at hw; exact hw.elim
/-- a def of the text, as its callers know it -/
theorem Dfn.mk' {P : Program} {w : World} {K : PySem.W.Frag} {mg : Str → Option Value} {base : Heap} {x qual : Str} {st : Stmt} {f : Addr} {fd : FuncData} {N ps : List Str} {k : Nat} {body : DSn} (io : Bool) (Fn : Fun K x qual st f fd) (hm : mg x = some (.ref f)) (hb : Binds K fd ps []) (S : FnScope N ps (defScope st))
    (h : ∀ (cdv : Value) (A : Around) (outer : List Env) (s : Shared) (H : Hp) (E : XK), Room k (A.deeper (envOfC qual (defScope st) s.heap.objs.size f cdv)) →
      DSs (cxOf (L2.CX P w) P w K mg base N qual (defScope st) f cdv A outer s H E) (fun c d _ H' => E c d H') (ioI io) (defBody st) body) :
    Dfn P w K mg base x ps (k + 1) (fnG N.length ps.length io body) := ⟨⟨f, fd, fn_d io Fn S h, hm, Fn.kp, hb, fun_at Fn⟩⟩
theorem Dfn.up {P : Program} {w : World} {K : PySem.W.Frag} {mg : Str → Option Value} {base : Heap} {x : Str} {ps : List Str} {j k : Nat} {G : DFn} (h : Dfn P w K mg base x ps j G) (le : j ≤ k) : Dfn P w K mg base x ps k G := by
  obtain ⟨f, fd, ok, a, b, c, d⟩ := h.ok
  exact ⟨⟨f, fd, ok.mono le, a, b, c, d⟩⟩
/-! in-place operators -/
section
variable {X : Cx}
theorem ios_add : OpS X (inplaceOp .Add) gAdd := opI0_ok (f := fun i j => .int (i + j)) iop_add (fun _ _ => rfl) fun d e z h => by
  cases d <;> cases e <;> first | (cases h; done) | exact ⟨_, _, rfl, rfl, (Option.some.inj h).symm⟩
theorem ios_mul : OpS X (inplaceOp .Mult) gMul := opI_ok iop_mulX fun d e z h => by
  cases d <;> cases e <;> first | (cases h; done) | skip
  rename_i i j
  obtain ⟨c, e⟩ := ite_some h
  exact ⟨_, _, rfl, rfl, c, e.symm⟩
theorem ios_sub : OpS X (inplaceOp .Sub) gSub := opI0_ok (f := fun i j => .int (i - j)) iop_sub (fun _ _ => rfl) fun d e z h => by
  cases d <;> cases e <;> first | (cases h; done) | exact ⟨_, _, rfl, rfl, (Option.some.inj h).symm⟩
end
end DL
namespace DL
open PySem PySem.Spec PyProof.Rows L2
section
variable {X : Cx} {W : WX} {I : List Nat}
/-! ### a store that shares -/
@[simp] noncomputable def dSetF (i : Nat) (f : DEn) (ρ : List Slot) : Out := (f ρ).out fun s ρ1 => match s.fz with
  | some d => .nx (ρ1.set i (.sh d))
  | none => .stuck
theorem setF_ok {K : PySem.W.Frag} {mg : Str → Option Value} {pu : Bool} {D : Ends} {F H : Hp} {O : Own} {σ : L2.St} {ρ : List Slot} {i : Nat} {f : DEn} (hI : i ∉ I) (rs : RS K F σ ρ H O) (h : OutOk K mg W I D F O σ H (dSetF i f ρ)) :
    dE K mg W pu f σ H fun x H1 => D.nx (σ.set i (some x)) H1 := by
  refine ⟨F, O, ρ, rs, out_wp h fun s ρ1 h => ?_⟩
  intro F1 O1 v H1 rs1 v1 st1 _
  cases hs : s.fz with
  | none => simp only [hs] at h; exact h.elim
  | some d =>
    simp only [hs] at h
    obtain ⟨F2, O2, rs2, r2, st2⟩ := rs1.freeze v1 hs
    exact h F2 O2 _ H1 (rs2.setSh i r2) (st1.trans st2) (Pin.set hI)
theorem ds_setF {x : Str} {pu : Bool} {e : Expr} {f : DEn} {pos pos' : Pos} (i : Nat) (hN : X.N.Nodup) (he : DE X W pu e f) (hi : X.N[i]? = some x := by rfl) (hx : Loc X.env.scope x := by first | exact .inl rfl | exact .inr rfl) (hI : i ∉ I := by decide) (hs : swapsWith e (some (.Name x pos')) pos.line X.env = pure false := by rfl)
    (hf : X.fn x = true ∨ X.env.scope.names.lookup x = some .local := by first | exact .inl rfl | exact .inr rfl) : DS X W I (.Assign [.Name x pos'] e pos) (dSetF i f) :=
  ⟨PS_imp (ps_set hN hi hx he.pe hs hf) fun D σ H ⟨F, O, ρ, rs, h⟩ => setF_ok hI rs h⟩
theorem ds_setLcF {pi pt pe : Bool} {y : Str} {py : Pos} {elt tg iter : Expr} {ifs : List Expr} {scope : Scope} {pos spos : Pos} {it : DIn} {g : DTg} {tt : DTn} {te : DEn} {us : List Nat} (i : Nat) (own : List (Str × Nat)) (hc : X.calm = true) (hN : X.N.Nodup)
    (hsw : swapsWith (.ListComp elt [⟨tg, iter, ifs, 0⟩] scope pos) (some (.Name y py)) spos.line X.env = pure true) (hi : DI X W pi tg iter it) (ok : BlkOk X.N X.env.scope scope own)
    (hg : ∀ (s : Shared) (H : Hp) (C : Addr) (cl : List (Str × Addr)) (fp : List Addr), DG (X.blk s H scope (compEnvC scope cl C X.env) fp) us tg g) (ht : ∀ (s : Shared) (H : Hp) (C : Addr) (cl : List (Str × Addr)) (fp : List Addr), DTs (X.blk s H scope (compEnvC scope cl C X.env) fp) W0 pt ifs tt)
    (he : ∀ (s : Shared) (H : Hp) (C : Addr) (cl : List (Str × Addr)) (fp : List Addr), DE (X.blk s H scope (compEnvC scope cl C X.env) fp) W0 pe elt te) (hy : X.N[i]? = some y := by rfl) (hyl : X.env.scope.names.lookup y = some .local := by rfl) (hus : ∀ i ∈ us, i ∈ own.map (·.2) := by decide) (hI : i ∉ I := by decide) (hs : ∀ x, foldedSetIterable iter X.env x = pure x := by intro _; rfl) :
    DS X W I (.Assign [.Name y py] (.ListComp elt [⟨tg, iter, ifs, 0⟩] scope pos) spos) (dSetF i (dLc (pt && pe) it g tt te (own.map (·.2)))) :=
  ⟨PS_imp (ps_setLc hc hN hy hyl hsw hi.pi ok (fun s H C cl fp => (hg s H C cl fp).pg) (fun s H C cl fp => (ht s H C cl fp).pts) (fun s H C cl fp => (he s H C cl fp).pe) hs) fun D σ H ⟨F, O, ρ, rs, h⟩ => lc_imp hus (setF_ok (pu := pi && (pt && pe)) hI rs h)⟩

/-! ### own exceptions -/
structure ExF (K : PySem.W.Frag) (mg : Str → Option Value) (c : Str) : Prop where
  ok : ∃ C, mg c = some (.ref C) ∧ PySem.W.excIn K C [.type "ValueError", .type "Exception", .type "BaseException", .type "object"] "ValueError.__new__" = true ∧ PySem.W.keepIn K (.ref C) = true ∧ PySem.W.subIn K (.ref C) (.type "BaseException") = some true ∧ PySem.W.typeIn K (.ref C) = some (.type "type")
theorem pmk_d {K : PySem.W.Frag} {mg : Str → Option Value} {c m : Str} {j : Nat} {p p2 pos : Pos} (h : ExF K mg c) (hX : X.K = K ∧ X.mg = mg := by exact ⟨rfl, rfl⟩) (hg : Gl X c := by rfl) (hdb : (c == ("__debug__" : Str)) = false := by decide) : PMk X (.Call (.Name c p) [.Constant (.str m) j p2] [] pos) (fun _ H Q => Q (exv X.mg c) none H) := by
  obtain ⟨rfl, rfl⟩ := hX
  obtain ⟨C, g, x, k, b, t⟩ := h.ok
  have e : exv X.mg c = .ref C := by unfold exv; rw [g]; rfl
  rw [e]
  exact pmk_own PySem.F.excBase_ValueError x g k (raises_own b t) hg hdb

/-! ### a, b = x, y -/
@[simp] noncomputable def dPar (i j : Nat) (f : DLn) (ρ : List Slot) : Out := (f ρ).out fun ds ρ1 => match ds with
  | [a, b] => .nx ((ρ1.set i (.sh a)).set j (.sh b))
  | _ => .stuck
theorem ds_par {x y : Str} {pu : Bool} {a b : Expr} {f : DLn} {px py pt : Pos} {kt k2 pt2} {pos : Pos} (i j : Nat) (hc : X.calm = true) (hN : X.N.Nodup) (ha : AF X W pu [a, b] f)
    (hw : swappedStores [.Tuple [.Name x px, .Name y py] kt pt] (.Tuple [a, b] k2 pt2) X.env = pure (some [x, y]))
    (hi : X.N[i]? = some x := by rfl) (hj : X.N[j]? = some y := by rfl) (hij : i ≠ j := by decide) (hx : X.env.scope.names.lookup x = some .local := by rfl) (hy : X.env.scope.names.lookup y = some .local := by rfl) (hI : i ∉ I := by decide) (hJ : j ∉ I := by decide)
    (hs : swapsWithSole [.Tuple [.Name x px, .Name y py] kt pt] (.Tuple [a, b] k2 pt2) pos.line X.env = pure false := by rfl) : DS X W I (.Assign [.Tuple [.Name x px, .Name y py] kt pt] (.Tuple [a, b] k2 pt2) pos) (dPar i j f) := by
  refine ⟨PS_imp (ps_par hc hN hi hj hij hx hy ha.pa hw hs) fun D σ H ⟨F, O, ρ, rs, h⟩ => ⟨F, O, ρ, rs, out_wp h fun ds ρ1 h => ?_⟩⟩
  intro F1 O1 vs H1 rs1 v1 st1 _
  match ds, v1, h with
  | [d, e], .cons r1 (.cons r2 .nil), h =>
    exact ⟨_, _, rfl, h F1 O1 _ H1 ((rs1.setSh i r1).setSh j r2) st1 ((Pin.set hI).trans (Pin.set hJ))⟩
/-! ### a target of any kind -/
@[simp] noncomputable def dAsgT (f : DEn) (g : DTg) (ρ : List Slot) : Out := (f ρ).out fun s ρ1 => match s.fz with
  | none => .stuck
  | some d => match g d ρ1 with
    | none => .stuck
    | some ρ2 => .nx ρ2
theorem ds_asgT {pu : Bool} {us : List Nat} {tg e : Expr} {f : DEn} {g : DTg} {pos : Pos} (he : DE X W pu e f) (hg : DG X us tg g) (hI : ∀ i ∈ I, i ∉ us := by decide) (hs : swapsWithSole [tg] e pos.line X.env = pure false := by rfl)
    (hw : swappedStores [tg] e X.env = pure none := by rfl) (h1 : (assignEach [tg] X.env).map (·.2) = [assign tg X.env] := by rfl) : DS X W I (.Assign [tg] e pos) (dAsgT f g) := by
  refine ⟨PS_imp (ps_asg he.pe hg.pg hs hw h1) fun D σ H ⟨F, O, ρ, rs, h⟩ => ⟨F, O, ρ, rs, out_wp h fun s ρ1 h => ?_⟩⟩
  intro F1 O1 x H1 rs1 v1 st1 _
  cases hd : s.fz with
  | none => simp only [hd] at h; exact h.elim
  | some d =>
    simp only [hd] at h
    cases hg' : g d ρ1 with
    | none => simp only [hg'] at h; exact h.elim
    | some ρ2 =>
      simp only [hg'] at h
      obtain ⟨F2, O2, rs2, r2, st2⟩ := rs1.freeze v1 hd
      exact ⟨F2, O2, ρ1, d, ρ2, rs2, r2, hg', fun σ' rs' k l => h F2 O2 σ' H1 rs' (st1.trans st2) ⟨l, fun j hj => k j (hI j hj)⟩⟩
end
end DL
namespace DL
open PySem PySem.Spec PyProof.Rows L2
/-- the law: True for a script of at most 63 ints -/
noncomputable def lawSp (K : PySem.W.Frag) : Sp := fun vs H Q _ => ∃ (a : Addr) (ns : List Int), vs = [.ref a] ∧ SqL K H a (ns.map V.int) ∧ ns.length ≤ 63 ∧ ∀ H', Q (.bl true) H'
noncomputable def LawTrue (G : DFn) : Prop := ∀ ns : List Int, ns.length ≤ 63 → ∃ ρ, G [.sh (.scr ns)] = .ok (.sh (.bl true), ρ)
theorem law_end {P : Program} {w : World} {K : PySem.W.Frag} {mg : Str → Option Value} {base : Heap} {k : Nat} {f : Addr} {fd : FuncData} {G : DFn} (h : FnOk P w K mg base (L2.CX P w) k f fd ["script"] (spF K mg 1 G)) (ok : LawTrue G) : FnOk P w K mg base (L2.CX P w) k f fd ["script"] (lawSp K) := by
  refine h.imp fun vs H Q E ⟨a, ns, e, hs, hl, q⟩ => ?_
  subst e
  obtain ⟨ρ, e⟩ := ok ns hl
  refine ⟨rfl, H, fun _ => none, [.sh (.scr ns)], ?_, ?_⟩
  · exact RS.callee (Same.refl H) (.cons (.scr hs) .nil)
  · rw [e]
    intro F' O' v H' rs vo st _
    cases vo
    exact q H'
theorem law_walk {l : PySem.W.OpenLaw} {k : Nat} {q : Program} {loose : List Str} {XP : (Str → Option Value) → Heap → Prop} {YP : World → Heap → Prop} {d : DefRec} {K : Params → PySem.W.Frag} (hn : l.most = some 63) (hdf : d.params.defaults = []) (hr : Room k callerA)
    (hY : ∀ (w : World) (h : Heap), YP w h → (K w.params).In h)
    (F : ∀ (w : World) (mg : Str → Option Value) (fa : Addr) (h : Heap), (K w.params).In h → h.Ns mainGlobals mg → mg d.name = some (.ref fa) →
      ∃ fd : FuncData, (∀ (s : Shared) (u : Value), BindsTo s fd ⟨[u], []⟩ [("script", u)]) ∧ ∀ base : Heap, (K w.params).In base → base.Ns mainGlobals mg → FnOk l.prog w (K w.params) mg base (L2.CX l.prog w) k fa fd ["script"] (lawSp (K w.params))) :
    PySem.W.WalkO q loose XP YP l.row.toRowW d [] (fun f vs => PySem.call f vs) :=
  L2.walk_of (n := 63) (k := k) (x := "script") (CX := fun w => L2.CX l.prog w) (sp := fun w => lawSp (K w.params)) hn (by decide) hdf hr hY F (fun _ _ a ns hl _ hS => ⟨a, ns, rfl, hS, hl, fun _ => rfl⟩) fun _ _ _ _ _ z => by
    obtain ⟨_, _, _, _, _, _, _, _, _, _, _, _, z⟩ := z
    exact z.elim
/-- the same, the script's numbers below 2 ^ 1048577 -/
noncomputable def lawSpB (K : PySem.W.Frag) : Sp := fun vs H Q _ => ∃ (a : Addr) (ns : List Int), vs = [.ref a] ∧ SqL K H a (ns.map V.int) ∧ (ns.length ≤ 63 ∧ ∀ z ∈ ns, z.natAbs < 2 ^ 1048577) ∧ ∀ H', Q (.bl true) H'
noncomputable def LawTrueB (G : DFn) : Prop := ∀ ns : List Int, ns.length ≤ 63 → (∀ z ∈ ns, z.natAbs < 2 ^ 1048577) → ∃ ρ, G [.sh (.scr ns)] = .ok (.sh (.bl true), ρ)
theorem law_endB {P : Program} {w : World} {K : PySem.W.Frag} {mg : Str → Option Value} {base : Heap} {k : Nat} {f : Addr} {fd : FuncData} {G : DFn} (h : FnOk P w K mg base (L2.CX P w) k f fd ["script"] (spF K mg 1 G)) (ok : LawTrueB G) : FnOk P w K mg base (L2.CX P w) k f fd ["script"] (lawSpB K) := by
  refine h.imp fun vs H Q E ⟨a, ns, e, hs, hl, q⟩ => ?_
  subst e
  obtain ⟨ρ, e⟩ := ok ns hl.1 hl.2
  refine ⟨rfl, H, fun _ => none, [.sh (.scr ns)], ?_, ?_⟩
  · exact RS.callee (Same.refl H) (.cons (.scr hs) .nil)
  · rw [e]
    intro F' O' v H' rs vo st _
    cases vo
    exact q H'
theorem bits_pow {z : Int} (h : Builtin.Int.intBits z ≤ 1048576) : z.natAbs < 2 ^ 1048577 := by
  have l : z.natAbs.log2 < 1048577 := by
    unfold Builtin.Int.intBits at h
    split at h <;> rename_i c
    · rw [show z.natAbs = 0 by simp_all]
      have : Nat.log2 0 = 0 := by decide
      omega
    · omega
  by_cases h0 : z.natAbs = 0
  · rw [h0]
    exact Nat.two_pow_pos _
  · exact (Nat.log2_lt h0).mp l
theorem law_walkB {l : PySem.W.OpenLaw} {k : Nat} {q : Program} {loose : List Str} {XP : (Str → Option Value) → Heap → Prop} {YP : World → Heap → Prop} {d : DefRec} {K : Params → PySem.W.Frag} (hn : l.most = some 63) (hdf : d.params.defaults = []) (hr : Room k callerA)
    (hY : ∀ (w : World) (h : Heap), YP w h → (K w.params).In h)
    (F : ∀ (w : World) (mg : Str → Option Value) (fa : Addr) (h : Heap), (K w.params).In h → h.Ns mainGlobals mg → mg d.name = some (.ref fa) →
      ∃ fd : FuncData, (∀ (s : Shared) (u : Value), BindsTo s fd ⟨[u], []⟩ [("script", u)]) ∧ ∀ base : Heap, (K w.params).In base → base.Ns mainGlobals mg → FnOk l.prog w (K w.params) mg base (L2.CX l.prog w) k fa fd ["script"] (lawSpB (K w.params))) :
    PySem.W.WalkO q loose XP YP l.row.toRowW d [] (fun f vs => PySem.call f vs) :=
  L2.walk_ofB (n := 63) (k := k) (x := "script") (CX := fun w => L2.CX l.prog w) (sp := fun w => lawSpB (K w.params)) hn (by decide) hdf hr hY F (fun _ _ a ns hl hb _ hS => ⟨a, ns, rfl, hS, ⟨hl, fun z hz => bits_pow (hb z hz)⟩, fun _ => rfl⟩) fun _ _ _ _ _ z => by
    obtain ⟨_, _, _, _, _, _, _, _, _, _, _, _, z⟩ := z
    exact z.elim
theorem exf_mk {K : PySem.W.Frag} {mg : Str → Option Value} {c : Str} {C : Addr} (g : mg c = some (.ref C)) (x : PySem.W.excIn K C [.type "ValueError", .type "Exception", .type "BaseException", .type "object"] "ValueError.__new__" = true) (k : PySem.W.keepIn K (.ref C) = true) (b : PySem.W.subIn K (.ref C) (.type "BaseException") = some true)
    (t : PySem.W.typeIn K (.ref C) = some (.type "type")) : ExF K mg c := ⟨⟨C, g, x, k, b, t⟩⟩
end DL
/-! DL: lemmas to evaluate denotations -/
namespace DL
open PySem PySem.Spec PyProof.Rows L2
@[simp] theorem flat_non : D.flat .non = true := rfl
@[simp] theorem flat_bl {b} : D.flat (.bl b) = true := rfl
@[simp] theorem flat_int {b} : D.flat (.int b) = true := rfl
@[simp] theorem flat_str {b} : D.flat (.str b) = true := rfl
@[simp] theorem flat_lst {b} : D.flat (.lst b) = false := rfl
@[simp] theorem flat_tup {b} : D.flat (.tup b) = false := rfl
@[simp] theorem flat_scr {b} : D.flat (.scr b) = false := rfl
@[simp] theorem flat_dct {a b} : D.flat (.dct a b) = false := rfl
@[simp] theorem flat_tpx {a} : D.flat (.tpx a) = false := rfl
@[simp] theorem flat_exc {a} : D.flat (.exc a) = false := rfl
@[simp] theorem items_lst {b} : D.items (.lst b) = some b := rfl
@[simp] theorem items_tup {b} : D.items (.tup b) = some b := rfl
@[simp] theorem items_scr {b} : D.items (.scr b) = some (b.map D.int) := rfl
@[simp] theorem items_non : D.items .non = none := rfl
@[simp] theorem items_int {b} : D.items (.int b) = none := rfl
@[simp] theorem items_bl {b} : D.items (.bl b) = none := rfl
@[simp] theorem items_str {b} : D.items (.str b) = none := rfl
/-! a def -/
theorem fnG_rt {N n : Nat} {body : DSn} {ss ρ' : List Slot} {s : Slot} (h : body (ss ++ List.replicate (N - n) .un) = .rt s ρ') (hl : ss.length = n) (hN : n ≤ N) (ha : ss.all Slot.isSh = true) : fnG N n false body ss = .ok (s, ss) := by
  unfold fnG
  rw [if_pos ⟨⟨hl, hN⟩, ha⟩, h]
  rfl
theorem fnG_nx {N n : Nat} {body : DSn} {ss ρ' : List Slot} (h : body (ss ++ List.replicate (N - n) .un) = .nx ρ') (hl : ss.length = n) (hN : n ≤ N) (ha : ss.all Slot.isSh = true) : fnG N n false body ss = .ok (.sh .non, ss) := by
  unfold fnG
  rw [if_pos ⟨⟨hl, hN⟩, ha⟩, h]
  rfl
theorem fnG_ex {N n : Nat} {body : DSn} {ss ρ' : List Slot} {c : Str} (h : body (ss ++ List.replicate (N - n) .un) = .ex c ρ') (hl : ss.length = n) (hN : n ≤ N) (ha : ss.all Slot.isSh = true) : fnG N n false body ss = .ex c ss := by
  unfold fnG
  rw [if_pos ⟨⟨hl, hN⟩, ha⟩, h]
  rfl
/-! comprehensions over one name -/
theorem set_set_un {ρ : List Slot} {v : Nat} (hv : ρ[v]? = some .un) (s : Slot) : (ρ.set v s).set v .un = ρ := by
  rw [List.set_set]
  refine List.ext_getElem? fun i => ?_
  by_cases hi : v = i
  · subst hi
    rw [List.getElem?_set_self (List.getElem?_eq_some_iff.mp hv).1, hv]
  · rw [List.getElem?_set_ne hi]
theorem compL_eq {α : Type} {tt : DTn} {te : DEn} {v : Nat} {ρ : List Slot} (c : α → D) (p : α → Bool) (f : α → D) (hv : ρ[v]? = some .un) : ∀ (xs : List α),
    (∀ x ∈ xs, tt (ρ.set v (.sh (c x))) = .ok (p x, ρ.set v (.sh (c x)))) → (∀ x ∈ xs, p x = true → ∃ s, te (ρ.set v (.sh (c x))) = .ok (s, ρ.set v (.sh (c x))) ∧ s.fz = some (f x)) →
    ∀ ρ0, ρ0.set v .un = ρ → ∃ ρ', compL (tgN v) tt te [v] (xs.map c) ρ0 = .ok ((xs.filter p).map f, ρ') ∧ ρ'.set v .un = ρ
  | [], _, _, ρ0, h0 => ⟨ρ0, rfl, h0⟩
  | x :: xs, ht, he, ρ0, h0 => by
    have e1 : wipeS ρ0 [v] = ρ := h0
    have st : (ρ.set v (.sh (c x))).set v .un = ρ := set_set_un hv _
    obtain ⟨ρ', h1, h2⟩ := compL_eq c p f hv xs (fun y hy => ht y (List.mem_cons_of_mem _ hy)) (fun y hy => he y (List.mem_cons_of_mem _ hy)) (ρ.set v (.sh (c x))) st
    refine ⟨ρ', ?_, h2⟩
    rw [List.map_cons, List.filter_cons]
    unfold compL
    rw [e1]
    simp only [tgN, Res.lift, Res.bind, ht x List.mem_cons_self, Res.noex]
    cases hp : p x with
    | false => simp only [Bool.false_eq_true, if_false]; exact h1
    | true =>
      obtain ⟨s, hs, hf⟩ := he x List.mem_cons_self hp
      simp only [if_true, hs, Res.noex, Res.bind, hf, Res.lift, h1, List.map_cons]
theorem dLc_eq {α : Type} {fr fz : Bool} {it : DIn} {tt : DTn} {te : DEn} {v : Nat} {ρ ρ1 : List Slot} {ds : List D} (xs : List α) (c : α → D) (p : α → Bool) (f : α → D) (hi : it ρ = .ok ((fz, ds), ρ1)) (hd : ds = xs.map c) (hv : ρ1[v]? = some .un) (hfz : (fz || fr) = true) (hl : xs.length < sizeLine)
    (ht : ∀ x ∈ xs, tt (ρ1.set v (.sh (c x))) = .ok (p x, ρ1.set v (.sh (c x)))) (he : ∀ x ∈ xs, p x = true → ∃ s, te (ρ1.set v (.sh (c x))) = .ok (s, ρ1.set v (.sh (c x))) ∧ s.fz = some (f x)) :
    dLc fr it (tgN v) tt te [v] ρ = .ok (.own ((xs.filter p).map f), ρ1) := by
  subst hd
  have un : ρ1.set v .un = ρ1 := by
    have := set_set_un hv .un
    rw [List.set_set] at this
    exact this
  obtain ⟨ρ', h1, h2⟩ := compL_eq c p f hv xs ht he ρ1 un
  unfold dLc
  simp only [hi, Res.bind, h1]
  have ok : okV ρ1 [v] = true := by simp [okV, hv, Slot.low]
  rw [if_pos ⟨by rw [ok, hfz]; rfl, by rw [List.length_map]; exact hl⟩]
  show Res.ok (Slot.own _, ρ'.set v (ρ1[v]?.getD .un)) = _
  rw [hv]
  show Res.ok (Slot.own _, ρ'.set v .un) = _
  rw [h2]
theorem filter_all {α : Type} {p : α → Bool} : ∀ {xs : List α}, (∀ x ∈ xs, p x = true) → xs.filter p = xs := fun h => List.filter_eq_self.mpr h
/-- [e for x in xs] -/
theorem dLc_map {α : Type} {fr fz : Bool} {it : DIn} {te : DEn} {v : Nat} {ρ ρ1 : List Slot} {ds : List D} (xs : List α) (c : α → D) (f : α → D) (hi : it ρ = .ok ((fz, ds), ρ1)) (hd : ds = xs.map c) (hv : ρ1[v]? = some .un) (hfz : (fz || fr) = true) (hl : xs.length < sizeLine)
    (he : ∀ x ∈ xs, ∃ s, te (ρ1.set v (.sh (c x))) = .ok (s, ρ1.set v (.sh (c x))) ∧ s.fz = some (f x)) :
    dLc fr it (tgN v) dYes te [v] ρ = .ok (.own (xs.map f), ρ1) := by
  have := dLc_eq (fr := fr) (tt := dYes) xs c (fun _ => true) f hi hd hv hfz hl (fun _ _ => rfl) (fun x hx _ => he x hx)
  rw [filter_all (fun _ _ => rfl)] at this
  exact this
theorem dLc_eqS {α : Type} {fr fz : Bool} {it : DIn} {tt : DTn} {te : DEn} {v : Nat} {ρ ρ1 : List Slot} {ds : List D} (xs : List α) (c : α → D) (p : α → Bool) (f : α → D) (hi : it ρ = .ok ((fz, ds), ρ1)) (hd : ds = xs.map c) (hv : ρ1[v]? = some .un) (hfz : (fz || fr) = true) (hl : xs.length < sizeLine)
    (ht : ∀ x ∈ xs, tt (ρ1.set v (.sh (c x))) = .ok (p x, ρ1.set v (.sh (c x)))) (he : ∀ x ∈ xs, p x = true → te (ρ1.set v (.sh (c x))) = .ok (.sh (f x), ρ1.set v (.sh (c x)))) :
    dLc fr it (tgN v) tt te [v] ρ = .ok (.own ((xs.filter p).map f), ρ1) := dLc_eq xs c p f hi hd hv hfz hl ht fun x hx hp => ⟨_, he x hx hp, rfl⟩
theorem dLc_mapS {α : Type} {fr fz : Bool} {it : DIn} {te : DEn} {v : Nat} {ρ ρ1 : List Slot} {ds : List D} (xs : List α) (c : α → D) (f : α → D) (hi : it ρ = .ok ((fz, ds), ρ1)) (hd : ds = xs.map c) (hv : ρ1[v]? = some .un) (hfz : (fz || fr) = true) (hl : xs.length < sizeLine)
    (he : ∀ x ∈ xs, te (ρ1.set v (.sh (c x))) = .ok (.sh (f x), ρ1.set v (.sh (c x)))) :
    dLc fr it (tgN v) dYes te [v] ρ = .ok (.own (xs.map f), ρ1) := dLc_map xs c f hi hd hv hfz hl fun x hx => ⟨_, he x hx, rfl⟩
/-! for -/
theorem forL_inv {α : Type} {g : DTg} {body : DSn} (c : α → D) (Inv : List α → List Slot → Prop) : ∀ (xs pre : List α) (ρ : List Slot), Inv pre ρ →
    (∀ pre' x post ρ, pre ++ xs = pre' ++ x :: post → Inv pre' ρ → ∃ ρ1 ρ2, g (c x) ρ = some ρ1 ∧ (body ρ1 = .nx ρ2 ∨ body ρ1 = .ct ρ2) ∧ Inv (pre' ++ [x]) ρ2) → ∃ ρ', forL g body (xs.map c) ρ = .nx ρ' ∧ Inv (pre ++ xs) ρ'
  | [], pre, ρ, h, _ => ⟨ρ, rfl, by rw [List.append_nil]; exact h⟩
  | x :: xs, pre, ρ, h, hs => by
    obtain ⟨ρ1, ρ2, hg, hb, h2⟩ := hs pre x xs ρ rfl h
    obtain ⟨ρ', h3, h4⟩ := forL_inv c Inv xs (pre ++ [x]) ρ2 h2 (fun pre' y post ρ e hi => hs pre' y post ρ (by rw [← e, List.append_assoc]; rfl) hi)
    refine ⟨ρ', ?_, by rw [List.append_assoc] at h4; exact h4⟩
    rw [List.map_cons]
    unfold forL
    rcases hb with hb | hb
    · simp only [hg, hb]; exact h3
    · simp only [hg, hb]; exact h3
theorem dFor_inv {α : Type} {it : DIn} {g : DTg} {body : DSn} {ρ ρ1 : List Slot} {ds : List D} (xs : List α) (c : α → D) (Inv : List α → List Slot → Prop) (hi : it ρ = .ok ((true, ds), ρ1)) (hd : ds = xs.map c) (h0 : Inv [] ρ1)
    (hs : ∀ pre x post ρ, xs = pre ++ x :: post → Inv pre ρ → ∃ ρ1 ρ2, g (c x) ρ = some ρ1 ∧ (body ρ1 = .nx ρ2 ∨ body ρ1 = .ct ρ2) ∧ Inv (pre ++ [x]) ρ2) : ∃ ρ', dFor it g body ρ = .nx ρ' ∧ Inv xs ρ' := by
  subst hd
  obtain ⟨ρ', a, b⟩ := forL_inv c Inv xs [] ρ1 h0 (fun pre x post ρ e h => hs pre x post ρ e h)
  refine ⟨ρ', ?_, b⟩
  unfold dFor
  simp only [hi, Res.out, if_true]
  exact a
/-! lists of scalars -/
@[simp] theorem asInts_ints (ns : List Int) : asInts (ns.map D.int) = some ns := asInts_map ns
@[simp] theorem asBls_bls (bs : List Bool) : asBls (bs.map D.bl) = some bs := asBls_map bs
theorem asInts_of {α : Type} (f : α → Int) (xs : List α) : asInts (xs.map fun x => D.int (f x)) = some (xs.map f) := by
  have := asInts_map (xs.map f)
  rw [List.map_map] at this
  exact this
theorem asBls_of {α : Type} (f : α → Bool) (xs : List α) : asBls (xs.map fun x => D.bl (f x)) = some (xs.map f) := by
  have := asBls_map (xs.map f)
  rw [List.map_map] at this
  exact this
theorem all_id {α : Type} (f : α → Bool) (xs : List α) : (xs.map f).all id = xs.all f := by
  rw [List.all_map]; rfl
theorem any_id {α : Type} (f : α → Bool) (xs : List α) : (xs.map f).any id = xs.any f := by
  rw [List.any_map]; rfl
theorem gAll_of {α : Type} (f : α → Bool) (xs : List α) : gAll [.lst (xs.map fun x => D.bl (f x))] = some (.bl (xs.all f)) := by
  simp only [gAll, asBls_of, Option.map_some, all_id]
theorem gAny_of {α : Type} (f : α → Bool) (xs : List α) : gAny [.lst (xs.map fun x => D.bl (f x))] = some (.bl (xs.any f)) := by
  simp only [gAny, asBls_of, Option.map_some, any_id]
theorem gSum_of {α : Type} (f : α → Int) (xs : List α) : gSum [.lst (xs.map fun x => D.int (f x))] = some (.int (xs.map f).sum) := by
  simp only [gSum, asInts_of, Option.map_some]
/-! == -/
theorem deqs_map {α : Type} (c : α → D) (hc : ∀ x y, deq (c x) (c y) = true ↔ x = y) : ∀ xs ys : List α, deqs (xs.map c) (ys.map c) = true ↔ xs = ys
  | [], [] => by simp [deqs]
  | [], _ :: _ => by simp [deqs]
  | _ :: _, [] => by simp [deqs]
  | x :: xs, y :: ys => by simp [deqs, hc x y, deqs_map c hc xs ys]
theorem deq_ints (xs ys : List Int) : deq (.lst (xs.map D.int)) (.lst (ys.map D.int)) = true ↔ xs = ys := deqs_map D.int (fun x y => by simp [deq]) xs ys
theorem deq_intss (xs ys : List (List Int)) : deq (.lst (xs.map fun r => .lst (r.map D.int))) (.lst (ys.map fun r => .lst (r.map D.int))) = true ↔ xs = ys := by
  show deqs _ _ = true ↔ xs = ys
  exact deqs_map (fun r : List Int => D.lst (r.map D.int)) (fun x y => deq_ints x y) xs ys
theorem bool_eq_decide {b : Bool} {p : Prop} [Decidable p] (h : b = true ↔ p) : b = decide p := by
  by_cases q : p
  · rw [decide_eq_true q]; exact h.mpr q
  · rw [decide_eq_false q]
    cases b with
    | false => rfl
    | true => exact absurd (h.mp rfl) q
theorem fits_ints (xs : List Int) (n : Nat) : fits (xs.map D.int) n = true := by
  induction xs with
  | nil => rfl
  | cons x xs ih => simp [fits, D.fit, ih]
theorem fits_map {α : Type} (c : α → D) (n : Nat) (h : ∀ x, (c x).fit n = true) : ∀ xs : List α, fits (xs.map c) n = true
  | [] => rfl
  | x :: xs => by simp [fits, h x, fits_map c n h xs]
@[simp] theorem fit_ints (xs : List Int) : D.fit (.lst (xs.map D.int)) 60 = true := fits_ints xs 59
@[simp] theorem fit_intss (xs : List (List Int)) : D.fit (.lst (xs.map fun r => .lst (r.map D.int))) 60 = true := by
  show fits _ 59 = true
  exact fits_map (fun r : List Int => D.lst (r.map D.int)) 59 (fun r => fits_ints r 58) xs
/-! numbers from 0 on -/
abbrev nI (m : Nat) : D := .int (m : Int)
abbrev nats (ms : List Nat) : D := .lst (ms.map nI)
theorem small_line {n : Nat} (h : n < 100000) : n < sizeLine := by rw [sizeLine_eq]; omega
theorem rng1_ok {f : DEn} {ρ ρ1 : List Slot} (j : Int) (h : -4611686018427387904 ≤ j ∧ j < 4611686018427387904) (e : f ρ = .ok (.sh (.int j), ρ1)) : dRng1 f ρ = .ok ((true, rng1 j), ρ1) := by
  have hb3 : b62 j = true := @decide_eq_true _ (_) h
  unfold dRng1
  rw [e]
  show (if b62 j = true then Res.ok ((true, rng1 j), ρ1) else Res.stuck) = _
  rw [if_pos hb3]
theorem rng1_nat (n : Nat) : rng1 (n : Int) = (List.range n).map nI := by
  unfold rng1
  rw [Int.toNat_natCast]
  refine List.map_congr_left fun i _ => ?_
  rw [Int.zero_add]
theorem rngN_ok {f : DEn} {ρ ρ1 : List Slot} (n : Nat) (h : n < 1000000000) (e : f ρ = .ok (.sh (nI n), ρ1)) : dRng1 f ρ = .ok ((true, (List.range n).map nI), ρ1) := by
  rw [rng1_ok (n : Int) (by omega) e, rng1_nat]
theorem rng2_ok {f g : DEn} {ρ ρ1 ρ2 : List Slot} (i j : Int) (hi : -4611686018427387904 ≤ i ∧ i < 4611686018427387904) (hj : -4611686018427387904 ≤ j ∧ j < 4611686018427387904) (e : f ρ = .ok (.sh (.int i), ρ1)) (e2 : g ρ1 = .ok (.sh (.int j), ρ2)) :
    dRng2 true f g ρ = .ok ((true, rng2 i j), ρ2) := by
  have h1 : b62 i = true := @decide_eq_true _ (_) hi
  have h2 : b62 j = true := @decide_eq_true _ (_) hj
  unfold dRng2
  rw [e]
  show (Res.bind (g ρ1) fun q => (Res.lift q.1.val).bind fun e => kRng2 (.int i) e q.2) = _
  rw [e2]
  show (if (b62 i && b62 j) = true then Res.ok ((true, rng2 i j), ρ2) else Res.stuck) = _
  rw [h1, h2]
  rfl
theorem deqs_nats (xs ys : List Nat) : deqs (xs.map nI) (ys.map nI) = true ↔ xs = ys := deqs_map nI (fun x y => by simp [deq]; omega) xs ys
theorem deq_nats (xs ys : List Nat) : deq (nats xs) (nats ys) = true ↔ xs = ys := deqs_nats xs ys
theorem deq_natss (xs ys : List (List Nat)) : deq (.lst (xs.map nats)) (.lst (ys.map nats)) = true ↔ xs = ys := by
  show deqs _ _ = true ↔ xs = ys
  exact deqs_map (fun r : List Nat => nats r) (fun x y => deq_nats x y) xs ys
theorem fits_nats (xs : List Nat) (n : Nat) : fits (xs.map nI) n = true := fits_map nI n (fun _ => rfl) xs
@[simp] theorem fit_nats (xs : List Nat) : D.fit (nats xs) 60 = true := fits_nats xs 59
@[simp] theorem fit_natss (xs : List (List Nat)) : D.fit (.lst (xs.map nats)) 60 = true := by
  show fits _ 59 = true
  exact fits_map nats 59 (fun r => fits_nats r 58) xs
theorem natAnd (a b : Nat) : Builtin.bitAnd (a : Int) (b : Int) = ((a &&& b : Nat) : Int) := by
  rw [bitAnd_pp (Int.natCast_nonneg a) (Int.natCast_nonneg b), Int.toNat_natCast, Int.toNat_natCast]
theorem natShr (m i : Nat) : (m : Int) / 2 ^ i = ((m / 2 ^ i : Nat) : Int) := by
  rw [Int.natCast_ediv, Int.natCast_pow]; rfl
theorem bitE (m i : Nat) : (Builtin.bitAnd ((m : Int) / 2 ^ i) 1 == 1) = m.testBit i := by
  have e : Builtin.bitAnd ((m : Int) / 2 ^ i) 1 = ((m / 2 ^ i % 2 : Nat) : Int) := by
    rw [natShr, show (1 : Int) = ((1 : Nat) : Int) from rfl, natAnd, Nat.and_one_is_mod]
  rw [e, Nat.testBit_eq_decide_div_mod_eq]
  have : m / 2 ^ i % 2 < 2 := Nat.mod_lt _ (by decide)
  by_cases h : m / 2 ^ i % 2 = 1
  · simp [h]
  · have : m / 2 ^ i % 2 = 0 := by omega
    simp [this]
theorem gAll_true {α : Type} (xs : List α) : gAll [.lst (xs.map fun _ => D.bl true)] = some (.bl true) := by
  rw [gAll_of (fun _ => true)]
  simp
theorem atI_natD {xs : List D} {i : Nat} {d : D} (h : xs[i]? = some d) : L2.atI xs (i : Int) = some d := L2.atI_nat h
end DL
/-! DL: operators with a bound, comprehensions over any target -/
namespace DL
open PySem PySem.Spec PyProof.Rows L2
theorem gShl_ok {i j : Int} (h0 : 0 ≤ j) (h1 : j ≤ 1000000) (h2 : i.natAbs < 18446744073709551616) : gShl (.int i) (.int j) = some (.int (i * 2 ^ j.toNat)) := @if_pos _ (_) ⟨h0, h1, h2⟩ _ _ _
theorem gPow_ok {i j : Int} (h0 : 0 ≤ j) (h1 : j ≤ 1000000) (h2 : i.natAbs < 18446744073709551616) : gPow (.int i) (.int j) = some (.int (i ^ j.toNat)) := @if_pos _ (_) ⟨h0, h1, h2⟩ _ _ _
theorem gFdiv_ok {i j : Int} (h0 : 0 < j) (h1 : j < 18446744073709551616) : gFdiv (.int i) (.int j) = some (.int (i / j)) := @if_pos _ (_) ⟨h0, h1⟩ _ _ _
/-- 1 << j -/
theorem gShl_one (j : Nat) (h : j ≤ 1000) : gShl (.int 1) (nI j) = some (nI (2 ^ j)) := by
  rw [gShl_ok (by omega) (by omega) (by decide), Int.toNat_natCast, Int.one_mul]
  exact congrArg (fun x => some (D.int x)) (Int.natCast_pow 2 j).symm
theorem gShl_sub (n j : Nat) (hj : j ≤ n) (h : n ≤ 1000) : gShl (.int 1) (.int ((n : Int) - (j : Int))) = some (nI (2 ^ (n - j))) := by
  rw [show ((n : Int) - (j : Int)) = ((n - j : Nat) : Int) by omega]
  exact gShl_one _ (by omega)
@[simp] theorem deq_int (a b : Int) : deq (.int a) (.int b) = (a == b) := by simp [deq]
@[simp] theorem deq_bl (a b : Bool) : deq (.bl a) (.bl b) = (a == b) := by simp [deq]
@[simp] theorem deq_str (a b : Str) : deq (.str a) (.str b) = (a == b) := by simp [deq]
@[simp] theorem fit_int (a : Int) (n : Nat) : D.fit (.int a) n = true := by simp [D.fit]
@[simp] theorem fit_bl (a : Bool) (n : Nat) : D.fit (.bl a) n = true := by simp [D.fit]

@[simp] theorem fit_non (n : Nat) : D.fit .non n = true := by simp [D.fit]
theorem deq_nil (xs : List D) : deq (.lst xs) (.lst []) = xs.isEmpty := by cases xs <;> simp [deq, deqs]
/-! comprehensions, any target -/
theorem compG_eq {α : Type} {g : DTg} {tt : DTn} {te : DEn} {vs : List Nat} {ρ : List Slot} (c : α → D) (p : α → Bool) (f : α → D) (st : α → List Slot) : ∀ (xs : List α),
    (∀ x ∈ xs, g (c x) ρ = some (st x)) → (∀ x ∈ xs, wipeS (st x) vs = ρ) →
    (∀ x ∈ xs, tt (st x) = .ok (p x, st x)) → (∀ x ∈ xs, p x = true → ∃ s, te (st x) = .ok (s, st x) ∧ s.fz = some (f x)) →
    ∀ ρ0, wipeS ρ0 vs = ρ → ∃ ρ', compL g tt te vs (xs.map c) ρ0 = .ok ((xs.filter p).map f, ρ') ∧ (ρ' = ρ0 ∨ ∃ x ∈ xs, ρ' = st x)
  | [], _, _, _, _, ρ0, h0 => ⟨ρ0, rfl, .inl rfl⟩
  | x :: xs, hg, hw, ht, he, ρ0, h0 => by
    obtain ⟨ρ', h1, h2⟩ := compG_eq c p f st xs (fun y hy => hg y (List.mem_cons_of_mem _ hy)) (fun y hy => hw y (List.mem_cons_of_mem _ hy)) (fun y hy => ht y (List.mem_cons_of_mem _ hy)) (fun y hy => he y (List.mem_cons_of_mem _ hy)) (st x) (hw x List.mem_cons_self)
    refine ⟨ρ', ?_, ?_⟩
    · rw [List.map_cons, List.filter_cons]
      unfold compL
      rw [h0]
      simp only [hg x List.mem_cons_self, Res.lift, Res.bind, ht x List.mem_cons_self, Res.noex]
      cases hp : p x with
      | false => simp only [Bool.false_eq_true, if_false]; exact h1
      | true =>
        obtain ⟨s, hs, hf⟩ := he x List.mem_cons_self hp
        simp only [if_true, hs, Res.noex, Res.bind, hf, Res.lift, h1, List.map_cons]
    · rcases h2 with h2 | ⟨y, hy, h2⟩
      · exact .inr ⟨x, List.mem_cons_self, h2⟩
      · exact .inr ⟨y, List.mem_cons_of_mem _ hy, h2⟩
theorem dLcG_eq {α : Type} {fr fz : Bool} {it : DIn} {g : DTg} {tt : DTn} {te : DEn} {vs : List Nat} {ρ ρ1 : List Slot} {ds : List D} (xs : List α) (c : α → D) (p : α → Bool) (f : α → D) (st : α → List Slot) (hi : it ρ = .ok ((fz, ds), ρ1)) (hd : ds = xs.map c) (hok : okV ρ1 vs = true) (hfz : (fz || fr) = true) (hl : xs.length < sizeLine)
    (hu : wipeS ρ1 vs = ρ1) (hb : backS ρ1 ρ1 vs = ρ1)
    (hg : ∀ x ∈ xs, g (c x) ρ1 = some (st x)) (hw : ∀ x ∈ xs, wipeS (st x) vs = ρ1) (hk : ∀ x ∈ xs, backS ρ1 (st x) vs = ρ1)
    (ht : ∀ x ∈ xs, tt (st x) = .ok (p x, st x)) (he : ∀ x ∈ xs, p x = true → ∃ s, te (st x) = .ok (s, st x) ∧ s.fz = some (f x)) :
    dLc fr it g tt te vs ρ = .ok (.own ((xs.filter p).map f), ρ1) := by
  subst hd
  obtain ⟨ρ', h1, h2⟩ := compG_eq c p f st xs hg hw ht he ρ1 hu
  unfold dLc
  simp only [hi, Res.bind, h1]
  rw [if_pos ⟨by rw [hok, hfz]; rfl, by rw [List.length_map]; exact hl⟩]
  rcases h2 with h2 | ⟨x, hx, h2⟩
  · subst h2; rw [hb]
  · subst h2; rw [hk x hx]
end DL
/-! DL: more lemmas to evaluate -/
namespace DL
open PySem PySem.Spec PyProof.Rows L2
theorem dSeq_nx {a b : DSn} {ρ ρ1 : List Slot} {o : Out} (h : a ρ = .nx ρ1) (h2 : b ρ1 = o) : dSeq a b ρ = o := by
  show (match a ρ with | .nx ρ1 => b ρ1 | o => o) = o
  rw [h]; exact h2
theorem dSeq_rt {a b : DSn} {ρ ρ1 : List Slot} {s : Slot} (h : a ρ = .rt s ρ1) : dSeq a b ρ = .rt s ρ1 := by
  show (match a ρ with | .nx ρ1 => b ρ1 | o => o) = _
  rw [h]
theorem rngI_ok {f : DEn} {ρ ρ1 : List Slot} (n : Nat) (h : n < 1000000000) (e : f ρ = .ok (.sh (.int ((n : Int) - 1)), ρ1)) : dRng1 f ρ = .ok ((true, (List.range (n - 1)).map nI), ρ1) := by
  rw [rng1_ok _ (by omega) e]
  unfold rng1
  rw [show ((n : Int) - 1).toNat = n - 1 by omega]
  congr 3
  refine List.map_congr_left fun i _ => ?_
  rw [Int.zero_add]
theorem natNe (a b : Nat) : (!((a : Int) == (b : Int))) = (a != b) := by
  rw [Bool.eq_iff_iff]
  simp
  omega
theorem natEq (a b : Nat) : ((a : Int) == (b : Int)) = (a == b) := by
  rw [Bool.eq_iff_iff]
  simp
  omega
theorem at_nat {xs : List Nat} {i : Nat} (h : i < xs.length) : L2.atI (xs.map nI) (i : Int) = some (nI (xs.getD i 0)) := by
  refine L2.atI_nat ?_
  rw [List.getElem?_map, List.getD_eq_getElem?_getD, List.getElem?_eq_getElem h]; rfl
theorem at_nat1 {xs : List Nat} {i : Nat} (h : i + 1 < xs.length) : L2.atI (xs.map nI) ((i : Int) + 1) = some (nI (xs.getD (i + 1) 0)) := at_nat h
theorem dBin_ok {pb : Bool} {g : D → D → Option D} {f1 f2 : DEn} {ρ ρ1 ρ2 : List Slot} {s1 s2 : Slot} {d e z : D} (h1 : f1 ρ = .ok (s1, ρ1)) (e1 : s1.hold pb = some d) (h2 : f2 ρ1 = .ok (s2, ρ2)) (e2 : s2.val = some e) (hg : g d e = some z) : dBin pb g f1 f2 ρ = .ok (.sh z, ρ2) := by
  simp [-Slot.hold, -Slot.val, h1, e1, h2, e2, hg]
theorem dBinT_ok {pb : Bool} {g : D → D → Option D} {f1 f2 : DEn} {ρ ρ1 ρ2 : List Slot} {s1 s2 : Slot} {d e : D} {b : Bool} (h1 : f1 ρ = .ok (s1, ρ1)) (e1 : s1.hold pb = some d) (h2 : f2 ρ1 = .ok (s2, ρ2)) (e2 : s2.val = some e) (hg : g d e = some (.bl b)) : dBinT pb g f1 f2 ρ = .ok (b, ρ2) := by
  simp [-Slot.hold, -Slot.val, h1, e1, h2, e2, hg]
theorem dBinT_of {pb : Bool} {g : D → D → Option D} {f1 f2 : DEn} {ρ ρ2 : List Slot} {b : Bool} (h : dBin pb g f1 f2 ρ = .ok (.sh (.bl b), ρ2)) : dBinT pb g f1 f2 ρ = .ok (b, ρ2) := by
  unfold dBin at h
  unfold dBinT
  cases h1 : f1 ρ with
  | ok p =>
    rw [h1] at h
    simp only [Res.bind] at h ⊢
    cases h2 : p.1.hold pb with
    | none => rw [h2] at h; cases h
    | some d =>
      rw [h2] at h
      simp only [Res.lift] at h ⊢
      cases h3 : f2 p.2 with
      | ok q =>
        rw [h3] at h
        simp only at h ⊢
        cases h4 : q.1.val with
        | none => rw [h4] at h; cases h
        | some e =>
          rw [h4] at h
          simp only [kS, kT] at h ⊢
          cases h5 : g d e with
          | none => rw [h5] at h; cases h
          | some z =>
            rw [h5] at h
            cases h
            rfl
      | ex c ρ => rw [h3] at h; cases h
      | stuck => rw [h3] at h; cases h
  | ex c ρ => rw [h1] at h; cases h
  | stuck => rw [h1] at h; cases h
theorem gNe_same {d : D} (hf : d.fit 60 = true) (hd : deq d d = true) : gNe d d = some (.bl false) := by
  unfold gNe
  rw [if_pos ⟨hf, hf⟩, hd]; rfl
theorem gEq_same {d : D} (hf : d.fit 60 = true) (hd : deq d d = true) : gEq d d = some (.bl true) := by
  unfold gEq
  rw [if_pos ⟨hf, hf⟩, hd]
end DL
/-! DL: slices of lists with a step -/
namespace DL
open PySem PySem.Spec PyProof.Rows L2
/-- xs[lo:hi:st] -/
def sl3 {α : Type} (xs : List α) (lo hi st : Option Int) : List α := (sliceRange (sliceBounds lo hi st xs.length).1 (sliceBounds lo hi st xs.length).2.1 (sliceBounds lo hi st xs.length).2.2).filterMap (xs[·]?)
theorem vals_pick {xs : List V} {us : List Value} (r : Vals xs us) : ∀ is : List Nat, Vals (is.filterMap (xs[·]?)) (is.filterMap (us[·]?))
  | [] => .nil
  | i :: is => by
    have ih := vals_pick r is
    cases q : xs[i]? with
    | none => rw [List.filterMap_cons_none q, List.filterMap_cons_none (r.none_of q)]; exact ih
    | some x =>
      obtain ⟨u, hu, e⟩ := r.get q
      rw [List.filterMap_cons_some q, List.filterMap_cons_some hu]
      exact .cons e ih
theorem Rs.pick {K : PySem.W.Frag} {F : Hp} {vs : List V} {ds : List D} (r : Rs K F vs ds) : ∀ is : List Nat, Rs K F (is.filterMap (vs[·]?)) (is.filterMap (ds[·]?))
  | [] => .nil
  | i :: is => by
    have ih := Rs.pick r is
    cases q : vs[i]? with
    | none =>
      have q2 : ds[i]? = none := by
        rw [List.getElem?_eq_none_iff] at q ⊢
        rw [← r.length]; exact q
      rw [List.filterMap_cons_none q, List.filterMap_cons_none q2]; exact ih
    | some x =>
      obtain ⟨u, hu, e⟩ := r.get' q
      rw [List.filterMap_cons_some q, List.filterMap_cons_some hu]
      exact .cons e ih
theorem Rs.sl3 {K : PySem.W.Frag} {F : Hp} {vs : List V} {ds : List D} (r : Rs K F vs ds) (lo hi st : Option Int) : Rs K F (DL.sl3 vs lo hi st) (DL.sl3 ds lo hi st) := by
  unfold DL.sl3
  rw [r.length]
  exact r.pick _
theorem sl3_map {α β : Type} (f : α → β) (xs : List α) (lo hi st : Option Int) : DL.sl3 (xs.map f) lo hi st = (DL.sl3 xs lo hi st).map f := by
  unfold DL.sl3
  rw [List.length_map, List.map_filterMap]
  congr 1
  funext i
  rw [List.getElem?_map]
def tSl3 (K : PySem.W.Frag) (te : TE) (tl th ts : TO) : TE := fun σ H Q => te σ H fun x H1 => tl σ H1 fun l H2 => th σ H2 fun u H3 => ts σ H3 fun o H4 => ∃ a xs, x = .ref a ∧ SqL K H4 a xs ∧ o ≠ some 0 ∧ (sl3 xs l u o).length ≤ sizeLine ∧ ∀ p, H4 p = none → Q (.ref p) (upd H4 p (.lst (sl3 xs l u o)))
section
variable {X : Cx} {W : WX}
theorem pe_slice3 {e es : Expr} {lo hi : Option Expr} {te : TE} {tl th ts : TO} {p3 pos : Pos} (he : PE X e te) (hl : PO X lo tl) (hu : PO X hi th) (hs : PO X (some es) ts) : PE X (.Subscript e (.Slice lo hi (some es) p3) pos) (tSl3 X.K te tl th ts) := by
  refine ⟨fun pins s σ H Q I h => ?_⟩
  refine Subscript_ (thn (he.run pins s σ H _ I h) fun v s1 ⟨x, H1, I1, r1, q1⟩ => ?_)
  refine wpAny_Slice (thn (hl.run pins s1 σ H1 _ I1 q1) fun vl s2 ⟨l, H2, I2, pl, q2⟩ => thn (hu.run pins s2 σ H2 _ I2 q2) fun vu s3 ⟨u, H3, I3, pu, q3⟩ => ?_)
  refine thn (hs.run pins s3 σ H3 _ I3 q3) fun vs s4 ⟨o, H4, I4, ps, a, xs, ex, hx, h0, hlen, q⟩ => ?_
  subst ex
  cases r1
  have sl : s4.heap.objs.size = s4.heap.objs.size := rfl
  have grow : ∀ b ob, s4.heap.get? b = some ob → (s4.heap.push { cls := .type "slice", data := .fields #[vl, vu, vs] }).get? b = some ob := fun b ob z => Heap.get?_push_of_some _ z
  have I5 : Inv X pins σ H4 { s4 with heap := s4.heap.push { cls := .type "slice", data := .fields #[vl, vu, vs] } } := I4.kept (t' := s4.toks) grow
  obtain ⟨its, r, ht, hz⟩ := I5.list hx
  have hn := r.length
  show wpAny (model X.prog X.w) X.A (subscriptTail e (.Slice lo hi (some es) p3) (.ref a) (.ref s4.heap.objs.size)) (EP X pins σ Q) X.xe { s4 with heap := s4.heap.push { cls := .type "slice", data := .fields #[vl, vu, vs] } }
  refine tail_any (ops := [.ref a, .ref s4.heap.objs.size]) ht.isList.typeIs (PySem.slot_list_getitem.lookup) ?_ (by with_unfolding_all rfl)
  refine wpAny_getItem_list_slice ht.isList (Heap.IsSliceOf.new _ vl vu vs) pl pu ps h0 ?_ (by rw [List.size_toArray]; omega)
  have pk : slicePick its.toArray l u o = (sl3 its l u o).toArray := by
    unfold slicePick sl3
    rw [List.size_toArray]
    congr 1
    refine congrArg (fun f => List.filterMap f _) ?_
    funext i
    rw [List.getElem?_toArray]
  have vv : Vals (sl3 xs l u o) (sl3 its l u o) := by
    unfold sl3
    rw [hn]
    exact vals_pick r _
  rw [pk]
  refine ⟨.ref _, _, I5.laid (t' := s4.toks) (o := .lst (sl3 xs l u o)) (fun b ob z => Heap.get?_push_of_some _ z) (Nat.le_refl _) ?_, rfl, q _ (I5.hok.fresh (Nat.le_refl _))⟩
  exact ⟨hlen, _, 0, vv, Heap.get?_push_size _ rfl⟩
@[simp] noncomputable def Slot.lists : Slot → Option (List D)
  | .sh (.lst xs) => some xs
  | .sh (.scr ns) => some (ns.map D.int)
  | .own xs => some xs
  | .po xs => some xs
  | _ => none
noncomputable def cutOk (ds : List D) (lo hi st : Option Int) : Option (List D) := @ite _ (st ≠ some 0 ∧ (sl3 ds lo hi st).length ≤ sizeLine) (Classical.propDecidable _) (some (sl3 ds lo hi st)) none
@[simp] noncomputable def dSl3 (pl : Bool) (f : DEn) (fl fh fs : DOn) (ρ : List Slot) : Res (Slot × List Slot) := (f ρ).bind fun p => (Res.lift (p.1.holdS pl)).bind fun s => (fl p.2).bind fun l => (fh l.2).bind fun u => (fs u.2).bind fun o => (Res.lift s.lists).bind fun ds => (Res.lift (cutOk ds l.1 u.1 o.1)).bind fun t => .ok (.own t, o.2)
theorem cutOk_some {ds t : List D} {lo hi st : Option Int} (h : cutOk ds lo hi st = some t) : st ≠ some 0 ∧ (sl3 ds lo hi st).length ≤ sizeLine ∧ t = sl3 ds lo hi st := by
  obtain ⟨c, e⟩ := ite_some h
  exact ⟨c.1, c.2, e.symm⟩
theorem de_slice3 {pa pl ph ps : Bool} {e es : Expr} {lo hi : Option Expr} {p3 pos : Pos} {f : DEn} {fl fh fs : DOn} (he : DE X W pa e f) (hl : DO X W pl lo fl) (hu : DO X W ph hi fh) (hs : DO X W ps (some es) fs) :
    DE X W (pa && (pl && (ph && ps))) (.Subscript e (.Slice lo hi (some es) p3) pos) (dSl3 (pl && (ph && ps)) f fl fh fs) := by
  refine ⟨PE_imp (pe_slice3 he.pe hl.po hu.po hs.po) fun σ H Q ⟨F, O, ρ, rs, h⟩ => ⟨F, O, ρ, rs, ?_⟩⟩
  unfold dSl3 at h
  rw [Res.wp_bind] at h
  refine Res.wp_mono h (fun p hp => ?_) (fun _ _ e => e)
  intro F1 O1 x H1 rs1 v1 st1 pu1
  rw [Res.wp_bind, Res.wp_lift] at hp
  obtain ⟨s, hd, hp⟩ := hp
  obtain ⟨F1', O1', rs1', st1', vh, kh⟩ := rs1.holdS v1 hd
  refine ⟨F1', O1', p.2, rs1', ?_⟩
  rw [Res.wp_bind] at hp
  refine Res.wp_mono hp (fun l hp2 => ?_) (PX.step (st1.trans st1'))
  intro F2 O2 H2 rs2 st2 pu2
  refine ⟨F2, O2, l.2, rs2, ?_⟩
  rw [Res.wp_bind] at hp2
  refine Res.wp_mono hp2 (fun u hp3 => ?_) (PX.step ((st1.trans st1').trans st2))
  intro F3 O3 H3 rs3 st3 pu3
  refine ⟨F3, O3, u.2, rs3, ?_⟩
  rw [Res.wp_bind] at hp3
  refine Res.wp_mono hp3 (fun o hq => ?_) (PX.step (((st1.trans st1').trans st2).trans st3))
  intro F4 O4 H4 rs4 st4 pu4
  rw [Res.wp_bind, Res.wp_lift] at hq
  obtain ⟨ds, hds, hq⟩ := hq
  rw [Res.wp_bind, Res.wp_lift] at hq
  obtain ⟨t, ht, hq⟩ := hq
  obtain ⟨z0, zl, zt⟩ := cutOk_some ht
  subst zt
  have st := (st1.trans st1').trans (st2.trans (st3.trans st4))
  have vs4 : VOk X.K F4 H4 O4 o.2.length s x := vh.later (m := o.2.length) (O' := O4) kh (st2.fr.trans (st3.fr.trans st4.fr)) fun z => by
    simp only [Bool.and_eq_true] at z
    exact (pu2 z.1).trans ((pu3 z.2.1).trans (pu4 z.2.2))
  have pz : (pa && (pl && (ph && ps))) = true → Same H H4 := fun z => by
    simp only [Bool.and_eq_true] at z
    exact (pu1 z.1).trans ((pu2 z.2.1).trans ((pu3 z.2.2.1).trans (pu4 z.2.2.2)))
  have listy : (∃ a vs, x = .ref a ∧ SqL X.K H4 a vs ∧ Rs X.K F4 vs ds) → ∃ a xs, x = .ref a ∧ SqL X.K H4 a xs ∧ o.1 ≠ some 0 ∧ (sl3 xs l.1 u.1 o.1).length ≤ sizeLine ∧ ∀ p, H4 p = none → Q (.ref p) (upd H4 p (.lst (sl3 xs l.1 u.1 o.1))) := fun ⟨a, vs, e1, q1, r1⟩ => by
    have r2 := r1.sl3 l.1 u.1 o.1
    refine ⟨a, vs, e1, q1, z0, by rw [r2.length]; exact zl, fun q nq => ?_⟩
    obtain ⟨a, b, c, d⟩ := rs4.newList nq r2
    exact hq F4 _ _ _ a b (st.trans c) fun z => (pz z).trans d
  unfold Slot.lists at hds
  split at hds
  · rename_i xs
    cases hds
    cases vs4 with
    | lst q r => exact listy ⟨_, _, rfl, SqL.of (rs4.fh _ _ q), r⟩
  · rename_i ns
    cases hds
    cases vs4 with
    | scr q => exact listy ⟨_, _, rfl, rs4.fh.seq q, Rs.of_ints ns⟩
  · exact kh.elim
  · cases hds
    obtain ⟨a, vs, rfl, q, r⟩ := vs4
    exact listy ⟨_, _, rfl, SqL.of q, r⟩
  · cases hds
end
end DL
/-! DL: comprehensions with two for clauses -/
namespace DL
open PySem PySem.Spec PyProof.Rows L2
theorem in_it {J : It} {n : Nat} {G : Hp → Prop} {Y : Nat → Hp → V → Hp → Prop} (w : Walk J n G Y) {g : TG} {tt : TT} {te : TE} {vs : List Nat} {σ : L2.St} {H1 : Hp} {D : Addr} {Qd : Hp → Prop} (Pv : Nat → Hp → Prop) (h0 : Pv 0 H1) (hG : ∀ i H, i ≤ n → Pv i H → G H)
    (hs : ∀ i x H H', i < n → Pv i H → Y i H x H' → g x (L2.wipe σ vs) H' fun σ2 H2 => L2.wipe σ2 vs = L2.wipe σ vs ∧ tt σ2 H2 fun b H3 =>
      if b = true then te σ2 H3 fun y H4 => ∃ acc, H4 D = some (.lst acc) ∧ acc.length < sizeLine ∧ Pv (i + 1) (upd H4 D (.lst (acc ++ [y]))) else Pv (i + 1) H3) (hd : ∀ H, Pv n H → Qd H) :
    ∃ W : Nat → Nat → Hp → Prop, (∃ m, W 0 m H1) ∧ ∀ i m H, W i m H →
      (J.stop i H ∧ Qd H) ∨ (J.go i H ∧ ∃ Nx : Hp → Prop, (∀ H', Nx H' → ∃ m', m' < m ∧ W (i + 1) m' H') ∧ ∀ x H', J.yld i H x H' → g x (L2.wipe σ vs) H' fun σ2 H2 => L2.wipe σ2 vs = L2.wipe σ vs ∧ tt σ2 H2 fun b H3 =>
        if b = true then te σ2 H3 fun y H4 => ∃ acc, H4 D = some (.lst acc) ∧ acc.length < sizeLine ∧ Nx (upd H4 D (.lst (acc ++ [y]))) else Nx H3) := by
  refine ⟨fun i m H => m = n - i ∧ i ≤ n ∧ Pv i H, ⟨n, rfl, Nat.zero_le _, h0⟩, fun i m H ⟨em, hi, p⟩ => ?_⟩
  subst em
  have q := hG i H hi p
  rcases Nat.lt_or_ge i n with hlt | hge
  · exact .inr ⟨w.goes i H hlt q, Pv (i + 1), fun H' p' => ⟨n - (i + 1), by omega, rfl, hlt, p'⟩, fun x H' y => hs i x H H' hlt p (w.yields i H x H' hlt q y)⟩
  · have e : i = n := Nat.le_antisymm hi hge
    rw [e] at p ⊢
    exact .inl ⟨w.stops H q, hd H p⟩
theorem out_it {J : It} {n : Nat} {G : Hp → Prop} {Y : Nat → Hp → V → Hp → Prop} (w : Walk J n G Y) {g : TG} {vs : List Nat} {σ : L2.St} {H1 : Hp} {Qd : Hp → Prop} {rest : (Hp → Prop) → L2.St → Hp → Prop} (Pv : Nat → Hp → Prop) (h0 : Pv 0 H1) (hG : ∀ i H, i ≤ n → Pv i H → G H)
    (hs : ∀ i x H H', i < n → Pv i H → Y i H x H' → g x (L2.wipe σ vs) H' fun σ2 H2 => L2.wipe σ2 vs = L2.wipe σ vs ∧ rest (Pv (i + 1)) σ2 H2) (hd : ∀ H, Pv n H → Qd H) :
    ∃ W : Nat → Nat → Hp → Prop, (∃ m, W 0 m H1) ∧ ∀ i m H, W i m H →
      (J.stop i H ∧ Qd H) ∨ (J.go i H ∧ ∃ Nx : Hp → Prop, (∀ H', Nx H' → ∃ m', m' < m ∧ W (i + 1) m' H') ∧ ∀ x H', J.yld i H x H' → g x (L2.wipe σ vs) H' fun σ2 H2 => L2.wipe σ2 vs = L2.wipe σ vs ∧ rest Nx σ2 H2) := by
  refine ⟨fun i m H => m = n - i ∧ i ≤ n ∧ Pv i H, ⟨n, rfl, Nat.zero_le _, h0⟩, fun i m H ⟨em, hi, p⟩ => ?_⟩
  subst em
  have q := hG i H hi p
  rcases Nat.lt_or_ge i n with hlt | hge
  · exact .inr ⟨w.goes i H hlt q, Pv (i + 1), fun H' p' => ⟨n - (i + 1), by omega, rfl, hlt, p'⟩, fun x H' y => hs i x H H' hlt p (w.yields i H x H' hlt q y)⟩
  · have e : i = n := Nat.le_antisymm hi hge
    rw [e] at p ⊢
    exact .inl ⟨w.stops H q, hd H p⟩
noncomputable def room2 (n m : Nat) : Bool := @decide (n + m ≤ sizeLine) (Classical.propDecidable _)
noncomputable def compL2 (g : DTg) (tt : DTn) (it1 : DIn) (g1 : DTg) (tt1 : DTn) (te : DEn) (vs vs1 : List Nat) : List D → Nat → List Slot → Res (List D × List Slot)
  | [], _, ρ => .ok ([], ρ)
  | d :: ds, n, ρ => (Res.lift (g d (wipeS ρ vs))).bind fun ρ1 => (tt ρ1).noex.bind fun p => if p.1 = true then
      (it1 p.2).noex.bind fun q => if (q.1.1 && room2 n q.1.2.length) = true then (compL g1 tt1 te vs1 q.1.2 q.2).bind fun r => (compL2 g tt it1 g1 tt1 te vs vs1 ds (n + q.1.2.length) (wipeS r.2 vs1)).bind fun z => .ok (r.1 ++ z.1, z.2) else .stuck
    else compL2 g tt it1 g1 tt1 te vs vs1 ds n p.2
noncomputable def dLc2 (fr : Bool) (it : DIn) (g : DTg) (tt : DTn) (it1 : DIn) (g1 : DTg) (tt1 : DTn) (te : DEn) (vs vs1 : List Nat) (ρ : List Slot) : Res (Slot × List Slot) := (it ρ).bind fun p => if ((p.1.1 || fr) && okV p.2 vs) = true then (compL2 g tt it1 g1 tt1 te vs vs1 p.1.2 0 p.2).bind fun r => .ok (.own r.1, backS p.2 r.2 vs) else .stuck
theorem lc2_imp {K : PySem.W.Frag} {mg : Str → Option Value} {W : WX} {pi pt pi1 pt1 pe : Bool} {it it1 : DIn} {g g1 : DTg} {tt tt1 : DTn} {te : DEn} {us us1 vs vs1 : List Nat} (hus : ∀ i ∈ us, i ∈ vs) (hus1 : ∀ i ∈ us1, i ∈ vs1) (hv : ∀ i ∈ vs1, i ∈ vs) {σ : L2.St} {H : Hp} {Q : VK}
    (h : dE K mg W (pi && (pt && (pi1 && (pt1 && pe)))) (dLc2 (pt && (pi1 && (pt1 && pe))) it g tt it1 g1 tt1 te vs vs1) σ H Q) : tLc2 (dI K mg W pi it) (dG K us g) (dT K mg W0 pt tt) (dI K mg W0 pi1 it1) (dG K us1 g1) (dT K mg W0 pt1 tt1) (dE K mg W0 pe te) vs vs1 σ H Q := by
  obtain ⟨F, O, ρ, rs, h⟩ := h
  refine ⟨F, O, ρ, rs, ?_⟩
  unfold dLc2 at h
  rw [Res.wp_bind] at h
  refine Res.wp_mono h (fun p hp => ?_) (fun _ _ e => e)
  intro F1 O1 H1 J rs1 st1 pu1 ⟨G, Y, w, g0, gf, gs, gy⟩ D nD
  obtain ⟨⟨fz, its⟩, ρ1⟩ := p
  by_cases hc : ((fz || (pt && (pi1 && (pt1 && pe)))) && okV ρ1 vs) = true
  · rw [if_pos hc] at hp
    rw [Res.wp_bind] at hp
    simp only [Bool.and_eq_true] at hc
    obtain ⟨hfz, hok⟩ := hc
    have fD : F1 D = none := by
      cases q : F1 D with
      | none => rfl
      | some o => have := rs1.fh D o q; rw [nD] at this; cases this
    have oD : O1 D = none := by
      cases q : O1 D with
      | none => rfl
      | some i => obtain ⟨_, o, h2⟩ := rs1.out D i q; rw [nD] at h2; cases h2
    have sD : Same H1 (upd H1 D (.lst [])) := same_updNew (Same.refl _) nD
    have rsD : RS K F1 σ ρ1 (upd H1 D (.lst [])) O1 := rs1.ext (Same.refl _) (rs1.fh.trans sD) (fun a i u ha _ hu => ⟨sD _ _ hu, ha⟩) (fun b i e => by
      obtain ⟨h1, o, h2⟩ := rs1.out b i e
      exact ⟨h1, o, sD b o h2⟩)
    refine out_it w (rest := fun Nx σ2 H2 => dT K mg W0 pt tt σ2 H2 fun b H3 => if b = true then dI K mg W0 pi1 it1 σ2 H3 fun J1 H4 => ∃ W1 : Nat → Nat → Hp → Prop, (∃ m, W1 0 m H4) ∧ ∀ j k H, W1 j k H →
      (J1.stop j H ∧ Nx H) ∨ (J1.go j H ∧ ∃ Nx1 : Hp → Prop, (∀ H', Nx1 H' → ∃ k', k' < k ∧ W1 (j + 1) k' H') ∧ ∀ x H', J1.yld j H x H' → dG K us1 g1 x (L2.wipe σ2 vs1) H' fun σ3 H5 => L2.wipe σ3 vs1 = L2.wipe σ2 vs1 ∧ dT K mg W0 pt1 tt1 σ3 H5 fun b H6 =>
        if b = true then dE K mg W0 pe te σ3 H6 fun y H7 => ∃ acc, H7 D = some (.lst acc) ∧ acc.length < sizeLine ∧ Nx1 (upd H7 D (.lst (acc ++ [y]))) else Nx1 H6)
      else Nx H3) (fun i Hk => ∃ Fk Ok ρk vacc acc n, RS K Fk (L2.wipe σ vs) (wipeS ρk vs) Hk Ok ∧ Hk D = some (.lst vacc) ∧ Fk D = none ∧ Ok D = none ∧ Rs K Fk vacc acc ∧ acc.length ≤ n ∧ Step F1 H1 O1 Fk Hk Ok ∧ ((pt && (pi1 && (pt1 && pe))) = true → Same H1 Hk) ∧
        (compL2 g tt it1 g1 tt1 te vs vs1 (its.drop i) n ρk).wp (fun r => PV K (pi && (pt && (pi1 && (pt1 && pe)))) F O σ H Q (.own (acc ++ r.1), backS ρ1 r.2 vs)) (PX K mg W F O σ H)) ?_ (fun i Hk _ ⟨Fk, Ok, ρk, vacc, acc, n, rk, hk, _, _, _, _, stk, puk, _⟩ => ?_)
      (fun i x Hk H2 hi ⟨Fk, Ok, ρk, vacc, acc, n, rk, hk, fk, ok, ra, la, stk, puk, hw⟩ y => ?_) (fun Hk ⟨Fk, Ok, ρk, vacc, acc, n, rk, hk, fk, ok, ra, la, stk, puk, hw⟩ => ?_)
    · exact ⟨F1, O1, ρ1, [], [], 0, rsD.wipe vs, upd_same, fD, oD, .nil, Nat.le_refl _, (Step.refl.updNew nD), fun _ => sD, Res.wp_mono hp (fun r hr => hr) (fun _ _ e => e)⟩
    · rcases Bool.or_eq_true_iff.mp hfz with z | z
      · exact gf z Hk (stk.fr.trans rk.fh)
      · exact gs Hk (puk z)
    · have hd : its[i]? = some its[i] := List.getElem?_eq_getElem hi
      rw [List.drop_eq_getElem_cons hi] at hw
      obtain ⟨F2, s1, s2, s3, rx, low⟩ := gy i _ x Hk H2 Fk hd y stk.fr rk.fh
      obtain ⟨rs2, st2⟩ := rk.item s1 s2 s3 low
      unfold compL2 at hw
      rw [Res.wp_bind, Res.wp_lift] at hw
      obtain ⟨ρ3, hg, hw⟩ := hw
      refine ⟨F2, Ok, wipeS ρk vs, _, ρ3, rs2, rx, hg, fun σ3 rs3 k3 l3 => ?_⟩
      have e3 : L2.wipe σ3 vs = L2.wipe σ vs := by
        have : L2.wipe σ3 vs = L2.wipe (L2.wipe σ vs) vs := wipe_ext (fun j hj => k3 j fun z => hj (hus j z)) l3
        rw [this]
        exact wipe_ext (fun j hj => wipe_out hj) (wipe_length _ _)
      refine ⟨e3, F2, Ok, ρ3, rs3, ?_⟩
      rw [Res.wp_bind] at hw
      refine noex_wp (E := PX K mg W F O σ H) ?_
      refine Res.wp_mono hw (fun b hb => ?_) (fun _ _ e => e)
      intro F4 O4 H4 rs4 st4 pu4
      obtain ⟨c, ρ4⟩ := b
      have stA := stk.trans (st2.trans st4)
      obtain ⟨h2D, f2D, o2D⟩ := st2.free hk fk ok
      obtain ⟨h4D, f4D, o4D⟩ := st4.free h2D f2D o2D
      cases c with
      | false =>
        simp only [Bool.false_eq_true, if_false] at hb ⊢
        refine ⟨F4, O4, ρ4, vacc, acc, n, by rw [← e3]; exact rs4.wipe vs, h4D, f4D, o4D, ra.up (st2.fr.trans st4.fr), la, stA, fun z => ?_, hb⟩
        have z' := z
        simp only [Bool.and_eq_true] at z'
        exact (puk z).trans (s3.trans (pu4 z'.1))
      | true =>
        simp only [if_true] at hb ⊢
        refine ⟨F4, O4, ρ4, rs4, ?_⟩
        rw [Res.wp_bind] at hb
        refine noex_wp (E := PX K mg W F O σ H) ?_
        refine Res.wp_mono hb (fun q hq => ?_) (fun _ _ e => e)
        intro F5 O5 H5 J1 rs5 st5 pu5 ⟨G1, Y1, w1, h10, h1f, h1s, h1y⟩
        obtain ⟨⟨fz1, its1⟩, ρ5⟩ := q
        obtain ⟨h5D, f5D, o5D⟩ := st5.free h4D f4D o4D
        by_cases hr : (fz1 && room2 n its1.length) = true
        · rw [if_pos hr] at hq
          simp only [Bool.and_eq_true] at hr
          have room : n + its1.length ≤ sizeLine := @of_decide_eq_true _ (_) hr.2
          rw [Res.wp_bind] at hq
          have stB := stA.trans st5
          refine in_it w1 (fun j Hm => ∃ Fm Om ρm vacc acc, RS K Fm (L2.wipe σ3 vs1) (wipeS ρm vs1) Hm Om ∧ Hm D = some (.lst vacc) ∧ Fm D = none ∧ Om D = none ∧ Rs K Fm vacc acc ∧ acc.length ≤ n + j ∧ Step F1 H1 O1 Fm Hm Om ∧ ((pt && (pi1 && (pt1 && pe))) = true → Same H1 Hm) ∧ Same F5 Fm ∧
            (compL g1 tt1 te vs1 (its1.drop j) ρm).wp (fun r => (compL2 g tt it1 g1 tt1 te vs vs1 (its.drop (i + 1)) (n + its1.length) (wipeS r.2 vs1)).wp (fun z => PV K (pi && (pt && (pi1 && (pt1 && pe)))) F O σ H Q (.own ((acc ++ r.1) ++ z.1), backS ρ1 z.2 vs)) (PX K mg W F O σ H)) (PX K mg W F O σ H)) ?_ (fun j Hm _ ⟨Fm, Om, ρm, vacc, acc, rm, hm, _, _, _, _, _, _, sm, _⟩ => ?_)
            (fun j x Hm H6 hj ⟨Fm, Om, ρm, vacc, acc, rm, hm, fm, om, ra, la, stm, pum, sm, hwm⟩ y => ?_) (fun Hm ⟨Fm, Om, ρm, vacc, acc, rm, hm, fm, om, ra, la, stm, pum, sm, hwm⟩ => ?_)
          · refine ⟨F5, O5, ρ5, vacc, acc, rs5.wipe vs1, h5D, f5D, o5D, ra.up ((st2.fr.trans st4.fr).trans st5.fr), la, stB, fun z => ?_, Same.refl _, ?_⟩
            · have z' := z
              simp only [Bool.and_eq_true] at z'
              exact (puk z).trans (s3.trans ((pu4 z'.1).trans (pu5 z'.2.1)))
            · refine Res.wp_mono hq (fun r hr => ?_) (fun _ _ e => e)
              rw [Res.wp_bind] at hr
              refine Res.wp_mono hr (fun z hz => ?_) (fun _ _ e => e)
              show PV K _ F O σ H Q (.own ((acc ++ r.1) ++ z.1), backS ρ1 z.2 vs)
              rw [List.append_assoc]
              exact hz
          · exact h1f hr.1 Hm (sm.trans rm.fh)
          · have hd1 : its1[j]? = some its1[j] := List.getElem?_eq_getElem hj
            rw [List.drop_eq_getElem_cons hj] at hwm
            obtain ⟨F6, t1, t2, t3, rx1, low1⟩ := h1y j _ x Hm H6 Fm hd1 y sm rm.fh
            obtain ⟨rs6, st6⟩ := rm.item t1 t2 t3 low1
            unfold compL at hwm
            rw [Res.wp_bind, Res.wp_lift] at hwm
            obtain ⟨ρ6, hg1, hwm⟩ := hwm
            refine ⟨F6, Om, wipeS ρm vs1, _, ρ6, rs6, rx1, hg1, fun σ4 rs7 k4 l4 => ?_⟩
            have e4 : L2.wipe σ4 vs1 = L2.wipe σ3 vs1 := by
              have : L2.wipe σ4 vs1 = L2.wipe (L2.wipe σ3 vs1) vs1 := wipe_ext (fun m hm => k4 m fun z => hm (hus1 m z)) l4
              rw [this]
              exact wipe_ext (fun m hm => wipe_out hm) (wipe_length _ _)
            refine ⟨e4, F6, Om, ρ6, rs7, ?_⟩
            rw [Res.wp_bind] at hwm
            refine noex_wp (E := PX K mg W F O σ H) ?_
            refine Res.wp_mono hwm (fun b hb1 => ?_) (fun _ _ e => e)
            intro F8 O8 H8 rs8 st8 pu8
            obtain ⟨c1, ρ8⟩ := b
            have stC := stm.trans (st6.trans st8)
            obtain ⟨h6D, f6D, o6D⟩ := st6.free hm fm om
            obtain ⟨h8D, f8D, o8D⟩ := st8.free h6D f6D o6D
            cases c1 with
            | false =>
              simp only [Bool.false_eq_true, if_false] at hb1 ⊢
              refine ⟨F8, O8, ρ8, vacc, acc, by rw [← e4]; exact rs8.wipe vs1, h8D, f8D, o8D, ra.up (st6.fr.trans st8.fr), Nat.le_succ_of_le la, stC, fun z => ?_, sm.trans (st6.fr.trans st8.fr), hb1⟩
              have z' := z
              simp only [Bool.and_eq_true] at z'
              exact (pum z).trans (t3.trans (pu8 z'.2.2.1))
            | true =>
              simp only [if_true] at hb1 ⊢
              refine ⟨F8, O8, ρ8, rs8, ?_⟩
              rw [Res.wp_bind] at hb1
              refine noex_wp (E := PX K mg W F O σ H) ?_
              refine Res.wp_mono hb1 (fun q2 hq2 => ?_) (fun _ _ e => e)
              intro F9 O9 v9 H9 rs9 v9ok st9 pu9
              rw [Res.wp_bind, Res.wp_lift] at hq2
              obtain ⟨e, he, hq2⟩ := hq2
              obtain ⟨F10, O10, rs10, rv10, st10⟩ := rs9.freeze v9ok he
              obtain ⟨hXD, fXD, oXD⟩ := (st9.trans st10).free h8D f8D o8D
              refine ⟨vacc, hXD, ?_, F10, O10, q2.2, vacc ++ [v9], acc ++ [e], ?_, upd_same, fXD, oXD, (ra.up (((st6.fr.trans st8.fr).trans st9.fr).trans st10.fr)).append (.cons rv10 .nil), by rw [List.length_append, List.length_singleton]; omega, (stC.trans (st9.trans st10)).updNew nD, fun z => ?_, sm.trans (((st6.fr.trans st8.fr).trans st9.fr).trans st10.fr), ?_⟩
              · have hj' : j < its1.length := hj
                rw [ra.length]; omega
              · have := (rs10.wipe vs1).updFree (ws := vacc ++ [v9]) hXD fXD oXD
                rw [e4] at this
                exact this
              · have z' := z
                simp only [Bool.and_eq_true] at z'
                exact same_updNew ((pum z).trans (t3.trans ((pu8 z'.2.2.1).trans (pu9 z'.2.2.2)))) nD
              · rw [Res.wp_bind] at hq2
                refine Res.wp_mono hq2 (fun r hr => ?_) (fun _ _ e => e)
                refine Res.wp_mono hr (fun z hz => ?_) (fun _ _ e => e)
                show PV K _ F O σ H Q (.own (((acc ++ [e]) ++ r.1) ++ z.1), backS ρ1 z.2 vs)
                have ea : (acc ++ [e]) ++ r.1 = acc ++ e :: r.1 := by rw [List.append_assoc]; rfl
                rw [ea]
                exact hz
          · rw [List.drop_eq_nil_of_le (Nat.le_refl _)] at hwm
            have hwm : (compL2 g tt it1 g1 tt1 te vs vs1 (its.drop (i + 1)) (n + its1.length) (wipeS ρm vs1)).wp (fun z => PV K (pi && (pt && (pi1 && (pt1 && pe)))) F O σ H Q (.own ((acc ++ []) ++ z.1), backS ρ1 z.2 vs)) (PX K mg W F O σ H) := hwm
            rw [List.append_nil] at hwm
            have ew : L2.wipe (L2.wipe σ3 vs1) vs = L2.wipe σ vs := by
              rw [← e3]
              exact wipe_ext (fun m hm => wipe_out fun z => hm (hv m z)) (wipe_length _ _)
            have rmw := rm.wipe vs
            rw [ew] at rmw
            exact ⟨Fm, Om, wipeS ρm vs1, vacc, acc, n + its1.length, rmw, hm, fm, om, ra, la, stm, pum, hwm⟩
        · rw [if_neg hr] at hq; exact hq.elim
    · rw [List.drop_eq_nil_of_le (Nat.le_refl _)] at hw
      have hw : PV K (pi && (pt && (pi1 && (pt1 && pe)))) F O σ H Q (.own (acc ++ []), backS ρ1 ρk vs) := hw
      rw [List.append_nil] at hw
      have ru := rs1.unwipe rk stk.fr hok
      refine hw Fk (fun b => if b = D then some (backS ρ1 ρk vs).length else Ok b) (.ref D) Hk ⟨ru.len, ru.fh, fun j t ht => (ru.ok j t ht).ext (Same.refl _) fun b u pb hu => ⟨hu, ?_⟩, fun b j e => ?_⟩ ⟨D, vacc, rfl, hk, by simp, ra⟩ (st1.trans ⟨stk.keep, stk.there, stk.fr, stk.low, fun b j e => ?_⟩) fun z => ?_
      · have : b ≠ D := fun z => by subst z; rw [ok] at pb; cases pb
        simp [this, pb]
      · by_cases hb : b = D
        · subst hb; exact ⟨fk, _, hk⟩
        · simp [hb] at e; exact ru.out b j e
      · by_cases hb : b = D
        · subst hb; exact .inr nD
        · simp [hb] at e; exact stk.fp b j e
      · have z' := z
        rw [Bool.and_eq_true] at z'
        exact (pu1 z'.1).trans (puk z'.2)
  · rw [if_neg hc] at hp; exact hp.elim
section
variable {X : Cx} {W : WX}
theorem de_lc2 {pi pt pi1 pt1 pe : Bool} {elt tg iter tg1 iter1 : Expr} {ifs ifs1 : List Expr} {scope : Scope} {pos : Pos} {it it1 : DIn} {g g1 : DTg} {tt tt1 : DTn} {te : DEn} {us us1 : List Nat} (own : List (Str × Nat)) (vs1 : List Nat) (hc : X.calm = true) (hN : X.N.Nodup) (hi : DI X W pi tg iter it) (ok : BlkOk X.N X.env.scope scope own)
    (hg : ∀ (s : Shared) (H : Hp) (C : Addr) (cl : List (Str × Addr)) (fp : List Addr), DG (X.blk s H scope (compEnvC scope cl C X.env) fp) us tg g) (ht : ∀ (s : Shared) (H : Hp) (C : Addr) (cl : List (Str × Addr)) (fp : List Addr), DTs (X.blk s H scope (compEnvC scope cl C X.env) fp) W0 pt ifs tt)
    (hi1 : ∀ (s : Shared) (H : Hp) (C : Addr) (cl : List (Str × Addr)) (fp : List Addr), DI (X.blk s H scope (compEnvC scope cl C X.env) fp) W0 pi1 tg1 iter1 it1)
    (hg1 : ∀ (s : Shared) (H : Hp) (C : Addr) (cl : List (Str × Addr)) (fp : List Addr), DG (X.blk s H scope (compEnvC scope cl C X.env) fp) us1 tg1 g1) (ht1 : ∀ (s : Shared) (H : Hp) (C : Addr) (cl : List (Str × Addr)) (fp : List Addr), DTs (X.blk s H scope (compEnvC scope cl C X.env) fp) W0 pt1 ifs1 tt1)
    (he : ∀ (s : Shared) (H : Hp) (C : Addr) (cl : List (Str × Addr)) (fp : List Addr), DE (X.blk s H scope (compEnvC scope cl C X.env) fp) W0 pe elt te) (hus : ∀ i ∈ us, i ∈ own.map (·.2) := by decide) (hus1 : ∀ i ∈ us1, i ∈ vs1 := by decide) (hv : ∀ i ∈ vs1, i ∈ own.map (·.2) := by decide) (hs : ∀ x, foldedSetIterable iter X.env x = pure x := by intro _; rfl) (hs1 : ∀ env x, foldedSetIterable iter1 env x = pure x := by intro _ _; rfl) :
    DE X W (pi && (pt && (pi1 && (pt1 && pe)))) (.ListComp elt [⟨tg, iter, ifs, 0⟩, ⟨tg1, iter1, ifs1, 0⟩] scope pos) (dLc2 (pt && (pi1 && (pt1 && pe))) it g tt it1 g1 tt1 te (own.map (·.2)) vs1) :=
  ⟨PE_imp (pe_lc2 hc hN hi.pi ok hv (fun s H C cl fp => (hg s H C cl fp).pg) (fun s H C cl fp => (ht s H C cl fp).pts) (fun s H C cl fp => (hi1 s H C cl fp).pi) (fun s H C cl fp => (hg1 s H C cl fp).pg) (fun s H C cl fp => (ht1 s H C cl fp).pts) (fun s H C cl fp => (he s H C cl fp).pe) hs hs1) fun σ H Q h => lc2_imp hus hus1 hv h⟩
variable {I : List Nat}
theorem ds_setLc2 {pi pt pi1 pt1 pe : Bool} {y : Str} {py : Pos} {elt tg iter tg1 iter1 : Expr} {ifs ifs1 : List Expr} {scope : Scope} {pos spos : Pos} {it it1 : DIn} {g g1 : DTg} {tt tt1 : DTn} {te : DEn} {us us1 : List Nat} (i : Nat) (own : List (Str × Nat)) (vs1 : List Nat) (hc : X.calm = true) (hN : X.N.Nodup)
    (hsw : swapsWith (.ListComp elt [⟨tg, iter, ifs, 0⟩, ⟨tg1, iter1, ifs1, 0⟩] scope pos) (some (.Name y py)) spos.line X.env = pure true) (hi : DI X W pi tg iter it) (ok : BlkOk X.N X.env.scope scope own)
    (hg : ∀ (s : Shared) (H : Hp) (C : Addr) (cl : List (Str × Addr)) (fp : List Addr), DG (X.blk s H scope (compEnvC scope cl C X.env) fp) us tg g) (ht : ∀ (s : Shared) (H : Hp) (C : Addr) (cl : List (Str × Addr)) (fp : List Addr), DTs (X.blk s H scope (compEnvC scope cl C X.env) fp) W0 pt ifs tt)
    (hi1 : ∀ (s : Shared) (H : Hp) (C : Addr) (cl : List (Str × Addr)) (fp : List Addr), DI (X.blk s H scope (compEnvC scope cl C X.env) fp) W0 pi1 tg1 iter1 it1)
    (hg1 : ∀ (s : Shared) (H : Hp) (C : Addr) (cl : List (Str × Addr)) (fp : List Addr), DG (X.blk s H scope (compEnvC scope cl C X.env) fp) us1 tg1 g1) (ht1 : ∀ (s : Shared) (H : Hp) (C : Addr) (cl : List (Str × Addr)) (fp : List Addr), DTs (X.blk s H scope (compEnvC scope cl C X.env) fp) W0 pt1 ifs1 tt1)
    (he : ∀ (s : Shared) (H : Hp) (C : Addr) (cl : List (Str × Addr)) (fp : List Addr), DE (X.blk s H scope (compEnvC scope cl C X.env) fp) W0 pe elt te) (hy : X.N[i]? = some y := by rfl) (hyl : X.env.scope.names.lookup y = some .local := by rfl) (hus : ∀ i ∈ us, i ∈ own.map (·.2) := by decide) (hus1 : ∀ i ∈ us1, i ∈ vs1 := by decide) (hv : ∀ i ∈ vs1, i ∈ own.map (·.2) := by decide) (hI : i ∉ I := by decide) (hs : ∀ x, foldedSetIterable iter X.env x = pure x := by intro _; rfl) (hs1 : ∀ env x, foldedSetIterable iter1 env x = pure x := by intro _ _; rfl) :
    DS X W I (.Assign [.Name y py] (.ListComp elt [⟨tg, iter, ifs, 0⟩, ⟨tg1, iter1, ifs1, 0⟩] scope pos) spos) (dSet i (dLc2 (pt && (pi1 && (pt1 && pe))) it g tt it1 g1 tt1 te (own.map (·.2)) vs1)) :=
  ⟨PS_imp (ps_setLc2 hc hN hy hyl hsw hi.pi ok hv (fun s H C cl fp => (hg s H C cl fp).pg) (fun s H C cl fp => (ht s H C cl fp).pts) (fun s H C cl fp => (hi1 s H C cl fp).pi) (fun s H C cl fp => (hg1 s H C cl fp).pg) (fun s H C cl fp => (ht1 s H C cl fp).pts) (fun s H C cl fp => (he s H C cl fp).pe) hs hs1) fun D σ H ⟨F, O, ρ, rs, h⟩ => lc2_imp hus hus1 hv (set_ok (pu := pi && (pt && (pi1 && (pt1 && pe)))) hI rs h)⟩
theorem ds_setLc2F {pi pt pi1 pt1 pe : Bool} {y : Str} {py : Pos} {elt tg iter tg1 iter1 : Expr} {ifs ifs1 : List Expr} {scope : Scope} {pos spos : Pos} {it it1 : DIn} {g g1 : DTg} {tt tt1 : DTn} {te : DEn} {us us1 : List Nat} (i : Nat) (own : List (Str × Nat)) (vs1 : List Nat) (hc : X.calm = true) (hN : X.N.Nodup)
    (hsw : swapsWith (.ListComp elt [⟨tg, iter, ifs, 0⟩, ⟨tg1, iter1, ifs1, 0⟩] scope pos) (some (.Name y py)) spos.line X.env = pure true) (hi : DI X W pi tg iter it) (ok : BlkOk X.N X.env.scope scope own)
    (hg : ∀ (s : Shared) (H : Hp) (C : Addr) (cl : List (Str × Addr)) (fp : List Addr), DG (X.blk s H scope (compEnvC scope cl C X.env) fp) us tg g) (ht : ∀ (s : Shared) (H : Hp) (C : Addr) (cl : List (Str × Addr)) (fp : List Addr), DTs (X.blk s H scope (compEnvC scope cl C X.env) fp) W0 pt ifs tt)
    (hi1 : ∀ (s : Shared) (H : Hp) (C : Addr) (cl : List (Str × Addr)) (fp : List Addr), DI (X.blk s H scope (compEnvC scope cl C X.env) fp) W0 pi1 tg1 iter1 it1)
    (hg1 : ∀ (s : Shared) (H : Hp) (C : Addr) (cl : List (Str × Addr)) (fp : List Addr), DG (X.blk s H scope (compEnvC scope cl C X.env) fp) us1 tg1 g1) (ht1 : ∀ (s : Shared) (H : Hp) (C : Addr) (cl : List (Str × Addr)) (fp : List Addr), DTs (X.blk s H scope (compEnvC scope cl C X.env) fp) W0 pt1 ifs1 tt1)
    (he : ∀ (s : Shared) (H : Hp) (C : Addr) (cl : List (Str × Addr)) (fp : List Addr), DE (X.blk s H scope (compEnvC scope cl C X.env) fp) W0 pe elt te) (hy : X.N[i]? = some y := by rfl) (hyl : X.env.scope.names.lookup y = some .local := by rfl) (hus : ∀ i ∈ us, i ∈ own.map (·.2) := by decide) (hus1 : ∀ i ∈ us1, i ∈ vs1 := by decide) (hv : ∀ i ∈ vs1, i ∈ own.map (·.2) := by decide) (hI : i ∉ I := by decide) (hs : ∀ x, foldedSetIterable iter X.env x = pure x := by intro _; rfl) (hs1 : ∀ env x, foldedSetIterable iter1 env x = pure x := by intro _ _; rfl) :
    DS X W I (.Assign [.Name y py] (.ListComp elt [⟨tg, iter, ifs, 0⟩, ⟨tg1, iter1, ifs1, 0⟩] scope pos) spos) (dSetF i (dLc2 (pt && (pi1 && (pt1 && pe))) it g tt it1 g1 tt1 te (own.map (·.2)) vs1)) :=
  ⟨PS_imp (ps_setLc2 hc hN hy hyl hsw hi.pi ok hv (fun s H C cl fp => (hg s H C cl fp).pg) (fun s H C cl fp => (ht s H C cl fp).pts) (fun s H C cl fp => (hi1 s H C cl fp).pi) (fun s H C cl fp => (hg1 s H C cl fp).pg) (fun s H C cl fp => (ht1 s H C cl fp).pts) (fun s H C cl fp => (he s H C cl fp).pe) hs hs1) fun D σ H ⟨F, O, ρ, rs, h⟩ => lc2_imp hus hus1 hv (setF_ok (pu := pi && (pt && (pi1 && (pt1 && pe)))) hI rs h)⟩
end
end DL
/-! DL: evaluation of two for clauses -/
namespace DL
open PySem PySem.Spec PyProof.Rows L2
theorem compL2_eq {α β : Type} {it1 : DIn} {te : DEn} {v u : Nat} {ρ : List Slot} (c : α → D) (c1 : β → D) (ys : α → List β) (f : α → β → D) (hv : ρ[v]? = some .un) (hu : ρ[u]? = some .un) (hne : v ≠ u) : ∀ (xs : List α) (n : Nat),
    (∀ x ∈ xs, it1 (ρ.set v (.sh (c x))) = .ok ((true, (ys x).map c1), ρ.set v (.sh (c x)))) → (∀ x ∈ xs, ∀ y ∈ ys x, ∃ s, te ((ρ.set v (.sh (c x))).set u (.sh (c1 y))) = .ok (s, (ρ.set v (.sh (c x))).set u (.sh (c1 y))) ∧ s.fz = some (f x y)) → n + (xs.map fun x => (ys x).length).sum ≤ sizeLine →
    ∀ ρ0, wipeS ρ0 [v, u] = ρ → ∃ ρ', compL2 (tgN v) dYes it1 (tgN u) dYes te [v, u] [u] (xs.map c) n ρ0 = .ok ((xs.map fun x => (ys x).map (f x)).flatten, ρ') ∧ wipeS ρ' [v, u] = ρ
  | [], n, _, _, _, ρ0, h0 => ⟨ρ0, rfl, h0⟩
  | x :: xs, n, hi, he, hn, ρ0, h0 => by
    have hux : (ρ.set v (.sh (c x)))[u]? = some .un := by rw [List.getElem?_set_ne hne]; exact hu
    have su : (ρ.set v (.sh (c x))).set u .un = ρ.set v (.sh (c x)) := by
      have := set_set_un hux .un
      rw [List.set_set] at this
      exact this
    have wx : wipeS (ρ.set v (.sh (c x))) [v, u] = ρ := by
      show ((ρ.set v (.sh (c x))).set u .un).set v .un = ρ
      rw [su]
      exact set_set_un hv _
    obtain ⟨ρ2, h1, h2⟩ := compL_eq (tt := dYes) (te := te) (v := u) (ρ := ρ.set v (.sh (c x))) c1 (fun _ => true) (f x) hux (ys x) (fun _ _ => rfl) (fun y hy _ => he x List.mem_cons_self y hy) (ρ.set v (.sh (c x))) su
    rw [filter_all (fun _ _ => rfl)] at h1
    rw [List.map_cons, List.sum_cons] at hn
    obtain ⟨ρ', h3, h4⟩ := compL2_eq c c1 ys f hv hu hne xs (n + (ys x).length) (fun y hy => hi y (List.mem_cons_of_mem _ hy)) (fun y hy => he y (List.mem_cons_of_mem _ hy)) (by omega) (wipeS ρ2 [u]) (by
      have e : wipeS ρ2 [u] = ρ.set v (.sh (c x)) := h2
      rw [e]; exact wx)
    refine ⟨ρ', ?_, h4⟩
    rw [List.map_cons, List.map_cons, List.flatten_cons]
    have hr : room2 n (ys x).length = true := @decide_eq_true _ (_) (by omega)
    unfold compL2
    rw [h0]
    simp only [tgN, dYes, Res.lift, Res.bind, Res.noex, hi x List.mem_cons_self, if_true, List.length_map, hr, Bool.and_self, h1, h3]
theorem dLc2_eq {α β : Type} {fr fz : Bool} {it it1 : DIn} {te : DEn} {v u : Nat} {ρ ρ1 : List Slot} {ds : List D} (xs : List α) (c : α → D) (c1 : β → D) (ys : α → List β) (f : α → β → D) (hi : it ρ = .ok ((fz, ds), ρ1)) (hd : ds = xs.map c) (hv : ρ1[v]? = some .un) (hu : ρ1[u]? = some .un) (hne : v ≠ u) (hfz : (fz || fr) = true)
    (h1 : ∀ x ∈ xs, it1 (ρ1.set v (.sh (c x))) = .ok ((true, (ys x).map c1), ρ1.set v (.sh (c x)))) (he : ∀ x ∈ xs, ∀ y ∈ ys x, ∃ s, te ((ρ1.set v (.sh (c x))).set u (.sh (c1 y))) = .ok (s, (ρ1.set v (.sh (c x))).set u (.sh (c1 y))) ∧ s.fz = some (f x y)) (hn : (xs.map fun x => (ys x).length).sum ≤ sizeLine) :
    dLc2 fr it (tgN v) dYes it1 (tgN u) dYes te [v, u] [u] ρ = .ok (.own (xs.map fun x => (ys x).map (f x)).flatten, ρ1) := by
  subst hd
  have un : wipeS ρ1 [v, u] = ρ1 := by
    have a : ρ1.set u .un = ρ1 := by
      have := set_set_un hu .un
      rw [List.set_set] at this
      exact this
    have b : ρ1.set v .un = ρ1 := by
      have := set_set_un hv .un
      rw [List.set_set] at this
      exact this
    show (ρ1.set u .un).set v .un = ρ1
    rw [a, b]
  obtain ⟨ρ', h3, h4⟩ := compL2_eq (it1 := it1) (te := te) c c1 ys f hv hu hne xs 0 h1 he (by omega) ρ1 un
  unfold dLc2
  simp only [hi, Res.bind, h3]
  have ok : okV ρ1 [v, u] = true := by simp [okV, hv, hu, Slot.low]
  rw [if_pos (by rw [ok, hfz]; rfl)]
  show Res.ok (Slot.own _, (ρ'.set u (ρ1[u]?.getD .un)).set v (ρ1[v]?.getD .un)) = _
  rw [hv, hu]
  show Res.ok (Slot.own _, wipeS ρ' [v, u]) = _
  rw [h4]
end DL
/-! DL: a def that is not reached -/
namespace DL
open PySem PySem.Spec PyProof.Rows L2
def dStuck : DFn := fun _ => .stuck
theorem Dfn.none {P : Program} {w : World} {K : PySem.W.Frag} {mg : Str → Option Value} {base : Heap} {x qual : Str} {st : Stmt} {f : Addr} {fd : FuncData} {N ps : List Str} {k : Nat} (Fn : Fun K x qual st f fd) (hm : mg x = some (.ref f)) (hb : Binds K fd ps []) (S : FnScope N ps (defScope st)) :
    Dfn P w K mg base x ps (k + 1) dStuck := by
  refine ⟨⟨f, fd, ?_, hm, Fn.kp, hb, fun_at Fn⟩⟩
  refine Fn.okX S (fun vs H Q E h => h.1) (fun cdv A outer s H vs Q E hr hsp => ?_)
  obtain ⟨hl, F, O, ss, rs, hw⟩ := hsp
  exact hw.elim
end DL
/-! DL: sizes of ints; comprehensions whose state moves -/
namespace DL
open PySem PySem.Spec PyProof.Rows L2
/-- less than 2 ^ k -/
def Sz (k : Nat) (a : Int) : Prop := a.natAbs < 2 ^ k
instance (k : Nat) (a : Int) : Decidable (Sz k a) := inferInstanceAs (Decidable (a.natAbs < 2 ^ k))
theorem gMod_pos {i j : Int} (h : 0 < j) : gMod (.int i) (.int j) = some (.int (i % j)) := by
  show (if 0 < j then some (D.int (i % j)) else none) = _
  rw [if_pos h]
theorem Sz.mono {j k : Nat} {a : Int} (h : Sz j a) (le : j ≤ k) : Sz k a := Nat.lt_of_lt_of_le h (Nat.pow_le_pow_right (by decide) le)
theorem Sz.add {j k : Nat} {a b : Int} (ha : Sz j a) (hb : Sz k b) : Sz (max j k + 1) (a + b) := by
  have h1 := ha.mono (Nat.le_max_left j k)
  have h2 := hb.mono (Nat.le_max_right j k)
  unfold Sz at h1 h2 ⊢
  rw [Nat.pow_succ]
  have := Int.natAbs_add_le a b
  omega
theorem Sz.mul {j k : Nat} {a b : Int} (ha : Sz j a) (hb : Sz k b) : Sz (j + k) (a * b) := by
  unfold Sz at ha hb ⊢
  rw [Int.natAbs_mul, Nat.pow_add]
  exact Nat.mul_lt_mul_of_lt_of_le ha (Nat.le_of_lt hb) (Nat.two_pow_pos k)
theorem Sz.mod {k : Nat} {a b : Int} (hb : Sz k b) (h0 : 0 < b) : Sz k (a % b) := by
  unfold Sz at hb ⊢
  have h1 := Int.emod_nonneg a (show b ≠ 0 by omega)
  have h2 := Int.emod_lt_of_pos a h0
  omega
theorem Sz.div {k : Nat} {a b : Int} (ha : Sz k a) (h0 : 0 < b) : Sz k (a / b) := by
  unfold Sz at ha ⊢
  exact Nat.lt_of_le_of_lt (Int.natAbs_ediv_le_natAbs a b) ha
theorem log_lt {k a : Nat} (h : a < 2 ^ k) (hk : 0 < k) : a.log2 < k := by
  by_cases h0 : a = 0
  · subst h0
    have : Nat.log2 0 = 0 := by decide
    omega
  · exact (Nat.log2_lt h0).mpr h
theorem gMul_ok {j k : Nat} {a b : Int} (ha : Sz j a) (hb : Sz k b) (hj : 0 < j ∧ 0 < k ∧ j + k < 100000000 := by decide) : gMul (.int a) (.int b) = some (.int (a * b)) := by
  have h1 := log_lt ha hj.1
  have h2 := log_lt hb hj.2.1
  exact @if_pos _ (_) (by omega) _ _ _
theorem gFdiv_lit {a b : Int} (h : 0 < b ∧ b < 18446744073709551616) : gFdiv (.int a) (.int b) = some (.int (a / b)) := gFdiv_ok h.1 h.2
/-- a comprehension, its turns told by a relation -/
theorem compL_inv {α : Type} {g : DTg} {tt : DTn} {te : DEn} {vs : List Nat} (c : α → D) (Inv : List α → List D → List Slot → Prop) : ∀ (xs pre : List α) (out : List D) (ρ : List Slot), Inv pre out ρ →
    (∀ pre' x post out ρ, pre ++ xs = pre' ++ x :: post → Inv pre' out ρ → ∃ ρ1 ρ2 b, g (c x) (wipeS ρ vs) = some ρ1 ∧ tt ρ1 = .ok (b, ρ2) ∧ (b = false → Inv (pre' ++ [x]) out ρ2) ∧ (b = true → ∃ s d ρ3, te ρ2 = .ok (s, ρ3) ∧ s.fz = some d ∧ Inv (pre' ++ [x]) (out ++ [d]) ρ3)) →
    ∃ ds ρ', compL g tt te vs (xs.map c) ρ = .ok (ds, ρ') ∧ Inv (pre ++ xs) (out ++ ds) ρ'
  | [], pre, out, ρ, h, _ => ⟨[], ρ, rfl, by rw [List.append_nil, List.append_nil]; exact h⟩
  | x :: xs, pre, out, ρ, h, hs => by
    obtain ⟨ρ1, ρ2, b, hg, ht, h0, h1⟩ := hs pre x xs out ρ rfl h
    have hs' : ∀ pre' y post out ρ, (pre ++ [x]) ++ xs = pre' ++ y :: post → Inv pre' out ρ → _ := fun pre' y post out ρ e hi => hs pre' y post out ρ (by rw [← e, List.append_assoc]; rfl) hi
    rw [List.map_cons]
    unfold compL
    rw [hg]
    simp only [Res.lift, Res.bind, ht, Res.noex]
    cases b with
    | false =>
      obtain ⟨ds, ρ', h3, h4⟩ := compL_inv c Inv xs (pre ++ [x]) out ρ2 (h0 rfl) hs'
      exact ⟨ds, ρ', by simp only [Bool.false_eq_true, if_false]; exact h3, by rw [List.append_assoc] at h4; exact h4⟩
    | true =>
      obtain ⟨s, d, ρ3, he, hf, hi⟩ := h1 rfl
      obtain ⟨ds, ρ', h3, h4⟩ := compL_inv c Inv xs (pre ++ [x]) (out ++ [d]) ρ3 hi hs'
      refine ⟨d :: ds, ρ', by simp only [if_true, he, Res.noex, Res.bind, hf, Res.lift, h3], ?_⟩
      rw [List.append_assoc, List.append_assoc] at h4
      exact h4
theorem dLc_inv {α : Type} {fr fz : Bool} {it : DIn} {g : DTg} {tt : DTn} {te : DEn} {vs : List Nat} {ρ ρ1 : List Slot} {ds : List D} (xs : List α) (c : α → D) (Inv : List α → List D → List Slot → Prop) (hi : it ρ = .ok ((fz, ds), ρ1)) (hd : ds = xs.map c) (hok : okV ρ1 vs = true) (hfz : (fz || fr) = true) (hl : xs.length < sizeLine) (h0 : Inv [] [] ρ1)
    (hs : ∀ pre x post out ρ, xs = pre ++ x :: post → Inv pre out ρ → ∃ ρ1 ρ2 b, g (c x) (wipeS ρ vs) = some ρ1 ∧ tt ρ1 = .ok (b, ρ2) ∧ (b = false → Inv (pre ++ [x]) out ρ2) ∧ (b = true → ∃ s d ρ3, te ρ2 = .ok (s, ρ3) ∧ s.fz = some d ∧ Inv (pre ++ [x]) (out ++ [d]) ρ3)) :
    ∃ out ρ', dLc fr it g tt te vs ρ = .ok (.own out, backS ρ1 ρ' vs) ∧ Inv xs out ρ' := by
  subst hd
  obtain ⟨out, ρ', h1, h2⟩ := compL_inv c Inv xs [] [] ρ1 h0 (fun pre x post out ρ e h => hs pre x post out ρ e h)
  refine ⟨out, ρ', ?_, h2⟩
  unfold dLc
  simp only [hi, Res.bind, h1]
  rw [if_pos ⟨by rw [hok, hfz]; rfl, by rw [List.length_map]; exact hl⟩]
end DL
/-! DL: calls by names -/
namespace DL
open PySem PySem.Spec PyProof.Rows L2
/-- the values ws, in the parameters' order -/
def pick {α : Type} (perm : List Nat) (ws : List α) (z : α) : List α := perm.map fun i => ws.getD i z
/-- how a call by the names ks binds -/
def BindsK (K : PySem.W.Frag) (fd : FuncData) (ps ks : List Str) (perm : List Nat) : Prop :=
  ∀ (s : Shared) (ws : List Value), K.In s.heap → ws.length = ks.length → BindsTo s fd ⟨[], ks.zip ws⟩ (ps.zip (pick perm ws Value.none))
structure DfnK (P : Program) (w : World) (K : PySem.W.Frag) (mg : Str → Option Value) (base : Heap) (x : Str) (ps : List Str) (k : Nat) (G : DFn) (ks : List Str) (perm : List Nat) : Prop where
  ok : ∃ (f : Addr) (fd : FuncData), FnOk P w K mg base (L2.CX P w) k f fd ps (spF K mg ps.length G) ∧ mg x = some (.ref f) ∧ PySem.W.keepIn K (.ref f) = true ∧ BindsK K fd ps ks perm
theorem DfnK.of {P : Program} {w : World} {K : PySem.W.Frag} {mg : Str → Option Value} {base : Heap} {x qual : Str} {st : Stmt} {f : Addr} {fd : FuncData} {ps ks : List Str} {k : Nat} {G : DFn} {perm : List Nat} (h : Dfn P w K mg base x ps k G) (Fn : Fun K x qual st f fd) (hm : mg x = some (.ref f))
    (hb : ∀ (kV doc pm : Value) (an : Option Addr) (cdv ct : Value) (ws : List Value), ws.length = ks.length → bindArgs (PySem.W.fnOf x qual (defArgs st) (defBody st) (defScope st) .none kV doc pm an cdv ct) ⟨[], ks.zip ws⟩ = pure (ps.zip (pick perm ws Value.none))) : DfnK P w K mg base x ps k G ks perm := by
  obtain ⟨f', fd', ok, hm', hk, _, at'⟩ := h.ok
  have ef : f' = f := by
    rw [hm] at hm'
    injection hm' with e
    injection e with e
    exact e.symm
  subst ef
  have e := (fun_at Fn).one at'
  subst e
  obtain ⟨oc, od, kV, doc, pm, an, cdv, ct, osl, rfl, lk, hcd⟩ := Fn.ex
  exact ⟨⟨_, _, ok, hm', hk, fun s ws _ hl => .of_eq (hb kV doc pm an cdv ct ws hl)⟩⟩
theorem vals_perm {vs : List V} {us : List Value} (r : Vals vs us) (perm : List Nat) : Vals (pick perm vs V.non) (pick perm us Value.none) := by
  have one : ∀ i : Nat, RelV (vs.getD i V.non) (us.getD i Value.none) := fun i => by
    rw [List.getD_eq_getElem?_getD, List.getD_eq_getElem?_getD]
    cases q : vs[i]? with
    | none =>
      have : us[i]? = none := by
        rw [List.getElem?_eq_none_iff] at q ⊢
        rw [← r.length]; exact q
      rw [this]
      exact rfl
    | some v =>
      obtain ⟨u, hu, ru⟩ := r.get q
      rw [hu]
      exact ru
  induction perm with
  | nil => exact .nil
  | cons i perm ih => exact .cons (one i) ih
theorem rs_perm {K : PySem.W.Frag} {F : Hp} {vs : List V} {ds : List D} (r : Rs K F vs ds) (perm : List Nat) : Rs K F (pick perm vs V.non) (pick perm ds D.non) := by
  have one : ∀ i : Nat, R K F (vs.getD i V.non) (ds.getD i D.non) := fun i => by
    rw [List.getD_eq_getElem?_getD, List.getD_eq_getElem?_getD]
    cases q : ds[i]? with
    | none =>
      have : vs[i]? = none := by
        rw [List.getElem?_eq_none_iff] at q ⊢
        rw [r.length]; exact q
      rw [this]
      exact .non
    | some d =>
      obtain ⟨v, hv, rv⟩ := r.get q
      rw [hv]
      exact rv
  induction perm with
  | nil => exact .nil
  | cons i perm ih => exact .cons (one i) ih
section
variable {X : Cx} {W : WX}
structure KF (X : Cx) (W : WX) (pu : Bool) (kws : List Keyword) (f : DLn) : Prop where
  pk : PK X kws (dAF X.K X.mg W pu f)
theorem PK_imp {kws : List Keyword} {t t' : TA} (h : PK X kws t) (g : ∀ σ H Q, t' σ H Q → t σ H Q) : PK X kws t' := ⟨fun pos pins s σ H Q I q => h.run pos pins s σ H Q I (g σ H Q q)⟩
theorem kf_nil : KF X W true [] dNil := ⟨PK_imp pk_nil fun σ H Q ⟨F, O, ρ, rs, h⟩ => h F O [] H rs .nil .refl fun _ => Same.refl H⟩
theorem kf_cons {pa pb : Bool} {nm : Option Str} {kpos : Pos} {e : Expr} {kws : List Keyword} {f1 : DEn} {f2 : DLn} (ha : DE X W pa e f1) (hb : KF X W pb kws f2) : KF X W (pa && pb) (⟨nm, e, kpos⟩ :: kws) (dConsF f1 f2) := by
  refine ⟨PK_imp (pk_cons ha.pe hb.pk) fun σ H Q ⟨F, O, ρ, rs, h⟩ => ⟨F, O, ρ, rs, ?_⟩⟩
  unfold dConsF at h
  rw [Res.wp_bind] at h
  refine Res.wp_mono h (fun p hp => ?_) (fun _ _ e => e)
  intro F1 O1 x H1 rs1 v1 st1 pu1
  rw [Res.wp_bind, Res.wp_lift] at hp
  obtain ⟨d, hd, hp⟩ := hp
  obtain ⟨F1', O1', rs1', r1, st1'⟩ := rs1.freeze v1 hd
  refine ⟨F1', O1', p.2, rs1', ?_⟩
  rw [Res.wp_bind] at hp
  refine Res.wp_mono hp (fun q hq => ?_) (PX.step (st1.trans st1'))
  intro F2 O2 ys H2 rs2 v2 st2 pu2
  refine hq F2 O2 (x :: ys) H2 rs2 (.cons (r1.up st2.fr) v2) (st1.trans (st1'.trans st2)) fun a => ?_
  simp only [Bool.and_eq_true] at a
  exact (pu1 a.1).trans (pu2 a.2)
/-- f(k = v, ..) -/
theorem pe_callKS {k : Nat} {f : Addr} {fd : FuncData} {ps ks : List Str} {perm : List Nat} {sp : Sp} {E : L2.St → XK} {x : Str} {p pos : Pos} {kws : List Keyword} {t : TA} {CX : CXT} (F : FnOk X.prog X.w X.K X.mg X.base CX k f fd ps sp) (hr : Room k X.A) (hg : Gl X x) (hm : X.mg x = some (.ref f)) (hk : PySem.W.keepIn X.K (.ref f) = true) (hb : BindsK X.K fd ps ks perm) (hx : ∀ σ, PassesAt CX X σ (E σ))
    (hkw : PK X kws t) (hall : (backToKw pos (keywordEach kws X.env)).all (·.1.isSome) = true := by rfl) (hks : (backToKw pos (keywordEach kws X.env)).filterMap (·.1) = ks := by rfl)
    (hdb : (x == ("__debug__" : Str)) = false := by decide) (hpl : ((backTo pos (starEach [] X.env)).any (·.1) || (backToKw pos (keywordEach kws X.env)).any (·.1.isNone)) = false := by rfl) :
    PE X (.Call (.Name x p) [] kws pos) (fun σ H Q => t σ H fun zs H1 => zs.length = ks.length ∧ sp (pick perm zs V.non) H1 Q (E σ)) := by
  refine ⟨fun pins s σ H Q I h => ?_⟩
  refine wpAny_Call_Name_kw (ld_glob I hg hm ?_ hdb)
  refine PySem.W.callWith_KW0 (h₀ := X.base) I.ok.mod.kin hk hall (thn (hkw.run pos pins s σ H _ I h) fun ws s2 ⟨zs, H2, I2, rz, l, q2⟩ => ⟨I2.kIn, ?_⟩) hpl
  rw [hks]
  have l2 : ws.length = ks.length := rz.length.symm.trans l
  refine wpAny_call (codeAny_mono (F.run X.A X.stack s2 H2 ⟨[], ks.zip ws⟩ (pick perm ws Value.none) (pick perm zs V.non) Q (E σ) hr I2.env0 (hb s2 ws I2.kIn l2) (vals_perm rz perm) q2) fun r s' hq => ?_)
  cases r with
  | error e => exact hx σ pins H2 s2 e s' I2 hq
  | ok fl =>
    cases fl with
    | ret u => exact I2.after hq
    | next => exact False.elim hq
    | brk => exact False.elim hq
    | cont => exact False.elim hq
/-- the arguments by names, in the parameters' order -/
@[simp] noncomputable def dPick (n : Nat) (perm : List Nat) (fa : DLn) (ρ : List Slot) : Res (List D × List Slot) := (fa ρ).bind fun p => if p.1.length = n then .ok (pick perm p.1 D.non, p.2) else .stuck
theorem de_callK {k : Nat} {x : Str} {ps ks : List Str} {perm : List Nat} {G : DFn} {pu : Bool} {kws : List Keyword} {p pos : Pos} {fa : DLn} {P : Program} {w : World} {K : PySem.W.Frag} {mg : Str → Option Value} {base : Heap} {A : Around} (tk : Takes X W) (hf : DfnK P w K mg base x ps k G ks perm) (hr : Room k A) (ha : KF X W pu kws fa) (hg : Gl X x := by rfl)
    (hdb : (x == ("__debug__" : Str)) = false := by decide) (hall : (backToKw pos (keywordEach kws X.env)).all (·.1.isSome) = true := by rfl) (hks : (backToKw pos (keywordEach kws X.env)).filterMap (·.1) = ks := by rfl)
    (hpl : ((backTo pos (starEach [] X.env)).any (·.1) || (backToKw pos (keywordEach kws X.env)).any (·.1.isNone)) = false := by rfl) (hX : X.prog = P ∧ X.w = w ∧ X.K = K ∧ X.mg = mg ∧ X.base = base ∧ X.A = A := by exact ⟨rfl, rfl, rfl, rfl, rfl, rfl⟩) :
    DE X W pu (.Call (.Name x p) [] kws pos) (dCall ps.length G (dPick ks.length perm fa)) := by
  obtain ⟨rfl, rfl, rfl, rfl, rfl, rfl⟩ := hX
  obtain ⟨f, fd, ok, hm, hk, hb⟩ := hf.ok
  refine ⟨PE_imp (pe_callKS (E := WE W) ok hr hg hm hk hb (fun σ => passAt tk σ) ha.pk hall hks hdb hpl) fun σ H Q ⟨F, O, ρ, rs, h⟩ => ⟨F, O, ρ, rs, ?_⟩⟩
  unfold dCall dPick at h
  rw [Res.wp_bind, Res.wp_bind] at h
  refine Res.wp_mono h (fun p hp => ?_) (fun _ _ e => e)
  intro F1 O1 vs H1 rs1 v1 st1 pu1
  by_cases hn : p.1.length = ks.length
  · rw [if_pos hn] at hp
    have hp : (if (pick perm p.1 D.non).length = ps.length then _ else _ : Res (Slot × List Slot)).wp _ _ := hp
    have v2 := rs_perm v1 perm
    generalize pick perm p.1 D.non = qs at hp v2
    refine ⟨by rw [v1.length]; exact hn, ?_⟩
    by_cases hl : qs.length = ps.length
    · rw [if_pos hl] at hp
      refine ⟨by rw [v2.length]; exact hl, F1, fun _ => none, qs.map .sh, RS.callee rs1.fh v2, ?_⟩
      cases hG : G (qs.map .sh) with
      | stuck => rw [hG] at hp; exact hp.elim
      | ex c ρ' =>
        rw [hG] at hp
        intro F' O' H' rs' st'
        obtain ⟨a, b, _⟩ := rs1.back st' rs'.fh
        exact hp F' O1 H' a (st1.trans b)
      | ok q =>
        obtain ⟨s, ρ'⟩ := q
        rw [hG] at hp
        intro F' O' v H' rs' vo st' _
        have hp : ((Res.lift s.ret).bind fun s' => Res.ok (s', p.2)).wp (PV X.K pu F O σ H Q) (PX X.K X.mg W F O σ H) := hp
        rw [Res.wp_bind, Res.wp_lift] at hp
        obtain ⟨s', hs', hp⟩ := hp
        obtain ⟨O2, a, b, c, d⟩ := rs1.result st' rs' vo hs'
        exact hp F' O2 v H' a b (st1.trans c) fun z => (pu1 z).trans d
    · rw [if_neg hl] at hp; exact hp.elim
  · rw [if_neg hn] at hp; exact hp.elim
end
end DL
/-! DL: sorted(.., reverse=True) -/
namespace DL
open PySem PySem.Spec PyProof.Rows L2
noncomputable def srtRL (s : Slot) : Option (List D) := s.listD.bind fun xs => (asInts xs).map fun ns => (sortI ns).reverse.map D.int
theorem sortI_uniqR {ns ms : List Int} (p : ms.Perm ns) (o : ms.Pairwise (· ≥ ·)) : ms = (sortI ns).reverse := by
  have e := sortI_uniq (ns := ns) (ms := ms.reverse) ((List.reverse_perm _).trans p) (by rw [List.pairwise_reverse]; exact o)
  rw [← e, List.reverse_reverse]
section
variable {X : Cx} {W : WX}
theorem de_sortRev {pu : Bool} {e : Expr} {p pos kpos cpos : Pos} {cj : Nat} {f : DEn} (hm : X.mg "sorted" = none) (ha : DE X W pu e f) (hg : Gl X "sorted" := by rfl)
    (he : backTo pos (starEach (e :: []) X.env) = (false, eval e X.env) :: backTo pos (starEach [] X.env) := by rfl) (hpl : (backTo pos (starEach (e :: []) X.env)).any (·.1) = false := by rfl) (he2 : starEach (e :: []) X.env = (false, eval e X.env) :: starEach [] X.env := by rfl) :
    DE X W pu (.Call (.Name "sorted" p) [e] [⟨some "reverse", .Constant (.bool true) cj cpos, kpos⟩] pos) (dBlL srtRL f) := by
  have hk : PK X [⟨some ("reverse" : Str), .Constant (.bool true) cj cpos, kpos⟩] (tCons (tC (.bl true)) tNil) := pk_cons pe_bl pk_nil
  have h0 := pe_callBK (X := X) (pos := pos) (p := p) (x := "sorted") (cr_sortedRev (X := X) (b := true)) hg hm boot_sorted (pa_cons ha.pe pa_nil he2) hk (he := he) (hpl := hpl) (hall := rfl) (hnone := rfl) (hks := rfl)
  refine ⟨PE_imp h0 fun σ H Q h => ?_⟩
  refine blL_imp (r := fun xs H Q => rSortedKw X.K true [.bl true] xs [.bl true] H Q) (g := srtRL) (fun F H O n x s ds Q fh vo e q => ?_) h
  unfold srtRL at e
  cases hx : s.listD with
  | none => rw [hx] at e; cases e
  | some xs =>
    rw [hx] at e
    have e : (asInts xs).map (fun ns => (sortI ns).reverse.map D.int) = some ds := e
    cases hn : asInts xs with
    | none => rw [hn] at e; cases e
    | some ns =>
      rw [hn] at e
      cases e
      have e := asInts_some hn
      subst e
      obtain ⟨a, vs, rfl, h, r⟩ := vo.listD fh hx
      rw [r.ints] at h
      refine ⟨a, ns, rfl, rfl, SqL.of h, fun ns' p pm po np => ?_⟩
      rw [sortI_uniqR pm po]
      exact q p _ np (Rs.of_ints _)
end
end DL
/-! DL: xs.count(e) -/
namespace DL
open PySem PySem.Spec PyProof.Rows L2
section
variable {X : Cx} {W : WX}
noncomputable def rCnt (K : PySem.W.Frag) : V → List V → Hp → VK → Prop := fun x vs H Q => ∃ a xs y ds d, x = .ref a ∧ vs = [y] ∧ SqL K H a xs ∧ DpAll K H xs ds ∧ Dp K H y d ∧ PyData.canLayAll0 ds = true ∧ PyData.depthAll ds ≤ 60 ∧ d.canLay0 = true ∧ d.depth ≤ 60 ∧ Q (.int ((ds.countP fun z => PyData.eqv z d : Nat) : Int)) H
theorem mt_count (hu : X.A.units + 64 < cLine) : MtR X "list.count" (rCnt X.K) := by
  intro pins s σ H x vs v us Q I rx rv h
  obtain ⟨a, xs, y, ds, d, rfl, rfl, hl, h1, h2, c1, c2, c3, c4, q⟩ := h
  cases rx
  obtain ⟨u, rfl, ru⟩ := rv.one
  obtain ⟨its, r, pl, z⟩ := I.list hl
  obtain ⟨as, r1⟩ := Dp.readsAll I ds xs its h1 r
  obtain ⟨bs, r2⟩ := Dp.reads I d y u h2 ru
  refine SeqAt.count_list_data (xs := ds) (d := d) pl.isList r1 r2 (PyData.plainAll_of_canLay0 ds c1) (PyData.plain_of_canLay0 d c3) (by omega) ?_
  exact ⟨.int _, H, I.tok _, ⟨_, rfl⟩, q⟩
/-- how many items are == d -/
noncomputable def gCnt : D → D → Option D
  | .lst xs, d => if fits xs 59 = true ∧ d.fit 60 = true then some (.int ((xs.countP fun y => deq y d : Nat) : Int)) else none
  | _, _ => none
theorem countP_py : ∀ (xs : List D) (d : D), fits xs 59 = true → d.fit 60 = true → (xs.countP fun y => deq y d) = (toPys xs).countP fun z => PyData.eqv z d.toPy
  | [], _, _, _ => rfl
  | x :: xs, d, h, hd => by
    have a : x.fit 59 = true ∧ fits xs 59 = true := by simpa [fits] using h
    show List.countP _ (x :: xs) = List.countP _ (x.toPy :: toPys xs)
    rw [List.countP_cons, List.countP_cons, countP_py xs d a.2 hd, deq_py x d 59 60 a.1 hd]
@[simp] def asLst : D → Option (List D)
  | .lst xs => some xs
  | _ => none
/-- o.count(e) -/
@[simp] noncomputable def dCntL (pb : Bool) (f1 f2 : DEn) (ρ : List Slot) : Res (Slot × List Slot) :=
  (f1 ρ).bind fun p => (Res.lift (p.1.hold pb)).bind fun d => (Res.lift (asLst d)).bind fun xs => (f2 p.2).bind fun q => (Res.lift q.1.val).bind fun e => (Res.lift (gCnt (.lst xs) e)).bind fun z => .ok (.sh z, q.2)
theorem de_count {k : Nat} {A : Around} {pa pb : Bool} {o e : Expr} {f1 f2 : DEn} {apos cpos : Pos} (hr : Room k A) (ho : DE X W pa o f1) (he : DE X W pb e f2) (hA : X.A = A := by rfl)
    (hb : PE X o (dE X.K X.mg W pa f1) → PA X [e] (tCons (dE X.K X.mg W pb f2) tNil) → X.A.units + 64 < cLine → PE X (.Call (.Attribute o "count" apos) [e] [] cpos) (tBM X.K "list" (rCnt X.K) (dE X.K X.mg W pa f1) (tCons (dE X.K X.mg W pb f2) tNil)) := by
      intro h1 h2 hu; exact pe_bm PySem.F.plainAttrs_list PySem.F.slot_list_count PySem.F.type_list_count (mt_count hu) h1 h2)
    (hst : starEach (e :: []) X.env = (false, eval e X.env) :: starEach [] X.env := by rfl) :
    DE X W (pa && pb) (.Call (.Attribute o "count" apos) [e] [] cpos) (dCntL pb f1 f2) := by
  refine ⟨PE_imp (hb ho.pe (pa_cons he.pe pa_nil hst) (by rw [hA]; exact hr.units)) fun σ H Q ⟨F, O, ρ, rs, h⟩ => ⟨F, O, ρ, rs, ?_⟩⟩
  unfold dCntL at h
  rw [Res.wp_bind] at h
  refine Res.wp_mono h (fun p hp => ?_) (fun _ _ e => e)
  intro F1 O1 x H1 rs1 v1 st1 pu1
  rw [Res.wp_bind, Res.wp_lift] at hp
  obtain ⟨d, hd, hp⟩ := hp
  obtain ⟨F1', O1', rs1', st1', hh⟩ := rs1.hold v1 hd
  have rx1 : R X.K H1 x d := by
    rcases hh with r | ⟨_, r⟩
    · exact r.up rs1'.fh
    · exact r
  rw [Res.wp_bind, Res.wp_lift] at hp
  obtain ⟨xs, hxs, hp⟩ := hp
  have hd2 : d = .lst xs := by
    cases d <;> first | (cases hxs; rfl) | cases hxs
  subst hd2
  refine ⟨by
    cases rx1 with
    | lst q r => exact .inl ⟨rfl, _, SqL.of q⟩, F1', O1', p.2, rs1', ?_⟩
  rw [Res.wp_bind] at hp
  refine Res.wp_mono hp (fun q hq => ?_) (PX.step (st1.trans st1'))
  intro F2 O2 y H2 rs2 v2 st2 pu2
  rw [Res.wp_bind, Res.wp_lift] at hq
  obtain ⟨e, he, hq⟩ := hq
  rw [Res.wp_bind, Res.wp_lift] at hq
  obtain ⟨z, hz, hq⟩ := hq
  have rx2 : R X.K H2 x (.lst xs) := by
    rcases hh with r | ⟨b, r⟩
    · exact (r.up st2.fr).up rs2.fh
    · exact r.up (pu2 b)
  have ry := v2.read rs2.fh he
  have hz : (if fits xs 59 = true ∧ e.fit 60 = true then some (D.int ((xs.countP fun y => deq y e : Nat) : Int)) else none) = some z := hz
  obtain ⟨c, ez⟩ := ite_some hz
  subst ez
  · cases rx2 with
    | lst q r =>
      obtain ⟨a1, a2⟩ := fits_py xs 59 c.1
      obtain ⟨b1, b2⟩ := fit_py e 60 c.2
      refine ⟨_, _, y, toPys xs, e.toPy, rfl, rfl, SqL.of q, Rs.dp xs _ 59 c.1 r, R.dp e y 60 c.2 ry, a1, by omega, b1, b2, ?_⟩
      rw [← countP_py xs e c.1 c.2]
      refine hq F2 O2 _ H2 rs2 (.int _) (st1.trans (st1'.trans st2)) fun a => ?_
      simp only [Bool.and_eq_true] at a
      exact (pu1 a.1).trans (pu2 a.2)
end
end DL
/-! DL: a call whose result is the caller's own: the arguments are new flat lists or have no list within -/
namespace DL
open PySem PySem.Spec PyProof.Rows L2
mutual
/-- no list within -/
def D.noL : D → Bool
  | .non | .bl _ | .int _ | .str _ => true
  | .tup xs => noLs xs
  | _ => false
def noLs : List D → Bool
  | [] => true
  | x :: xs => D.noL x && noLs xs
end
/-- H without its lists, but those of S -/
noncomputable def Lf (H : Hp) (S : Addr → Prop) : Hp := fun b => match H b with
  | some (.lst xs) => @ite _ (S b) (Classical.propDecidable _) (some (.lst xs)) none
  | o => o
theorem Lf_same (H : Hp) (S : Addr → Prop) : Same (Lf H S) H := fun b o h => by
  unfold Lf at h
  split at h
  · rename_i xs e
    by_cases c : S b
    · rw [@if_pos _ (Classical.propDecidable _) c] at h
      rw [e]; exact h
    · rw [@if_neg _ (Classical.propDecidable _) c] at h
      cases h
  · exact h
theorem Lf_lst {H : Hp} {S : Addr → Prop} {a : Addr} {xs : List V} (h : Lf H S a = some (.lst xs)) : S a := by
  unfold Lf at h
  split at h
  · rename_i ys e
    by_cases c : S a
    · exact c
    · rw [@if_neg _ (Classical.propDecidable _) c] at h
      cases h
  · rename_i n
    exact absurd h (n xs)
theorem Lf_of {H : Hp} {S : Addr → Prop} {a : Addr} {xs : List V} (h : H a = some (.lst xs)) (s : S a) : Lf H S a = some (.lst xs) := by
  unfold Lf
  rw [h]
  exact @if_pos _ (Classical.propDecidable _) s _ _ _
theorem Lf_mono {H H' : Hp} {S S' : Addr → Prop} (e : Same H H') (i : ∀ b, S b → S' b) : Same (Lf H S) (Lf H' S') := fun b o h => by
  have q := Lf_same H S b o h
  have q' := e b o q
  cases o with
  | lst xs => exact Lf_of q' (i b (Lf_lst h))
  | _ => unfold Lf; rw [q']
theorem Lf_tup {K : PySem.W.Frag} {H : Hp} {S : Addr → Prop} {a : Addr} {xs : List V} (h : SqT K H a xs) : SqT K (Lf H S) a xs := by
  rcases h with (h | ⟨o, h⟩) | h
  · exact .inl (.inl (by unfold Lf; rw [h]))
  · exact .inl (.inr ⟨o, by unfold Lf; rw [h]⟩)
  · exact .inr h
mutual
theorem R.noL {K : PySem.W.Frag} {H : Hp} {S : Addr → Prop} : ∀ (d : D) (v : V), d.noL = true → R K H v d → R K (Lf H S) v d
  | .non, _, _, h => by cases h; exact .non
  | .bl _, _, _, h => by cases h; exact .bl _
  | .int _, _, _, h => by cases h; exact .int _
  | .str _, _, _, h => by cases h; exact .str _
  | .lst _, _, f, _ => by simp [D.noL] at f
  | .scr _, _, f, _ => by simp [D.noL] at f
  | .tup ds, _, f, h => by
    cases h with
    | tup hs ha => exact .tup (Lf_tup hs) (Rs.noL ds _ (by simpa [D.noL] using f) ha)
  | .dct _ _, _, f, _ => by simp [D.noL] at f
  | .tpx _, _, f, _ => by simp [D.noL] at f
  | .exc _, _, f, _ => by simp [D.noL] at f
theorem Rs.noL {K : PySem.W.Frag} {H : Hp} {S : Addr → Prop} : ∀ (ds : List D) (vs : List V), noLs ds = true → Rs K H vs ds → Rs K (Lf H S) vs ds
  | [], _, _, h => by cases h; exact .nil
  | d :: ds, _, f, h => by
    have f : d.noL = true ∧ noLs ds = true := by simpa [noLs] using f
    cases h with
    | cons h1 h2 => exact .cons (R.noL d _ f.1 h1) (Rs.noL ds _ f.2 h2)
end
theorem Rs.flats {K : PySem.W.Frag} {F G : Hp} : ∀ {vs : List V} {ds : List D}, ds.all D.flat = true → Rs K F vs ds → Rs K G vs ds
  | _, _, _, .nil => .nil
  | _, _, f, .cons h t => by
    rw [List.all_cons, Bool.and_eq_true] at f
    exact .cons (h.flat_any f.1) (Rs.flats f.2 t)
/-- no slot's own list lies at a -/
def Apart (σ : L2.St) (ρ : List Slot) (a : Addr) : Prop := ∀ (i : Nat) (xs : List D), (ρ[i]? = some (.own xs) ∨ ρ[i]? = some (.par xs)) → σ[i]?.join ≠ some (.ref a)
structure NewAt (F H : Hp) (O : Own) (σ : L2.St) (ρ : List Slot) (H' : Hp) (a : Addr) : Prop where
  f : F a = none
  o : (∃ j, O a = some j) ∨ H a = none
  h : ∃ xs, H' a = some (.lst xs)
  n : Apart σ ρ a
section
variable {X : Cx} {W : WX}
variable (K : PySem.W.Frag)
abbrev DNn := List Slot → Res (List D)
def dAN (fa : DNn) : TA := fun σ H Q => ∃ F O ρ, RS K F σ ρ H O ∧ ∃ ds, fa ρ = .ok ds ∧ ∀ vs (S : Addr → Prop) H', Same H H' → Rs K (Lf H' S) vs ds → (∀ a, S a → NewAt F H O σ ρ H' a) → Q vs H'
end
section
variable {X : Cx} {W : WX}
structure AN (X : Cx) (W : WX) (es : List Expr) (f : DNn) : Prop where
  pa : PA X es (dAN X.K f)
@[simp] def dNilN (ρ : List Slot) : Res (List D) := .ok []
@[simp] def argN : Slot → Option D
  | .own xs => if xs.all D.flat = true then some (.lst xs) else none
  | .sh d => if d.noL = true then some d else none
  | _ => none
@[simp] def dConsN (f1 : DEn) (f2 : DNn) (ρ : List Slot) : Res (List D) := match f1 ρ with
  | .ok p => (Res.lift (argN p.1)).bind fun d => (f2 ρ).bind fun q => .ok (d :: q)
  | _ => .stuck
/-- f leaves the slots -/
def Keeps (f : DEn) : Prop := ∀ ρ s ρ1, f ρ = .ok (s, ρ1) → ρ1 = ρ
theorem keeps_name (i : Nat) : Keeps (dName i) := fun ρ s ρ1 h => by
  unfold dName at h
  split at h <;> first | (cases h; rfl) | cases h
theorem keeps_c (d : D) : Keeps (dC d) := fun ρ s ρ1 h => by cases h; rfl
theorem keeps_blL {g : Slot → Option (List D)} {f : DEn} (k : Keeps f) : Keeps (dBlL g f) := fun ρ s ρ1 h => by
  unfold dBlL at h
  cases e : f ρ with
  | ok p =>
    rw [e] at h
    obtain ⟨s2, ρ2⟩ := p
    have := k ρ s2 ρ2 e
    subst this
    simp only [Res.bind] at h
    cases e2 : g s2 with
    | none => rw [e2] at h; cases h
    | some u => rw [e2] at h; cases h; rfl
  | ex c r => rw [e] at h; cases h
  | stuck => rw [e] at h; cases h
theorem noex_nil : ∀ ρ c r, dNilN ρ = .ex c r → False := fun _ _ _ h => nomatch h
theorem noex_cons {f1 : DEn} {f2 : DNn} (h2 : ∀ ρ c r, f2 ρ = .ex c r → False) : ∀ ρ c r, dConsN f1 f2 ρ = .ex c r → False := fun ρ c r h => by
  unfold dConsN at h
  cases e1 : f1 ρ with
  | ex c' r' => rw [e1] at h; cases h
  | stuck => rw [e1] at h; cases h
  | ok p =>
    rw [e1] at h
    cases e2 : argN p.1 with
    | none => simp only [e2, Res.lift, Res.bind] at h; cases h
    | some d =>
      simp only [e2, Res.lift, Res.bind] at h
      cases e3 : f2 ρ with
      | ex c' r' => exact h2 ρ c' r' e3
      | stuck => rw [e3] at h; cases h
      | ok q => rw [e3] at h; cases h
theorem an_nil : AN X W [] dNilN := ⟨PA_imp pa_nil fun σ H Q ⟨F, O, ρ, rs, ds, e, h⟩ => by
  cases e
  exact h [] (fun _ => False) H (Same.refl H) .nil fun _ h => h.elim⟩
theorem an_cons {e : Expr} {es : List Expr} {f1 : DEn} {f2 : DNn} (ha : DE X W true e f1) (hk : Keeps f1) (hb : AN X W es f2) (hs : starEach (e :: es) X.env = (false, eval e X.env) :: starEach es X.env := by rfl) : AN X W (e :: es) (dConsN f1 f2) := by
  refine ⟨PA_imp (pa_cons ha.pe hb.pa hs) fun σ H Q ⟨F, O, ρ, rs, ds, e, h⟩ => ⟨F, O, ρ, rs, ?_⟩⟩
  unfold dConsN at e
  cases e1 : f1 ρ with
  | ex c r => rw [e1] at e; cases e
  | stuck => rw [e1] at e; cases e
  | ok p =>
    obtain ⟨s, ρ1⟩ := p
    obtain rfl : ρ = ρ1 := (hk ρ s ρ1 e1).symm
    rw [e1] at e
    cases e2 : argN s with
    | none => simp only [e2, Res.lift, Res.bind] at e; cases e
    | some d =>
      simp only [e2, Res.lift, Res.bind] at e
      cases e3 : f2 ρ with
      | ex c r => rw [e3] at e; cases e
      | stuck => rw [e3] at e; cases e
      | ok ds2 =>
        rw [e3] at e
        cases e
        intro F1 O1 x H1 rs1 v1 st1 pu1
        have sm := pu1 rfl
        refine ⟨F1, O1, ρ, rs1, ds2, e3, fun vs S H' sm' rv nw => ?_⟩
        have up : ∀ a, NewAt F1 H1 O1 σ ρ H' a → NewAt F H O σ ρ H' a := fun a n => by
          refine ⟨?_, ?_, n.h, n.n⟩
          · cases q : F a with
            | none => rfl
            | some o =>
              have := st1.fr a o q
              rw [n.f] at this; cases this
          · rcases n.o with ⟨j, q⟩ | q
            · exact st1.fp a j q
            · exact .inr (st1.back q)
        cases s with
        | un => cases e2
        | par _ => cases e2
        | po _ => cases e2
        | pk _ => cases e2
        | od _ => cases e2
        | sh d' =>
          have e2 : (if d'.noL = true then some d' else none) = some d := e2
          obtain ⟨c, ed⟩ := ite_some e2
          subst ed
          have r1 : R X.K H' x d' := (R.up v1 rs1.fh).up sm'
          exact h (x :: vs) S H' (sm.trans sm') (.cons (R.noL d' x c r1) rv) fun a s => up a (nw a s)
        | own xs =>
          have e2 : (if xs.all D.flat = true then some (D.lst xs) else none) = some d := e2
          obtain ⟨c, ed⟩ := ite_some e2
          subst ed
          obtain ⟨a, us, rfl, q, p, rr⟩ := v1
          obtain ⟨f1n, _⟩ := rs1.out a _ p
          have ap : Apart σ ρ a := fun i ys hi hσ => by
            have key : O1 a = some i ∧ i < ρ.length := by
              rcases hi with hi | hi
              · obtain ⟨b, ws, hb, _, pb, _⟩ := rs1.ok i _ hi
                rw [hσ] at hb; cases hb
                exact ⟨pb, (List.getElem?_eq_some_iff.mp hi).1⟩
              · obtain ⟨b, ws, hb, _, pb, _⟩ := rs1.ok i _ hi
                rw [hσ] at hb; cases hb
                exact ⟨pb, (List.getElem?_eq_some_iff.mp hi).1⟩
            rw [p] at key
            exact absurd (Option.some.inj key.1).symm (Nat.ne_of_lt key.2)
          have na : NewAt F1 H1 O1 σ ρ H' a := ⟨f1n, .inl ⟨_, p⟩, ⟨us, sm' a _ q⟩, ap⟩
          refine h (.ref a :: vs) (fun b => b = a ∨ S b) H' (sm.trans sm') (.cons (.lst (Lf_of (sm' a _ q) (.inl rfl)) (rr.flats c)) (rv.up (Lf_mono (Same.refl H') fun b s => .inr s))) fun b s => ?_
          rcases s with rfl | s
          · exact up _ na
          · exact up b (nw b s)
/-- a flat list that came back is the caller's own -/
@[simp] def Slot.thaw : Slot → Option Slot
  | .own xs => if xs.all D.flat = true then some (.own xs) else none
  | .sh (.lst xs) => if xs.all D.flat = true then some (.own xs) else none
  | .sh d => if d.flat = true then some (.sh d) else none
  | _ => none
@[simp] def dCallN (n : Nat) (G : DFn) (fa : DNn) (ρ : List Slot) : Res (Slot × List Slot) := (fa ρ).bind fun ds => if ds.length = n then (match G (ds.map .sh) with
  | .ok (s, _) => (Res.lift s.thaw).bind fun s' => .ok (s', ρ)
  | .ex c _ => .ex c ρ
  | .stuck => .stuck) else .stuck
theorem de_callN {k : Nat} {x : Str} {ps : List Str} {G : DFn} {e : Expr} {es : List Expr} {p pos : Pos} {fa : DNn} {P : Program} {w : World} {K : PySem.W.Frag} {mg : Str → Option Value} {base : Heap} {A : Around} (tk : Takes X W) (hf : Dfn P w K mg base x ps k G) (hr : Room k A) (ha : AN X W (e :: es) fa) (hx : ∀ ρ c r, fa ρ = .ex c r → False) (hg : Gl X x := by rfl)
    (hdb : (x == ("__debug__" : Str)) = false := by decide) (he : starEach (e :: es) X.env = (false, eval e X.env) :: starEach es X.env := by rfl) (hpl : (backTo pos (starEach es X.env)).any (·.1) = false := by rfl) (hX : X.prog = P ∧ X.w = w ∧ X.K = K ∧ X.mg = mg ∧ X.base = base ∧ X.A = A := by exact ⟨rfl, rfl, rfl, rfl, rfl, rfl⟩) :
    DE X W true (.Call (.Name x p) (e :: es) [] pos) (dCallN ps.length G fa) := by
  obtain ⟨rfl, rfl, rfl, rfl, rfl, rfl⟩ := hX
  obtain ⟨f, fd, ok, hm, hk, hb, _⟩ := hf.ok
  refine ⟨PE_imp (pe_callS (E := WE W) ok hr hg hm hk hb (fun σ => passAt tk σ) ha.pa hdb he hpl) fun σ H Q ⟨F, O, ρ, rs, h⟩ => ⟨F, O, ρ, rs, ?_⟩⟩
  unfold dCallN at h
  cases e1 : fa ρ with
  | ex c r => exact (hx ρ c r e1).elim
  | stuck => rw [e1] at h; exact h.elim
  | ok ds =>
    rw [e1] at h
    have h : (if ds.length = ps.length then (match G (ds.map .sh) with
      | .ok (s, _) => (Res.lift s.thaw).bind fun s' => Res.ok (s', ρ)
      | .ex c _ => .ex c ρ
      | .stuck => .stuck) else .stuck).wp (PV X.K true F O σ H Q) (PX X.K X.mg W F O σ H) := h
    refine ⟨ds, rfl, fun vs S H1 sm rv nw => ?_⟩
    by_cases hl : ds.length = ps.length
    · rw [if_pos hl] at h
      refine ⟨by rw [rv.length]; exact hl, Lf H1 S, fun _ => none, ds.map .sh, RS.callee (Lf_same H1 S) rv, ?_⟩
      have same : ∀ {F' H' : Hp} {O' : Own}, Step (Lf H1 S) H1 (fun _ => none) F' H' O' → Same H H' := fun {F' H' O'} st' => sm.trans fun b o h => st'.keep b o h rfl
      have plain : ∀ {H' : Hp}, Same H H' → RS X.K F σ ρ H' O ∧ Step F H O F H' O := fun {H'} sm' => by
        refine ⟨rs.ext (Same.refl _) (rs.fh.trans sm') (fun a i u ha hi hu => ⟨sm' _ _ hu, ha⟩) (fun b i e => ?_), ⟨fun b o h _ => sm' b o h, fun b o h => ⟨o, sm' b o h⟩, Same.refl _, fun b o h => .inl h, fun b i e => .inl ⟨i, e⟩⟩⟩
        obtain ⟨h1, o, h2⟩ := rs.out b i e
        exact ⟨h1, o, sm' b o h2⟩
      -- a list at a, new or an argument, becomes the caller's own
      have own : ∀ {H' : Hp} {a : Addr} {us : List V} {xs : List D}, Same H H' → H' a = some (.lst us) → Rs X.K F us xs → (H1 a = none ∨ S a) → ∃ O', RS X.K F σ ρ H' O' ∧ VOk X.K F H' O' ρ.length (.own xs) (.ref a) ∧ Step F H O F H' O' := fun {H' a us xs} sm' ha ru hn => by
        have fa : F a = none := by
          rcases hn with hn | hs
          · cases q : F a with
            | none => rfl
            | some o =>
              have := sm a o (rs.fh a o q)
              rw [hn] at this; cases this
          · exact (nw a hs).f
        have ap : Apart σ ρ a := by
          rcases hn with hn | hs
          · intro i ys hi hσ
            have key : ∃ u, H a = some u := by
              rcases hi with hi | hi
              · obtain ⟨b, ws, hb, hq, _, _⟩ := rs.ok i _ hi
                rw [hσ] at hb; cases hb
                exact ⟨_, hq⟩
              · obtain ⟨b, ws, hb, hq, _, _⟩ := rs.ok i _ hi
                rw [hσ] at hb; cases hb
                exact ⟨_, hq⟩
            obtain ⟨u, hu⟩ := key
            have := sm a u hu
            rw [hn] at this; cases this
          · exact (nw a hs).n
        have oo : (∃ j, O a = some j) ∨ H a = none := by
          rcases hn with hn | hs
          · cases q : H a with
            | none => exact .inr rfl
            | some o =>
              have := sm a o q
              rw [hn] at this; cases this
          · exact (nw a hs).o
        refine ⟨fun b => if b = a then some ρ.length else O b, ⟨rs.len, rs.fh.trans sm', fun i s hs => ?_, fun b i e => ?_⟩, ⟨a, us, rfl, ha, by simp, ru⟩, ⟨fun b o h _ => sm' b o h, fun b o h => ⟨o, sm' b o h⟩, Same.refl _, fun b o h => .inl h, fun b i e => ?_⟩⟩
        · have so := rs.ok i s hs
          cases s with
          | un => trivial
          | sh d => exact so
          | own ys =>
            obtain ⟨c, ws, hc, hq, hp, hr⟩ := so
            have ne : c ≠ a := fun e => ap i ys (.inl hs) (by rw [hc, e])
            exact ⟨c, ws, hc, sm' _ _ hq, by simp [ne, hp], hr⟩
          | par ys =>
            obtain ⟨c, ws, hc, hq, hp, hr⟩ := so
            have ne : c ≠ a := fun e => ap i ys (.inr hs) (by rw [hc, e])
            exact ⟨c, ws, hc, sm' _ _ hq, by simp [ne, hp], hr⟩
          | po _ => exact so
          | pk _ => exact so
          | od ys =>
            obtain ⟨c, ws, hc, hq, hp, mm, hr⟩ := so
            have ne : c ≠ a := fun e => by subst e; have := sm' _ _ hq; rw [ha] at this; cases this
            exact ⟨c, ws, hc, sm' _ _ hq, by simp [ne, hp], mm, hr⟩
        · by_cases hb : b = a
          · subst hb; exact ⟨fa, _, ha⟩
          · simp [hb] at e
            obtain ⟨h1, o, h2⟩ := rs.out b i e
            exact ⟨h1, o, sm' b o h2⟩
        · by_cases hb : b = a
          · subst hb; exact oo
          · simp [hb] at e; exact .inl ⟨i, e⟩
      cases hG : G (ds.map .sh) with
      | stuck => rw [hG] at h; exact h.elim
      | ex c ρ' =>
        rw [hG] at h
        intro F' O' H' rs' st'
        obtain ⟨a, b⟩ := plain (same st')
        exact h F O H' a b
      | ok q =>
        obtain ⟨s, ρ'⟩ := q
        rw [hG] at h
        intro F' O' v H' rs' vo st' _
        have h : ((Res.lift s.thaw).bind fun s' => Res.ok (s', ρ)).wp (PV X.K true F O σ H Q) (PX X.K X.mg W F O σ H) := h
        rw [Res.wp_bind, Res.wp_lift] at h
        obtain ⟨s', hs', h⟩ := h
        have sm' := same st'
        have flat : ∀ d : D, s = .sh d → s' = .sh d → d.flat = true → Q v H' := fun d e1 e2 c => by
          subst e1 e2
          obtain ⟨a, b⟩ := plain sm'
          exact h F O v H' a (R.flat_any vo c) b fun _ => sm'
        have lst : ∀ xs a us, s' = .own xs → v = .ref a → H' a = some (.lst us) → Rs X.K F' us xs → xs.all D.flat = true → (H1 a = none ∨ S a) → Q v H' := fun xs a us e1 e2 ha ru c hn => by
          subst e1 e2
          obtain ⟨O2, r1, r2, r3⟩ := own sm' ha (ru.flats c) hn
          exact h F O2 (.ref a) H' r1 r2 r3 fun _ => sm'
        cases s with
        | un => cases hs'
        | par _ => cases hs'
        | po _ => cases hs'
        | pk _ => cases hs'
        | od _ => cases hs'
        | own xs =>
          have hs' : (if xs.all D.flat = true then some (Slot.own xs) else none) = some s' := hs'
          obtain ⟨c, e⟩ := ite_some hs'
          obtain ⟨a, us, rfl, ha, hp, ru⟩ := vo
          refine lst xs a us e.symm rfl ha ru c (.inl ?_)
          rcases st'.fp a _ hp with ⟨j, z⟩ | z
          · cases z
          · exact z
        | sh d =>
          cases d with
          | lst xs =>
            have hs' : (if xs.all D.flat = true then some (Slot.own xs) else none) = some s' := hs'
            obtain ⟨c, e⟩ := ite_some hs'
            have vo : R X.K F' v (.lst xs) := vo
            cases vo with
            | @lst a us _ ha ru =>
              refine lst xs a us e.symm rfl (rs'.fh _ _ ha) ru c ?_
              rcases st'.low a _ ha with z | ⟨j, z⟩ | z
              · exact .inr (Lf_lst z)
              · cases z
              · exact .inl z
          | non => cases hs'; exact flat _ rfl rfl rfl
          | bl b => cases hs'; exact flat _ rfl rfl rfl
          | int b => cases hs'; exact flat _ rfl rfl rfl
          | str b => cases hs'; exact flat _ rfl rfl rfl
          | tup _ => cases hs'
          | scr _ => cases hs'
          | dct _ _ => cases hs'
          | tpx _ => cases hs'
          | exc _ => cases hs'
    · rw [if_neg hl] at h; exact h.elim
end
end DL
/-! DL: t + u of tuples, xs.index(e), xs.insert(i, e) -/
namespace DL
open PySem PySem.Spec PyProof.Rows L2
section
variable {X : Cx} {W : WX}
/-! t + u -/
@[simp] noncomputable def catU : Slot → Slot → Option (List D)
  | .sh (.tup xs), .sh (.tup ys) => if xs.length + ys.length ≤ sizeLine then some (xs ++ ys) else none
  | _, _ => none
@[simp] noncomputable def dBinU (pb : Bool) (f1 f2 : DEn) (ρ : List Slot) : Res (Slot × List Slot) := (f1 ρ).bind fun p => (Res.lift (p.1.holdS pb)).bind fun s => (f2 p.2).bind fun q => (Res.lift (catU s q.1)).bind fun u => .ok (.sh (.tup u), q.2)
theorem de_binU {pa pb : Bool} {a b : Expr} {pos : Pos} {f1 f2 : DEn} (ha : DE X W pa a f1) (hb : DE X W pb b f2) : DE X W (pa && pb) (.BinOp a .Add b pos) (dBinU pb f1 f2) := by
  refine ⟨PE_imp (pe_op op_catA ha.pe hb.pe) fun σ H Q ⟨F, O, ρ, rs, h⟩ => two_peS (k := fun s t ρ2 => (Res.lift (catU s t)).bind fun u => Res.ok (Slot.sh (.tup u), ρ2)) rs h fun s t ρ2 F2 O2 x y H2 rs2 st p vx vy hk => ?_⟩
  rw [Res.wp_bind, Res.wp_lift] at hk
  obtain ⟨u, hu, hk⟩ := hk
  cases s with
  | sh d =>
    cases d with
    | tup xs =>
      cases t with
      | sh e =>
        cases e with
        | tup ys =>
          have hu : (if xs.length + ys.length ≤ sizeLine then some (xs ++ ys) else none) = some u := hu
          obtain ⟨c, eu⟩ := ite_some hu
          subst eu
          have vx : R X.K F2 x (.tup xs) := vx
          have vy : R X.K F2 y (.tup ys) := vy
          have hx := vx
          have hy := vy
          cases vx with
          | @tup a vs _ sa ra =>
            cases vy with
            | @tup b ws _ sb rb =>
              refine ⟨a, b, vs, ws, rfl, rfl, same_seqT rs2.fh sa, same_seqT rs2.fh sb, by rw [ra.length, rb.length]; exact c, fun e => ?_, fun _ e => ?_, fun _ _ q nq => ?_⟩
              · subst e
                cases ra
                exact hk F2 O2 _ H2 rs2 hy st p
              · subst e
                cases rb
                rw [List.append_nil] at hk
                exact hk F2 O2 _ H2 rs2 hx st p
              · obtain ⟨r1, r2, r3, r4⟩ := rs2.newTup nq (ra.append rb)
                exact hk _ _ _ _ r1 r2 (st.trans r3) fun z => (p z).trans r4
        | _ => cases hu
      | _ => cases hu
    | _ => cases hu
  | _ => cases hu
/-! xs.index(e) -/
noncomputable def gIdx : D → D → Option D
  | .lst xs, d => if fits xs 59 = true ∧ d.fit 60 = true then (xs.findIdx? fun y => deq y d).map fun j => .int (j : Nat) else none
  | _, _ => none
@[simp] noncomputable def dIdxL (pb : Bool) (f1 f2 : DEn) (ρ : List Slot) : Res (Slot × List Slot) :=
  (f1 ρ).bind fun p => (Res.lift (p.1.hold pb)).bind fun d => (Res.lift (asLst d)).bind fun xs => (f2 p.2).bind fun q => (Res.lift q.1.val).bind fun e => (Res.lift (gIdx (.lst xs) e)).bind fun z => .ok (.sh z, q.2)
theorem toPys_at : ∀ (xs : List D) (j : Nat), (toPys xs)[j]? = (xs[j]?).map D.toPy
  | [], j => by simp [toPys]
  | x :: xs, 0 => by simp [toPys]
  | x :: xs, j + 1 => by
    show (toPys xs)[j]? = _
    rw [toPys_at xs j]; simp
theorem fits_at : ∀ {xs : List D} {n j : Nat} {x : D}, fits xs n = true → xs[j]? = some x → x.fit n = true
  | [], _, _, _, _, h => by simp at h
  | y :: xs, n, 0, x, f, h => by
    have a : y.fit n = true ∧ fits xs n = true := by simpa [fits] using f
    have : y = x := by simpa using h
    rw [← this]; exact a.1
  | y :: xs, n, j + 1, x, f, h => by
    have a : y.fit n = true ∧ fits xs n = true := by simpa [fits] using f
    exact fits_at (j := j) a.2 (by simpa using h)
theorem de_index {k : Nat} {A : Around} {pa pb : Bool} {o e : Expr} {f1 f2 : DEn} {apos cpos : Pos} (hr : Room k A) (ho : DE X W pa o f1) (he : DE X W pb e f2) (hA : X.A = A := by rfl)
    (hb : PE X o (dE X.K X.mg W pa f1) → PA X [e] (tCons (dE X.K X.mg W pb f2) tNil) → X.A.units + 65 < cLine → PE X (.Call (.Attribute o "index" apos) [e] [] cpos) (tBM X.K "list" (rIndexD X.K) (dE X.K X.mg W pa f1) (tCons (dE X.K X.mg W pb f2) tNil)) := by
      intro h1 h2 hu; exact pe_bm PySem.F.plainAttrs_list PySem.F.slot_list_index PySem.F.type_list_index (mt_indexD hu) h1 h2)
    (hst : starEach (e :: []) X.env = (false, eval e X.env) :: starEach [] X.env := by rfl) :
    DE X W (pa && pb) (.Call (.Attribute o "index" apos) [e] [] cpos) (dIdxL pb f1 f2) := by
  refine ⟨PE_imp (hb ho.pe (pa_cons he.pe pa_nil hst) (by rw [hA]; have := hr.un; omega)) fun σ H Q ⟨F, O, ρ, rs, h⟩ => ⟨F, O, ρ, rs, ?_⟩⟩
  unfold dIdxL at h
  rw [Res.wp_bind] at h
  refine Res.wp_mono h (fun p hp => ?_) (fun _ _ e => e)
  intro F1 O1 x H1 rs1 v1 st1 pu1
  rw [Res.wp_bind, Res.wp_lift] at hp
  obtain ⟨d, hd, hp⟩ := hp
  obtain ⟨F1', O1', rs1', st1', hh⟩ := rs1.hold v1 hd
  have rx1 : R X.K H1 x d := by
    rcases hh with r | ⟨_, r⟩
    · exact r.up rs1'.fh
    · exact r
  rw [Res.wp_bind, Res.wp_lift] at hp
  obtain ⟨xs, hxs, hp⟩ := hp
  have hd2 : d = .lst xs := by
    cases d <;> first | (cases hxs; rfl) | cases hxs
  subst hd2
  refine ⟨by
    cases rx1 with
    | lst q r => exact .inl ⟨rfl, _, SqL.of q⟩, F1', O1', p.2, rs1', ?_⟩
  rw [Res.wp_bind] at hp
  refine Res.wp_mono hp (fun q hq => ?_) (PX.step (st1.trans st1'))
  intro F2 O2 y H2 rs2 v2 st2 pu2
  rw [Res.wp_bind, Res.wp_lift] at hq
  obtain ⟨e, he, hq⟩ := hq
  rw [Res.wp_bind, Res.wp_lift] at hq
  obtain ⟨z, hz, hq⟩ := hq
  have rx2 : R X.K H2 x (.lst xs) := by
    rcases hh with r | ⟨b, r⟩
    · exact (r.up st2.fr).up rs2.fh
    · exact r.up (pu2 b)
  have ry := v2.read rs2.fh he
  have hz : (if fits xs 59 = true ∧ e.fit 60 = true then (xs.findIdx? fun y => deq y e).map fun j => D.int (j : Nat) else none) = some z := hz
  by_cases c : fits xs 59 = true ∧ e.fit 60 = true
  · rw [if_pos c] at hz
    obtain ⟨j, hj, ez⟩ := Option.map_eq_some_iff.mp hz
    subst ez
    obtain ⟨h1, h2, h3⟩ := List.findIdx?_eq_some_iff_getElem.mp hj
    have fl : D.fit (.lst xs) 60 = true := c.1
    have dl : Dp X.K H2 x (.list (toPys xs)) := R.dp (.lst xs) x 60 fl rx2
    cases rx2 with
    | lst q r =>
      have gx : xs[j]? = some xs[j] := List.getElem?_eq_getElem h1
      refine ⟨_, y, e.toPy, toPys xs, j, (xs[j]).toPy, rfl, rfl, dl, R.dp e y 60 c.2 ry, fit_shaped (d := .lst xs) fl, fit_shaped c.2, by rw [toPys_at, gx]; rfl, ?_, fun m z' hm hz' => ?_, ?_⟩
      · rw [← deq_py _ _ 59 60 (fits_at c.1 gx) c.2]; exact h2
      · rw [toPys_at] at hz'
        obtain ⟨w, hw, ew⟩ := Option.map_eq_some_iff.mp hz'
        subst ew
        rw [← deq_py _ _ 59 60 (fits_at c.1 hw) c.2]
        obtain ⟨hml, hwe⟩ := List.getElem?_eq_some_iff.mp hw
        have := h3 m hm
        rw [hwe] at this
        simpa using this
      · refine hq F2 O2 _ H2 rs2 (.int _) (st1.trans (st1'.trans st2)) fun a => ?_
        simp only [Bool.and_eq_true] at a
        exact (pu1 a.1).trans (pu2 a.2)
  · rw [if_neg c] at hz; cases hz
/-! e in xs, compared as data -/
@[simp] noncomputable def gInD : D → D → Option D
  | d, .lst xs => if d.fit 60 = true ∧ fits xs 59 = true then some (.bl (xs.any fun y => deq y d)) else none
  | _, _ => none
theorem any_py : ∀ (xs : List D) (d : D), fits xs 59 = true → d.fit 60 = true → (xs.any fun y => deq y d) = (toPys xs).any fun z => PyData.eqv z d.toPy
  | [], _, _, _ => rfl
  | x :: xs, d, h, hd => by
    have a : x.fit 59 = true ∧ fits xs 59 = true := by simpa [fits] using h
    show List.any (x :: xs) _ = List.any (x.toPy :: toPys xs) _
    rw [List.any_cons, List.any_cons, any_py xs d a.2 hd, deq_py x d 59 60 a.1 hd]
theorem os_inD {k : Nat} {A : Around} (hr : Room k A) (hA : X.A = A := by rfl) : OpS X (compareOp .In) gInD := ⟨_, op_inD (by rw [hA]; have := hr.un; omega), fun H x y d e z Q rx ry hz q => by
  cases e with
  | lst xs =>
    have hz : (if d.fit 60 = true ∧ fits xs 59 = true then some (D.bl (xs.any fun y => deq y d)) else none) = some z := hz
    obtain ⟨c, ez⟩ := ite_some hz
    subst ez
    have fl : D.fit (.lst xs) 60 = true := c.2
    refine ⟨_, toPys xs, R.dp d x 60 c.1 rx, R.dp (.lst xs) y 60 fl ry, fit_shaped c.1, fit_shaped (d := .lst xs) fl, ?_⟩
    rw [← any_py xs d c.2 c.1]
    exact q rfl
  | _ => cases hz⟩
/-! xs.insert(i, e), xs a name of an own list -/
def rIns : V → List V → Hp → VK → Prop := fun x vs H Q => ∃ (l : Addr) (xs : List V) (i : Int) (y : V), x = .ref l ∧ vs = [.int i, y] ∧ H l = some (.lst xs) ∧ xs.length < sizeLine ∧ 0 ≤ i ∧ i < 2 ^ 63 ∧
    Q .non (upd H l (.lst (xs.take i.toNat ++ [y] ++ xs.drop i.toNat)))
@[simp] noncomputable def dIns (i : Nat) (fa : DLn) (ρ : List Slot) : Out := match ρ[i]?.bind Slot.lp with
  | none => .stuck
  | some _ => (fa ρ).out fun ds ρ1 => match ds, ρ1[i]? with
    | [.int k, d], some t => (match t.lp with
      | some xs => if xs.length < sizeLine ∧ 0 ≤ k ∧ k < 1000000000 then .nx (ρ1.set i (t.put (xs.take k.toNat ++ [d] ++ xs.drop k.toNat))) else .stuck
      | none => .stuck)
    | _, _ => .stuck
theorem ds_ins {I : List Nat} {y : Str} {pu : Bool} {e1 e2 : Expr} {fa : DLn} {py apos pos cpos : Pos} (i : Nat) (he : AF X W pu [e1, e2] fa) (hN : X.N[i]? = some y := by rfl)
    (hvis : Vis X.env.scope y := by first | exact Or.inl rfl | exact Or.inr (Or.inl rfl) | exact Or.inr (Or.inr rfl)) (hd : (y == ("__debug__" : Str)) = false := by decide) (hcd : (y == ("__classdict__" : Str)) = false := by decide)
    (ha : PE X (.Name y py) (tVar i) → PA X [e1, e2] (dAF X.K X.mg W pu fa) → PE X (.Call (.Attribute (.Name y py) "insert" apos) [e1, e2] [] cpos) (tBM X.K "list" rIns (tVar i) (dAF X.K X.mg W pu fa)) := by
      intro h1 h2; exact pe_bm PySem.F.plainAttrs_list PySem.F.slot_list_insert PySem.F.type_list_insert mt_insert h1 h2)
    (hs : swapsWith (.Call (.Attribute (.Name y py) "insert" apos) [e1, e2] [] cpos) none pos.line X.env = pure false := by rfl) : DS X W I (.Expr (.Call (.Attribute (.Name y py) "insert" apos) [e1, e2] [] cpos) pos) (dIns i fa) := by
  refine ⟨PS_imp (ps_expr (ha (pe_var hN hvis hd hcd) he.pa) hs) fun D σ H ⟨F, O, ρ, rs, h⟩ => ?_⟩
  unfold dIns at h
  cases h0 : ρ[i]?.bind Slot.lp with
  | none => simp only [h0] at h; exact h.elim
  | some xs0 =>
    simp only [h0] at h
    cases hρ : ρ[i]? with
    | none => rw [hρ] at h0; cases h0
    | some s0 =>
      rw [hρ] at h0
      obtain ⟨a, vs0, ea, hH0, _, _⟩ := slot_lp (rs.ok i s0 hρ) h0
      refine ⟨.ref a, join_some ea, .inl ⟨rfl, _, SqL.of hH0⟩, F, O, ρ, rs, out_wp h fun ds ρ1 h => ?_⟩
      intro F1 O1 vs H1 rs1 v1 st1 _
      have v1 : Rs X.K F1 vs ds := v1
      cases v1 with
      | nil => exact h.elim
      | @cons v vs d0 ds r1 rr =>
        cases d0 with
        | int k =>
          cases rr with
          | nil => exact h.elim
          | @cons v2 vs2 d ds2 r2 rr2 =>
            cases rr2 with
            | cons _ _ => exact h.elim
            | nil =>
              cases ht : ρ1[i]? with
              | none => simp only [ht] at h; exact h.elim
              | some t =>
                simp only [ht] at h
                cases hl : t.lp with
                | none => simp only [hl] at h; exact h.elim
                | some xs =>
                  simp only [hl] at h
                  obtain ⟨a', us, ea', hH, oa, rx⟩ := slot_lp (rs1.ok i t ht) hl
                  rw [ea] at ea'
                  cases ea'
                  by_cases hc : xs.length < sizeLine ∧ 0 ≤ k ∧ k < 1000000000
                  · rw [if_pos hc] at h
                    cases r1
                    refine ⟨a, us, k, v2, rfl, rfl, hH, by rw [rx.length]; exact hc.1, hc.2.1, by omega, ?_⟩
                    obtain ⟨rs3, st3⟩ := rs1.change ht hl ea oa (((rx.take k.toNat).append (.cons r2 .nil)).append (rx.drop k.toNat))
                    exact h F1 O1 σ _ rs3 (st1.trans st3) .refl
                  · rw [if_neg hc] at h; exact h.elim
        | _ => exact h.elim
end
end DL
/-! DL: enumerate over a list or a tuple -/
namespace DL
open PySem PySem.Spec PyProof.Rows L2
abbrev eA1 (h : Heap) (k : Bool) (a : Addr) : Heap := h.push { cls := .type (nmA k), data := .fields #[.ref a, .int 0 0] }
abbrev eA2 (h : Heap) (k : Bool) (a : Addr) : Heap := (eA1 h k a).push { cls := .type "enumerate", data := .fields #[.none, .bool false, .ref h.objs.size, rawInt 0, .none, .none] }
theorem meets_enumA (k : Bool) (a : Addr) (xs : Array Value) :
    Meets (Builtin.«enumerate.__new__» ⟨[.type "enumerate", .ref a], []⟩) (fun _ R s => IsA s.heap k a xs ∧ R (.ok (.ret (.ref (eA1 s.heap k a).objs.size))) { s with heap := eA2 s.heap k a }) :=
  .of_wp fun prog w A R s h => by
    obtain ⟨hp, g, d, tk, os⟩ := s
    obtain ⟨h1, h⟩ := h
    have hsub := sub_enumerate
    have hA : IsA (Shared.heap ⟨hp, g, d, tk, os⟩) k a xs := h1
    obtain ⟨o0, e0⟩ : ∃ o0, hp.get? a = some o0 := by
      cases k
      · obtain ⟨o, e, _⟩ := id h1; exact ⟨o, e⟩
      · obtain ⟨o, e, _⟩ := id h1; exact ⟨o, e⟩
    obtain ⟨c0, dct, dt, sl⟩ := o0
    have q1 : ∀ {A' : Around} {E : Value → Shared → Prop} {Q : Value → Shared → Prop}, Q (.ref hp.objs.size) ⟨eA1 hp k a, g, d, tk, os⟩ → wpAny (model prog w) A' (pyIter (.ref a)) Q E ⟨hp, g, d, tk, os⟩ := fun q => iter_A hA q
    wp_walk using wpAny_loadPart' e0, q1
    refine wpAny_stack_any fun st => wpAny_pure ?_
    split
    · rename_i c _ _ _ _ _
      cases (c == Value.type "enumerate")
      · wp_walk using wpAny_loadPart' e0, q1
        exact ⟨_, rfl, h⟩
      · wp_walk using wpAny_loadPart' e0, q1
        exact ⟨_, rfl, h⟩
    · wp_walk using wpAny_loadPart' e0, q1
      exact ⟨_, rfl, h⟩
theorem call_enumA {prog : Program} {w : World} {A : Around} {E : Value → Shared → Prop} {s : Shared} {k : Bool} {a : Addr} {xs : Array Value} {Q : Value → Shared → Prop} (h1 : IsA s.heap k a xs)
    (h : ∀ h' : Heap, IsEnum h' (s.heap.objs.size + 1) s.heap.objs.size 0 .none → ItA h' k s.heap.objs.size a 0 → (∀ c o, s.heap.get? c = some o → h'.get? c = some o) → Q (.ref (s.heap.objs.size + 1)) { s with heap := h' }) :
    wpAny (model prog w) A (call (.type "enumerate") [.ref a]) Q E s := by
  refine callType_new F.called_enumerate (by decide) (F.typeCall_enumerate_1 _) (F.newCall_enumerate_1 _) (fun obj => F.args_object_init_2 obj _) F.entry_enumerate_new
    (meets_enumA k a xs) ⟨h1, ?_⟩
  have n1 : (eA1 s.heap k a).objs.size = s.heap.objs.size + 1 := Heap.size_push ..
  have up : ∀ {h : Heap} {c : Addr} {o o' : Obj}, h.get? c = some o → (h.push o').get? c = some o := fun e => Heap.get?_push_of_some _ e
  have g2 : (eA2 s.heap k a).get? (eA1 s.heap k a).objs.size = some _ := Heap.get?_push_size _ rfl
  have g1 : (eA2 s.heap k a).get? s.heap.objs.size = some _ := up (Heap.get?_push_size _ rfl)
  show _ ∧ _
  rw [n1] at g2
  rw [n1]
  refine ⟨⟨_, g2, rfl⟩, h _ g2 ?_ fun c o x => up (up x)⟩
  cases k <;> exact ⟨_, g1, rfl, rfl⟩
def ItEn (K : PySem.W.Frag) (k : Bool) (a : Addr) : It where
  go := fun i H => ∃ (xs : List V) (x : V), SqA K k H a xs ∧ xs[i]? = some x
  yld := fun i H v H' => ∃ T x, v = .ref T ∧ H T = none ∧ H' = upd H T (.tup [.int (i : Nat), x]) ∧ ∀ xs, SqA K k H a xs → xs[i]? = some x
  stop := fun i H => ∃ xs : List V, SqA K k H a xs ∧ i = xs.length
theorem turn_enA {P : Program} {w : World} {K : PySem.W.Frag} {elts : List Expr} {kk : Nat} {tpos : Pos} {k : Bool} {a e it : Addr} (hei : e ≠ it) (hea : e ≠ a) (hai : a ≠ it) :
    Turn P w K (.Tuple elts kk tpos) (ItEn K k a) [e, it] e (fun i h => (∃ old, IsEnum h e it ((i : Nat) : Int) old) ∧ ItA h k it a i) where
  mem := by simp
  obj := fun i h st b hb => by
    obtain ⟨⟨old, he⟩, t1⟩ := st
    obtain ⟨o1, e1, d1⟩ := t1.obj
    have e' : b = e ∨ b = it := by simpa using hb
    rcases e' with z | z
    · rw [z]; exact ⟨_, he, fun v q => nomatch q⟩
    · rw [z]; exact ⟨o1, e1, fun v q => by rw [d1] at q; cases q⟩
  keep := fun i h h' st g => let ⟨⟨old, he⟩, hi⟩ := st; ⟨⟨old, g e (by simp) _ he⟩, hi.at fun o q => g it (by simp) o q⟩
  item := by
    intro X hP hw hK hc i pins s σ H E I hf st hg
    subst hP hw hK
    obtain ⟨⟨old, he⟩, t1⟩ := st
    obtain ⟨xs, x, hq, hx⟩ := hg
    obtain ⟨its, rv, p, la⟩ := inv_A I hq
    obtain ⟨u, hu, ru⟩ := rv.get hx
    have hh : X.A.in1.handled = none := show X.A.handled = none from I.ok.hd hc
    have L1 : i < its.toArray.size := by have := (List.getElem?_eq_some_iff.mp hu).1; simpa using this
    have hel : e < s.heap.objs.size := Heap.lt_size he
    have hil : it < s.heap.objs.size := by obtain ⟨_, q, _⟩ := t1.obj; exact Heap.lt_size q
    refine wpAny_pyNext_enum_itemD (draws_A hh k it a hai its.toArray) he ⟨t1, p⟩ L1 hei (by simp [hei, hea]) fun v h' tk g ho hst' hT hsz hk => ?_
    have ev : v = u := by rw [List.getElem?_toArray, hu] at g; cases g; rfl
    subst ev
    refine ⟨_, rfl, wpAny_letOwnedTupleGo_enum (s := { s with heap := h', toks := tk + 1 }) ho fun h'' he' sb => ?_⟩
    have hT2 : h''.get? s.heap.objs.size = some { cls := .type "tuple", data := .seq #[.int i tk, v] } := (sb.2 _ (Nat.ne_of_gt hel)).trans hT
    have new : ObjOk X.prog X.w (upd H s.heap.objs.size (.tup [.int (i : Nat), x])) h'' s.heap.objs.size (.tup [.int (i : Nat), x]) :=
      ⟨by show 2 ≤ sizeLine; decide, [.int i tk, v], .cons ⟨_, rfl⟩ (.cons ru .nil), ⟨_, hT2, rfl, _, rfl⟩⟩
    have I1 : Inv X pins σ (upd H s.heap.objs.size (.tup [.int (i : Nat), x])) { s with heap := h'', toks := tk + 1 } :=
      I.turnedNew (ch := [e, it]) (fun b ob hb q => (sb.2 b (fun z => hb (by simp [z]))).trans (hk b ob (fun z => hb (by simp [z])) (fun z => hb (by simp [z])) q)) hf (Nat.le_refl _) new
    refine ⟨.ref s.heap.objs.size, _, I1, rfl, ⟨_, x, rfl, I.hok.fresh (Nat.le_refl _), rfl, fun ys hy => by rw [inj_A I hy hq]; exact hx⟩, ⟨⟨v, ?_⟩, hst'.1.at fun o q => (sb.2 it (Ne.symm hei)).trans q⟩, fun b hb => ?_⟩
    · have e1 : ((i + 1 : Nat) : Int) = (i : Int) + 1 := by omega
      rw [e1]; exact he'
    · have hb' : b < s.heap.objs.size := by
        have e' : b = e ∨ b = it := by simpa using hb
        rcases e' with z | z
        · rw [z]; exact hel
        · rw [z]; exact hil
      rw [upd_ne (Nat.ne_of_lt hb')]
      exact (hf b hb).1
  done := by
    intro X hP hw hK hc i pins s σ H E I hf st hg
    subst hP hw hK
    obtain ⟨⟨old, he⟩, t1⟩ := st
    obtain ⟨xs, hq, hx⟩ := hg
    obtain ⟨its, rv, p, la⟩ := inv_A I hq
    have hh : X.A.in1.handled = none := show X.A.handled = none from I.ok.hd hc
    obtain ⟨f0, f1, f2, f3, f4, f5⟩ := hf it (by simp)
    have n1 : i = its.toArray.size := by rw [hx, rv.length]; simp
    subst n1
    exact wpAny_pyNext_enum_endD (draws_A hh k it a hai its.toArray) he ⟨t1, p⟩ fun h' eb => ⟨rfl, I.turned (t' := s.toks) (fun b o hb q => eb b o hb q) f0 f1 f3 f4 f5⟩
  self := fun A i s Q E st h => let ⟨⟨_, he⟩, _⟩ := st; wpAny_pyIter_enum he h
def iEnA (K : PySem.W.Frag) (ta : TA) : TI := fun σ H R => ta σ H fun vs H1 => ∃ k a xs, vs = [.ref a] ∧ SqA K k H1 a xs ∧ R (ItEn K k a) H1
theorem pi_enA {X : Cx} {e : Expr} {ta : TA} {p pos tpos : Pos} {elts : List Expr} {kk : Nat} (hg : Gl X "enumerate") (hm : X.mg "enumerate" = none) (ha : PA X [e] ta) (hs : starEach [e] X.env = [(false, eval e X.env)] := by rfl) :
    PI X (.Tuple elts kk tpos) (.Call (.Name "enumerate" p) [e] [] pos) (iEnA X.K ta) := by
  refine ⟨fun pins s σ H R I h => ?_⟩
  refine Call_ (ld_blt I hg hm boot_enumerate (PyProof.Rows.callWith_type1 (thn (ha.run pos pins s σ H _ I h) fun us s1 ⟨vs, H1, I1, r1, q1⟩ => ?_) hs rfl))
  obtain ⟨k, a, xs, ex, hq, q⟩ := q1
  subst ex
  cases r1 with
  | cons r rr =>
    cases rr
    cases r
    obtain ⟨its, rv, p', la⟩ := inv_A I1 hq
    refine call_enumA p' fun h' he hit hk => wpAny_pyIter_enum he ?_
    have I2 : Inv X pins σ H1 { s1 with heap := h' } := I1.kept (t' := s1.toks) hk
    refine ⟨s1.heap.objs.size + 1, [s1.heap.objs.size + 1, s1.heap.objs.size], _, _, H1, rfl, I2, turn_enA (a := a) (e := s1.heap.objs.size + 1) (it := s1.heap.objs.size) (Nat.succ_ne_self _) ?_ ?_, ⟨⟨.none, he⟩, hit⟩, fun b hb => ?_, q⟩
    · exact Nat.ne_of_gt (Nat.lt_succ_of_lt la)
    · exact Nat.ne_of_lt la
    have e' : b = s1.heap.objs.size + 1 ∨ b = s1.heap.objs.size := by simpa using hb
    have hle : s1.heap.objs.size ≤ b := by
      rcases e' with z | z
      · rw [z]; exact Nat.le_add_right _ _
      · rw [z]; exact Nat.le_refl _
    exact I1.fpOk hle (I1.hok.fresh hle)
theorem walk_enA {K : PySem.W.Frag} {k : Bool} {a : Addr} {xs : List V} : Walk (ItEn K k a) xs.length (fun H => SqA K k H a xs) (YPair (fun i => some (.int (i : Nat))) (fun i => xs[i]?)) := by
  refine ⟨fun i _ hi q => ⟨xs, xs[i], q, by simp [hi]⟩, fun _ q => ⟨xs, q, rfl⟩, fun i H v H' _ q y => ?_⟩
  obtain ⟨T, x, h1, h2, h3, h4⟩ := y
  exact ⟨T, .int (i : Nat), x, h1, h2, h3, rfl, h4 xs q⟩
section
variable {X : Cx} {W : WX}
@[simp] noncomputable def dEnumA (f : DEn) (ρ : List Slot) : Res ((Bool × List D) × List Slot) := (f ρ).bind fun p => (Res.lift (p.1.holdS true)).bind fun s => (Res.lift s.zw).bind fun x => .ok ((x.1, (((List.range x.2.length).map fun i => D.int (i : Nat)).zip x.2).map fun p => D.tup [p.1, p.2]), p.2)
theorem di_enumA {pa : Bool} {a : Expr} {p pos tpos : Pos} {elts : List Expr} {kk : Nat} {f : DEn} (hm : X.mg "enumerate" = none) (ha : DE X W pa a f)
    (hz : X.mg "enumerate" = none → PA X [a] (tCons (dE X.K X.mg W pa f) tNil) → PI X (.Tuple elts kk tpos) (.Call (.Name "enumerate" p) [a] [] pos) (iEnA X.K (tCons (dE X.K X.mg W pa f) tNil)) := by intro hm h; exact pi_enA (by rfl) hm h)
    (hs : starEach (a :: []) X.env = (false, eval a X.env) :: starEach [] X.env := by rfl) : DI X W pa (.Tuple elts kk tpos) (.Call (.Name "enumerate" p) [a] [] pos) (dEnumA f) := by
  refine ⟨PI_imp (hz hm (pa_cons ha.pe pa_nil hs)) fun σ H Q ⟨F, O, ρ, rs, h⟩ => ⟨F, O, ρ, rs, ?_⟩⟩
  unfold dEnumA at h
  rw [Res.wp_bind] at h
  refine Res.wp_mono h (fun p hp => ?_) (fun _ _ e => e)
  intro F1 O1 x H1 rs1 v1 st1 pu1
  rw [Res.wp_bind, Res.wp_lift] at hp
  obtain ⟨t', ht, hk⟩ := hp
  obtain ⟨F3, O3, rs3, st3, vy', ky⟩ := rs1.holdS v1 ht
  rw [Res.wp_bind, Res.wp_lift] at hk
  obtain ⟨sx, hx, hk⟩ := hk
  obtain ⟨k1, a, vs, rfl, q1, r1, f1⟩ := vy'.seqs rs3.fh hx
  refine ⟨k1, a, vs, rfl, q1, hk F3 O3 H1 _ rs3 (st1.trans st3) pu1 ?_⟩
  refine walk_pairs (walk_enA (K := X.K) (k := k1) (a := a) (xs := vs)) (by simp [r1.length]) q1 (fun z H' sm => SqA.same sm (f1 z)) (fun H' sm => SqA.same sm q1) (fun i d v hd hv => ?_) (fun i d v hd hv => ?_)
  · cases hv
    rw [List.getElem?_map] at hd
    cases q : (List.range sx.2.length)[i]? with
    | none => rw [q] at hd; cases hd
    | some j =>
      rw [q] at hd
      cases hd
      have : j = i := by
        by_cases hl : i < sx.2.length
        · rw [List.getElem?_range hl] at q; exact (Option.some.inj q).symm
        · rw [List.getElem?_eq_none (by simpa using hl)] at q; cases q
      subst this
      exact .int _
  · obtain ⟨v', hv', rv⟩ := r1.get hd
    rw [hv'] at hv; cases hv; exact rv
end
end DL
/-! DL: xs, n = [..], 1; a call that peeks at an own list and gives back what has no list within -/
namespace DL
open PySem PySem.Spec PyProof.Rows L2
section
variable {X : Cx} {W : WX} {I : List Nat}
@[simp] noncomputable def dParC (i j : Nat) (f : DEn) (d : D) (ρ : List Slot) : Out := (f ρ).out fun s ρ1 => match s.st with
  | some t => .nx ((ρ1.set i t).set j (.sh d))
  | none => .stuck
theorem ds_parC {x y : Str} {pu : Bool} {a : Expr} {k : Int} {jj pc} {f : DEn} {px py pt : Pos} {kt k2 pt2} {pos : Pos} (i j : Nat) (hc : X.calm = true) (hN : X.N.Nodup) (ha : DE X W pu a f)
    (hw : swappedStores [.Tuple [.Name x px, .Name y py] kt pt] (.Tuple [a, .Constant (.int k) jj pc] k2 pt2) X.env = pure (some [x, y]))
    (hi : X.N[i]? = some x := by rfl) (hj : X.N[j]? = some y := by rfl) (hij : i ≠ j := by decide) (hx : X.env.scope.names.lookup x = some .local := by rfl) (hy : X.env.scope.names.lookup y = some .local := by rfl) (hI : i ∉ I := by decide) (hJ : j ∉ I := by decide)
    (hs : swapsWithSole [.Tuple [.Name x px, .Name y py] kt pt] (.Tuple [a, .Constant (.int k) jj pc] k2 pt2) pos.line X.env = pure false := by rfl)
    (h1 : starEach [a, .Constant (.int k) jj pc] X.env = (false, eval a X.env) :: starEach [.Constant (.int k) jj pc] X.env := by rfl) : DS X W I (.Assign [.Tuple [.Name x px, .Name y py] kt pt] (.Tuple [a, .Constant (.int k) jj pc] k2 pt2) pos) (dParC i j f (.int k)) := by
  refine ⟨PS_imp (ps_par hc hN hi hj hij hx hy (pa_cons ha.pe (pa_cons pe_int pa_nil rfl) h1) hw hs) fun D σ H ⟨F, O, ρ, rs, h⟩ => ?_⟩
  show dE X.K X.mg W pu f σ H fun x H1 => ∃ v w, [x, V.int k] = [v, w] ∧ D.nx ((σ.set i (some v)).set j (some w)) H1
  refine ⟨F, O, ρ, rs, out_wp h fun s ρ1 h => ?_⟩
  intro F1 O1 v H1 rs1 v1 st1 _
  cases hs : s.st with
  | none => simp only [hs] at h; exact h.elim
  | some t =>
    simp only [hs] at h
    obtain ⟨O2, rs2, st2⟩ := rs1.store i v1 hs
    exact ⟨v, .int k, rfl, h F1 O2 _ H1 (rs2.setSh j (.int k)) (st1.trans st2) ((Pin.set hI).trans (Pin.set hJ))⟩
@[simp] noncomputable def dCallQ (n i : Nat) (G : DFn) (fa : DLn) (ρ : List Slot) : Res (Slot × List Slot) := match ρ[i]? with
  | some (.own _) => (fa ρ).bind fun p => (match p.2[i]? with
    | some (.own xs) => if p.1.length + 1 = n then (match G (.sh (.lst xs) :: p.1.map .sh) with
      | .ok (.sh d, _) => if d.noL = true then .ok (.sh d, p.2) else .stuck
      | _ => .stuck) else .stuck
    | _ => .stuck)
  | _ => .stuck
theorem de_callQ {k : Nat} {x y : Str} {ps : List Str} {G : DFn} {pu : Bool} {es : List Expr} {p pos pos2 : Pos} {fa : DLn} {P : Program} {w : World} {K : PySem.W.Frag} {mg : Str → Option Value} {base : Heap} {A : Around} (tk : Takes X W) (hf : Dfn P w K mg base x ps k G) (hr : Room k A) (i : Nat) (ha : AF X W pu es fa) (hg : Gl X x := by rfl)
    (hN : X.N[i]? = some y := by rfl) (hv : Vis X.env.scope y := by first | exact Or.inl rfl | exact Or.inr (Or.inl rfl) | exact Or.inr (Or.inr rfl)) (hd : (y == ("__debug__" : Str)) = false := by decide)
    (hcd : (y == ("__classdict__" : Str)) = false := by decide)
    (hdb : (x == ("__debug__" : Str)) = false := by decide) (he : starEach (.Name y pos2 :: es) X.env = (false, eval (.Name y pos2) X.env) :: starEach es X.env := by rfl) (hpl : (backTo pos (starEach es X.env)).any (·.1) = false := by rfl) (hX : X.prog = P ∧ X.w = w ∧ X.K = K ∧ X.mg = mg ∧ X.base = base ∧ X.A = A := by exact ⟨rfl, rfl, rfl, rfl, rfl, rfl⟩) :
    DE X W pu (.Call (.Name x p) (.Name y pos2 :: es) [] pos) (dCallQ ps.length i G fa) := by
  obtain ⟨rfl, rfl, rfl, rfl, rfl, rfl⟩ := hX
  obtain ⟨f, fd, ok, hm, hk, hb, _⟩ := hf.ok
  refine ⟨PE_imp (pe_callS (E := WE W) ok hr hg hm hk hb (fun σ => passAt tk σ) (pa_cons (pe_var hN hv hd hcd) ha.pa he) hdb he hpl) fun σ H Q ⟨F, O, ρ, rs, h⟩ => ?_⟩
  unfold dCallQ at h
  split at h
  · rename_i xs0 e0
    obtain ⟨a0, vs0, hv0, _, _, _⟩ := slot_some rs e0
    refine ⟨.ref a0, join_some hv0, F, O, ρ, rs, ?_⟩
    rw [Res.wp_bind] at h
    refine Res.wp_mono h (fun q hp => ?_) (fun _ _ e => e)
    intro F1 O1 vs H1 rs1 v1 st1 pu1
    split at hp
    · rename_i xs e1
      obtain ⟨a, ws, hv1, q1, p1, r1⟩ := slot_some rs1 e1
      have ea : a = a0 := by
        rw [hv0] at hv1
        cases hv1; rfl
      subst ea
      by_cases hl : q.1.length + 1 = ps.length
      · rw [if_pos hl] at hp
        obtain ⟨fa', _⟩ := rs1.out a _ p1
        have sm0 : Same F1 (upd F1 a (.lst ws)) := fun b o e => by rw [upd_ne (ne_of_none e fa')]; exact e
        have fc : Same (upd F1 a (.lst ws)) H1 := fun b o e => by
          by_cases hb : b = a
          · subst hb; rw [upd_same] at e; rw [q1]; exact e
          · rw [upd_ne hb] at e; exact rs1.fh b o e
        have rc : Rs X.K (upd F1 a (.lst ws)) (.ref a :: vs) (.lst xs :: q.1) := .cons (.lst upd_same (r1.up sm0)) (v1.up sm0)
        refine ⟨by simp only [List.length_cons]; rw [v1.length]; exact hl, upd F1 a (.lst ws), fun _ => none, (D.lst xs :: q.1).map .sh, RS.callee fc rc, ?_⟩
        have eG : (D.lst xs :: q.1).map Slot.sh = .sh (.lst xs) :: q.1.map .sh := rfl
        rw [eG]
        cases hG : G (.sh (.lst xs) :: q.1.map .sh) with
        | stuck => rw [hG] at hp; exact hp.elim
        | ex c ρ' => rw [hG] at hp; exact hp.elim
        | ok t =>
          obtain ⟨s, ρ'⟩ := t
          rw [hG] at hp
          cases s with
          | sh d =>
            simp only at hp
            by_cases hn : d.noL = true
            · rw [if_pos hn] at hp
              intro F' O' v H' rs' vo st' _
              have sm : Same H1 H' := fun b o h => st'.keep b o h rfl
              have fa2 : F' a = some (.lst ws) := st'.fr a _ upd_same
              let F2 : Hp := fun b => @ite _ (b = a) (Classical.propDecidable _) none (F' b)
              have n2 : F2 a = none := @if_pos _ (Classical.propDecidable _) rfl _ _ _
              have e2 : ∀ b, b ≠ a → F2 b = F' b := fun b hb => @if_neg _ (Classical.propDecidable _) hb _ _ _
              have s12 : Same F1 F2 := fun b o e => by
                have hb : b ≠ a := ne_of_none e fa'
                rw [e2 b hb]
                exact st'.fr b o (sm0 b o e)
              have s2h : Same F2 H' := fun b o e => by
                by_cases hb : b = a
                · rw [hb, n2] at e; cases e
                · rw [e2 b hb] at e; exact rs'.fh b o e
              have low : ∀ b o, F2 b = some o → F1 b = some o ∨ H1 b = none := fun b o e => by
                by_cases hb : b = a
                · rw [hb, n2] at e; cases e
                · rw [e2 b hb] at e
                  rcases st'.low b o e with z | ⟨j, z⟩ | z
                  · rw [upd_ne hb] at z; exact .inl z
                  · cases z
                  · exact .inr z
              have rv : R X.K F2 v d := by
                have r0 : R X.K (Lf F' fun _ => False) v d := R.noL d v hn vo
                refine r0.up fun b o e => ?_
                have e' := Lf_same F' (fun _ => False) b o e
                have hb : b ≠ a := fun z => by
                  subst z
                  rw [fa2] at e'
                  cases e'
                  exact Lf_lst e
                rw [e2 b hb]
                exact e'
              have rs2 : RS X.K F2 σ q.2 H' O1 := rs1.ext s12 s2h (fun c j u hc hj hu => ⟨sm _ _ hu, hc⟩) fun b j e => by
                obtain ⟨h1, o, h2⟩ := rs1.out b j e
                refine ⟨?_, o, sm b o h2⟩
                cases z : F2 b with
                | none => rfl
                | some u =>
                  rcases low b u z with y | y
                  · rw [h1] at y; cases y
                  · rw [h2] at y; cases y
              have st2 : Step F1 H1 O1 F2 H' O1 := ⟨fun b o h _ => sm b o h, fun b o h => ⟨o, sm b o h⟩, s12, fun b o e => by
                rcases low b o e with y | y
                · exact .inl y
                · exact .inr (.inr y), fun b j e => .inl ⟨j, e⟩⟩
              exact hp F2 O1 v H' rs2 rv (st1.trans st2) fun z => (pu1 z).trans sm
            · rw [if_neg hn] at hp; exact hp.elim
          | _ => exact hp.elim
      · rw [if_neg hl] at hp; exact hp.elim
    · exact hp.elim
  · exact h.elim
end
/-! // by a divisor of some thousand bits -/
noncomputable def gFdivW : D → D → Option D
  | .int i, .int j => @ite _ (0 < j ∧ j.natAbs.log2 < 9000) (Classical.propDecidable _) (some (.int (i / j))) none
  | _, _ => none
theorem gFdivW_ok {i j : Int} {b : Nat} (h0 : 0 < j) (h1 : j.natAbs < 2 ^ b) (hb : 0 < b) (h9 : b ≤ 9000) : gFdivW (.int i) (.int j) = some (.int (i / j)) :=
  @if_pos _ (Classical.propDecidable _) ⟨h0, (wide_div (i := i) h0 h1 hb h9).2⟩ _ _ _
section
variable {X : Cx}
theorem os_fdivW : OpS X (binaryOp .FloorDiv) gFdivW := opI_ok op_fdivW fun d e z h => by
  cases d <;> cases e <;> first | (cases h; done) | skip
  rename_i i j
  obtain ⟨c, e⟩ := ite_some h
  exact ⟨_, _, rfl, rfl, c, e.symm⟩
end
end DL
namespace DL
open PySem PySem.Spec PyProof.Rows L2
/-! ### own dicts: keys ints and texts -/
@[simp] def keyD : D → Option Key
  | .int i => some (.inl i)
  | .str x => some (.inr x)
  | _ => none
@[simp] def kD : Key → D
  | .inl i => .int i
  | .inr x => .str x
def valD (kxs : List (Key × D)) (k : Key) : Option D := (kxs.find? fun p => decide (p.1 = k)).map (·.2)
def putD (kxs : List (Key × D)) (k : Key) (d : D) : List (Key × D) := if (kxs.any fun p => decide (p.1 = k)) = true then kxs.map (fun p => if p.1 = k then (p.1, d) else p) else kxs ++ [(k, d)]
/-- the table's values read as the data -/
def KX (K : PySem.W.Frag) (F : Hp) (kvs : List (Key × V)) (kxs : List (Key × D)) : Prop := kvs.map (·.1) = kxs.map (·.1) ∧ Rs K F (kvs.map (·.2)) (kxs.map (·.2))
section
variable {K : PySem.W.Frag} {F H : Hp} {O : Own} {σ : L2.St} {ρ : List Slot}
theorem KX.nil : KX K F [] [] := ⟨rfl, .nil⟩
theorem KX.cons_inv {p : Key × V} {ps : List (Key × V)} {q : Key × D} {qs : List (Key × D)} (h : KX K F (p :: ps) (q :: qs)) : p.1 = q.1 ∧ R K F p.2 q.2 ∧ KX K F ps qs := by
  obtain ⟨h1, h2⟩ := h
  rw [List.map_cons, List.map_cons] at h1 h2
  obtain ⟨h3, h4⟩ := List.cons.inj h1
  cases h2 with
  | cons r rs => exact ⟨h3, r, h4, rs⟩
theorem KX.cons {p : Key × V} {ps : List (Key × V)} {q : Key × D} {qs : List (Key × D)} (h1 : p.1 = q.1) (h2 : R K F p.2 q.2) (h : KX K F ps qs) : KX K F (p :: ps) (q :: qs) :=
  ⟨by rw [List.map_cons, List.map_cons, h1, h.1], by rw [List.map_cons, List.map_cons]; exact .cons h2 h.2⟩
theorem KX.ind {P : List (Key × V) → List (Key × D) → Prop} (h0 : P [] []) (hs : ∀ p ps q qs, p.1 = q.1 → R K F p.2 q.2 → KX K F ps qs → P ps qs → P (p :: ps) (q :: qs)) : ∀ kvs kxs, KX K F kvs kxs → P kvs kxs
  | [], [], _ => h0
  | [], q :: qs, h => by cases h.1
  | p :: ps, [], h => by cases h.1
  | p :: ps, q :: qs, h => by
    obtain ⟨h1, h2, h3⟩ := h.cons_inv
    exact hs p ps q qs h1 h2 h3 (KX.ind h0 hs ps qs h3)
theorem KX.length {kvs : List (Key × V)} {kxs : List (Key × D)} (h : KX K F kvs kxs) : kvs.length = kxs.length := by
  have := congrArg List.length h.1
  simpa using this
theorem KX.up {F' : Hp} {kvs : List (Key × V)} {kxs : List (Key × D)} (h : KX K F kvs kxs) (e : Same F F') : KX K F' kvs kxs := ⟨h.1, h.2.up e⟩
theorem KX.val {kvs : List (Key × V)} {kxs : List (Key × D)} (h : KX K F kvs kxs) (k : Key) : (∃ v d, valV kvs k = some v ∧ valD kxs k = some d ∧ R K F v d) ∨ (valV kvs k = none ∧ valD kxs k = none) := by
  revert h
  refine fun h => KX.ind (P := fun kvs kxs => (∃ v d, valV kvs k = some v ∧ valD kxs k = some d ∧ R K F v d) ∨ (valV kvs k = none ∧ valD kxs k = none)) (.inr ⟨rfl, rfl⟩) (fun p ps q qs h1 h2 h3 ih => ?_) kvs kxs h
  by_cases c : p.1 = k
  · exact .inl ⟨p.2, q.2, valV_pos c, by simp [valD, List.find?_cons, h1 ▸ c], h2⟩
  · rw [valV_neg c]
    have : valD (q :: qs) k = valD qs k := by simp [valD, List.find?_cons, h1 ▸ c]
    rw [this]; exact ih
theorem KX.any {kvs : List (Key × V)} {kxs : List (Key × D)} (h : KX K F kvs kxs) (k : Key) : (kvs.any fun p => decide (p.1 = k)) = (kxs.any fun p => decide (p.1 = k)) := by
  revert h
  refine fun h => KX.ind (P := fun kvs kxs => (kvs.any fun p => decide (p.1 = k)) = (kxs.any fun p => decide (p.1 = k))) rfl (fun p ps q qs h1 h2 h3 ih => ?_) kvs kxs h
  rw [List.any_cons, List.any_cons, ih, h1]
theorem KX.put {kvs : List (Key × V)} {kxs : List (Key × D)} (h : KX K F kvs kxs) (k : Key) {v : V} {d : D} (r : R K F v d) : KX K F (putK kvs k v) (putD kxs k d) := by
  have e := h.any k
  unfold putK putD
  rw [e]
  by_cases c : (kxs.any fun p => decide (p.1 = k)) = true
  · rw [if_pos c, if_pos c]
    refine KX.ind (P := fun kvs kxs => KX K F (kvs.map fun p => if p.1 = k then (p.1, v) else p) (kxs.map fun p => if p.1 = k then (p.1, d) else p)) KX.nil (fun p ps q qs h1 h2 h3 ih => ?_) kvs kxs h
    rw [List.map_cons, List.map_cons]
    refine KX.cons ?_ ?_ ih
    · rw [h1]; by_cases z : q.1 = k <;> simp [z, h1]
    · by_cases z : q.1 = k
      · rw [if_pos (h1.trans z), if_pos z]; exact r
      · rw [if_neg (fun y => z (h1.symm.trans y)), if_neg z]; exact h2
  · rw [if_neg c, if_neg c]
    exact ⟨by rw [List.map_append, List.map_append, h.1]; rfl, by rw [List.map_append, List.map_append]; exact h.2.append (.cons r .nil)⟩
theorem key_read {y : V} {e : D} {k : Key} (r : R K F y e) (h : keyD e = some k) : y = kV k := by
  cases r <;> first | (cases h; done) | (cases h; rfl)
theorem RS.newDict {p : Addr} (r : RS K F σ ρ H O) (np : H p = none) :
    RS K F σ ρ (upd H p (.dK [])) (fun b => if b = p then some ρ.length else O b) ∧ VOk K F (upd H p (.dK [])) (fun b => if b = p then some ρ.length else O b) ρ.length (.od []) (.ref p) ∧
      Step F H O F (upd H p (.dK [])) (fun b => if b = p then some ρ.length else O b) ∧ Same H (upd H p (.dK [])) := by
  have sm : Same H (upd H p (.dK [])) := fun b o e => by rw [upd_ne (ne_of_none e np)]; exact e
  refine ⟨r.ext (Same.refl F) (r.fh.trans sm) (fun a i u ha hi hu => ⟨sm _ _ hu, ?_⟩) (fun b i e => ?_), ⟨p, [], rfl, upd_same, by simp, rfl, .nil⟩, ⟨fun b o h _ => sm b o h, fun b o h => ⟨o, sm b o h⟩, Same.refl F, fun b o h => .inl h, fun b i e => ?_⟩, sm⟩
  · have : a ≠ p := ne_of_none hu np
    simp [this, ha]
  · by_cases hb : b = p
    · subst hb
      refine ⟨?_, _, upd_same⟩
      cases q : F b with
      | none => rfl
      | some o => have := r.fh b o q; rw [np] at this; cases this
    · simp [hb] at e
      obtain ⟨h1, o, h2⟩ := r.out b i e
      exact ⟨h1, o, sm b o h2⟩
  · by_cases hb : b = p
    · subst hb; exact .inr np
    · simp [hb] at e; exact .inl ⟨i, e⟩
theorem RS.changeD {i : Nat} {kxs kxs' : List (Key × D)} {a : Addr} {kvs : List (Key × V)} (r : RS K F σ ρ H O) (hi : ρ[i]? = some (.od kxs)) (ha : σ[i]?.join = some (.ref a)) (oa : O a = some i) (ry : KX K F kvs kxs') :
    RS K F σ (ρ.set i (.od kxs')) (upd H a (.dK kvs)) O ∧ Step F H O F (upd H a (.dK kvs)) O := by
  obtain ⟨fa, o, hoa⟩ := r.out a i oa
  have fh : Same F (upd H a (.dK kvs)) := fun b u e => by
    rw [upd_ne (ne_of_none e fa)]; exact r.fh b u e
  refine ⟨⟨by rw [List.length_set]; exact r.len, fh, fun j t ht => ?_, fun b j e => ?_⟩, ⟨fun b u h n => ?_, fun b u h => ?_, Same.refl F, fun b u e => .inl e, fun b j e => .inl ⟨j, e⟩⟩⟩
  · by_cases hj : i = j
    · subst hj
      have hl' : i < ρ.length := (List.getElem?_eq_some_iff.mp hi).1
      rw [List.getElem?_set_self hl'] at ht
      cases ht
      exact ⟨a, kvs, ha, upd_same, oa, ry.1, ry.2⟩
    · rw [List.getElem?_set_ne hj] at ht
      refine (r.ok j t ht).ext (Same.refl F) fun b u pb hu => ⟨?_, pb⟩
      rw [upd_ne (fun z => by subst z; rw [oa] at pb; exact hj (Option.some.inj pb))]
      exact hu
  · obtain ⟨h1, u, h2⟩ := r.out b j e
    refine ⟨h1, ?_⟩
    by_cases hb : b = a
    · subst hb; exact ⟨_, upd_same⟩
    · exact ⟨u, by rw [upd_ne hb]; exact h2⟩
  · rw [upd_ne (fun z => by subst z; rw [oa] at n; cases n)]
    exact h
  · by_cases hb : b = a
    · subst hb; exact ⟨_, upd_same⟩
    · exact ⟨u, by rw [upd_ne hb]; exact h⟩
end
section
variable {X : Cx} {W : WX} {I : List Nat}
@[simp] def dDNew (ρ : List Slot) : Res (Slot × List Slot) := .ok (.od [], ρ)
theorem de_dnew {pos : Pos} : DE X W true (.Dict [] [] pos) dDNew := ⟨PE_imp pe_dnewK fun σ H Q ⟨F, O, ρ, rs, h⟩ => fun p np => by
  obtain ⟨a, b, c, d⟩ := rs.newDict np
  exact h F _ _ _ a b c fun _ => d⟩
@[simp] def dDGet (i : Nat) (fi : DEn) (ρ : List Slot) : Res (Slot × List Slot) := match ρ[i]? with
  | some (.od _) => (fi ρ).bind fun p => match p.2[i]?, p.1.val.bind keyD with
    | some (.od kxs), some k => (match valD kxs k with
      | some d => .ok (.sh d, p.2)
      | none => .stuck)
    | _, _ => .stuck
  | _ => .stuck
theorem de_dget {pu : Bool} {y : Str} {ei : Expr} {fi : DEn} {py pos : Pos} (i : Nat) {k : Nat} {A : Around} (hr : Room k A) (hi : DE X W pu ei fi) (hA : X.A = A := by rfl) (hN : X.N[i]? = some y := by rfl)
    (hvis : Vis X.env.scope y := by first | exact Or.inl rfl | exact Or.inr (Or.inl rfl) | exact Or.inr (Or.inr rfl)) (hd : (y == ("__debug__" : Str)) = false := by decide) (hcd : (y == ("__classdict__" : Str)) = false := by decide)
    (hs : NoSl ei := by intro _ _; rfl) : DE X W pu (.Subscript (.Name y py) ei pos) (dDGet i fi) := by
  refine ⟨PE_imp (pe_dget (by rw [hA]; have := hr.units; omega) (pe_var hN hvis hd hcd) hi.pe hs) fun σ H Q ⟨F, O, ρ, rs, h⟩ => ?_⟩
  unfold dDGet at h
  cases hρ : ρ[i]? with
  | none => simp only [hρ] at h; exact h.elim
  | some s0 =>
    cases s0 with
    | od kxs0 =>
      simp only [hρ] at h
      obtain ⟨a, kvs0, ea, _, _, _, _⟩ := rs.ok i _ hρ
      refine ⟨.ref a, join_some ea, F, O, ρ, rs, ?_⟩
      rw [Res.wp_bind] at h
      refine Res.wp_mono h (fun p hp => ?_) (fun _ _ e => e)
      intro F1 O1 y1 H1 rs1 v1 st1 pu1
      cases hρ1 : p.2[i]? with
      | none => simp only [hρ1] at hp; exact hp.elim
      | some s1 =>
        cases s1 with
        | od kxs =>
          cases hv : p.1.val with
          | none => simp only [hρ1, hv, Option.bind_none] at hp; exact hp.elim
          | some e =>
            cases hk : keyD e with
            | none => simp only [hρ1, hv, Option.bind_some, hk] at hp; exact hp.elim
            | some k =>
              simp only [hρ1, hv, Option.bind_some, hk] at hp
              obtain ⟨a', kvs, ea', hH, _, m1, m2⟩ := rs1.ok i _ hρ1
              rw [ea] at ea'
              cases ea'
              have ek := key_read (v1.read rs1.fh hv) hk
              subst ek
              have kx : KX X.K F1 kvs kxs := ⟨m1, m2⟩
              rcases kx.val k with ⟨v, d, e1, e2, r⟩ | ⟨_, e2⟩
              · simp only [e2] at hp
                refine ⟨a, v, rfl, ?_, hp F1 O1 v H1 rs1 r st1 pu1⟩
                have := DGet.k (k := k) hH
                rw [e1] at this
                exact this
              · simp only [e2] at hp; exact hp.elim
        | _ => simp only [hρ1] at hp; exact hp.elim
    | _ => simp only [hρ] at h; exact h.elim
@[simp] noncomputable def dDPut (i : Nat) (f fi : DEn) (ρ : List Slot) : Out := (f ρ).out fun s ρ1 => match s.fz with
  | none => .stuck
  | some d => match ρ1[i]? with
    | some (.od _) => (fi ρ1).out fun j ρ2 => match j.val.bind keyD, ρ2[i]? with
      | some k, some (.od kxs) => if kxs.length < sizeLine then .nx (ρ2.set i (.od (putD kxs k d))) else .stuck
      | _, _ => .stuck
    | _ => .stuck
theorem ds_dput {y : Str} {pu pi : Bool} {e ei : Expr} {f fi : DEn} {py spos pos : Pos} (i : Nat) {k : Nat} {A : Around} (hr : Room k A) (he : DE X W pu e f) (hi : DE X W pi ei fi) (hA : X.A = A := by rfl) (hN : X.N[i]? = some y := by rfl)
    (hvis : Vis X.env.scope y := by first | exact Or.inl rfl | exact Or.inr (Or.inl rfl) | exact Or.inr (Or.inr rfl)) (hd : (y == ("__debug__" : Str)) = false := by decide) (hcd : (y == ("__classdict__" : Str)) = false := by decide)
    (hs : swapsWith e (some (.Subscript (.Name y py) ei spos)) pos.line X.env = pure false := by rfl) : DS X W I (.Assign [.Subscript (.Name y py) ei spos] e pos) (dDPut i f fi) := by
  refine ⟨PS_imp (ps_dput (by rw [hA]; have := hr.units; omega) (pe_var hN hvis hd hcd) hi.pe he.pe hs) fun D σ H ⟨F, O, ρ, rs, h⟩ => ?_⟩
  refine ⟨F, O, ρ, rs, out_wp h fun s ρ1 h => ?_⟩
  intro F1 O1 v H1 rs1 v1 st1 _
  cases hz : s.fz with
  | none => simp only [hz] at h; exact h.elim
  | some d =>
    simp only [hz] at h
    obtain ⟨F2, O2, rs2, rv, st2⟩ := rs1.freeze v1 hz
    cases hρ : ρ1[i]? with
    | none => simp only [hρ] at h; exact h.elim
    | some s0 =>
      cases s0 with
      | od kxs0 =>
        simp only [hρ] at h
        obtain ⟨a, kvs0, ea, _, _, _, _⟩ := rs2.ok i _ hρ
        refine ⟨.ref a, join_some ea, F2, O2, ρ1, rs2, out_wp (h.step (st1.trans st2) .refl) fun j ρ2 h => ?_⟩
        intro F3 O3 w H3 rs3 v3 st3 _
        cases hj : j.val with
        | none => simp only [hj, Option.bind_none] at h; exact h.elim
        | some jd =>
          cases hk : keyD jd with
          | none => simp only [hj, Option.bind_some, hk] at h; exact h.elim
          | some k =>
            cases ht : ρ2[i]? with
            | none => simp only [hj, Option.bind_some, hk, ht] at h; exact h.elim
            | some t =>
              cases t with
              | od kxs =>
                simp only [hj, Option.bind_some, hk, ht] at h
                obtain ⟨a', kvs, ea', hH, oa, m1, m2⟩ := rs3.ok i _ ht
                rw [ea] at ea'
                cases ea'
                have kx : KX X.K F3 kvs kxs := ⟨m1, m2⟩
                have ek := key_read (v3.read rs3.fh hj) hk
                subst ek
                by_cases hc : kxs.length < sizeLine
                · rw [if_pos hc] at h
                  obtain ⟨rs4, st4⟩ := rs3.changeD ht ea oa (kx.put k (rv.up st3.fr))
                  exact ⟨a, _, rfl, DPut.k hH (by rw [kx.length]; exact hc), h F3 O3 σ _ rs4 (st3.trans st4) .refl⟩
                · rw [if_neg hc] at h; exact h.elim
              | _ => simp only [hj, Option.bind_some, hk, ht] at h; exact h.elim
      | _ => simp only [hρ] at h; exact h.elim
/-- [.. for x in d if ..], d a name of an own dict, by its keys; what runs in it changes nothing -/
noncomputable def dLcK (i : Nat) (g : DTg) (tt : DTn) (te : DEn) (vs : List Nat) (ρ : List Slot) : Res (Slot × List Slot) := match ρ[i]? with
  | some (.od kxs) => (dLc true (fun ρ' => .ok ((false, kxs.map fun p => kD p.1), ρ')) g tt te vs (ρ.set i .un)).noex.bind fun p => match p.1 with
    | .own ys => .ok (.own ys, p.2.set i (.od kxs))
    | _ => .stuck
  | _ => .stuck
theorem kD_R {K : PySem.W.Frag} {F : Hp} (k : Key) : R K F (kV k) (kD k) := by
  cases k with
  | inl i => exact .int i
  | inr x => exact .str x
theorem de_lcK {elt tg : Expr} {ifs : List Expr} {scope : Scope} {y : Str} {py pos : Pos} {g : DTg} {tt : DTn} {te : DEn} {us : List Nat} (i : Nat) (own : List (Str × Nat)) (hc : X.calm = true) (hN : X.N.Nodup) (ok : BlkOk X.N X.env.scope scope own)
    (hg : ∀ (s : Shared) (H : Hp) (C : Addr) (cl : List (Str × Addr)) (fp : List Addr), DG (X.blk s H scope (compEnvC scope cl C X.env) fp) us tg g) (ht : ∀ (s : Shared) (H : Hp) (C : Addr) (cl : List (Str × Addr)) (fp : List Addr), DTs (X.blk s H scope (compEnvC scope cl C X.env) fp) W0 true ifs tt)
    (he : ∀ (s : Shared) (H : Hp) (C : Addr) (cl : List (Str × Addr)) (fp : List Addr), DE (X.blk s H scope (compEnvC scope cl C X.env) fp) W0 true elt te) (hy : X.N[i]? = some y := by rfl)
    (hvis : Vis X.env.scope y := by first | exact Or.inl rfl | exact Or.inr (Or.inl rfl) | exact Or.inr (Or.inr rfl)) (hd : (y == ("__debug__" : Str)) = false := by decide) (hcd : (y == ("__classdict__" : Str)) = false := by decide)
    (hus : ∀ i ∈ us, i ∈ own.map (·.2) := by decide) (hs : ∀ x, foldedSetIterable (.Name y py) X.env x = pure x := by intro _; rfl) :
    DE X W true (.ListComp elt [⟨tg, .Name y py, ifs, 0⟩] scope pos) (dLcK i g tt te (own.map (·.2))) := by
  have P : PE X (.ListComp elt [⟨tg, .Name y py, ifs, 0⟩] scope pos) (tLc (iKeys (tVar i)) (dG X.K us g) (dT X.K X.mg W0 true tt) (dE X.K X.mg W0 true te) (own.map (·.2))) :=
    pe_lc hc hN (pi_keys (pe_var hy hvis hd hcd)) ok (fun s H C cl fp => (hg s H C cl fp).pg) (fun s H C cl fp => (ht s H C cl fp).pts) (fun s H C cl fp => (he s H C cl fp).pe) hs
  refine ⟨PE_imp (pe_lock P) fun σ H Q ⟨F, O, ρ, rs, h⟩ => ?_⟩
  unfold dLcK at h
  cases hρ : ρ[i]? with
  | none => simp only [hρ] at h; exact h.elim
  | some s0 =>
    cases s0 with
    | od kxs =>
      simp only [hρ] at h
      obtain ⟨a, kvs, ea, hH, oa, m1, m2⟩ := rs.ok i _ hρ
      have kx : KX X.K F kvs kxs := ⟨m1, m2⟩
      have fa : F a = none := (rs.out a i oa).1
      have hil : i < ρ.length := (List.getElem?_eq_some_iff.mp hρ).1
      refine ⟨a, .dK kvs, hH, trivial, fun od => ?_⟩
      have L : tLc (dI X.K X.mg W true (fun ρ' => .ok ((false, kxs.map fun p => kD p.1), ρ'))) (dG X.K us g) (dT X.K X.mg W0 true tt) (dE X.K X.mg W0 true te) (own.map (·.2)) σ (upd H a (.frz od (.dK kvs))) (fun v H' => H' a = some (.frz od (.dK kvs)) ∧ Q v (upd H' a (.dK kvs))) := by
        refine lc_imp hus ⟨F, fun b => if b = a then none else O b, ρ.set i .un, ⟨by rw [List.length_set]; exact rs.len, fun b o e => ?_, fun j t ht => ?_, fun b j e => ?_⟩, ?_⟩
        · have : b ≠ a := ne_of_none e fa
          rw [upd_ne this]; exact rs.fh b o e
        · by_cases hj : i = j
          · subst hj
            rw [List.getElem?_set_self hil] at ht
            cases ht
            trivial
          · rw [List.getElem?_set_ne hj] at ht
            refine (rs.ok j t ht).ext (Same.refl F) fun c u pc hu => ?_
            have : c ≠ a := fun z => by subst z; rw [oa] at pc; exact hj (Option.some.inj pc)
            exact ⟨by rw [upd_ne this]; exact hu, by simp [this, pc]⟩
        · by_cases hb : b = a
          · simp [hb] at e
          · simp [hb] at e
            obtain ⟨h1, o, h2⟩ := rs.out b j e
            exact ⟨h1, o, by rw [upd_ne hb]; exact h2⟩
        · rw [Res.wp_bind] at h
          refine Res.wp_mono (noex_wp h) (fun p hp => ?_) (fun _ _ e => e)
          intro F1 O1 v H1 rs1 vo st1 pu1
          have sm := pu1 rfl
          have h1a : H1 a = some (.frz od (.dK kvs)) := sm _ _ upd_same
          have f1a : F1 a = none := by
            cases q : F1 a with
            | none => rfl
            | some o =>
              rcases st1.low a o q with z | ⟨j, z⟩ | z
              · rw [fa] at z; cases z
              · simp at z
              · rw [upd_same] at z; cases z
          have o1a : O1 a = none := by
            cases q : O1 a with
            | none => rfl
            | some j =>
              rcases st1.fp a j q with ⟨j, z⟩ | z
              · simp at z
              · rw [upd_same] at z; cases z
          refine ⟨h1a, ?_⟩
          cases hp1 : p.1 with
          | own ys =>
            rw [hp1] at hp vo
            simp only at hp
            obtain ⟨c, ws, rfl, hc1, oc, rw1⟩ := vo
            have ca : c ≠ a := fun z => by subst z; rw [o1a] at oc; cases oc
            refine hp F1 (fun b => if b = a then some i else O1 b) _ (upd H1 a (.dK kvs)) ⟨by rw [List.length_set]; exact rs1.len, fun b o e => ?_, fun j t ht => ?_, fun b j e => ?_⟩ ⟨c, ws, rfl, by rw [upd_ne ca]; exact hc1, by simp only [ca, if_false, List.length_set]; exact oc, rw1⟩ ⟨fun b o e n => ?_, fun b o e => ?_, st1.fr, fun b o e => ?_, fun b j e => ?_⟩ (fun _ b o e => ?_)
            · rw [upd_ne (ne_of_none e f1a)]; exact rs1.fh b o e
            · by_cases hj : i = j
              · subst hj
                rw [List.getElem?_set_self (by rw [rs1.len, ← rs.len]; exact hil)] at ht
                cases ht
                exact ⟨a, kvs, ea, upd_same, by simp, kx.1, (kx.up st1.fr).2⟩
              · rw [List.getElem?_set_ne hj] at ht
                refine (rs1.ok j t ht).ext (Same.refl F1) fun b u pb hu => ?_
                have : b ≠ a := fun z => by subst z; rw [o1a] at pb; cases pb
                exact ⟨by rw [upd_ne this]; exact hu, by simp [this, pb]⟩
            · by_cases hb : b = a
              · subst hb; exact ⟨f1a, _, upd_same⟩
              · simp [hb] at e
                obtain ⟨h1, o, h2⟩ := rs1.out b j e
                exact ⟨h1, o, by rw [upd_ne hb]; exact h2⟩
            · have ba : b ≠ a := fun z => by subst z; rw [oa] at n; cases n
              rw [upd_ne ba]
              exact st1.keep b o (by rw [upd_ne ba]; exact e) (by simp [ba, n])
            · by_cases hb : b = a
              · subst hb; exact ⟨_, upd_same⟩
              · obtain ⟨o', h2⟩ := st1.there b o (by rw [upd_ne hb]; exact e)
                exact ⟨o', by rw [upd_ne hb]; exact h2⟩
            · have ba : b ≠ a := ne_of_none e f1a
              rcases st1.low b o e with z | ⟨j, z⟩ | z
              · exact .inl z
              · simp [ba] at z; exact .inr (.inl ⟨j, z⟩)
              · rw [upd_ne ba] at z; exact .inr (.inr z)
            · by_cases hb : b = a
              · subst hb; exact .inl ⟨i, oa⟩
              · simp [hb] at e
                rcases st1.fp b j e with ⟨j', z⟩ | z
                · simp [hb] at z; exact .inl ⟨j', z⟩
                · rw [upd_ne hb] at z; exact .inr z
            · by_cases hb : b = a
              · subst hb; rw [hH] at e; rw [upd_same]; exact e
              · rw [upd_ne hb]; exact sm b o (by rw [upd_ne hb]; exact e)
          | _ => rw [hp1] at hp; exact hp.elim
      refine ⟨.ref a, join_some ea, a, od, rfl, .inl ⟨kvs, upd_same, ?_⟩⟩
      obtain ⟨F2, O2, ρ2, rs2, L⟩ := L
      refine L F2 O2 _ (Itk a od kvs) rs2 .refl (fun _ => Same.refl _) ?_
      refine ⟨_, _, (by rw [List.length_map, ← kx.length]; exact walk_keys), upd_same, fun z => Bool.noConfusion z, fun H' sm => sm _ _ upd_same, fun j d x H3 H3' F3 hd y s1 s2 => ?_⟩
      obtain ⟨rfl, k, v, hk, rfl⟩ := y
      rw [List.getElem?_map] at hd
      cases q : kxs[j]? with
      | none => rw [q] at hd; cases hd
      | some p =>
        rw [q] at hd
        cases hd
        have e1 : (kvs.map (·.1))[j]? = some k := by rw [List.getElem?_map, hk]; rfl
        have e2 : (kxs.map (·.1))[j]? = some p.1 := by rw [List.getElem?_map, q]; rfl
        rw [kx.1, e2] at e1
        cases e1
        exact ⟨F3, Same.refl _, s2, Same.refl _, kD_R _, fun b o h => .inl h⟩
    | _ => simp only [hρ] at h; exact h.elim
end
end DL
namespace DL
open PySem PySem.Spec PyProof.Rows L2
/-! ### e in xs, e not in xs: lists and tuples of data of any depth -/
@[simp] def D.seqs : D → Option (List D)
  | .lst xs => some xs
  | .tup xs => some xs
  | _ => none
noncomputable def gInG (d e : D) : Option D := e.seqs.bind fun xs => if d.fit 60 = true ∧ fits xs 59 = true then some (.bl (xs.any fun y => deq y d)) else none
noncomputable def gNotInG (d e : D) : Option D := e.seqs.bind fun xs => if d.fit 60 = true ∧ fits xs 59 = true then some (.bl (!xs.any fun y => deq y d)) else none
def rInG (K : PySem.W.Frag) (n : Bool) : R2 := fun x y H Q => ∃ d ds, Dp K H x d ∧ (Dp K H y (.list ds) ∧ SeqAt.shaped (.list ds) = true ∨ Dp K H y (.tuple ds) ∧ SeqAt.shaped (.tuple ds) = true) ∧ SeqAt.shaped d = true ∧ Q (.bl (if n then !ds.any fun z => PyData.eqv z d else ds.any fun z => PyData.eqv z d)) H
section
variable {X : Cx}
theorem room_inG {A : Around} {ds : List PyData} {d : PyData} (sd : SeqAt.shaped d = true) (hu : A.units + 65 < cLine) : A.units + 1 + min (PyData.depthAll ds) d.depth < cLine := by
  have := SeqAt.depth_of_shaped sd
  have := Nat.min_le_right (PyData.depthAll ds) d.depth
  omega
theorem op_inG (hu : X.A.units + 65 < cLine) : OpR X (compareOp .In) (rInG X.K false) := by
  intro pins s σ H x y v u Q I rx ry h
  obtain ⟨d, ds, hd, he, sd, q⟩ := h
  obtain ⟨as, r1⟩ := Dp.reads I d x v hd rx
  have pd := PyData.plain_of_canLay0 d (SeqAt.canLay_of_shaped sd)
  rcases he with ⟨he, se⟩ | ⟨he, se⟩
  · obtain ⟨bs, r2⟩ := Dp.reads I (.list ds) y u he ry
    exact SeqAt.in_list_data r2 r1 (PyData.plainAll_of_canLay0 ds (SeqAt.canLay_of_shaped se)) pd (room_inG sd hu) ⟨.bl _, H, I, rfl, q⟩
  · obtain ⟨bs, r2⟩ := Dp.reads I (.tuple ds) y u he ry
    exact SeqAt.in_tuple_data r2 r1 (PyData.plainAll_of_canLay0 ds (SeqAt.canLay_of_shaped se)) pd (room_inG sd hu) ⟨.bl _, H, I, rfl, q⟩
theorem op_notInG (hu : X.A.units + 65 < cLine) : OpR X (compareOp .NotIn) (rInG X.K true) := by
  intro pins s σ H x y v u Q I rx ry h
  obtain ⟨d, ds, hd, he, sd, q⟩ := h
  obtain ⟨as, r1⟩ := Dp.reads I d x v hd rx
  have pd := PyData.plain_of_canLay0 d (SeqAt.canLay_of_shaped sd)
  rcases he with ⟨he, se⟩ | ⟨he, se⟩
  · obtain ⟨bs, r2⟩ := Dp.reads I (.list ds) y u he ry
    exact SeqAt.notIn_list_data r2 r1 (PyData.plainAll_of_canLay0 ds (SeqAt.canLay_of_shaped se)) pd (room_inG sd hu) ⟨.bl _, H, I, rfl, q⟩
  · obtain ⟨bs, r2⟩ := Dp.reads I (.tuple ds) y u he ry
    exact SeqAt.notIn_tuple_data r2 r1 (PyData.plainAll_of_canLay0 ds (SeqAt.canLay_of_shaped se)) pd (room_inG sd hu) ⟨.bl _, H, I, rfl, q⟩
theorem seqs_dp {K : PySem.W.Frag} {H : Hp} {e : D} {xs : List D} {y : V} (h : e.seqs = some xs) (f : fits xs 59 = true) (r : R K H y e) : Dp K H y (.list (toPys xs)) ∧ SeqAt.shaped (.list (toPys xs)) = true ∨ Dp K H y (.tuple (toPys xs)) ∧ SeqAt.shaped (.tuple (toPys xs)) = true := by
  cases e with
  | lst ys =>
    cases h
    have fl : D.fit (.lst xs) 60 = true := f
    exact .inl ⟨R.dp (.lst xs) y 60 fl r, fit_shaped (d := .lst xs) fl⟩
  | tup ys =>
    cases h
    have fl : D.fit (.tup xs) 60 = true := f
    exact .inr ⟨R.dp (.tup xs) y 60 fl r, fit_shaped (d := .tup xs) fl⟩
  | _ => cases h
theorem os_inG {k : Nat} {A : Around} (hr : Room k A) (hA : X.A = A := by rfl) : OpS X (compareOp .In) gInG := ⟨_, op_inG (by rw [hA]; have := hr.un; omega), fun H x y d e z Q rx ry hz q => by
  unfold gInG at hz
  cases hs : e.seqs with
  | none => rw [hs] at hz; cases hz
  | some xs =>
    rw [hs] at hz
    obtain ⟨c, ez⟩ := ite_some (show (if d.fit 60 = true ∧ fits xs 59 = true then some (D.bl (xs.any fun y => deq y d)) else none) = some z from hz)
    subst ez
    refine ⟨_, toPys xs, R.dp d x 60 c.1 rx, seqs_dp hs c.2 ry, fit_shaped c.1, ?_⟩
    simp only [Bool.false_eq_true, if_false]
    rw [← any_py xs d c.2 c.1]
    exact q rfl⟩
theorem os_notinG {k : Nat} {A : Around} (hr : Room k A) (hA : X.A = A := by rfl) : OpS X (compareOp .NotIn) gNotInG := ⟨_, op_notInG (by rw [hA]; have := hr.un; omega), fun H x y d e z Q rx ry hz q => by
  unfold gNotInG at hz
  cases hs : e.seqs with
  | none => rw [hs] at hz; cases hz
  | some xs =>
    rw [hs] at hz
    obtain ⟨c, ez⟩ := ite_some (show (if d.fit 60 = true ∧ fits xs 59 = true then some (D.bl (!xs.any fun y => deq y d)) else none) = some z from hz)
    subst ez
    refine ⟨_, toPys xs, R.dp d x 60 c.1 rx, seqs_dp hs c.2 ry, fit_shaped c.1, ?_⟩
    simp only [if_true]
    rw [← any_py xs d c.2 c.1]
    exact q rfl⟩
end
end DL
/-! DLY: try: body, except X: suite -/
namespace DL
open PySem PySem.Spec PyProof.Rows L2
theorem exm_self {K : PySem.W.Frag} {mg : Str → Option Value} {c : Str} (h : ExF K mg c) : PySem.W.exmOne K (exv mg c) (exv mg c) = some true := by
  obtain ⟨C, g, x, k, b, t⟩ := h.ok
  have e : exv mg c = .ref C := by unfold exv; rw [g]; rfl
  rw [e]
  have hc : ∃ cd bm, PySem.W.clsIn K C = some cd ∧ cd.mro = .ref C :: bm := by
    unfold PySem.W.excIn at x
    split at x
    · rename_i cd sl ho
      split at x
      · rename_i C' bm _ _ _ _ _ _ hm hs
        simp only [Bool.and_eq_true, beq_iff_eq] at x
        refine ⟨cd, bm, ?_, ?_⟩
        · unfold PySem.W.clsIn; rw [ho]
        · rw [hm, x.1.1.1.1.1]
      · cases x
    · cases x
  obtain ⟨cd, bm, h1, h2⟩ := hc
  have e1 : (PySem.W.subIn K (.ref C) (.type "BaseException") == some true) = true := by rw [b] <;> rfl
  have e2 : ((PySem.W.clsIn K C).isSome && PySem.W.typeIn K (.ref C) == some (.type "type")) = true := by rw [h1, t] <;> rfl
  have e3 : PySem.W.subIn K (.ref C) (.ref C) = some true := by
    show (PySem.W.clsIn K C).bind (fun cd => if cd.mro.isEmpty then none else some (cd.mro.contains (.ref C))) = some true
    rw [h1]
    show (if cd.mro.isEmpty then none else some (cd.mro.contains (.ref C))) = some true
    rw [h2]
    simp
  show (if (PySem.W.subIn K (.ref C) (.type "BaseException") == some true) = true then (if ((PySem.W.clsIn K C).isSome && PySem.W.typeIn K (.ref C) == some (.type "type")) = true then PySem.W.subIn K (.ref C) (.ref C) else none) else none) = some true
  rw [if_pos e1, if_pos e2, e3]
/-- try: f, except x: g. An exception of another class is not told -/
@[simp] noncomputable def dTry (x : Str) (f g : DSn) (ρ : List Slot) : Out := match f ρ with
  | .ex c ρ1 => if c = x then (match g ρ1 with
    | .ex _ _ => .stuck
    | o => o) else .stuck
  | o => o
section
variable {X : Cx} {W : WX} {I : List Nat}
theorem ds_try {x : Str} {body suite : List Stmt} {b₀ : Stmt} {np pos pos' : Pos} {f g : DSn} (tk : Takes X W) {K : PySem.W.Frag} {mg : Str → Option Value} (h : ExF K mg x)
    (hb : ∀ (W1 : WX) (pn : List (Addr × Obj)) (xe : Value → Shared → Prop), Takes (X.tr pn xe) W1 → PassesOwn (model X.prog X.w) X.A X.env xe → DSs (X.tr pn xe) W1 I body f)
    (hsu : ∀ (a : Addr) (pn : List (Addr × Obj)), DSs (X.suite a pn) W0 I (b₀ :: suite) g)
    (hX : X.K = K ∧ X.mg = mg := by exact ⟨rfl, rfl⟩) (hg : Gl X x := by rfl) (hdb : (x == ("__debug__" : Str)) = false := by decide) (hs : X.stack = X.env :: X.outer := by rfl) (hf : X.env.frame = some X.env.locals := by rfl) :
    DS X W I (.Try body [.ExceptHandler (some (.Name x np)) none (b₀ :: suite) pos'] [] [] pos) (dTry x f g) := by
  obtain ⟨rfl, rfl⟩ := hX
  have hm := exm_self h
  obtain ⟨C, gm, _⟩ := h.ok
  have e : exv X.mg x = .ref C := by unfold exv; rw [gm]; rfl
  refine ⟨PS_imp (ps_try_only (tb := fun W1 => dS X.K X.mg W1 I f) (ts := fun _ _ _ => dS X.K X.mg W0 I g) (c := exv X.mg x) hs hf ⟨hg, hdb, .inl (gm.trans (congrArg some e.symm))⟩ tk (fun W1 pn xe t p => (hb W1 pn xe t p).pss) fun a oe cls d pn _ _ => (hsu a ((a, oe) :: pn)).pss) fun D σ H ⟨F, O, ρ, rs, h⟩ => ⟨F, O, ρ, rs, ?_⟩⟩
  unfold dTry at h
  cases hf : f ρ with
  | nx ρ1 => rw [hf] at h; exact h
  | bk ρ1 => rw [hf] at h; exact h
  | ct ρ1 => rw [hf] at h; exact h
  | rt s ρ1 => rw [hf] at h; exact h
  | stuck => rw [hf] at h; exact h
  | ex c ρ1 =>
    rw [hf] at h
    dsimp only at h
    by_cases hc : c = x
    · subst hc
      rw [if_pos rfl] at h
      intro F' O' σ' H' rs' st pn
      refine ⟨true, hm, fun _ a _ => ⟨F', O', ρ1, rs', ?_⟩, fun z => nomatch z⟩
      cases hg2 : g ρ1 with
      | nx ρ2 => rw [hg2] at h; exact OutOk.step (W := W0) (o := .nx ρ2) st pn h
      | bk ρ2 => rw [hg2] at h; exact OutOk.step (W := W0) (o := .bk ρ2) st pn h
      | ct ρ2 => rw [hg2] at h; exact OutOk.step (W := W0) (o := .ct ρ2) st pn h
      | rt s ρ2 => rw [hg2] at h; exact OutOk.step (W := W0) (o := .rt s ρ2) st pn h
      | stuck => rw [hg2] at h; exact h.elim
      | ex _ _ => rw [hg2] at h; exact h.elim
    · rw [if_neg hc] at h; exact h.elim
end
end DL
/-! DL: xs.pop(k), xs.remove(k) of a def's own list -/
namespace DL
open PySem PySem.Spec PyProof.Rows L2
theorem Rs.erase {K : PySem.W.Frag} {F : Hp} : ∀ {vs : List V} {ds : List D} (i : Nat), Rs K F vs ds → Rs K F (vs.eraseIdx i) (ds.eraseIdx i)
  | _, _, _, .nil => .nil
  | _, _, 0, .cons _ t => t
  | _, _, i + 1, .cons r t => .cons r (Rs.erase i t)
@[simp] noncomputable def dPop (i : Nat) (fa : DLn) (ρ : List Slot) : Res (Slot × List Slot) := (Res.lift (ρ[i]?.bind Slot.lp)).bind fun _ => (fa ρ).bind fun p => (Res.lift p.2[i]?).bind fun s => (Res.lift s.lp).bind fun xs =>
  match p.1 with
  | [.int k] => if 0 ≤ k ∧ k < 1000000000 then (Res.lift xs[k.toNat]?).bind fun d => .ok (.sh d, p.2.set i (s.put (xs.eraseIdx k.toNat))) else .stuck
  | _ => .stuck
/-- the first place of k -/
def idxI (ns : List Int) (k : Int) : Nat := ns.findIdx (· == k)
@[simp] noncomputable def dRem (i : Nat) (fa : DLn) (ρ : List Slot) : Out := match ρ[i]?.bind Slot.lp with
  | none => .stuck
  | some _ => (fa ρ).out fun ds ρ1 => match ds, ρ1[i]? with
    | [.int k], some t => (match t.lp with
      | some xs => (match asInts xs with
        | some ns => if k ∈ ns then .nx (ρ1.set i (t.put ((ns.erase k).map D.int))) else .stuck
        | none => .stuck)
      | none => .stuck)
    | _, _ => .stuck
section
variable {X : Cx} {W : WX}
theorem de_pop {y : Str} {pu : Bool} {e1 : Expr} {fa : DLn} {py apos cpos : Pos} (i : Nat) (he : AF X W pu [e1] fa) (hN : X.N[i]? = some y := by rfl)
    (hvis : Vis X.env.scope y := by first | exact Or.inl rfl | exact Or.inr (Or.inl rfl) | exact Or.inr (Or.inr rfl)) (hd : (y == ("__debug__" : Str)) = false := by decide) (hcd : (y == ("__classdict__" : Str)) = false := by decide)
    (ha : PE X (.Name y py) (tVar i) → PA X [e1] (dAF X.K X.mg W pu fa) → PE X (.Call (.Attribute (.Name y py) "pop" apos) [e1] [] cpos) (tBM X.K "list" rPopAt (tVar i) (dAF X.K X.mg W pu fa)) := by
      intro h1 h2; exact pe_bm PySem.F.plainAttrs_list PySem.F.slot_list_pop PySem.F.type_list_pop mt_popAt h1 h2) :
    DE X W false (.Call (.Attribute (.Name y py) "pop" apos) [e1] [] cpos) (dPop i fa) := by
  refine ⟨PE_imp (ha (pe_var hN hvis hd hcd) he.pa) fun σ H Q ⟨F, O, ρ, rs, h⟩ => ?_⟩
  unfold dPop at h
  rw [Res.wp_bind, Res.wp_lift] at h
  obtain ⟨xs0, h0, h⟩ := h
  cases hρ : ρ[i]? with
  | none => rw [hρ] at h0; cases h0
  | some s0 =>
    rw [hρ] at h0
    obtain ⟨a, vs0, ea, hH0, _, _⟩ := slot_lp (rs.ok i s0 hρ) h0
    refine ⟨.ref a, join_some ea, .inl ⟨rfl, _, SqL.of hH0⟩, F, O, ρ, rs, ?_⟩
    rw [Res.wp_bind] at h
    refine Res.wp_mono h (fun p hp => ?_) (fun _ _ e => e)
    intro F1 O1 vs H1 rs1 v1 st1 pu1
    rw [Res.wp_bind, Res.wp_lift] at hp
    obtain ⟨s, hs, hp⟩ := hp
    rw [Res.wp_bind, Res.wp_lift] at hp
    obtain ⟨xs, hxs, hp⟩ := hp
    obtain ⟨a', us, ea', hH, oa, rx⟩ := slot_lp (rs1.ok i s hs) hxs
    rw [ea] at ea'
    cases ea'
    have v1 : Rs X.K F1 vs p.1 := v1
    obtain ⟨ds, ρ1⟩ := p
    dsimp only at v1 hp hs rs1
    cases v1 with
    | nil => exact hp.elim
    | @cons v vs d0 ds r1 rr =>
      cases rr with
      | cons _ _ => cases d0 <;> exact hp.elim
      | nil =>
        cases d0 with
        | int k =>
          by_cases hc : 0 ≤ k ∧ k < 1000000000
          · dsimp only at hp
            rw [if_pos hc, Res.wp_bind, Res.wp_lift] at hp
            obtain ⟨d, hd2, hp⟩ := hp
            obtain ⟨u, hu, ru⟩ := rx.get hd2
            obtain ⟨rs3, st3⟩ := rs1.change hs hxs ea oa (rx.erase k.toNat)
            cases r1
            have kl : k.toNat < us.length := (List.getElem?_eq_some_iff.mp hu).1
            refine ⟨a, us, k, k.toNat, u, rfl, rfl, hH, by omega, by omega, ?_, hu, ?_⟩
            · unfold seqIndex?
              have c1 : ¬ k < 0 := by omega
              have c2 : k < (us.length : Int) := by omega
              simp [c1, hc.1, c2]
            · exact hp F1 O1 u _ rs3 ru (st1.trans st3) (fun z => nomatch z)
          · dsimp only at hp
            rw [if_neg hc] at hp
            exact hp.elim
        | _ => exact hp.elim
theorem erase_first : ∀ (ns : List Int) (k : Int), k ∈ ns → ∃ j, ns[j]? = some k ∧ (∀ m : Nat, m < j → ns[m]? ≠ some k) ∧ ns.erase k = ns.eraseIdx j
  | [], k, h => by simp at h
  | n :: ns, k, h => by
    by_cases e : n = k
    · subst e
      exact ⟨0, rfl, fun m hm => absurd hm (Nat.not_lt_zero _), by simp⟩
    · have h2 : k ∈ ns := by
        rcases List.mem_cons.mp h with z | z
        · exact absurd z.symm e
        · exact z
      obtain ⟨j, h1, h3, h4⟩ := erase_first ns k h2
      refine ⟨j + 1, h1, fun m hm => ?_, ?_⟩
      · cases m with
        | zero => simpa using e
        | succ m => exact h3 m (by omega)
      · rw [List.erase_cons_tail (by simpa using e), h4]
        rfl
theorem ds_rem {I : List Nat} {y : Str} {pu : Bool} {e1 : Expr} {fa : DLn} {py apos pos cpos : Pos} (i : Nat) (he : AF X W pu [e1] fa) (hN : X.N[i]? = some y := by rfl)
    (hvis : Vis X.env.scope y := by first | exact Or.inl rfl | exact Or.inr (Or.inl rfl) | exact Or.inr (Or.inr rfl)) (hd : (y == ("__debug__" : Str)) = false := by decide) (hcd : (y == ("__classdict__" : Str)) = false := by decide)
    (ha : PE X (.Name y py) (tVar i) → PA X [e1] (dAF X.K X.mg W pu fa) → PE X (.Call (.Attribute (.Name y py) "remove" apos) [e1] [] cpos) (tBM X.K "list" rRemI (tVar i) (dAF X.K X.mg W pu fa)) := by
      intro h1 h2; exact pe_bm PySem.F.plainAttrs_list PySem.F.slot_list_remove PySem.F.type_list_remove mt_remove h1 h2)
    (hs : swapsWith (.Call (.Attribute (.Name y py) "remove" apos) [e1] [] cpos) none pos.line X.env = pure false := by rfl) : DS X W I (.Expr (.Call (.Attribute (.Name y py) "remove" apos) [e1] [] cpos) pos) (dRem i fa) := by
  refine ⟨PS_imp (ps_expr (ha (pe_var hN hvis hd hcd) he.pa) hs) fun D' σ H ⟨F, O, ρ, rs, h⟩ => ?_⟩
  unfold dRem at h
  cases h0 : ρ[i]?.bind Slot.lp with
  | none => simp only [h0] at h; exact h.elim
  | some xs0 =>
    simp only [h0] at h
    cases hρ : ρ[i]? with
    | none => rw [hρ] at h0; cases h0
    | some s0 =>
      rw [hρ] at h0
      obtain ⟨a, vs0, ea, hH0, _, _⟩ := slot_lp (rs.ok i s0 hρ) h0
      refine ⟨.ref a, join_some ea, .inl ⟨rfl, _, SqL.of hH0⟩, F, O, ρ, rs, out_wp h fun ds ρ1 h => ?_⟩
      intro F1 O1 vs H1 rs1 v1 st1 _
      have v1 : Rs X.K F1 vs ds := v1
      cases v1 with
      | nil => exact h.elim
      | @cons v vs d0 ds r1 rr =>
        cases rr with
        | cons _ _ => cases d0 <;> exact h.elim
        | nil =>
          cases d0 with
          | int k =>
            cases ht : ρ1[i]? with
            | none => simp only [ht] at h; exact h.elim
            | some t =>
              simp only [ht] at h
              cases hl : t.lp with
              | none => simp only [hl] at h; exact h.elim
              | some xs =>
                simp only [hl] at h
                cases hi : asInts xs with
                | none => simp only [hi] at h; exact h.elim
                | some ns =>
                  simp only [hi] at h
                  have exs := asInts_some hi
                  subst exs
                  obtain ⟨a', us, ea', hH, oa, rx⟩ := slot_lp (rs1.ok i t ht) hl
                  rw [ea] at ea'
                  cases ea'
                  by_cases hk : k ∈ ns
                  · rw [if_pos hk] at h
                    cases r1
                    obtain ⟨j, j1, j2, j3⟩ := erase_first ns k hk
                    rw [rx.ints] at hH
                    rw [j3] at h
                    have rn : Rs X.K F1 ((ns.eraseIdx j).map V.int) ((ns.eraseIdx j).map D.int) := Rs.of_ints _
                    obtain ⟨rs3, st3⟩ := rs1.change ht hl ea oa rn
                    exact ⟨a, ns, k, j, rfl, rfl, hH, j1, j2, h F1 O1 σ _ rs3 (st1.trans st3) .refl⟩
                  · rw [if_neg hk] at h; exact h.elim
          | _ => exact h.elim
end
end DL
/-! DL: comprehensions whose name bears a value already -/
namespace DL
open PySem PySem.Spec PyProof.Rows L2
theorem dLc_eqV {α : Type} {fr fz : Bool} {it : DIn} {tt : DTn} {te : DEn} {v : Nat} {s : Slot} {ρ ρ1 : List Slot} {ds : List D} (xs : List α) (c : α → D) (p : α → Bool) (f : α → D) (hi : it ρ = .ok ((fz, ds), ρ1)) (hd : ds = xs.map c) (hv : ρ1[v]? = some s) (low : s.low = true) (hfz : (fz || fr) = true) (hl : xs.length < sizeLine)
    (ht : ∀ x ∈ xs, tt (ρ1.set v (.sh (c x))) = .ok (p x, ρ1.set v (.sh (c x)))) (he : ∀ x ∈ xs, p x = true → ∃ t, te (ρ1.set v (.sh (c x))) = .ok (t, ρ1.set v (.sh (c x))) ∧ t.fz = some (f x)) :
    dLc fr it (tgN v) tt te [v] ρ = .ok (.own ((xs.filter p).map f), ρ1) := by
  subst hd
  have lv := (List.getElem?_eq_some_iff.mp hv).1
  have e0 : ∀ t : Slot, (ρ1.set v .un).set v t = ρ1.set v t := fun t => List.set_set ..
  obtain ⟨ρ', h1, h2⟩ := compL_eq (tt := tt) (te := te) (v := v) (ρ := ρ1.set v .un) c p f (List.getElem?_set_self lv) xs (fun x hx => by rw [e0]; exact ht x hx) (fun x hx hp => by rw [e0]; exact he x hx hp) ρ1 rfl
  unfold dLc
  simp only [hi, Res.bind, h1]
  have ok : okV ρ1 [v] = true := by simp only [okV, List.all_cons, List.all_nil, Bool.and_true, hv]; exact low
  rw [if_pos ⟨by rw [ok, hfz]; rfl, by rw [List.length_map]; exact hl⟩]
  show Res.ok (Slot.own _, ρ'.set v (ρ1[v]?.getD .un)) = _
  rw [hv]
  show Res.ok (Slot.own _, ρ'.set v s) = _
  have e1 : ρ'.set v s = ρ1 := by
    rw [← List.set_set (a := .un) (b := s) (l := ρ') (i := v), h2, e0]
    refine List.ext_getElem? fun i => ?_
    by_cases hi : v = i
    · subst hi; rw [List.getElem?_set_self lv, hv]
    · rw [List.getElem?_set_ne hi]
  rw [e1]
theorem dLc_mapV {α : Type} {fr fz : Bool} {it : DIn} {te : DEn} {v : Nat} {s : Slot} {ρ ρ1 : List Slot} {ds : List D} (xs : List α) (c : α → D) (f : α → D) (hi : it ρ = .ok ((fz, ds), ρ1)) (hd : ds = xs.map c) (hv : ρ1[v]? = some s) (low : s.low = true) (hfz : (fz || fr) = true) (hl : xs.length < sizeLine)
    (he : ∀ x ∈ xs, ∃ t, te (ρ1.set v (.sh (c x))) = .ok (t, ρ1.set v (.sh (c x))) ∧ t.fz = some (f x)) : dLc fr it (tgN v) dYes te [v] ρ = .ok (.own (xs.map f), ρ1) := by
  have := dLc_eqV (fr := fr) (tt := dYes) xs c (fun _ => true) f hi hd hv low hfz hl (fun _ _ => rfl) (fun x hx _ => he x hx)
  rw [filter_all (fun _ _ => rfl)] at this
  exact this
theorem dName_at {ρ : List Slot} {i : Nat} {d : D} (h : ρ[i]? = some (.sh d)) : dName i ρ = .ok (.sh d, ρ) := by
  simp [h]
theorem dName_set {ρ : List Slot} {i v : Nat} {d : D} {t : Slot} (h : ρ[i]? = some (.sh d)) (ne : i ≠ v) : dName i (ρ.set v t) = .ok (.sh d, ρ.set v t) := by
  refine dName_at ?_
  rw [List.getElem?_set_ne (Ne.symm ne)]
  exact h
theorem dName_new {ρ : List Slot} {v : Nat} {d : D} {s : Slot} (hv : ρ[v]? = some s) : dName v (ρ.set v (.sh d)) = .ok (.sh d, ρ.set v (.sh d)) :=
  dName_at (List.getElem?_set_self (List.getElem?_eq_some_iff.mp hv).1)
theorem dSeqI_list {ρ : List Slot} {i : Nat} {xs : List D} (h : ρ[i]? = some (.sh (.lst xs))) : dSeqI (dName i) ρ = .ok ((true, xs), ρ) := by
  simp [h]
theorem setF_own {i : Nat} {f : DEn} {ρ ρ1 : List Slot} {xs : List D} (h : f ρ = .ok (.own xs, ρ1)) : dSetF i f ρ = .nx (ρ1.set i (.sh (.lst xs))) := by
  simp [h]
theorem setF_sh {i : Nat} {f : DEn} {ρ ρ1 : List Slot} {d : D} (h : f ρ = .ok (.sh d, ρ1)) : dSetF i f ρ = .nx (ρ1.set i (.sh d)) := by
  simp [h]
theorem seqI_own {f : DEn} {ρ ρ1 : List Slot} {xs : List D} (h : f ρ = .ok (.own xs, ρ1)) : dSeqI f ρ = .ok ((true, xs), ρ1) := by
  simp [h]
theorem dIf_no {c : DTn} {a : DSn} {ρ ρ1 : List Slot} (h : c ρ = .ok (false, ρ1)) : dIf c a dSkip ρ = .nx ρ1 := by
  simp [h]
theorem setF_ow {i : Nat} {f : DEn} {ρ ρ1 : List Slot} {xs : List D} {o : Out} (h : f ρ = .ok (.own xs, ρ1)) (e : o = .nx (ρ1.set i (.sh (.lst xs)))) : dSetF i f ρ = o := by
  rw [e]; exact setF_own h
end DL
/-! DLM: dicts as data (closed for good): d[k], d.get(k, v), for k in d; an own dict closed; {i: j} -/
namespace DL
open PySem PySem.Spec PyProof.Rows L2
/-- what an expression makes, closed for good -/
def tFrz (t : TE) : TE := fun σ H Q => t σ H fun v H1 => ∃ d u, v = .ref d ∧ H1 d = some u ∧ Mut (some u) ∧ ∀ od, Q v (upd H1 d (.frz od u))
theorem pe_frz {X : Cx} {e : Expr} {t : TE} (h : PE X e t) : PE X e (tFrz t) := by
  refine ⟨fun pins s σ H Q I hw => ?_⟩
  refine thn (h.run pins s σ H _ I hw) fun w s1 ⟨v, H1, I1, rv, d, u, ev, hd, mu, q⟩ => ?_
  obtain ⟨od, I2⟩ := I1.lock hd mu
  exact ⟨v, _, I2, rv, q od⟩
theorem KX.zip {K : PySem.W.Frag} {F : Hp} {kvs : List (Key × V)} {ks : List Key} {ds : List D} (h1 : kvs.map (·.1) = ks) (h2 : Rs K F (kvs.map (·.2)) ds) : KX K F kvs (ks.zip ds) := by
  subst h1
  have l := h2.length
  rw [List.length_map] at l
  constructor
  · rw [List.map_fst_zip (by rw [List.length_map]; omega)]
  · rw [List.map_snd_zip (by rw [List.length_map]; omega)]
    exact h2
section
variable {K : PySem.W.Frag} {F H : Hp} {O : Own} {σ : L2.St} {ρ : List Slot}
/-- a fresh dict is closed -/
theorem RS.closeV {kxs : List (Key × D)} {v : V} (r : RS K F σ ρ H O) (h : VOk K F H O ρ.length (.od kxs) v) : ∃ a kvs, v = .ref a ∧ H a = some (.dK kvs) ∧ ∀ od, ∃ F' O', RS K F' σ ρ (upd H a (.frz od (.dK kvs))) O' ∧
    R K F' v (.dct (kxs.map (·.1)) (kxs.map (·.2))) ∧ Step F H O F' (upd H a (.frz od (.dK kvs))) O' := by
  obtain ⟨a, kvs, rfl, q, p, m1, m2⟩ := h
  obtain ⟨fa, _⟩ := r.out a _ p
  refine ⟨a, kvs, rfl, q, fun od => ?_⟩
  have sm : Same F (upd F a (.frz od (.dK kvs))) := fun b o e => by rw [upd_ne (ne_of_none e fa)]; exact e
  refine ⟨upd F a (.frz od (.dK kvs)), fun b => if b = a then none else O b, r.ext sm (fun b o e => ?_) (fun c i u hc hi hu => ?_) (fun b i e => ?_), .dct upd_same m1 (m2.up sm), ⟨fun b o e n => ?_, fun b o e => ?_, sm, fun b o e => ?_, fun b i e => ?_⟩⟩
  · by_cases hb : b = a
    · subst hb; rw [upd_same] at e ⊢; exact e
    · rw [upd_ne hb] at e ⊢; exact r.fh b o e
  · have hb : c ≠ a := fun z => by subst z; rw [p] at hc; cases hc; exact absurd hi (Nat.lt_irrefl _)
    exact ⟨by rw [upd_ne hb]; exact hu, by simp [hb, hc]⟩
  · by_cases hb : b = a
    · simp [hb] at e
    · simp [hb] at e
      obtain ⟨h1, o, h2⟩ := r.out b i e
      exact ⟨by rw [upd_ne hb]; exact h1, o, by rw [upd_ne hb]; exact h2⟩
  · rw [upd_ne (fun z => by subst z; rw [p] at n; cases n)]; exact e
  · by_cases hb : b = a
    · subst hb; exact ⟨_, upd_same⟩
    · exact ⟨o, by rw [upd_ne hb]; exact e⟩
  · by_cases hb : b = a
    · subst hb; exact .inr (.inl ⟨_, p⟩)
    · rw [upd_ne hb] at e; exact .inl e
  · by_cases hb : b = a
    · simp [hb] at e
    · simp [hb] at e; exact .inl ⟨i, e⟩
/-- the dict of a name is closed -/
theorem RS.closeN {i : Nat} {kxs : List (Key × D)} (r : RS K F σ ρ H O) (hi : ρ[i]? = some (.od kxs)) : ∃ a kvs, σ[i]?.join = some (.ref a) ∧ H a = some (.dK kvs) ∧ ∀ od, ∃ F' O', RS K F' σ (ρ.set i (.sh (.dct (kxs.map (·.1)) (kxs.map (·.2))))) (upd H a (.frz od (.dK kvs))) O' ∧
    R K F' (.ref a) (.dct (kxs.map (·.1)) (kxs.map (·.2))) ∧ Step F H O F' (upd H a (.frz od (.dK kvs))) O' := by
  obtain ⟨a, kvs, ea, q, p, m1, m2⟩ := r.ok i _ hi
  obtain ⟨fa, _⟩ := r.out a _ p
  have hil : i < ρ.length := (List.getElem?_eq_some_iff.mp hi).1
  refine ⟨a, kvs, ea, q, fun od => ?_⟩
  have sm : Same F (upd F a (.frz od (.dK kvs))) := fun b o e => by rw [upd_ne (ne_of_none e fa)]; exact e
  have rd : R K (upd F a (.frz od (.dK kvs))) (.ref a) (.dct (kxs.map (·.1)) (kxs.map (·.2))) := .dct upd_same m1 (m2.up sm)
  refine ⟨upd F a (.frz od (.dK kvs)), fun b => if b = a then none else O b, ⟨by rw [List.length_set]; exact r.len, fun b o e => ?_, fun j t ht => ?_, fun b i e => ?_⟩, rd, ⟨fun b o e n => ?_, fun b o e => ?_, sm, fun b o e => ?_, fun b i e => ?_⟩⟩
  · by_cases hb : b = a
    · subst hb; rw [upd_same] at e ⊢; exact e
    · rw [upd_ne hb] at e ⊢; exact r.fh b o e
  · by_cases hj : i = j
    · subst hj
      rw [List.getElem?_set_self hil] at ht
      cases ht
      exact ⟨_, ea, rd⟩
    · rw [List.getElem?_set_ne hj] at ht
      refine (r.ok j t ht).ext sm fun b u pb hu => ?_
      have hb : b ≠ a := fun z => by subst z; rw [p] at pb; exact hj (Option.some.inj pb)
      exact ⟨by rw [upd_ne hb]; exact hu, by simp [hb, pb]⟩
  · by_cases hb : b = a
    · simp [hb] at e
    · simp [hb] at e
      obtain ⟨h1, o, h2⟩ := r.out b i e
      exact ⟨by rw [upd_ne hb]; exact h1, o, by rw [upd_ne hb]; exact h2⟩
  · rw [upd_ne (fun z => by subst z; rw [p] at n; cases n)]; exact e
  · by_cases hb : b = a
    · subst hb; exact ⟨_, upd_same⟩
    · exact ⟨o, by rw [upd_ne hb]; exact e⟩
  · by_cases hb : b = a
    · subst hb; exact .inr (.inl ⟨_, p⟩)
    · rw [upd_ne hb] at e; exact .inl e
  · by_cases hb : b = a
    · simp [hb] at e
    · simp [hb] at e; exact .inl ⟨i, e⟩
end
section
variable {X : Cx} {W : WX} {I : List Nat}
/-- a dict that an expression makes, closed -/
@[simp] noncomputable def dFzD (f : DEn) (ρ : List Slot) : Res (Slot × List Slot) := (f ρ).bind fun p => match p.1 with
  | .od kxs => .ok (.sh (.dct (kxs.map (·.1)) (kxs.map (·.2))), p.2)
  | _ => .stuck
theorem de_fzD {pu : Bool} {e : Expr} {f : DEn} (he : DE X W pu e f) : DE X W false e (dFzD f) := by
  refine ⟨PE_imp (pe_frz he.pe) fun σ H Q ⟨F, O, ρ, rs, h⟩ => ⟨F, O, ρ, rs, ?_⟩⟩
  unfold dFzD at h
  rw [Res.wp_bind] at h
  refine Res.wp_mono h (fun p hp => ?_) (fun _ _ e => e)
  intro F1 O1 v H1 rs1 v1 st1 pu1
  cases hs : p.1 with
  | od kxs =>
    rw [hs] at v1
    simp only [hs] at hp
    obtain ⟨a, kvs, rfl, q, k⟩ := rs1.closeV v1
    refine ⟨a, _, rfl, q, trivial, fun od => ?_⟩
    obtain ⟨F2, O2, rs2, rd, st2⟩ := k od
    exact hp F2 O2 _ _ rs2 rd (st1.trans st2) fun z => nomatch z
  | _ => simp only [hs] at hp; exact hp.elim
/-- a name's own dict, closed where it stands -/
@[simp] noncomputable def dNameD (i : Nat) (ρ : List Slot) : Res (Slot × List Slot) := match ρ[i]? with
  | some (.od kxs) => .ok (.sh (.dct (kxs.map (·.1)) (kxs.map (·.2))), ρ.set i (.sh (.dct (kxs.map (·.1)) (kxs.map (·.2)))))
  | some (.sh d) => .ok (.sh d, ρ)
  | _ => .stuck
theorem de_nameD {x : Str} {pos : Pos} (i : Nat) (hN : X.N[i]? = some x := by rfl) (hv : Vis X.env.scope x := by first | exact Or.inl rfl | exact Or.inr (Or.inl rfl) | exact Or.inr (Or.inr rfl)) (hd : (x == ("__debug__" : Str)) = false := by decide)
    (hcd : (x == ("__classdict__" : Str)) = false := by decide) : DE X W false (.Name x pos) (dNameD i) := by
  refine ⟨⟨fun pins s σ H Q I h => ?_⟩⟩
  obtain ⟨F, O, ρ, rs, h⟩ := h
  unfold dNameD at h
  cases hρ : ρ[i]? with
  | none => simp only [hρ] at h; exact h.elim
  | some t =>
    cases t with
    | sh d =>
      simp only [hρ] at h
      obtain ⟨v, ev, r⟩ := rs.ok i _ hρ
      exact (pe_var hN hv hd hcd).run pins s σ H Q I ⟨v, join_some ev, h F O v H rs r .refl fun z => nomatch z⟩
    | od kxs =>
      simp only [hρ] at h
      obtain ⟨a, kvs, ea, q, k⟩ := rs.closeN hρ
      refine (pe_frz (pe_var hN hv hd hcd)).run pins s σ H Q I ⟨.ref a, join_some ea, a, _, rfl, q, trivial, fun od => ?_⟩
      obtain ⟨F2, O2, rs2, rd, st2⟩ := k od
      exact h F2 O2 _ _ rs2 rd st2 fun z => nomatch z
    | _ => simp only [hρ] at h; exact h.elim
/-- {i: j}, closed -/
@[simp] noncomputable def dOneD (i j : Int) (ρ : List Slot) : Res (Slot × List Slot) := .ok (.sh (.dct [.inl i] [.int j]), ρ)
/-- what a dict literal is, closed: nothing that was there is changed -/
theorem RS.newClosed {K : PySem.W.Frag} {F H : Hp} {O : Own} {σ : L2.St} {ρ : List Slot} {p : Addr} {kvs : List (Key × V)} {ks : List Key} {ds : List D} {od : Obj} (r : RS K F σ ρ H O) (np : H p = none) (h1 : kvs.map (·.1) = ks) (h2 : Rs K F (kvs.map (·.2)) ds) :
    RS K (upd F p (.frz od (.dK kvs))) σ ρ (upd H p (.frz od (.dK kvs))) O ∧ R K (upd F p (.frz od (.dK kvs))) (.ref p) (.dct ks ds) ∧ Step F H O (upd F p (.frz od (.dK kvs))) (upd H p (.frz od (.dK kvs))) O ∧ Same H (upd H p (.frz od (.dK kvs))) := by
  have smH : Same H (upd H p (.frz od (.dK kvs))) := fun b o e => by rw [upd_ne (ne_of_none e np)]; exact e
  have nf : F p = none := by
    cases q : F p with
    | none => rfl
    | some o => have := r.fh p o q; rw [np] at this; cases this
  have sm : Same F (upd F p (.frz od (.dK kvs))) := fun b o e => by rw [upd_ne (ne_of_none e nf)]; exact e
  refine ⟨r.ext sm (fun b o e => ?_) (fun c i u hc hi hu => ⟨smH _ _ hu, hc⟩) (fun b i e => ?_), .dct upd_same h1 (h2.up sm), ⟨fun b o e _ => smH b o e, fun b o e => ⟨o, smH b o e⟩, sm, fun b o e => ?_, fun b i e => .inl ⟨i, e⟩⟩, smH⟩
  · by_cases hb : b = p
    · subst hb; rw [upd_same] at e ⊢; exact e
    · rw [upd_ne hb] at e ⊢; exact r.fh b o e
  · obtain ⟨h1, o, h2⟩ := r.out b i e
    have hb : b ≠ p := ne_of_none h2 np
    exact ⟨by rw [upd_ne hb]; exact h1, o, smH b o h2⟩
  · by_cases hb : b = p
    · subst hb; exact .inr (.inr np)
    · rw [upd_ne hb] at e; exact .inl e
theorem upd_upd {H : Hp} {a : Addr} {u v : HO} : upd (upd H a u) a v = upd H a v := by
  funext b
  by_cases hb : b = a
  · subst hb; rw [upd_same, upd_same]
  · rw [upd_ne hb, upd_ne hb, upd_ne hb]
theorem de_oneD {i j : Int} {k1 k2 : Nat} {p1 p2 pos : Pos} : DE X W true (.Dict [some (.Constant (.int i) k1 p1)] [.Constant (.int j) k2 p2] pos) (dOneD i j) := by
  refine ⟨PE_imp (pe_frz (pe_disp (pps_cons pe_int pe_int pps_nil) rfl rfl (by simp) (show 1 ≤ 15 by decide))) fun σ H Q ⟨F, O, ρ, rs, h⟩ => ?_⟩
  intro p np
  refine ⟨upd_same, [(.inl i, .int j)], rfl, (show 1 ≤ 15 by decide), p, _, rfl, upd_same, trivial, fun od => ?_⟩
  rw [upd_upd, upd_upd]
  obtain ⟨a, b, c, d⟩ := rs.newClosed (od := od) (kvs := [(.inl i, .int j)]) (ks := [.inl i]) (ds := [.int j]) np rfl (.cons (.int j) .nil)
  exact h _ O _ _ a b c fun _ => d
/-- {}, closed -/
@[simp] noncomputable def dNilD (ρ : List Slot) : Res (Slot × List Slot) := .ok (.sh (.dct [] []), ρ)
theorem de_nilD {pos : Pos} : DE X W true (.Dict [] [] pos) dNilD := by
  refine ⟨PE_imp (pe_frz pe_dnewK) fun σ H Q ⟨F, O, ρ, rs, h⟩ => ?_⟩
  intro p np
  refine ⟨p, _, rfl, upd_same, trivial, fun od => ?_⟩
  rw [upd_upd]
  obtain ⟨a, b, c, d⟩ := rs.newClosed (od := od) (kvs := []) (ks := []) (ds := []) np rfl .nil
  exact h _ O _ _ a b c fun _ => d
/-! ### d[k], d.get(k, v), k in d, for k in d -/
@[simp] noncomputable def kDct (ks : List Key) (ds : List D) (e : Slot) : Option (Option D) := (e.val.bind keyD).map fun k => valD (ks.zip ds) k
@[simp] noncomputable def dDIx (f fi : DEn) (ρ : List Slot) : Res (Slot × List Slot) := (f ρ).bind fun p => match p.1 with
  | .sh (.dct ks ds) => (fi p.2).bind fun q => (match kDct ks ds q.1 with
    | some (some d) => .ok (.sh d, q.2)
    | _ => .stuck)
  | _ => .stuck
theorem dct_at {K : PySem.W.Frag} {F F2 H2 : Hp} {a : Addr} {ks : List Key} {ds : List D} (h : R K F (.ref a) (.dct ks ds)) (s1 : Same F F2) (s2 : Same F2 H2) {e : Slot} {O2 : Own} {n : Nat} {y : V} (ve : VOk K F2 H2 O2 n e y) {o : Option D} (hk : kDct ks ds e = some o) :
    ∃ r, DGet H2 a y r ∧ ((∃ v d, r = some v ∧ o = some d ∧ R K F2 v d) ∨ (r = none ∧ o = none)) := by
  cases h with
  | @dct _ od kvs _ _ hF h1 h2 =>
    have hH := s2 _ _ (s1 _ _ hF)
    unfold kDct at hk
    cases hv : e.val with
    | none => rw [hv] at hk; cases hk
    | some ed =>
      rw [hv] at hk
      cases hkd : keyD ed with
      | none => rw [Option.bind_some, hkd] at hk; cases hk
      | some k =>
        rw [Option.bind_some, hkd] at hk
        have hk : valD (ks.zip ds) k = o := Option.some.inj hk
        have ey := key_read (ve.read s2 hv) hkd
        subst ey
        refine ⟨valV kvs k, .inl ⟨kvs, k, .inr ⟨od, hH⟩, rfl, rfl⟩, ?_⟩
        rcases (KX.zip h1 h2).val k with ⟨v, d, e1, e2, r⟩ | ⟨e1, e2⟩
        · exact .inl ⟨v, d, e1, by rw [← hk, e2], r.up s1⟩
        · exact .inr ⟨e1, by rw [← hk, e2]⟩
theorem R.dct_ref {K : PySem.W.Frag} {F : Hp} {v : V} {ks : List Key} {ds : List D} (h : R K F v (.dct ks ds)) : ∃ a, v = .ref a := by
  cases h with
  | dct _ _ _ => exact ⟨_, rfl⟩
theorem de_dix {pa pb : Bool} {o ei : Expr} {f fi : DEn} {pos : Pos} {k : Nat} {A : Around} (hr : Room k A) (ho : DE X W pa o f) (hi : DE X W pb ei fi) (hA : X.A = A := by rfl) (hs : NoSl ei := by intro _ _; rfl) : DE X W (pa && pb) (.Subscript o ei pos) (dDIx f fi) := by
  refine ⟨PE_imp (pe_dget (by rw [hA]; have := hr.units; omega) ho.pe hi.pe hs) fun σ H Q ⟨F, O, ρ, rs, h⟩ => ⟨F, O, ρ, rs, ?_⟩⟩
  unfold dDIx at h
  rw [Res.wp_bind] at h
  refine Res.wp_mono h (fun p hp => ?_) (fun _ _ e => e)
  intro F1 O1 x H1 rs1 v1 st1 pu1
  cases hs1 : p.1 with
  | sh d =>
    cases d with
    | dct ks ds =>
      rw [hs1] at v1
      simp only [hs1] at hp
      rw [Res.wp_bind] at hp
      obtain ⟨a, rfl⟩ := R.dct_ref v1
      refine ⟨F1, O1, p.2, rs1, Res.wp_mono hp (fun q hq => ?_) (PX.step st1)⟩
      intro F2 O2 y H2 rs2 v2 st2 pu2
      cases hkd : kDct ks ds q.1 with
      | none => simp only [hkd] at hq; exact hq.elim
      | some o =>
        obtain ⟨r, g, c⟩ := dct_at v1 st2.fr rs2.fh v2 hkd
        rcases c with ⟨v, d, rfl, rfl, rv⟩ | ⟨rfl, rfl⟩
        · simp only [hkd] at hq
          refine ⟨a, v, rfl, g, hq F2 O2 v H2 rs2 rv (st1.trans st2) fun z => ?_⟩
          rw [Bool.and_eq_true] at z
          exact (pu1 z.1).trans (pu2 z.2)
        · simp only [hkd] at hq; exact hq.elim
    | _ => simp only [hs1] at hp; exact hp.elim
  | _ => simp only [hs1] at hp; exact hp.elim
/-- d.get(k, v), d data; what v is shared -/
@[simp] noncomputable def dDGetD (f fi fx : DEn) (ρ : List Slot) : Res (Slot × List Slot) := (f ρ).bind fun p => match p.1 with
  | .sh (.dct ks ds) => (fi p.2).bind fun q => (match q.1.fz with
    | some e => (fx q.2).bind fun t => (match t.1, kDct ks ds (.sh e) with
      | .sh _, some (some d) => .ok (.sh d, t.2)
      | .sh x, some none => .ok (.sh x, t.2)
      | _, _ => .stuck)
    | none => .stuck)
  | _ => .stuck
theorem de_dgetD {pa pb pc : Bool} {o e x : Expr} {f fi fx : DEn} {apos cpos : Pos} {k : Nat} {A : Around} (hr : Room k A) (ho : DE X W pa o f) (hi : DE X W pb e fi) (hx : DE X W pc x fx) (m : M2 X o "get" apos e x cpos := by exact ⟨rfl, rfl, rfl, rfl⟩) (hA : X.A = A := by rfl) :
    DE X W (pa && pb && pc) (.Call (.Attribute o "get" apos) [e, x] [] cpos) (dDGetD f fi fx) := by
  refine ⟨PE_imp (pe_dget2 (by rw [hA]; have := hr.units; omega) ho.pe hi.pe hx.pe m) fun σ H Q ⟨F, O, ρ, rs, h⟩ => ⟨F, O, ρ, rs, ?_⟩⟩
  unfold dDGetD at h
  rw [Res.wp_bind] at h
  refine Res.wp_mono h (fun p hp => ?_) (fun _ _ e => e)
  intro F1 O1 x1 H1 rs1 v1 st1 pu1
  cases hs1 : p.1 with
  | sh d =>
    cases d with
    | dct ks ds =>
      rw [hs1] at v1
      simp only [hs1] at hp
      rw [Res.wp_bind] at hp
      obtain ⟨a, rfl⟩ := R.dct_ref v1
      have isd : IsD H1 a := by
        cases id v1 with
        | @dct _ od kvs _ _ hF h1 h2 => exact .inl ⟨kvs, .inr ⟨od, rs1.fh _ _ hF⟩⟩
      refine ⟨a, rfl, isd, F1, O1, p.2, rs1, Res.wp_mono hp (fun q hq => ?_) (PX.step st1)⟩
      intro F2 O2 y H2 rs2 v2 st2 pu2
      cases hfz : q.1.fz with
      | none => simp only [hfz] at hq; exact hq.elim
      | some ed =>
        simp only [hfz] at hq
        rw [Res.wp_bind] at hq
        obtain ⟨F2', O2', rs2', rv2, st2'⟩ := rs2.freeze v2 hfz
        refine ⟨F2', O2', q.2, rs2', Res.wp_mono hq (fun t ht => ?_) (PX.step (st1.trans (st2.trans st2')))⟩
        intro F3 O3 z H3 rs3 v3 st3 pu3
        have ve : VOk X.K F3 H3 O3 0 (.sh ed) y := rv2.up st3.fr
        have pur : (pa && pb && pc) = true → Same H H3 := fun z => by
          rw [Bool.and_eq_true, Bool.and_eq_true] at z
          exact ((pu1 z.1.1).trans (pu2 z.1.2)).trans (pu3 z.2)
        cases ht1 : t.1 with
        | sh xd =>
          rw [ht1] at v3
          cases hkd : kDct ks ds (.sh ed) with
          | none => simp only [ht1, hkd] at ht; exact ht.elim
          | some o =>
            obtain ⟨r, g, c⟩ := dct_at v1 ((st2.fr.trans st2'.fr).trans st3.fr) rs3.fh ve hkd
            refine ⟨r, g, ?_⟩
            rcases c with ⟨v, d, rfl, rfl, rv⟩ | ⟨rfl, rfl⟩
            · simp only [ht1, hkd] at ht
              exact ht F3 O3 v H3 rs3 rv (((st1.trans st2).trans st2').trans st3) pur
            · simp only [ht1, hkd] at ht
              exact ht F3 O3 z H3 rs3 v3 (((st1.trans st2).trans st2').trans st3) pur
        | _ => simp only [ht1] at ht; exact ht.elim
    | _ => simp only [hs1] at hp; exact hp.elim
  | _ => simp only [hs1] at hp; exact hp.elim
/-- for k in d, d data -/
@[simp] noncomputable def dKeysI (f : DEn) (ρ : List Slot) : Res ((Bool × List D) × List Slot) := (f ρ).bind fun p => match p.1 with
  | .sh (.dct ks _) => .ok ((true, ks.map kD), p.2)
  | _ => .stuck
theorem di_keysD {pu : Bool} {tg e : Expr} {f : DEn} (he : DE X W pu e f) : DI X W pu tg e (dKeysI f) := by
  refine ⟨PI_imp (pi_keys he.pe) fun σ H Q ⟨F, O, ρ, rs, h⟩ => ⟨F, O, ρ, rs, ?_⟩⟩
  unfold dKeysI at h
  rw [Res.wp_bind] at h
  refine Res.wp_mono h (fun p hp => ?_) (fun _ _ e => e)
  intro F1 O1 x H1 rs1 v1 st1 pu1
  cases hs1 : p.1 with
  | sh d =>
    cases d with
    | dct ks ds =>
      rw [hs1] at v1
      simp only [hs1] at hp
      cases v1 with
      | @dct a od kvs _ _ hF h1 h2 =>
        have hH := rs1.fh _ _ hF
        refine ⟨a, od, rfl, .inl ⟨kvs, hH, hp F1 O1 H1 _ rs1 st1 pu1 ?_⟩⟩
        refine ⟨_, _, (by rw [List.length_map, ← h1, List.length_map]; exact walk_keys), hH, fun _ H' sm => sm _ _ hF, fun H' sm => sm _ _ hH, fun j d x H3 H3' F3 hd y s1 s2 => ?_⟩
        obtain ⟨rfl, k, v, hk, rfl⟩ := y
        rw [List.getElem?_map] at hd
        have e1 : ks[j]? = some k := by rw [← h1, List.getElem?_map, hk]; rfl
        rw [e1] at hd
        cases hd
        exact ⟨F3, Same.refl _, s2, Same.refl _, kD_R _, fun b o h => .inl h⟩
    | _ => simp only [hs1] at hp; exact hp.elim
  | _ => simp only [hs1] at hp; exact hp.elim
/-- d.get(k, v), d a name's own dict -/
@[simp] noncomputable def dDGetO (i : Nat) (fi fx : DEn) (ρ : List Slot) : Res (Slot × List Slot) := match ρ[i]? with
  | some (.od _) => (fi ρ).bind fun q => (match q.1.fz with
    | some e => (fx q.2).bind fun t => (match t.1, t.2[i]?, keyD e with
      | .sh x, some (.od kxs), some k => .ok (.sh ((valD kxs k).getD x), t.2)
      | _, _, _ => .stuck)
    | none => .stuck)
  | _ => .stuck
theorem de_dgetO {pb pc : Bool} {y : Str} {e x : Expr} {fi fx : DEn} {py apos cpos : Pos} (i : Nat) {k : Nat} {A : Around} (hr : Room k A) (hi : DE X W pb e fi) (hx : DE X W pc x fx) (m : M2 X (.Name y py) "get" apos e x cpos := by exact ⟨rfl, rfl, rfl, rfl⟩) (hA : X.A = A := by rfl) (hN : X.N[i]? = some y := by rfl)
    (hvis : Vis X.env.scope y := by first | exact Or.inl rfl | exact Or.inr (Or.inl rfl) | exact Or.inr (Or.inr rfl)) (hd : (y == ("__debug__" : Str)) = false := by decide) (hcd : (y == ("__classdict__" : Str)) = false := by decide) :
    DE X W (pb && pc) (.Call (.Attribute (.Name y py) "get" apos) [e, x] [] cpos) (dDGetO i fi fx) := by
  refine ⟨PE_imp (pe_dget2 (by rw [hA]; have := hr.units; omega) (pe_var hN hvis hd hcd) hi.pe hx.pe m) fun σ H Q ⟨F, O, ρ, rs, h⟩ => ?_⟩
  unfold dDGetO at h
  cases hρ : ρ[i]? with
  | none => simp only [hρ] at h; exact h.elim
  | some s0 =>
    cases s0 with
    | od kxs0 =>
      simp only [hρ] at h
      obtain ⟨a, kvs0, ea, hH0, _, _, _⟩ := rs.ok i _ hρ
      rw [Res.wp_bind] at h
      refine ⟨.ref a, join_some ea, a, rfl, .inl ⟨kvs0, .inl hH0⟩, F, O, ρ, rs, Res.wp_mono h (fun q hq => ?_) (fun _ _ e => e)⟩
      intro F2 O2 y2 H2 rs2 v2 st2 pu2
      cases hfz : q.1.fz with
      | none => simp only [hfz] at hq; exact hq.elim
      | some ed =>
        simp only [hfz] at hq
        rw [Res.wp_bind] at hq
        obtain ⟨F2', O2', rs2', rv2, st2'⟩ := rs2.freeze v2 hfz
        refine ⟨F2', O2', q.2, rs2', Res.wp_mono hq (fun t ht => ?_) (PX.step (st2.trans st2'))⟩
        intro F3 O3 z H3 rs3 v3 st3 pu3
        have pur : (pb && pc) = true → Same H H3 := fun z => by
          rw [Bool.and_eq_true] at z
          exact (pu2 z.1).trans (pu3 z.2)
        cases ht1 : t.1 with
        | sh xd =>
          rw [ht1] at v3
          cases hti : t.2[i]? with
          | none => simp only [ht1, hti] at ht; exact ht.elim
          | some s3 =>
            cases s3 with
            | od kxs =>
              cases hk : keyD ed with
              | none => simp only [ht1, hti, hk] at ht; exact ht.elim
              | some k =>
                simp only [ht1, hti, hk] at ht
                obtain ⟨a', kvs, ea', hH, _, m1, m2⟩ := rs3.ok i _ hti
                rw [ea] at ea'
                cases ea'
                have ey := key_read (rv2.up (st3.fr.trans rs3.fh)) hk
                subst ey
                have kx : KX X.K F3 kvs kxs := ⟨m1, m2⟩
                refine ⟨valV kvs k, DGet.k hH, ?_⟩
                rcases kx.val k with ⟨v, d, e1, e2, r⟩ | ⟨e1, e2⟩
                · rw [e2] at ht
                  rw [e1]
                  exact ht F3 O3 v H3 rs3 r ((st2.trans st2').trans st3) pur
                · rw [e2] at ht
                  rw [e1]
                  exact ht F3 O3 z H3 rs3 v3 ((st2.trans st2').trans st3) pur
            | _ => simp only [ht1, hti] at ht; exact ht.elim
        | _ => simp only [ht1] at ht; exact ht.elim
    | _ => simp only [hρ] at h; exact h.elim
/-! ### xs, y, z = [], b, c -/
@[simp] noncomputable def dPar3N (i j l : Nat) (f : DLn) (ρ : List Slot) : Out := (f ρ).out fun ds ρ1 => match ds with
  | [a, b] => .nx (((ρ1.set i (.own [])).set j (.sh a)).set l (.sh b))
  | _ => .stuck
theorem ds_par3N {x y z : Str} {pu : Bool} {b c : Expr} {f : DLn} {px py pz pt pl : Pos} {kt k2 pt2} {pos : Pos} (i j l : Nat) (hc : X.calm = true) (hN : X.N.Nodup) (ha : AF X W pu [b, c] f)
    (hw : swappedStores [.Tuple [.Name x px, .Name y py, .Name z pz] kt pt] (.Tuple [.List [] pl, b, c] k2 pt2) X.env = pure (some [x, y, z]))
    (hi : X.N[i]? = some x := by rfl) (hj : X.N[j]? = some y := by rfl) (hl : X.N[l]? = some z := by rfl) (hij : i ≠ j := by decide) (hil : i ≠ l := by decide) (hjl : j ≠ l := by decide)
    (hx : X.env.scope.names.lookup x = some .local := by rfl) (hy : X.env.scope.names.lookup y = some .local := by rfl) (hz : X.env.scope.names.lookup z = some .local := by rfl) (hI : i ∉ I := by decide) (hJ : j ∉ I := by decide) (hL : l ∉ I := by decide)
    (hs : swapsWithSole [.Tuple [.Name x px, .Name y py, .Name z pz] kt pt] (.Tuple [.List [] pl, b, c] k2 pt2) pos.line X.env = pure false := by rfl)
    (h1 : starEach [.List [] pl, b, c] X.env = (false, eval (.List [] pl) X.env) :: starEach [b, c] X.env := by rfl) : DS X W I (.Assign [.Tuple [.Name x px, .Name y py, .Name z pz] kt pt] (.Tuple [.List [] pl, b, c] k2 pt2) pos) (dPar3N i j l f) := by
  refine ⟨PS_imp (ps_par3 hc hN hi hj hl hij hil hjl hx hy hz (pa_cons (pe_lst pa_nil) ha.pa h1) hw hs) fun D σ H ⟨F, O, ρ, rs, h⟩ => ?_⟩
  refine ⟨le_line (Nat.zero_le _), fun p np => ?_⟩
  have smH : Same H (upd H p (.lst [])) := fun b o e => by rw [upd_ne (ne_of_none e np)]; exact e
  have op : O p = none := by
    cases q : O p with
    | none => rfl
    | some j => obtain ⟨_, o, h2⟩ := rs.out p j q; rw [np] at h2; cases h2
  have fp : F p = none := by
    cases q : F p with
    | none => rfl
    | some o => have := rs.fh p o q; rw [np] at this; cases this
  have rs1 : RS X.K F σ ρ (upd H p (.lst [])) O := rs.ext (Same.refl F) (rs.fh.trans smH) (fun a i u ha hi hu => ⟨smH _ _ hu, ha⟩) fun b i e => by
    obtain ⟨h1, o, h2⟩ := rs.out b i e
    exact ⟨h1, o, smH b o h2⟩
  have st0 : Step F H O F (upd H p (.lst [])) O := ⟨fun b o e _ => smH b o e, fun b o e => ⟨o, smH b o e⟩, Same.refl F, fun b o e => .inl e, fun b i e => .inl ⟨i, e⟩⟩
  have hw' := out_wp (P := fun q => OutOk X.K X.mg W I D F O σ H (match q.1 with | [a, b] => Out.nx (((q.2.set i (.own [])).set j (.sh a)).set l (.sh b)) | _ => .stuck)) h fun ds ρ1 h => h
  refine ⟨F, O, ρ, rs1, Res.wp_mono hw' (fun q h => ?_) (PX.step st0)⟩
  intro F1 O1 vs H2 rs2 v1 st1 _
  obtain ⟨ds, ρ1⟩ := q
  match ds, v1, h with
  | [d, e], .cons r1 (.cons r2 .nil), h =>
    have hp : H2 p = some (.lst []) := st1.keep p _ upd_same op
    have f1p : F1 p = none := by
      cases q : F1 p with
      | none => rfl
      | some o =>
        rcases st1.low p o q with z | ⟨j, z⟩ | z
        · rw [fp] at z; cases z
        · rw [op] at z; cases z
        · rw [upd_same] at z; cases z
    have rs3 : RS X.K F1 σ ρ1 H2 (fun b => if b = p then some ρ1.length else O1 b) := rs2.ext (Same.refl F1) rs2.fh (fun a i u ha hi hu => ⟨hu, by
      have o1p : O1 p = none := by
        cases q : O1 p with
        | none => rfl
        | some j =>
          rcases st1.fp p j q with ⟨j, z⟩ | z
          · rw [op] at z; cases z
          · rw [upd_same] at z; cases z
      have : a ≠ p := fun z => by subst z; rw [o1p] at ha; cases ha
      simp [this, ha]⟩) fun b i e => by
        by_cases hb : b = p
        · subst hb; exact ⟨f1p, _, hp⟩
        · simp [hb] at e; exact rs2.out b i e
    obtain ⟨O4, rs4, st4⟩ := rs3.store i (v := .ref p) (s := .own []) ⟨p, [], rfl, hp, by simp, .nil⟩ rfl
    have st01 := st0.trans st1
    have st3 : Step F H O F1 H2 (fun b => if b = p then some ρ1.length else O1 b) := ⟨st01.keep, st01.there, st01.fr, st01.low, fun b i e => by
      by_cases hb : b = p
      · subst hb; exact .inr np
      · simp [hb] at e; exact st01.fp b i e⟩
    exact ⟨_, _, _, rfl, h F1 O4 _ H2 ((rs4.setSh j r1).setSh l r2) (st3.trans st4) (((Pin.set hI).trans (Pin.set hJ)).trans (Pin.set hL))⟩
end
end DL
/-! DLO: << of any int, x |= y, {i: True} -/
namespace DL
open PySem PySem.Spec PyProof.Rows L2
noncomputable def gShlW : D → D → Option D
  | .int i, .int j => @ite _ (CShl i j) (Classical.propDecidable _) (some (.int (i * 2 ^ j.toNat))) none
  | _, _ => none
theorem gShlW_ok {i : Int} {j n : Nat} (h : i.natAbs < 2 ^ n) (hn : n + j ≤ 134217728) : gShlW (.int i) (.int (j : Int)) = some (.int (i * 2 ^ j)) :=
  @if_pos _ (Classical.propDecidable _) (shl_ok h hn) _ _ _
section
variable {X : Cx} {W : WX}
theorem os_shlW : OpS X (binaryOp .LShift) gShlW := opI_ok op_shlW fun d e z h => by
  cases d <;> cases e <;> first | (cases h; done) | skip
  rename_i i j
  obtain ⟨c, e⟩ := ite_some h
  exact ⟨_, _, rfl, rfl, c, e.symm⟩
theorem ios_or : OpS X (inplaceOp .BitOr) gOr := opI0_ok (f := fun i j => .int (Builtin.bitOr i j)) iop_or (fun _ _ => rfl) fun d e z h => by
  cases d <;> cases e <;> first | (cases h; done) | exact ⟨_, _, rfl, rfl, (Option.some.inj h).symm⟩
@[simp] noncomputable def dOneB (i : Int) (b : Bool) (ρ : List Slot) : Res (Slot × List Slot) := .ok (.sh (.dct [.inl i] [.bl b]), ρ)
theorem de_oneB {i : Int} {b : Bool} {k1 k2 : Nat} {p1 p2 pos : Pos} : DE X W true (.Dict [some (.Constant (.int i) k1 p1)] [.Constant (.bool b) k2 p2] pos) (dOneB i b) := by
  refine ⟨PE_imp (pe_frz (pe_disp (pps_cons pe_int pe_bl pps_nil) rfl rfl (by simp) (show 1 ≤ 15 by decide))) fun σ H Q ⟨F, O, ρ, rs, h⟩ => ?_⟩
  intro p np
  refine ⟨upd_same, [(.inl i, .bl b)], rfl, (show 1 ≤ 15 by decide), p, _, rfl, upd_same, trivial, fun od => ?_⟩
  rw [upd_upd, upd_upd]
  obtain ⟨a, b', c, d⟩ := rs.newClosed (od := od) (kvs := [(.inl i, .bl b)]) (ks := [.inl i]) (ds := [.bl b]) np rfl (.cons (.bl b) .nil)
  exact h _ O _ _ a b' c fun _ => d
end
end DL
/-! DLQ: {**d, k: v} as data -/
namespace PySem
open Sem (wp)
section
variable {prog : Program} {w : World} {K : Type} [DecidableEq K] {knd : KeyKind prog w K} {A : Around} {E : Value → Shared → Prop} {s : Shared}
theorem wpAny_dictPutQ {d : Addr} {kvs : List (K × Value)} {k : K} {key v : Value} {Q : Unit → Shared → Prop} (hkey : knd.is k key = true) (hm : s.heap.DictOf knd d kvs)
    (hQ : ∀ h', h'.DictOf knd d (stored kvs k v) → Heap.SameBut d s.heap h' → Q () { s with heap := h' })
    (hsz : kvs.length ≤ sizeLine := by size_fits) :
    wpAny (model prog w) A (dictPut d (knd.hash k) key v) Q E s := by
  obtain ⟨o, es, ep, ho, hc, hd, hk, hp, hn⟩ := hm
  have hes : es.size ≤ sizeLine := by have e1 := hp.length; have e2 : es.toList.length = es.size := by simp
                                      omega
  unfold dictPut
  refine wpAny_bind (wpAny_dictFind_of hkey ho hd hk ?_)
  have hidx : (es.findIdx? fun e => knd.is k e.key) = kvs.findIdx? fun kv => decide (kv.1 = k) := by
    rw [← hp.findIdx k]; obtain ⟨l⟩ := es; simp
  cases hi : es.findIdx? fun e => knd.is k e.key with
  | some i =>
    refine wpAny_updateDict ho hd (hQ _ ⟨_, _, ep, Heap.get?_update_self _ ho (Obj.isFreed_of_dict (Obj.data_mapDict hd _)),
      hc.mapDict _, Obj.data_mapDict hd _, hk.modify _ _, ?_, ?_⟩ (Heap.SameBut.update ..))
    · rw [stored, if_pos (any_of_findIdx_some (hidx ▸ hi))]
      have hl : (es.toList.findIdx? fun e => knd.is k e.key) = some i := by rw [← hi]; obtain ⟨l⟩ := es; simp
      have := hp.modify hn hl v
      obtain ⟨l⟩ := es
      simpa using this
    · rw [stored, if_pos (any_of_findIdx_some (hidx ▸ hi)), keys_map_store]; exact hn
  | none =>
    have hnot : k ∉ kvs.map (·.1) := not_mem_of_findIdx_none (hidx ▸ hi)
    have hany : ¬ (kvs.any fun kv => decide (kv.1 = k)) = true := by
      rw [List.any_eq_true]; rintro ⟨kv, hkv, he⟩
      exact hnot (List.mem_map.mpr ⟨kv, hkv, of_decide_eq_true he⟩)
    refine wpAny_updateDictKeys (hz := hes) ho hd (hQ _ ⟨_, _, ep + 1, Heap.get?_update_self _ ho (Obj.isFreed_of_dict (Obj.data_mapDictKeys hd _)),
      hc.mapDictKeys _, Obj.data_mapDictKeys hd _, hk.push hkey _, ?_, ?_⟩ (Heap.SameBut.update ..))
    · rw [stored, if_neg hany]
      have := hp.append hkey (knd.hash k) v
      obtain ⟨l⟩ := es
      simpa using this
    · rw [stored, if_neg hany, List.map_append, List.nodup_append]
      refine ⟨hn, by simp, ?_⟩
      intro a ha b hb
      simp only [List.map_cons, List.map_nil, List.mem_singleton] at hb
      subst hb
      exact fun e => hnot (e ▸ ha)
theorem wpAny_mergeMappingQ {d o : Addr} {kvs more : List (K × Value)} {Q : Unit → Shared → Prop} (hdo : d ≠ o) (hoS : (o == sysModules) = false)
    (hd : s.heap.DictOf knd d kvs) (ho : s.heap.DictOf knd o more)
    (hQ : ∀ h', h'.DictOf knd d (merged kvs more) → h'.DictOf knd o more → Heap.SameBut d s.heap h' → Q () { s with heap := h' })
    (hsz : kvs.length + more.length ≤ sizeLine := by size_fits) :
    wpAny (model prog w) A (mergeMapping d (.ref o) false) Q E s := by
  obtain ⟨od, esd, epd, hod, hcd, hdd, hkd, hpd, hnd⟩ := id hd
  obtain ⟨oo, eso, epo, hoo, hco, hdo', hko, hpo, hno⟩ := id ho
  have hlen : more.length = eso.size := by rw [← hpo.length]; simp
  unfold mergeMapping
  refine wpAny_bind (wpAny_isInstance ho.typeIs isSubtype_dict_dict ?_)
  dsimp only
  rw [if_pos rfl]
  refine wpAny_bind (wpAny_specialOf ho.typeIs F.slot_dict_iter.lookup ?_)
  rw [show ((some (Value.builtin "dict.__iter__") : Option Value) == some (Value.builtin "dict.__iter__")) = true from beq_self_eq_true _]
  refine wpAny_bind (wpAny_pure ?_)
  dsimp only
  rw [if_neg (by rw [hoS]; exact Bool.false_ne_true)]
  have loop : wpAny (model prog w) A (do
      let l ← dictEntries o
      let epoch ← dictEpoch o
      forIn (List.range l.size) PUnit.unit fun i (_ : PUnit) => (do
          let l' ← dictEntries o
          match l'[i]? with
            | some e => do
              holding [e.key, e.val] (if false = true then (do
                  let q ← dictFind d e.key e.hash
                  if q.isSome = true then (do
                    rule "dict.merge.duplicate-key"
                    let x ← newExc (Value.type "KeyError") [e.key]
                    let _ ← (raiseNew x : Sem PUnit)
                    dictPut d e.hash e.key e.val)
                  else dictPut d e.hash e.key e.val) else dictPut d e.hash e.key e.val)
              let ep' ← dictEpoch o
              if (ep' != epoch) = true then do
                  (unsupported "dict.changed-during-merge" : Sem PUnit)
                  pure (ForInStep.yield PUnit.unit)
                else pure (ForInStep.yield PUnit.unit)
            | _ => do
              (unsupported "dict.changed-during-merge" : Sem PUnit)
              pure (ForInStep.yield PUnit.unit) : Sem (ForInStep PUnit))
      pure ()) Q E s := by
    refine wpAny_bind (wpAny_dictEntries hoo hdo' ?_)
    refine wpAny_bind (wpAny_dictEpoch hoo hdo' ?_)
    refine wpAny_bind ?_
    rw [List.range_eq_range']
    refine wpAny_forIn_list _
      (fun rest _ s' => ∃ h' i, s' = { s with heap := h' } ∧ rest = List.range' i (eso.size - i) ∧ i ≤ eso.size ∧ h'.DictOf knd d (merged kvs (more.take i)) ∧ h'.get? o = some oo ∧ Heap.SameBut d s.heap h')
      _ ?_ ?_ _ _ ⟨s.heap, 0, rfl, by simp, Nat.zero_le _, by simpa [merged] using hd, hoo, Heap.SameBut.refl _ _⟩
    · rintro x rest b s' ⟨h', i, rfl, hr, hi, hd', hoo', hs'⟩
      have hlt : i < eso.size := by
        rcases Nat.lt_or_ge i eso.size with h | h
        · exact h
        · rw [Nat.sub_eq_zero_of_le h] at hr; simp at hr
      obtain ⟨rfl, hrest⟩ : x = i ∧ rest = List.range' (i + 1) (eso.size - (i + 1)) := by
        have e : eso.size - i = (eso.size - (i + 1)) + 1 := by omega
        rw [e, List.range'_succ] at hr
        injection hr with h1 h2
        exact ⟨h1, h2⟩
      refine wpAny_bind (wpAny_dictEntries hoo' hdo' ?_)
      rw [Array.getElem?_eq_getElem hlt]
      obtain ⟨kv, hkv⟩ : ∃ kv, more[x]? = some kv := ⟨more[x]'(by rw [hlen]; exact hlt), List.getElem?_eq_getElem _⟩
      obtain ⟨k, v⟩ := kv
      obtain ⟨hkey, hval⟩ := hpo.get? (e := eso[x]) (by simp [hlt]) hkv
      obtain ⟨k', hkey', hhash⟩ := hko eso[x] (Array.getElem_mem hlt)
      obtain rfl : k' = k := knd.inj _ _ _ hkey' hkey
      dsimp only
      rw [if_neg Bool.false_ne_true, hhash, hval]
      have hmx : (merged kvs (more.take x)).length ≤ sizeLine := by
        have e1 := merged_length_le kvs (more.take x)
        have e2 : (more.take x).length ≤ more.length := by rw [List.length_take]; omega
        omega
      refine wpAny_bind (wpAny_holding (wpAny_dictPutQ (hsz := hmx) hkey hd' fun h'' hd'' hs'' => ?_))
      have hoo'' : h''.get? o = some oo := (hs''.2 o (Ne.symm hdo)).trans hoo'
      refine wpAny_bind (wpAny_dictEpoch hoo'' hdo' ?_)
      rw [if_neg (by simp)]
      exact wpAny_pure ⟨h'', x + 1, rfl, hrest, hlt, by rw [merged_take_succ kvs more x (k', v) hkv]; exact hd'', hoo'', hs'.trans hs''⟩
    · rintro b s' ⟨h', i, rfl, hr, hi, hd', hoo', hs'⟩
      have hin : i = eso.size := by
        rcases Nat.lt_or_ge i eso.size with h | h
        · have e : eso.size - i = (eso.size - (i + 1)) + 1 := by omega
          rw [e, List.range'_succ] at hr; exact nomatch hr
        · exact Nat.le_antisymm hi h
      refine wpAny_pure (hQ h' ?_ ⟨oo, eso, epo, hoo', hco, hdo', hko, hpo, hno⟩ hs')
      rw [hin, ← hlen, List.take_length] at hd'; exact hd'
  refine wpAny_bind (wpAny_dictEntries hod hdd ?_)
  split
  · refine wpAny_bind (wpAny_dictEntries hoo hdo' ?_)
    refine wpAny_bind (wpAny_of_eq (a := PUnit.unit) ?_ loop)
    rw [← Array.forIn_toList]
    refine forIn_yield_id _ fun e he c => ?_
    obtain ⟨k, hkey, _⟩ := hko e (Array.mem_toList_iff.mp he)
    have bv := knd.byValue k _ hkey
    cases hk : e.key with
    | ref a => rw [hk] at bv; cases bv
    | _ => rfl
  · exact loop
theorem wpAny_dictMergeQ {v k x : Sem Value} {Q : Value → Shared → Prop}
    (h : wpAny (model prog w) A v (fun m s1 => ∃ a vs, m = .ref a ∧ (a == sysModules) = false ∧ s.heap.objs.size ≠ a ∧ s1.heap.DictOf knd a vs ∧ s1.heap.DictOf knd s.heap.objs.size [] ∧ vs.length + 1 ≤ sizeLine ∧
      ∀ h1, h1.DictOf knd s.heap.objs.size vs → Heap.SameBut s.heap.objs.size s1.heap h1 →
        wpAny (model prog w) A (evalPairs [(k, x)]) (fun ws s2 => ∃ kk vv vs2, Carries knd ws [(kk, vv)] ∧ s2.heap.DictOf knd h1.objs.size [] ∧ s2.heap.DictOf knd s.heap.objs.size vs2 ∧ vs2.length + 1 ≤ sizeLine ∧ s.heap.objs.size ≠ h1.objs.size ∧ (h1.objs.size == sysModules) = false ∧
          ∀ h2 h3 t, h2.DictOf knd h1.objs.size [(kk, vv)] → Heap.SameBut h1.objs.size s2.heap h2 → h3.DictOf knd s.heap.objs.size (stored vs2 kk vv) → h3.DictOf knd h1.objs.size [(kk, vv)] → Heap.SameBut s.heap.objs.size h2 h3 → Q (.ref s.heap.objs.size) { s2 with heap := h3, toks := t }) E
          { s1 with heap := h1.push { cls := .type "dict", data := .dict #[] } }) E { s with heap := s.heap.push { cls := .type "dict", data := .dict #[] } }) :
    wpAny (model prog w) A (dictDisplay [(none, v), (some k, x)]) Q E s := by
  unfold dictDisplay
  dsimp only
  rw [List.forIn_cons]
  refine wpAny_bind ?_
  refine wpAny_bind ?_
  dsimp only
  rw [if_pos (show ([] : List (Sem Value × Sem Value)).isEmpty = true from rfl)]
  refine wpAny_bind (wpAny_pure ?_)
  dsimp only
  refine wpAny_bind (wpAny_alloc ?_)
  refine wpAny_bind (wpAny_holding (wpAny_mono h (fun m s1 hm => ?_) fun _ _ e => e))
  obtain ⟨a, vs, hm, hsys, hne, ha, hd, hl, q⟩ := hm
  subst hm
  have nd : (vs.map (·.1)).Nodup := by
    obtain ⟨_, _, _, _, _, _, _, _, hn⟩ := ha
    exact hn
  refine wpAny_bind (wpAny_onRaise (wpAny_tryCatch (wpAny_onRaise (wpAny_holding (wpAny_mergeMappingQ hne hsys hd ha (fun h1 g1 g2 sb => ?_) (by rw [List.length_nil]; omega))))))
  rw [merged_nil_of_nodup vs nd] at g1
  refine wpAny_pure ?_
  dsimp only
  rw [List.forIn_cons]
  refine wpAny_bind ?_
  dsimp only
  rw [if_neg (show ¬ ((([] ++ [(k, x)] : List (Sem Value × Sem Value)).length == 17) = true) by simp)]
  refine wpAny_pure ?_
  dsimp only
  rw [List.forIn_nil]
  refine wpAny_pure ?_
  dsimp only
  rw [if_neg (show ¬ (([] ++ [(k, x)] : List (Sem Value × Sem Value)).isEmpty = true) by simp)]
  refine wpAny_bind ?_
  refine wpAny_bind (wpAny_holding (wpAny_subDict (knd := knd) (show ([] ++ [(k, x)] : List (Sem Value × Sem Value)).length ≤ 15 by simp) (wpAny_mono (q h1 g1 sb) (fun ws s2 hw => ?_) fun _ _ e => e)))
  obtain ⟨kk, vv, vs2, hc, hsub, hd2, hl2, hne2, hs2, q2⟩ := hw
  refine ⟨[(kk, vv)], hc, hsub, fun h2 dd2 sb2 => ?_⟩
  have e1 : merged [] [(kk, vv)] = [(kk, vv)] := merged_nil_of_nodup _ (by simp)
  rw [e1] at dd2
  have hd3 : h2.DictOf knd s.heap.objs.size vs2 := hd2.sameBut sb2 hne2
  refine wpAny_bind (wpAny_onRaise (wpAny_holding (wpAny_mergeMappingQ hne2 hs2 hd3 dd2 (fun h3 g3 g4 sb3 => ?_) (by show vs2.length + 1 ≤ _; omega))))
  refine wpAny_pure (wpAny_pure ?_)
  exact q2 h2 h3 _ dd2 sb2 g3 g4 sb3
end
end PySem
namespace DL
open PySem PySem.Spec PyProof.Rows L2
/-- {**d, k: v}: d a dict that is closed -/
def tMergeQ (td tk tv : TE) : TE := fun σ H Q => ∀ p, H p = none → td σ (upd H p (.dK [])) fun x H1 => H1 p = some (.dK []) ∧ ∃ a od kvs, x = .ref a ∧ p ≠ a ∧ H1 a = some (.frz od (.dK kvs)) ∧ kvs.length < 1000 ∧
  ∀ q, H1 q = none → q ≠ p → tk σ (upd (upd H1 p (.dK kvs)) q (.dK [])) fun y H2 => tv σ H2 fun z H3 => H3 p = some (.dK kvs) ∧ H3 q = some (.dK []) ∧ ∃ k, y = kV k ∧ Q (.ref p) (upd (upd H3 q (.dK [(k, z)])) p (.dK (putK kvs k z)))
theorem pe_mergeQ {X : Cx} {d k v : Expr} {td tk tv : TE} {pos : Pos} (hd : PE X d td) (hk : PE X k tk) (hv : PE X v tv)
    (hshape : (evalEachOpt [none, some k] X.env).zip ((evalEach [d, v] X.env).map fun v => do let x ← v; standAt pos; pure x) = [(none, do let x ← eval d X.env; standAt pos; pure x), (some (eval k X.env), do let x ← eval v X.env; standAt pos; pure x)] := by rfl) :
    PE X (.Dict [none, some k] [d, v] pos) (tMergeQ td tk tv) := by
  refine ⟨fun pins s σ H Q I hq => ?_⟩
  rw [arm_eval_Dict, hshape]
  refine wpAny_bind (wpAny_standAt ?_)
  have hn := I.hok.fresh (Nat.le_refl s.heap.objs.size)
  have I1 := I.laid (a := s.heap.objs.size) (o := .dK []) (h' := s.heap.push { cls := .type "dict", data := .dict #[] }) (t' := s.toks) (fun _ _ q => Heap.get?_push_of_some _ q) (Nat.le_refl _) (dk_empty s.heap I.big)
  refine wpAny_dictMergeQ (knd := mixKind X.prog X.w) ?_
  refine wpAny_bind (thn (hd.run pins _ σ _ _ I1 (hq _ hn)) fun u s1 ⟨x, H1, I2, rx, e, a, od, kvs, ex, hpa, ea, hl, q1⟩ => wpAny_bind (wpAny_standAt (wpAny_pure ?_)))
  subst ex
  obtain rfl : u = Value.ref a := rx
  obtain ⟨z1, s1a, vs, rel, dda⟩ := dk_rd I2.hok (.inr ⟨od, ea⟩)
  obtain ⟨z0, s0, vs0, rel0, dd0⟩ := dk_of I2.hok e
  cases rel0
  have lv : vs.length = kvs.length := (Paired.length rel).symm
  refine ⟨a, vs, rfl, s1a, hpa, dda, dd0, by rw [sizeLine_eq]; omega, fun h1 g1 sb1 => ?_⟩
  have he1 : ∃ q, h1.get? s.heap.objs.size = some q := let ⟨q, _, _, hq, _⟩ := g1; ⟨q, hq⟩
  have I3 : Inv X pins σ (upd H1 s.heap.objs.size (.dK kvs)) { s1 with heap := h1, toks := s1.toks } := d_write I2 (by rw [e]; exact True.intro) sb1 he1 (dk_new z1 s0 rel g1)
  have hq3 := I3.hok.fresh (Nat.le_refl h1.objs.size)
  have hqp : h1.objs.size ≠ s.heap.objs.size := fun z => by rw [z, upd_same] at hq3; cases hq3
  rw [upd_ne hqp] at hq3
  have I4 := I3.laid (a := h1.objs.size) (o := .dK []) (h' := h1.push { cls := .type "dict", data := .dict #[] }) (t' := s1.toks) (fun _ _ q => Heap.get?_push_of_some _ q) (Nat.le_refl _) (dk_empty h1 I3.big)
  refine evalPairs_cons (thn (hk.run pins _ σ _ _ I4 (q1 _ hq3 hqp)) fun uk s2 ⟨y, H2, I5, ry, q2⟩ => wpAny_bind (thn (hv.run pins s2 σ H2 _ I5 q2) fun uv s3 ⟨z, H3, I6, rz, e3, e4, kk, ey, q3⟩ => wpAny_bind (wpAny_standAt (wpAny_pure (evalPairs_nil ?_)))))
  subst ey
  obtain ⟨z3, y3, vs3, rel3, dd3⟩ := dk_of I6.hok e3
  obtain ⟨z4, y4, vs4, rel4, dd4⟩ := dk_of I6.hok e4
  cases rel4
  have lv3 : vs3.length = kvs.length := (Paired.length rel3).symm
  refine ⟨kk, uv, vs3, ⟨kV_is ry, rfl, trivial⟩, dd4, dd3, by rw [sizeLine_eq]; omega, Ne.symm hqp, y4, fun h2 h3 t d2 sb2 d3 d4 sb3 => ?_⟩
  have he2 : ∃ q, h2.get? h1.objs.size = some q := let ⟨q, _, _, hq, _⟩ := d2; ⟨q, hq⟩
  have he3 : ∃ q, h3.get? s.heap.objs.size = some q := let ⟨q, _, _, hq, _⟩ := d3; ⟨q, hq⟩
  have I7 : Inv X pins σ (upd H3 h1.objs.size (.dK [(kk, z)])) { s3 with heap := h2, toks := t } := d_write I6 (by rw [e4]; exact True.intro) sb2 he2 (dk_new (by rw [sizeLine_eq]; show 1 ≤ _; decide) y4 (show KV [(kk, z)] [(kk, uv)] from .cons ⟨rfl, rz⟩ .nil) d2)
  have I8 : Inv X pins σ (upd (upd H3 h1.objs.size (.dK [(kk, z)])) s.heap.objs.size (.dK (putK kvs kk z))) { s3 with heap := h3, toks := t } := by
    refine d_write (s := { s3 with heap := h2, toks := t }) I7 (by rw [upd_ne (Ne.symm hqp), e3]; exact True.intro) sb3 he3 (dk_new ?_ y3 (rel3.put kk rz) d3)
    have := length_putK kvs kk z
    rw [sizeLine_eq]; omega
  exact ⟨.ref s.heap.objs.size, _, I8, rfl, q3⟩
section
variable {X : Cx} {W : WX}
theorem KX.dct {K : PySem.W.Frag} {F : Hp} {kvs : List (Key × V)} {kxs : List (Key × D)} (h : KX K F kvs kxs) : kvs.map (·.1) = kxs.map (·.1) ∧ Rs K F (kvs.map (·.2)) (kxs.map (·.2)) := h
/-- {**d, k: v} as data -/
@[simp] noncomputable def dMergeD (f fk fv : DEn) (ρ : List Slot) : Res (Slot × List Slot) := (f ρ).bind fun p => match p.1 with
  | .sh (.dct ks ds) => if ks.length < 1000 then (fk p.2).bind fun q => (match q.1.fz with
    | some e => (fv q.2).bind fun t => (match t.1, keyD e with
      | .sh x, some k => .ok (.sh (.dct ((putD (ks.zip ds) k x).map (·.1)) ((putD (ks.zip ds) k x).map (·.2))), t.2)
      | _, _ => .stuck)
    | none => .stuck) else .stuck
  | _ => .stuck
theorem de_mergeD {pa pb pc : Bool} {d k v : Expr} {f fk fv : DEn} {pos : Pos} (hd : DE X W pa d f) (hk : DE X W pb k fk) (hv : DE X W pc v fv)
    (hshape : (evalEachOpt [none, some k] X.env).zip ((evalEach [d, v] X.env).map fun v => do let x ← v; standAt pos; pure x) = [(none, do let x ← eval d X.env; standAt pos; pure x), (some (eval k X.env), do let x ← eval v X.env; standAt pos; pure x)] := by rfl) :
    DE X W false (.Dict [none, some k] [d, v] pos) (dMergeD f fk fv) := by
  refine ⟨PE_imp (pe_frz (pe_mergeQ hd.pe hk.pe hv.pe hshape)) fun σ H Q ⟨F, O, ρ, rs, h⟩ => ?_⟩
  intro p np
  unfold dMergeD at h
  -- the new dict stands unowned
  have smH : Same H (upd H p (.dK [])) := fun b o e => by rw [upd_ne (ne_of_none e np)]; exact e
  have op : O p = none := by
    cases q : O p with
    | none => rfl
    | some j => obtain ⟨_, o, h2⟩ := rs.out p j q; rw [np] at h2; cases h2
  have fp : F p = none := by
    cases q : F p with
    | none => rfl
    | some o => have := rs.fh p o q; rw [np] at this; cases this
  have rs1 : RS X.K F σ ρ (upd H p (.dK [])) O := rs.ext (Same.refl F) (rs.fh.trans smH) (fun a i u ha hi hu => ⟨smH _ _ hu, ha⟩) fun b i e => by
    obtain ⟨h1, o, h2⟩ := rs.out b i e
    exact ⟨h1, o, smH b o h2⟩
  have st0 : Step F H O F (upd H p (.dK [])) O := ⟨fun b o e _ => smH b o e, fun b o e => ⟨o, smH b o e⟩, Same.refl F, fun b o e => .inl e, fun b i e => .inl ⟨i, e⟩⟩
  rw [Res.wp_bind] at h
  refine ⟨F, O, ρ, rs1, Res.wp_mono h (fun pp hp => ?_) (PX.step st0)⟩
  intro F1 O1 x H1 rs2 v1 st1 _
  -- a place that is unowned and not in F stays so
  have stay : ∀ {F H : Hp} {O : Own} {F' H' : Hp} {O' : Own} {b : Addr} {u : HO}, Step F H O F' H' O' → H b = some u → O b = none → F b = none → H' b = some u ∧ O' b = none ∧ F' b = none := fun {F H O F' H' O' b u} st e1 e2 e3 => by
    refine ⟨st.keep b u e1 e2, ?_, ?_⟩
    · cases q : O' b with
      | none => rfl
      | some j =>
        rcases st.fp b j q with ⟨j, z⟩ | z
        · rw [e2] at z; cases z
        · rw [e1] at z; cases z
    · cases q : F' b with
      | none => rfl
      | some o =>
        rcases st.low b o q with z | ⟨j, z⟩ | z
        · rw [e3] at z; cases z
        · rw [e2] at z; cases z
        · rw [e1] at z; cases z
  obtain ⟨hp1, o1p, f1p⟩ := stay st1 (upd_same (H := H)) op fp
  refine ⟨hp1, ?_⟩
  cases hs1 : pp.1 with
  | sh d0 =>
    cases d0 with
    | dct ks ds =>
      rw [hs1] at v1
      simp only [hs1] at hp
      by_cases hl : ks.length < 1000
      · rw [if_pos hl, Res.wp_bind] at hp
        cases id v1 with
        | @dct a od kvs _ _ hF h1 h2 =>
          have hH := rs2.fh _ _ hF
          have pa1 : p ≠ a := fun z => by rw [← z, hp1] at hH; cases hH
          have kl : kvs.length < 1000 := by rw [← List.length_map (f := (·.1)), h1]; exact hl
          have kx : KX X.K F1 kvs (ks.zip ds) := KX.zip h1 h2
          refine ⟨a, od, kvs, rfl, pa1, hH, kl, fun q nq hqp => ?_⟩
          have ra : Same F1 (upd (upd H1 p (.dK kvs)) q (.dK [])) := fun b o e => by
            have e2 := rs2.fh b o e
            rw [upd_ne (ne_of_none e2 nq), upd_ne (fun z => by rw [z, f1p] at e; cases e)]
            exact e2
          have o1q : O1 q = none := by
            cases w : O1 q with
            | none => rfl
            | some j => obtain ⟨_, o, h2⟩ := rs2.out q j w; rw [nq] at h2; cases h2
          have f1q : F1 q = none := by
            cases w : F1 q with
            | none => rfl
            | some o => have := rs2.fh q o w; rw [nq] at this; cases this
          have up : ∀ b o, H1 b = some o → b ≠ p → (upd (upd H1 p (.dK kvs)) q (.dK [])) b = some o := fun b o e hb => by
            rw [upd_ne (ne_of_none e nq), upd_ne hb]; exact e
          have rs3 : RS X.K F1 σ pp.2 (upd (upd H1 p (.dK kvs)) q (.dK [])) O1 := rs2.ext (Same.refl F1) ra (fun c i u hc hi hu => ⟨up c u hu (fun z => by rw [z, o1p] at hc; cases hc), hc⟩) fun b i e => by
            obtain ⟨h1, o, h2⟩ := rs2.out b i e
            exact ⟨h1, o, up b o h2 (fun z => by rw [z, o1p] at e; cases e)⟩
          have S1 := st0.trans st1
          have nqH : H q = none := S1.back nq
          have S1' : Step F H O F1 (upd (upd H1 p (.dK kvs)) q (.dK [])) O1 := ⟨fun b o e n => up b o (S1.keep b o e n) (ne_of_none e np), fun b o e => by
            obtain ⟨o', e'⟩ := S1.there b o e
            exact ⟨o', up b o' e' (ne_of_none e np)⟩, S1.fr, S1.low, S1.fp⟩
          have hmp : (upd (upd H1 p (.dK kvs)) q (.dK [])) p = some (.dK kvs) := by rw [upd_ne (Ne.symm hqp), upd_same]
          refine ⟨F1, O1, pp.2, rs3, Res.wp_mono hp (fun t1 ht => ?_) (PX.step S1')⟩
          intro F2 O2 y H2 rs4 v2 st2 _
          cases hfz : t1.1.fz with
          | none => simp only [hfz] at ht; exact ht.elim
          | some ed =>
            simp only [hfz] at ht
            rw [Res.wp_bind] at ht
            obtain ⟨F2', O2', rs4', rv2, st2'⟩ := rs4.freeze v2 hfz
            obtain ⟨hp2, o2p, f2p⟩ := stay (st2.trans st2') hmp o1p f1p
            obtain ⟨hq2, o2q, f2q⟩ := stay (st2.trans st2') (upd_same (H := upd H1 p (.dK kvs))) o1q f1q
            refine ⟨F2', O2', t1.2, rs4', Res.wp_mono ht (fun t2 ht2 => ?_) (PX.step (S1'.trans (st2.trans st2')))⟩
            intro F3 O3 z H3 rs5 v3 st3 _
            obtain ⟨hp3, o3p, f3p⟩ := stay st3 hp2 o2p f2p
            obtain ⟨hq3, o3q, f3q⟩ := stay st3 hq2 o2q f2q
            refine ⟨hp3, hq3, ?_⟩
            cases ht1 : t2.1 with
            | sh xd =>
              rw [ht1] at v3
              cases hk : keyD ed with
              | none => simp only [ht1, hk] at ht2; exact ht2.elim
              | some k =>
                simp only [ht1, hk] at ht2
                have ey := key_read (rv2.up (st3.fr.trans rs5.fh)) hk
                subst ey
                have S3 := (S1'.trans (st2.trans st2')).trans st3
                have kx3 : KX X.K F3 (putK kvs k z) (putD (ks.zip ds) k xd) := (kx.up ((st2.trans st2').trans st3).fr).put k v3
                refine ⟨k, rfl, p, _, rfl, upd_same, trivial, fun od2 => ?_⟩
                rw [upd_upd]
                have smF : Same F3 (upd F3 p (.frz od2 (.dK (putK kvs k z)))) := fun b o e => by rw [upd_ne (fun y => by rw [y, f3p] at e; cases e)]; exact e
                have kx4 := kx3.up smF
                have upf : ∀ b o, H3 b = some o → b ≠ p → b ≠ q → (upd (upd H3 q (.dK [(k, z)])) p (.frz od2 (.dK (putK kvs k z)))) b = some o := fun b o e h1 h2 => by
                  rw [upd_ne h1, upd_ne h2]; exact e
                refine ht2 (upd F3 p (.frz od2 (.dK (putK kvs k z)))) O3 (.ref p) _ (rs5.ext smF (fun b o e => ?_) (fun c i u hc hi hu => ⟨upf c u hu (fun y => by rw [y, o3p] at hc; cases hc) (fun y => by rw [y, o3q] at hc; cases hc), hc⟩) fun b i e => ?_) (.dct upd_same kx4.1 kx4.2) ⟨fun b o e n => ?_, fun b o e => ?_, S3.fr.trans smF, fun b o e => ?_, S3.fp⟩ fun y => nomatch y
                · by_cases hb : b = p
                  · rw [hb, upd_same] at e ⊢; exact e
                  · rw [upd_ne hb] at e
                    exact upf b o (rs5.fh b o e) hb (fun y => by rw [y, f3q] at e; cases e)
                · obtain ⟨h1, o, h2⟩ := rs5.out b i e
                  have b1 : b ≠ p := fun y => by rw [y, o3p] at e; cases e
                  have b2 : b ≠ q := fun y => by rw [y, o3q] at e; cases e
                  exact ⟨by rw [upd_ne b1]; exact h1, o, upf b o h2 b1 b2⟩
                · exact upf b o (S3.keep b o e n) (ne_of_none e np) (ne_of_none e nqH)
                · obtain ⟨o', e'⟩ := S3.there b o e
                  exact ⟨o', upf b o' e' (ne_of_none e np) (ne_of_none e nqH)⟩
                · by_cases hb : b = p
                  · rw [hb]; exact .inr (.inr np)
                  · rw [upd_ne hb] at e; exact S3.low b o e
            | _ => simp only [ht1] at ht2; exact ht2.elim
      · rw [if_neg hl] at hp; exact hp.elim
    | _ => simp only [hs1] at hp; exact hp.elim
  | _ => simp only [hs1] at hp; exact hp.elim
end
end DL
/-! DLU: xs += ys of an own list; a def that changes two of its lists (the first argument and the fourth of five) -/
namespace DL
open PySem PySem.Spec PyProof.Rows L2
section
variable {X : Cx} {W : WX} {I : List Nat}
@[simp] noncomputable def dAugL (i : Nat) (f : DEn) (ρ : List Slot) : Out := match ρ[i]?.bind Slot.lp with
  | none => .stuck
  | some _ => (f ρ).out fun s ρ1 => match s.fz, ρ1[i]? with
    | some (.lst ys), some t => (match t.lp with
      | some xs => if xs.length + ys.length ≤ sizeLine then .nx (ρ1.set i (t.put (xs ++ ys))) else .stuck
      | none => .stuck)
    | _, _ => .stuck
theorem set_self {α : Type} {l : List α} {i : Nat} {a : α} (h : l[i]? = some a) : l.set i a = l := by
  refine List.ext_getElem? fun j => ?_
  by_cases hj : i = j
  · subst hj
    rw [List.getElem?_set_self (List.getElem?_eq_some_iff.mp h).1, h]
  · rw [List.getElem?_set_ne hj]
theorem ds_augL {x : Str} {pu : Bool} {e : Expr} {f : DEn} {pos pos' : Pos} (i : Nat) (hN : X.N.Nodup) (he : DE X W pu e f) (hi : X.N[i]? = some x := by rfl) (hx : Loc X.env.scope x := by first | exact .inl rfl | exact .inr rfl)
    (hf : X.fn x = true ∨ X.env.scope.names.lookup x = some .local := by first | exact .inl rfl | exact .inr rfl) : DS X W I (.AugAssign (.Name x pos') .Add e pos) (dAugL i f) := by
  refine ⟨PS_imp (ps_aug (ti := rExt2) hN hi hx he.pe (fun pins s σ H x y v u Q I r1 r2 h => iop_ext pins s σ H x y v u Q I r1 r2 h) hf) fun D σ H ⟨F, O, ρ, rs, h⟩ => ?_⟩
  unfold dAugL at h
  cases h0 : ρ[i]?.bind Slot.lp with
  | none => simp only [h0] at h; exact h.elim
  | some xs0 =>
    simp only [h0] at h
    cases hρ : ρ[i]? with
    | none => rw [hρ] at h0; cases h0
    | some s0 =>
      rw [hρ] at h0
      obtain ⟨a, vs0, ea, hH0, _, _⟩ := slot_lp (rs.ok i s0 hρ) h0
      refine ⟨.ref a, join_some ea, F, O, ρ, rs, out_wp h fun s ρ1 h => ?_⟩
      intro F1 O1 v H1 rs1 v1 st1 _
      cases hz : s.fz with
      | none => simp only [hz] at h; exact h.elim
      | some d =>
        cases d with
        | lst ys =>
          cases ht : ρ1[i]? with
          | none => simp only [hz, ht] at h; exact h.elim
          | some t =>
            simp only [hz, ht] at h
            cases hl : t.lp with
            | none => simp only [hl] at h; exact h.elim
            | some xs =>
              simp only [hl] at h
              obtain ⟨F2, O2, rs2, rv, st2⟩ := rs1.freeze v1 hz
              obtain ⟨a', vs, ea', hH, oa, rx⟩ := slot_lp (rs2.ok i t ht) hl
              rw [ea] at ea'
              cases ea'
              by_cases hc : xs.length + ys.length ≤ sizeLine
              · rw [if_pos hc] at h
                cases rv with
                | lst q ry =>
                  refine ⟨a, _, vs, _, rfl, rfl, hH, rs2.fh _ _ q, by rw [rx.length, ry.length]; exact hc, ?_⟩
                  obtain ⟨rs3, st3⟩ := rs2.change ht hl ea oa (rx.append ry)
                  rw [set_self (join_some ea)]
                  exact h F2 O2 σ _ rs3 (st1.trans (st2.trans st3)) .refl
              · rw [if_neg hc] at h; exact h.elim
        | _ => simp only [hz] at h; exact h.elim
end
/-! ### a def with two lists that it may change -/
@[simp] noncomputable def args2 (ss : List Slot) : Bool := match ss with
  | [.par _, .sh _, .sh _, .par _, .sh _] => true
  | _ => false
/-- parameters 0 and 3 of five are lists of the caller -/
noncomputable def fnG2 (N : Nat) (body : DSn) : DFn := fun ss =>
  if 5 ≤ N ∧ args2 ss = true then
    match body (ss ++ List.replicate (N - 5) .un) with
    | Out.rt s ρ' => (match (ρ'[0]? : Option Slot), (ρ'[3]? : Option Slot) with | some (Slot.par ys), some (Slot.par zs) => Res.ok (s, (ss.set 0 (Slot.par ys)).set 3 (Slot.par zs)) | _, _ => Res.stuck)
    | _ => .stuck
  else .stuck
section
variable {K : PySem.W.Frag} {F H : Hp} {O : Own}
theorem args2_ok {ss : List Slot} (h : args2 ss = true) : ∃ xs d1 d2 zs d3, ss = [.par xs, .sh d1, .sh d2, .par zs, .sh d3] := by
  unfold args2 at h
  split at h
  · exact ⟨_, _, _, _, _, rfl⟩
  · cases h
theorem RS.leave2 {σ σ' : L2.St} {ρ' : List Slot} {F' H' : Hp} {O' : Own} {xs ys zs ws : List D} {d1 d2 d3 : D} (r : RS K F σ [.par xs, .sh d1, .sh d2, .par zs, .sh d3] H O) (r' : RS K F' σ' ρ' H' O') (st : Step F H O F' H' O')
    (h0 : ρ'[0]? = some (.par ys)) (h3 : ρ'[3]? = some (.par ws)) (p0 : σ'[0]? = σ[0]?) (p3 : σ'[3]? = σ[3]?) : RS K F' σ [.par ys, .sh d1, .sh d2, .par ws, .sh d3] H' O' := by
  have sh : ∀ i d, ([.par xs, .sh d1, .sh d2, .par zs, .sh d3] : List Slot)[i]? = some (.sh d) → SlotOk K F' H' O' i (.sh d) (σ[i]?.join) := fun i d h => by
    obtain ⟨v, hv, rv⟩ := r.ok i _ h
    exact ⟨v, hv, rv.up st.fr⟩
  refine ⟨r.len, r'.fh, fun i s hs => ?_, r'.out⟩
  match i, hs with
  | 0, hs =>
    cases hs
    have q := r'.ok 0 _ h0
    rw [p0] at q
    exact q
  | 1, hs => cases hs; exact sh 1 d1 rfl
  | 2, hs => cases hs; exact sh 2 d2 rfl
  | 3, hs =>
    cases hs
    have q := r'.ok 3 _ h3
    rw [p3] at q
    exact q
  | 4, hs => cases hs; exact sh 4 d3 rfl
  | i + 5, hs => simp at hs
end
theorem fn_d2 {P : Program} {w : World} {K : PySem.W.Frag} {mg : Str → Option Value} {base : Heap} {x qual : Str} {st : Stmt} {f : Addr} {fd : FuncData} {N ps : List Str} {k : Nat} {body : DSn} (Fn : Fun K x qual st f fd) (S : FnScope N ps (defScope st)) (h5 : ps.length = 5)
    (h : ∀ (cdv : Value) (A : Around) (outer : List Env) (s : Shared) (H : Hp) (E : XK), Room k (A.deeper (envOfC qual (defScope st) s.heap.objs.size f cdv)) →
      DSs (cxOf (L2.CX P w) P w K mg base N qual (defScope st) f cdv A outer s H E) (fun c d _ H' => E c d H') [0, 3] (defBody st) body) :
    FnOk P w K mg base (L2.CX P w) (k + 1) f fd ps (spF K mg ps.length (fnG2 N.length body)) := by
  refine Fn.okX S (fun vs H Q E h => h.1) (fun cdv A outer s H vs Q E hr hsp => ?_)
  obtain ⟨hl, F, O, ss, rs, hw⟩ := hsp
  rw [h5] at hl
  refine ⟨_, (h cdv A outer s H E hr).pss, F, O, ss ++ List.replicate (N.length - 5) .un, ?_, ?_⟩
  · have := rs.enter (N.length - 5)
    unfold L2.start
    rw [hl]
    exact this
  · unfold fnG2 at hw
    by_cases hc : 5 ≤ N.length ∧ args2 ss = true
    · rw [if_pos hc] at hw
      obtain ⟨hN, hss⟩ := hc
      obtain ⟨xs, d1, d2, zs, d3, rfl⟩ := args2_ok hss
      have hst : L2.start N vs = vs.map some ++ List.replicate (N.length - 5) none := by unfold L2.start; rw [hl]
      have pin : ∀ {σ' : L2.St} (i : Nat), i < 5 → i ∈ [0, 3] → Pin [0, 3] (L2.start N vs) σ' → σ'[i]? = (vs.map some)[i]? := fun {σ'} i hi hm p => by
        have q := p.2 i hm
        rw [q, hst, List.getElem?_append_left (by rw [List.length_map]; omega)]
      have len : ∀ {σ' : L2.St} {ρ' : List Slot} {F' H' : Hp} {O' : Own}, Pin [0, 3] (L2.start N vs) σ' → RS K F' σ' ρ' H' O' → 5 ≤ ρ'.length := fun {σ' ρ' F' H' O'} p r => by
        have h1 := p.1
        have h2 := r.len
        rw [hst, List.length_append, List.length_map, List.length_replicate] at h1
        omega
      generalize body ([.par xs, .sh d1, .sh d2, .par zs, .sh d3] ++ List.replicate (N.length - 5) .un) = o at hw ⊢
      cases o with
      | rt s ρ' =>
        intro F' O' σ' H' v rs' vo st' pn
        cases h0 : ρ'[0]? with
        | none => simp only [h0] at hw; exact hw.elim
        | some t0 =>
          cases t0 with
          | par ys =>
            cases h3 : ρ'[3]? with
            | none => simp only [h0, h3] at hw; exact hw.elim
            | some t3 =>
              cases t3 with
              | par ws =>
                simp only [h0, h3] at hw
                have rl := rs.leave2 rs' st' h0 h3 (pin 0 (by omega) (by simp) pn) (pin 3 (by omega) (by simp) pn)
                obtain ⟨O2, r2, v2, o2⟩ := vo.move rl (len pn rs')
                exact hw F' O2 v H' r2 v2 ⟨st'.keep, st'.there, st'.fr, st'.low, fun b i e => (o2 b i e).elim fun j hj => st'.fp b j hj⟩ fun z => nomatch z
              | _ => simp only [h0, h3] at hw; exact hw.elim
          | _ => simp only [h0] at hw; exact hw.elim
      | nx ρ' => exact hw.elim
      | ex c ρ' => exact hw.elim
      | bk ρ' => exact hw.elim
      | ct ρ' => exact hw.elim
      | stuck => exact hw.elim
    · rw [if_neg hc] at hw; exact hw.elim
theorem Dfn.mk2 {P : Program} {w : World} {K : PySem.W.Frag} {mg : Str → Option Value} {base : Heap} {x qual : Str} {st : Stmt} {f : Addr} {fd : FuncData} {N ps : List Str} {k : Nat} {body : DSn} (Fn : Fun K x qual st f fd) (hm : mg x = some (.ref f)) (hb : Binds K fd ps []) (S : FnScope N ps (defScope st)) (h5 : ps.length = 5)
    (h : ∀ (cdv : Value) (A : Around) (outer : List Env) (s : Shared) (H : Hp) (E : XK), Room k (A.deeper (envOfC qual (defScope st) s.heap.objs.size f cdv)) →
      DSs (cxOf (L2.CX P w) P w K mg base N qual (defScope st) f cdv A outer s H E) (fun c d _ H' => E c d H') [0, 3] (defBody st) body) :
    Dfn P w K mg base x ps (k + 1) (fnG2 N.length body) := ⟨⟨f, fd, fn_d2 Fn S h5 h, hm, Fn.kp, hb, fun_at Fn⟩⟩
def own2 (a a' : Addr) : Own := fun b => if b = a then some 0 else if b = a' then some 3 else none
section
variable {K : PySem.W.Frag} {F H : Hp} {O : Own} {σ : L2.St} {ρ : List Slot}
theorem RS.in2 {i l : Nat} {a a' : Addr} {vs vs' : List V} {xs zs : List D} {v1 v2 v3 : V} {d1 d2 d3 : D} (r : RS K F σ ρ H O) (oa : O a = some i) (oa' : O a' = some l) (ne : a ≠ a') (ha : H a = some (.lst vs)) (ra : Rs K F vs xs) (ha' : H a' = some (.lst vs')) (ra' : Rs K F vs' zs)
    (r1 : R K F v1 d1) (r2 : R K F v2 d2) (r3 : R K F v3 d3) : RS K F ([.ref a, v1, v2, .ref a', v3].map some) [.par xs, .sh d1, .sh d2, .par zs, .sh d3] H (own2 a a') := by
  refine ⟨rfl, r.fh, fun j t ht => ?_, fun b j e => ?_⟩
  · match j, ht with
    | 0, ht => cases ht; exact ⟨a, vs, rfl, ha, by simp [own2], ra⟩
    | 1, ht => cases ht; exact ⟨v1, rfl, r1⟩
    | 2, ht => cases ht; exact ⟨v2, rfl, r2⟩
    | 3, ht => cases ht; exact ⟨a', vs', rfl, ha', by simp [own2, Ne.symm ne], ra'⟩
    | 4, ht => cases ht; exact ⟨v3, rfl, r3⟩
    | j + 5, ht => simp at ht
  · unfold own2 at e
    by_cases hb : b = a
    · subst hb; exact r.out b i oa
    · rw [if_neg hb] at e
      by_cases hb' : b = a'
      · subst hb'; exact r.out b l oa'
      · rw [if_neg hb'] at e; cases e
theorem RS.back2 {F' H' : Hp} {O' : Own} {σ' : L2.St} {ρ' : List Slot} {i l : Nat} {s : Slot} {xs ys ws : List D} {a a' : Addr} (r : RS K F σ ρ H O) (hi : ρ[i]? = some s) (hl : s.lp = some xs) (ha : σ[i]?.join = some (.ref a)) (oa : O a = some i) (oa' : O a' = some l) (il : i ≠ l)
    (st : Step F H (own2 a a') F' H' O') (r' : RS K F' σ' ρ' H' O') (h0 : ρ'[0]? = some (.par ys)) (h3 : ρ'[3]? = some (.par ws)) (p0 : σ'[0]? = some (some (.ref a))) (p3 : σ'[3]? = some (some (.ref a'))) :
    Step F H O F' H' O ∧ (∀ j t, ρ[j]? = some t → j ≠ i → j ≠ l → SlotOk K F' H' O j t (σ[j]?.join)) ∧ SlotOk K F' H' O i (s.put ys) (σ[i]?.join) ∧ (∀ (t : Slot) (zs : List D), t.lp = some zs → σ[l]?.join = some (.ref a') → SlotOk K F' H' O l (t.put ws) (σ[l]?.join)) ∧ (∀ b j, O b = some j → F' b = none ∧ ∃ o, H' b = some o) := by
  obtain ⟨a1, vs1, e1, e2, e3, e4⟩ := r'.ok 0 _ h0
  rw [p0] at e1
  cases e1
  obtain ⟨a2, vs2, f1, f2, f3, f4⟩ := r'.ok 3 _ h3
  rw [p3] at f1
  cases f1
  have no : ∀ {b : Addr}, b ≠ a → b ≠ a' → own2 a a' b = none := fun {b} h1 h2 => by unfold own2; rw [if_neg h1, if_neg h2]
  have so : ∀ {b : Addr} {j : Nat}, own2 a a' b = some j → b = a ∨ b = a' := fun {b j} e => by
    unfold own2 at e
    by_cases hb : b = a
    · exact .inl hb
    · rw [if_neg hb] at e
      by_cases hb' : b = a'
      · exact .inr hb'
      · rw [if_neg hb'] at e; cases e
  have out : ∀ b j, O b = some j → F' b = none ∧ ∃ o, H' b = some o := fun b j e => by
    obtain ⟨h1, o, h2⟩ := r.out b j e
    by_cases hb : b = a
    · subst hb; exact ⟨(r'.out b 0 e3).1, _, e2⟩
    · by_cases hb' : b = a'
      · subst hb'; exact ⟨(r'.out b 3 f3).1, _, f2⟩
      · refine ⟨?_, o, st.keep b o h2 (no hb hb')⟩
        cases q : F' b with
        | none => rfl
        | some u =>
          rcases st.low b u q with h | ⟨j, h⟩ | h
          · rw [h1] at h; cases h
          · rcases so h with h | h
            · exact (hb h).elim
            · exact (hb' h).elim
          · rw [h2] at h; cases h
  refine ⟨⟨fun b o h n => st.keep b o h (no (fun z => by subst z; rw [oa] at n; cases n) (fun z => by subst z; rw [oa'] at n; cases n)), st.there, st.fr, fun b o h => ?_, fun b j e => .inl ⟨j, e⟩⟩, fun j t ht n1 n2 => ?_, slot_put hl ha e2 oa e4, fun t zs htl htσ => slot_put htl htσ f2 oa' f4, out⟩
  · rcases st.low b o h with h | ⟨j, h⟩ | h
    · exact .inl h
    · rcases so h with rfl | rfl
      · exact .inr (.inl ⟨i, oa⟩)
      · exact .inr (.inl ⟨l, oa'⟩)
    · exact .inr (.inr h)
  · refine (r.ok j t ht).ext st.fr fun b u pb hu => ⟨st.keep b u hu (no (fun z => ?_) (fun z => ?_)), pb⟩
    · subst z; rw [oa] at pb; exact n1 (Option.some.inj pb).symm
    · subst z; rw [oa'] at pb; exact n2 (Option.some.inj pb).symm
end
section
variable {X : Cx} {W : WX}
/-- the callee's end, read by the caller -/
@[simp] noncomputable def end2 (r : Res (Slot × List Slot)) (k : D → List D → List D → Res (Slot × List Slot)) : Res (Slot × List Slot) := match r with
  | .ok (.sh d, ρ') => (match (ρ'[0]? : Option Slot), (ρ'[3]? : Option Slot) with | some (Slot.par ys), some (Slot.par ws) => k d ys ws | _, _ => .stuck)
  | _ => .stuck
/-- f(x, e1, e2, y, e3): x and y names of own lists, which the def may change -/
noncomputable def dCall2 (i l : Nat) (G : DFn) (f1 f2 f3 : DEn) (ρ : List Slot) : Res (Slot × List Slot) := (Res.lift (ρ[i]?.bind Slot.lp)).bind fun _ => (Res.lift (ρ[l]?.bind Slot.lp)).bind fun _ => (f1 ρ).bind fun p1 => (Res.lift p1.1.fz).bind fun d1 =>
  (f2 p1.2).bind fun p2 => (Res.lift p2.1.fz).bind fun d2 => (f3 p2.2).bind fun p3 => (Res.lift p3.1.fz).bind fun d3 => (Res.lift p3.2[i]?).bind fun s => (Res.lift s.lp).bind fun xs => (Res.lift p3.2[l]?).bind fun t => (Res.lift t.lp).bind fun zs =>
  if i ≠ l then end2 (G [.par xs, .sh d1, .sh d2, .par zs, .sh d3]) fun d ys ws => .ok (.sh d, (p3.2.set i (s.put ys)).set l (t.put ws)) else .stuck
theorem de_call2 {k : Nat} {x y z : Str} {ps : List Str} {G : DFn} {pa pb pc : Bool} {e1 e2 e3 : Expr} {p py pz pos : Pos} {f1 f2 f3 : DEn} (i l : Nat) {P : Program} {w : World} {K : PySem.W.Frag} {mg : Str → Option Value} {base : Heap} {A : Around} (tk : Takes X W) (hf : Dfn P w K mg base x ps k G) (hr : Room k A)
    (h1 : DE X W pa e1 f1) (h2 : DE X W pb e2 f2) (h3 : DE X W pc e3 f3) (h5 : ps.length = 5 := by rfl) (hN : X.N[i]? = some y := by rfl) (hN2 : X.N[l]? = some z := by rfl)
    (hvis : Vis X.env.scope y := by first | exact Or.inl rfl | exact Or.inr (Or.inl rfl) | exact Or.inr (Or.inr rfl)) (hvis2 : Vis X.env.scope z := by first | exact Or.inl rfl | exact Or.inr (Or.inl rfl) | exact Or.inr (Or.inr rfl)) (hg : Gl X x := by rfl)
    (hd : (y == ("__debug__" : Str)) = false := by decide) (hcd : (y == ("__classdict__" : Str)) = false := by decide) (hd2 : (z == ("__debug__" : Str)) = false := by decide) (hcd2 : (z == ("__classdict__" : Str)) = false := by decide)
    (hdb : (x == ("__debug__" : Str)) = false := by decide)
    (s5 : starEach [e3] X.env = (false, eval e3 X.env) :: starEach [] X.env := by rfl) (s4 : starEach [.Name z pz, e3] X.env = (false, eval (.Name z pz) X.env) :: starEach [e3] X.env := by rfl) (s3 : starEach [e2, .Name z pz, e3] X.env = (false, eval e2 X.env) :: starEach [.Name z pz, e3] X.env := by rfl)
    (s2 : starEach [e1, e2, .Name z pz, e3] X.env = (false, eval e1 X.env) :: starEach [e2, .Name z pz, e3] X.env := by rfl) (he : starEach [.Name y py, e1, e2, .Name z pz, e3] X.env = (false, eval (.Name y py) X.env) :: starEach [e1, e2, .Name z pz, e3] X.env := by rfl)
    (hpl : (backTo pos (starEach [e1, e2, .Name z pz, e3] X.env)).any (·.1) = false := by rfl) (hX : X.prog = P ∧ X.w = w ∧ X.K = K ∧ X.mg = mg ∧ X.base = base ∧ X.A = A := by exact ⟨rfl, rfl, rfl, rfl, rfl, rfl⟩) :
    DE X W false (.Call (.Name x p) [.Name y py, e1, e2, .Name z pz, e3] [] pos) (dCall2 i l G f1 f2 f3) := by
  obtain ⟨rfl, rfl, rfl, rfl, rfl, rfl⟩ := hX
  obtain ⟨f, fd, ok, hm, hk, hb, _⟩ := hf.ok
  refine ⟨PE_imp (pe_callS (E := WE W) ok hr hg hm hk hb (fun σ => passAt tk σ) (pa_cons (pe_var hN hvis hd hcd) (pa_cons h1.pe (pa_cons h2.pe (pa_cons (pe_var hN2 hvis2 hd2 hcd2) (pa_cons h3.pe pa_nil s5) s4) s3) s2) he) hdb he hpl) fun σ H Q ⟨F, O, ρ, rs, h⟩ => ?_⟩
  unfold dCall2 at h
  rw [Res.wp_bind, Res.wp_lift] at h
  obtain ⟨xs0, h0, h⟩ := h
  rw [Res.wp_bind, Res.wp_lift] at h
  obtain ⟨zs0, h0', h⟩ := h
  obtain ⟨t0, hρ, h0⟩ := Option.bind_eq_some_iff.mp h0
  obtain ⟨t0', hρ', h0'⟩ := Option.bind_eq_some_iff.mp h0'
  obtain ⟨a, vs0, ea, _, _, _⟩ := slot_lp (rs.ok i t0 hρ) h0
  obtain ⟨a', vs0', ea', _, _, _⟩ := slot_lp (rs.ok l t0' hρ') h0'
  refine ⟨.ref a, join_some ea, F, O, ρ, rs, ?_⟩
  rw [Res.wp_bind] at h
  refine Res.wp_mono h (fun p1 hp => ?_) (fun _ _ e => e)
  intro F1 O1 v1 H1 rs1 w1 st1 _
  rw [Res.wp_bind, Res.wp_lift] at hp
  obtain ⟨d1, hd1, hp⟩ := hp
  obtain ⟨F1', O1', rs1', rv1, st1'⟩ := rs1.freeze w1 hd1
  rw [Res.wp_bind] at hp
  have S1 := st1.trans st1'
  refine ⟨F1', O1', p1.2, rs1', Res.wp_mono hp (fun p2 hp => ?_) (PX.step S1)⟩
  intro F2 O2 v2 H2 rs2 w2 st2 _
  rw [Res.wp_bind, Res.wp_lift] at hp
  obtain ⟨d2, hd2, hp⟩ := hp
  obtain ⟨F2', O2', rs2', rv2, st2'⟩ := rs2.freeze w2 hd2
  rw [Res.wp_bind] at hp
  have S2 := S1.trans (st2.trans st2')
  refine ⟨.ref a', join_some ea', F2', O2', p2.2, rs2', Res.wp_mono hp (fun p3 hp => ?_) (PX.step S2)⟩
  intro F3 O3 v3 H3 rs3 w3 st3 _
  rw [Res.wp_bind, Res.wp_lift] at hp
  obtain ⟨d3, hd3, hp⟩ := hp
  obtain ⟨F3', O3', rs3', rv3, st3'⟩ := rs3.freeze w3 hd3
  have S3 := S2.trans (st3.trans st3')
  rw [Res.wp_bind, Res.wp_lift] at hp
  obtain ⟨s, hs, hp⟩ := hp
  rw [Res.wp_bind, Res.wp_lift] at hp
  obtain ⟨xs, hxs, hp⟩ := hp
  rw [Res.wp_bind, Res.wp_lift] at hp
  obtain ⟨t, ht, hp⟩ := hp
  rw [Res.wp_bind, Res.wp_lift] at hp
  obtain ⟨zs, hzs, hp⟩ := hp
  by_cases il : i ≠ l
  · rw [if_pos il] at hp
    obtain ⟨b, us, eb, hb1, ob, rb⟩ := slot_lp (rs3'.ok i s hs) hxs
    rw [ea] at eb
    cases eb
    obtain ⟨b', us', eb', hb1', ob', rb'⟩ := slot_lp (rs3'.ok l t ht) hzs
    rw [ea'] at eb'
    cases eb'
    have ne : a ≠ a' := fun y => by subst y; rw [ob] at ob'; exact il (Option.some.inj ob')
    have u12 := (st2.trans st2').fr
    have u3 := (st3.trans st3').fr
    have rc := rs3'.in2 ob ob' ne hb1 rb hb1' rb' (rv1.up (u12.trans u3)) (rv2.up u3) rv3
    refine ⟨by rw [h5]; rfl, F3', _, _, rc, ?_⟩
    cases hG : G [.par xs, .sh d1, .sh d2, .par zs, .sh d3] with
    | stuck => rw [hG] at hp; exact hp.elim
    | ex c ρ' => rw [hG] at hp; exact hp.elim
    | ok q =>
      obtain ⟨rr, ρ'⟩ := q
      rw [hG] at hp
      cases rr with
      | sh d =>
        intro F' O' v H' rs' vo st' _
        unfold end2 at hp
        dsimp only at hp
        cases h0 : ρ'[0]? with
        | none => simp only [h0] at hp; exact hp.elim
        | some t0 =>
          cases t0 with
          | par ys =>
            cases h3 : ρ'[3]? with
            | none => simp only [h0, h3] at hp; exact hp.elim
            | some t3 =>
              cases t3 with
              | par ws =>
                simp only [h0, h3] at hp
                obtain ⟨S4, k1, k2, k3, k4⟩ := rs3'.back2 hs hxs ea ob ob' il st' rs' h0 h3 rfl rfl
                have hil : i < p3.2.length := (List.getElem?_eq_some_iff.mp hs).1
                have hll : l < p3.2.length := (List.getElem?_eq_some_iff.mp ht).1
                have rf : RS X.K F' σ ((p3.2.set i (s.put ys)).set l (t.put ws)) H' O3' := by
                  refine ⟨by rw [List.length_set, List.length_set]; exact rs3'.len, rs'.fh, fun j u hu => ?_, k4⟩
                  by_cases hj : l = j
                  · subst hj
                    rw [List.getElem?_set_self (by rw [List.length_set]; exact hll)] at hu
                    cases hu
                    exact k3 t zs hzs ea'
                  · rw [List.getElem?_set_ne hj] at hu
                    by_cases hj2 : i = j
                    · subst hj2
                      rw [List.getElem?_set_self hil] at hu
                      cases hu
                      exact k2
                    · rw [List.getElem?_set_ne hj2] at hu
                      exact k1 j u hu (Ne.symm hj2) (Ne.symm hj)
                exact hp F' O3' v H' rf vo (S3.trans S4) fun y => nomatch y
              | _ => simp only [h0, h3] at hp; exact hp.elim
          | _ => simp only [h0] at hp; exact hp.elim
      | _ => exact hp.elim
  · rw [if_neg il] at hp; exact hp.elim
/-- f(x, e1, e2, [..], c): x a name of an own list, and a new list, which the def may change; c a number -/
noncomputable def dCall2L (i : Nat) (G : DFn) (f1 f2 fl : DEn) (c : Int) (ρ : List Slot) : Res (Slot × List Slot) := (Res.lift (ρ[i]?.bind Slot.lp)).bind fun _ => (f1 ρ).bind fun p1 => (Res.lift p1.1.fz).bind fun d1 =>
  (f2 p1.2).bind fun p2 => (Res.lift p2.1.fz).bind fun d2 => (fl p2.2).bind fun p3 => match p3.1 with
  | .own zs => (Res.lift p3.2[i]?).bind fun s => (Res.lift s.lp).bind fun xs => end2 (G [.par xs, .sh d1, .sh d2, .par zs, .sh (.int c)]) fun d ys _ => .ok (.sh d, p3.2.set i (s.put ys))
  | _ => .stuck
theorem de_call2L {k : Nat} {x y : Str} {ps : List Str} {G : DFn} {pa pb pc : Bool} {e1 e2 e3 : Expr} {p py pz pos : Pos} {jj : Nat} {c : Int} {f1 f2 fl : DEn} (i : Nat) {P : Program} {w : World} {K : PySem.W.Frag} {mg : Str → Option Value} {base : Heap} {A : Around} (tk : Takes X W) (hf : Dfn P w K mg base x ps k G) (hr : Room k A)
    (h1 : DE X W pa e1 f1) (h2 : DE X W pb e2 f2) (h3 : DE X W pc e3 fl) (h5 : ps.length = 5 := by rfl) (hN : X.N[i]? = some y := by rfl)
    (hvis : Vis X.env.scope y := by first | exact Or.inl rfl | exact Or.inr (Or.inl rfl) | exact Or.inr (Or.inr rfl)) (hg : Gl X x := by rfl)
    (hd : (y == ("__debug__" : Str)) = false := by decide) (hcd : (y == ("__classdict__" : Str)) = false := by decide)
    (hdb : (x == ("__debug__" : Str)) = false := by decide)
    (s5 : starEach [.Constant (.int c) jj pz] X.env = (false, eval (.Constant (.int c) jj pz) X.env) :: starEach [] X.env := by rfl) (s4 : starEach [e3, .Constant (.int c) jj pz] X.env = (false, eval e3 X.env) :: starEach [.Constant (.int c) jj pz] X.env := by rfl) (s3 : starEach [e2, e3, .Constant (.int c) jj pz] X.env = (false, eval e2 X.env) :: starEach [e3, .Constant (.int c) jj pz] X.env := by rfl)
    (s2 : starEach [e1, e2, e3, .Constant (.int c) jj pz] X.env = (false, eval e1 X.env) :: starEach [e2, e3, .Constant (.int c) jj pz] X.env := by rfl) (he : starEach [.Name y py, e1, e2, e3, .Constant (.int c) jj pz] X.env = (false, eval (.Name y py) X.env) :: starEach [e1, e2, e3, .Constant (.int c) jj pz] X.env := by rfl)
    (hpl : (backTo pos (starEach [e1, e2, e3, .Constant (.int c) jj pz] X.env)).any (·.1) = false := by rfl) (hX : X.prog = P ∧ X.w = w ∧ X.K = K ∧ X.mg = mg ∧ X.base = base ∧ X.A = A := by exact ⟨rfl, rfl, rfl, rfl, rfl, rfl⟩) :
    DE X W false (.Call (.Name x p) [.Name y py, e1, e2, e3, .Constant (.int c) jj pz] [] pos) (dCall2L i G f1 f2 fl c) := by
  obtain ⟨rfl, rfl, rfl, rfl, rfl, rfl⟩ := hX
  obtain ⟨f, fd, ok, hm, hk, hb, _⟩ := hf.ok
  refine ⟨PE_imp (pe_callS (E := WE W) ok hr hg hm hk hb (fun σ => passAt tk σ) (pa_cons (pe_var hN hvis hd hcd) (pa_cons h1.pe (pa_cons h2.pe (pa_cons h3.pe (pa_cons pe_int pa_nil s5) s4) s3) s2) he) hdb he hpl) fun σ H Q ⟨F, O, ρ, rs, h⟩ => ?_⟩
  unfold dCall2L at h
  rw [Res.wp_bind, Res.wp_lift] at h
  obtain ⟨xs0, h0, h⟩ := h
  obtain ⟨t0, hρ, h0⟩ := Option.bind_eq_some_iff.mp h0
  obtain ⟨a, vs0, ea, _, _, _⟩ := slot_lp (rs.ok i t0 hρ) h0
  refine ⟨.ref a, join_some ea, F, O, ρ, rs, ?_⟩
  rw [Res.wp_bind] at h
  refine Res.wp_mono h (fun p1 hp => ?_) (fun _ _ e => e)
  intro F1 O1 v1 H1 rs1 w1 st1 _
  rw [Res.wp_bind, Res.wp_lift] at hp
  obtain ⟨d1, hd1, hp⟩ := hp
  obtain ⟨F1', O1', rs1', rv1, st1'⟩ := rs1.freeze w1 hd1
  rw [Res.wp_bind] at hp
  have S1 := st1.trans st1'
  refine ⟨F1', O1', p1.2, rs1', Res.wp_mono hp (fun p2 hp => ?_) (PX.step S1)⟩
  intro F2 O2 v2 H2 rs2 w2 st2 _
  rw [Res.wp_bind, Res.wp_lift] at hp
  obtain ⟨d2, hd2, hp⟩ := hp
  obtain ⟨F2', O2', rs2', rv2, st2'⟩ := rs2.freeze w2 hd2
  rw [Res.wp_bind] at hp
  have S2 := S1.trans (st2.trans st2')
  refine ⟨F2', O2', p2.2, rs2', Res.wp_mono hp (fun p3 hp => ?_) (PX.step S2)⟩
  intro F3 O3 v3 H3 rs3 w3 st3 _
  have S3 := S2.trans st3
  cases hp1 : p3.1 with
  | own zs =>
    rw [hp1] at w3
    simp only [hp1] at hp
    rw [Res.wp_bind, Res.wp_lift] at hp
    obtain ⟨s, hs, hp⟩ := hp
    rw [Res.wp_bind, Res.wp_lift] at hp
    obtain ⟨xs, hxs, hp⟩ := hp
    obtain ⟨a', us', rfl, hb1', ob', rb'⟩ := w3
    obtain ⟨b, us, eb, hb1, ob, rb⟩ := slot_lp (rs3.ok i s hs) hxs
    rw [ea] at eb
    cases eb
    have hil : i < p3.2.length := (List.getElem?_eq_some_iff.mp hs).1
    have il : i ≠ p3.2.length := by omega
    have ne : a ≠ a' := fun y => by subst y; rw [ob] at ob'; exact il (Option.some.inj ob')
    have u12 := (st2.trans st2').fr
    have rc := rs3.in2 ob ob' ne hb1 rb hb1' rb' (rv1.up (u12.trans st3.fr)) (rv2.up st3.fr) (R.int c)
    refine ⟨by rw [h5]; rfl, F3, _, _, rc, ?_⟩
    cases hG : G [.par xs, .sh d1, .sh d2, .par zs, .sh (.int c)] with
    | stuck => rw [hG] at hp; exact hp.elim
    | ex c ρ' => rw [hG] at hp; exact hp.elim
    | ok q =>
      obtain ⟨rr, ρ'⟩ := q
      rw [hG] at hp
      cases rr with
      | sh d =>
        intro F' O' v H' rs' vo st' _
        unfold end2 at hp
        dsimp only at hp
        cases h0 : ρ'[0]? with
        | none => simp only [h0] at hp; exact hp.elim
        | some t0 =>
          cases t0 with
          | par ys =>
            cases h3 : ρ'[3]? with
            | none => simp only [h0, h3] at hp; exact hp.elim
            | some t3 =>
              cases t3 with
              | par ws =>
                simp only [h0, h3] at hp
                obtain ⟨S4, k1, k2, k3, k4⟩ := rs3.back2 hs hxs ea ob ob' il st' rs' h0 h3 rfl rfl
                have rf : RS X.K F' σ (p3.2.set i (s.put ys)) H' O3 := by
                  refine ⟨by rw [List.length_set]; exact rs3.len, rs'.fh, fun j u hu => ?_, k4⟩
                  by_cases hj2 : i = j
                  · subst hj2
                    rw [List.getElem?_set_self hil] at hu
                    cases hu
                    exact k2
                  · rw [List.getElem?_set_ne hj2] at hu
                    have hj3 : j < p3.2.length := (List.getElem?_eq_some_iff.mp hu).1
                    exact k1 j u hu (Ne.symm hj2) (by omega)
                exact hp F' O3 v H' rf vo (S3.trans S4) fun y => nomatch y
              | _ => simp only [h0, h3] at hp; exact hp.elim
          | _ => simp only [h0] at hp; exact hp.elim
      | _ => exact hp.elim
  | _ => simp only [hp1] at hp; exact hp.elim
end
end DL
/-! DLX: k in d, k not in d, over a dict as data -/
namespace DL
open PySem PySem.Spec PyProof.Rows L2
theorem dct_key {K : PySem.W.Frag} {F H2 : Hp} {a : Addr} {ks : List Key} {ds : List D} (h : R K F (.ref a) (.dct ks ds)) (hH : Same F H2) (k : Key) : ∃ r, DGet H2 a (kV k) r ∧ r.isSome = (valD (ks.zip ds) k).isSome := by
  cases h with
  | @dct _ od kvs _ _ hF h1 h2 =>
    refine ⟨valV kvs k, .inl ⟨kvs, k, .inr ⟨od, hH _ _ hF⟩, rfl, rfl⟩, ?_⟩
    rcases (KX.zip h1 h2).val k with ⟨v, d, e1, e2, _⟩ | ⟨e1, e2⟩
    · rw [e1, e2]; rfl
    · rw [e1, e2]; rfl
/-- k in d, d data -/
@[simp] noncomputable def dInDct (neg : Bool) (f fd : DEn) (ρ : List Slot) : Res (Slot × List Slot) := (f ρ).bind fun p => (Res.lift p.1.fz).bind fun e => (fd p.2).bind fun q => match q.1, keyD e with
  | .sh (.dct ks ds), some k => .ok (.sh (.bl (neg ^^ (valD (ks.zip ds) k).isSome)), q.2)
  | _, _ => .stuck
section
variable {X : Cx} {W : WX}
theorem inDct_imp {pa pb : Bool} {neg : Bool} {f fd : DEn} {σ : L2.St} {H : Hp} {Q : VK} (h : dE X.K X.mg W (pa && pb) (dInDct neg f fd) σ H Q) :
    dE X.K X.mg W pa f σ H fun y H1 => dE X.K X.mg W pb fd σ H1 fun x H2 => ∃ a o, x = .ref a ∧ DGet H2 a y o ∧ Q (.bl (neg ^^ o.isSome)) H2 := by
  obtain ⟨F, O, ρ, rs, h⟩ := h
  refine ⟨F, O, ρ, rs, ?_⟩
  unfold dInDct at h
  rw [Res.wp_bind] at h
  refine Res.wp_mono h (fun p hp => ?_) (fun _ _ e => e)
  intro F1 O1 y H1 rs1 v1 st1 pu1
  rw [Res.wp_bind, Res.wp_lift] at hp
  obtain ⟨e, he, hp⟩ := hp
  rw [Res.wp_bind] at hp
  refine ⟨F1, O1, p.2, rs1, Res.wp_mono hp (fun q hq => ?_) (PX.step st1)⟩
  intro F2 O2 x H2 rs2 v2 st2 pu2
  cases hq1 : q.1 with
  | sh d =>
    cases d with
    | dct ks ds =>
      rw [hq1] at v2
      simp only [hq1] at hq
      cases hk : keyD e with
      | none => simp only [hk] at hq; exact hq.elim
      | some k =>
        simp only [hk] at hq
        have fl : e.flat = true := by cases e <;> first | rfl | cases hk
        have ev : p.1.val = some e := by
          cases hs : p.1 with
          | sh d => rw [hs] at he; exact he
          | own xs => rw [hs] at he; exact he
          | pk d =>
            rw [hs] at he
            have he : (if d.flat = true then some d else none) = some e := he
            split at he
            · exact he
            · cases he
          | _ => rw [hs] at he; cases he
        have ey := key_read (v1.read rs1.fh ev) hk
        subst ey
        obtain ⟨a, rfl⟩ := R.dct_ref v2
        obtain ⟨r, g, er⟩ := dct_key v2 rs2.fh k
        refine ⟨a, r, rfl, g, ?_⟩
        rw [er]
        exact hq F2 O2 _ H2 rs2 (.bl _) (st1.trans st2) fun z => by
          rw [Bool.and_eq_true] at z
          exact (pu1 z.1).trans (pu2 z.2)
    | _ => simp only [hq1] at hq; exact hq.elim
  | _ => simp only [hq1] at hq; exact hq.elim
theorem de_inDct {pa pb : Bool} {i o : Expr} {f fd : DEn} {pos : Pos} {k : Nat} {A : Around} (hr : Room k A) (hi : DE X W pa i f) (ho : DE X W pb o fd) (hA : X.A = A := by rfl) (hm : behindInMarks .In o = false := by first | exact nobehind _ (by decide) (by decide) | rfl) :
    DE X W (pa && pb) (.Compare i [.In] [o] pos) (dInDct false f fd) :=
  ⟨PE_imp (pe_cmp (pc_din (by rw [hA]; have := hr.units; omega) hi.pe ho.pe) hm) fun σ H Q h => by
    obtain ⟨F, O, ρ, rs, q⟩ := inDct_imp h
    refine ⟨F, O, ρ, rs, Res.wp_mono q (fun p hp => fun F1 O1 y H1 a b c d => ?_) (fun _ _ e => e)⟩
    obtain ⟨F2, O2, ρ2, rs2, q2⟩ := hp F1 O1 y H1 a b c d
    refine ⟨F2, O2, ρ2, rs2, Res.wp_mono q2 (fun p hp => fun F3 O3 x H3 a b c d => ?_) (fun _ _ e => e)⟩
    obtain ⟨aa, oo, e1, e2, e3⟩ := hp F3 O3 x H3 a b c d
    exact ⟨aa, oo, e1, e2, by simpa using e3⟩⟩
theorem de_notinDct {pa pb : Bool} {i o : Expr} {f fd : DEn} {pos : Pos} {k : Nat} {A : Around} (hr : Room k A) (hi : DE X W pa i f) (ho : DE X W pb o fd) (hA : X.A = A := by rfl) (hm : behindInMarks .NotIn o = false := by first | exact nobehind _ (by decide) (by decide) | rfl) :
    DE X W (pa && pb) (.Compare i [.NotIn] [o] pos) (dInDct true f fd) :=
  ⟨PE_imp (pe_cmp (pc_dnotin (by rw [hA]; have := hr.units; omega) hi.pe ho.pe) hm) fun σ H Q h => by
    obtain ⟨F, O, ρ, rs, q⟩ := inDct_imp h
    refine ⟨F, O, ρ, rs, Res.wp_mono q (fun p hp => fun F1 O1 y H1 a b c d => ?_) (fun _ _ e => e)⟩
    obtain ⟨F2, O2, ρ2, rs2, q2⟩ := hp F1 O1 y H1 a b c d
    refine ⟨F2, O2, ρ2, rs2, Res.wp_mono q2 (fun p hp => fun F3 O3 x H3 a b c d => ?_) (fun _ _ e => e)⟩
    obtain ⟨aa, oo, e1, e2, e3⟩ := hp F3 O3 x H3 a b c d
    exact ⟨aa, oo, e1, e2, by simpa using e3⟩⟩
theorem dt_inDct {pa pb : Bool} {i o : Expr} {f fd : DEn} {pos : Pos} {k : Nat} {A : Around} (hr : Room k A) (hi : DE X W pa i f) (ho : DE X W pb o fd) (hA : X.A = A := by rfl) (hm : behindInMarks .In o = false := by first | exact nobehind _ (by decide) (by decide) | rfl) :
    DT X W (pa && pb) (.Compare i [.In] [o] pos) (dTst (dInDct false f fd)) :=
  ⟨PT_imp (pt_cmp (pc_din (by rw [hA]; have := hr.units; omega) hi.pe ho.pe) hm) fun σ H Q h => by
    obtain ⟨F, O, ρ, rs, q⟩ := inDct_imp (tst_imp h)
    refine ⟨F, O, ρ, rs, Res.wp_mono q (fun p hp => fun F1 O1 y H1 a b c d => ?_) (fun _ _ e => e)⟩
    obtain ⟨F2, O2, ρ2, rs2, q2⟩ := hp F1 O1 y H1 a b c d
    refine ⟨F2, O2, ρ2, rs2, Res.wp_mono q2 (fun p hp => fun F3 O3 x H3 a b c d => ?_) (fun _ _ e => e)⟩
    obtain ⟨aa, oo, e1, e2, e3⟩ := hp F3 O3 x H3 a b c d
    exact ⟨aa, oo, e1, e2, by simpa using e3⟩⟩
end
end DL
/-! DLA: tuple(xs) as an exact tuple, dict(t) of such a tuple of pairs -/
namespace DL
open PySem PySem.Spec PyProof.Rows L2
section
variable {X : Cx}
/-- tuple(xs), xs a list: a new exact tuple -/
theorem call_tupleX : CallR X (.type "tuple") (fun xs H Q => ∃ p ys, xs = [.ref p] ∧ SqL X.K H p ys ∧ ∀ l o, H l = none → o.dict = none → Q (.ref l) (upd H l (.frz o (.tup ys)))) := by
  intro pins s σ H xs us Q I r h
  obtain ⟨p, ys, rfl, hq, q⟩ := h
  obtain ⟨u, rfl, rx⟩ := vals1 r
  cases rx
  obtain ⟨its, r', pl, hz⟩ := I.list hq
  have hlen := r'.length
  refine call_tuple_list pl.isList (fun h' kp => ?_) (by simp only [List.size_toArray] <;> omega)
  have I1 : Inv X pins σ H { s with heap := h' } := I.kept (t' := s.toks) kp
  have I2 : Inv X pins σ (upd H h'.objs.size (.frz { cls := .type "tuple", data := .seq its.toArray } (.tup ys))) { s with heap := h'.push { cls := .type "tuple", data := .seq its.toArray } } :=
    I1.laid (t' := s.toks) (fun b o e => Heap.get?_push_of_some _ e) (Nat.le_refl _) (show ObjOk X.prog X.w _ _ _ (.frz _ (.tup ys)) from ⟨Heap.get?_push_size _ rfl, hz, its, r', IsTup.new _ _⟩)
  exact ⟨.ref h'.objs.size, _, I2, rfl, q _ _ (I1.hok.fresh (Nat.le_refl _)) rfl⟩
theorem paired_imp {α β : Type} {P Q : α → β → Prop} (h : ∀ a b, P a b → Q a b) : ∀ {xs : List α} {ys : List β}, Paired P xs ys → Paired Q xs ys
  | _, _, .nil => .nil
  | _, _, .cons a t => .cons (h _ _ a) (paired_imp h t)
theorem pairs_ofX {pins : List (Addr × Obj)} {σ : L2.St} {H : Hp} {s : Shared} (I : Inv X pins σ H s) : ∀ {ps : List Addr} {kvs : List (Key × V)}, Paired (fun p kv => SqT X.K H p [kV kv.1, kv.2]) ps kvs →
    ∃ (prs : List (Key × Value)) (us : List Value), KV kvs prs ∧ prs.length = ps.length ∧ us.length = ps.length ∧ ∀ (j : Nat) (q : Key × Value), prs[j]? = some q → ∃ (b : Addr) (u : Value), ps[j]? = some b ∧ us[j]? = some u ∧ IsTup s.heap b #[u, q.2] ∧ keyIs q.1 u = true
  | _, _, .nil => ⟨[], [], .nil, rfl, rfl, fun j q e => by simp at e⟩
  | _, _, .cons (a := p) (b := kv) h t => by
    obtain ⟨prs, us, r, hl, hu, hp⟩ := pairs_ofX I t
    obtain ⟨its, rv, ht, _⟩ := I.tuple h
    obtain ⟨u, y, ei, ru, ry⟩ := vals2 rv
    subst ei
    refine ⟨(kv.1, y) :: prs, u :: us, .cons ⟨rfl, ry⟩ r, by rw [List.length_cons, List.length_cons, hl], by rw [List.length_cons, List.length_cons, hu], fun j q e => ?_⟩
    cases j with
    | zero =>
      have e' : (kv.1, y) = q := Option.some.inj e
      subst e'
      exact ⟨p, u, rfl, rfl, ht, kV_is (P := X.prog) (w := X.w) ru⟩
    | succ j =>
      obtain ⟨b, u', e1, e2, e3⟩ := hp j q (by simpa using e)
      exact ⟨b, u', by simpa using e1, by simpa using e2, e3⟩
/-- dict(t), t an exact tuple of pairs -/
theorem call_dictX (hcalm : X.calm = true) : CallR X (.type "dict") (fun xs H Q => ∃ (a : Addr) (od : Obj) (ps : List Addr) (kvs : List (Key × V)), xs = [.ref a] ∧ H a = some (.frz od (.tup (ps.map V.ref))) ∧ od.dict = none ∧ Paired (fun p kv => SqT X.K H p [kV kv.1, kv.2]) ps kvs ∧
    ∀ p, H p = none → Q (.ref p) (upd H p (.dK (mergeK [] kvs)))) := by
  intro pins s σ H xs us Q I r q
  obtain ⟨a, od, ps, kvs, ex, hq, hd, hp, q⟩ := q
  subst ex
  obtain ⟨u, eu, rx⟩ := vals1 r
  subst eu
  cases rx
  obtain ⟨ho, hz, its, rv, it⟩ := (show ObjOk X.prog X.w H s.heap a (.frz od (.tup (ps.map V.ref))) from I.hok a _ hq)
  have ei := refs_at rv
  subst ei
  rw [List.length_map] at hz
  obtain ⟨o', e', hc, n, hdat⟩ := it
  rw [ho] at e'
  cases e'
  obtain ⟨prs, uu, rel, hl, hu, hpr⟩ := pairs_ofX I hp
  have lz : (uu.zip (prs.map (·.2))).length = prs.length := by rw [List.length_zip, List.length_map, hu, hl]; exact Nat.min_self _
  refine PySem.call_dict_pairs (knd := mixKind X.prog X.w) (kvs := prs) (PairArg.tuple a (ps.map Value.ref).toArray (fun j => ps.getD j a) (uu.zip (prs.map (·.2)))) (I.ok.hd hcalm) ⟨⟨od, n, ho, hc, hd, hdat⟩, ?_, ?_⟩ ⟨lz.symm, ?_⟩ (by rw [lz, hl]; exact hz) fun h' tk hd' k => ?_
  · rw [List.size_toArray, List.length_map, lz, hl]
  · intro j k v e
    have hj : j < prs.length := by
      have := (List.getElem?_eq_some_iff.mp e).1
      omega
    obtain ⟨b, u, e1, e2, e3, e4⟩ := hpr j prs[j] (List.getElem?_eq_getElem hj)
    have ez : (uu.zip (prs.map (·.2)))[j]? = some (u, prs[j].2) := by
      rw [List.getElem?_zip_eq_some]
      exact ⟨e2, by rw [List.getElem?_map, List.getElem?_eq_getElem hj]; rfl⟩
    rw [ez] at e
    cases e
    have eb : ps.getD j a = b := by rw [List.getD_eq_getElem?_getD, e1]; rfl
    refine ⟨by simp [e1], .inl ?_⟩
    show Heap.IsTuple s.heap (ps.getD j a) _
    rw [eb]; exact e3
  · intro j k v e
    have hj : j < prs.length := by
      have := (List.getElem?_eq_some_iff.mp e).1
      omega
    obtain ⟨b, u, e1, e2, e3, e4⟩ := hpr j prs[j] (List.getElem?_eq_getElem hj)
    have ez : (uu.zip (prs.map (·.2)))[j]? = some (u, prs[j].2) := by
      rw [List.getElem?_zip_eq_some]
      exact ⟨e2, by rw [List.getElem?_map, List.getElem?_eq_getElem hj]; rfl⟩
    have e : (uu.zip (prs.map (·.2)))[j]? = some (k, v) := e
    rw [ez] at e
    cases e
    exact ⟨prs[j].1, List.getElem?_eq_getElem hj, e4⟩
  · have hm : (s.heap.objs.size == sysModules) = false := beq_eq_false_iff_ne.mpr (Nat.ne_of_gt I.big)
    have hlen : (mergeK [] kvs).length ≤ sizeLine := by
      refine Nat.le_trans (length_mergeK kvs []) ?_
      rw [List.length_nil, Nat.zero_add, rel.length, hl]
      exact hz
    exact ⟨.ref s.heap.objs.size, upd H s.heap.objs.size (.dK (mergeK [] kvs)), I.laid (t' := tk) (fun b o e => k b o (by simp) e) (Nat.le_refl _) (show ObjOk X.prog X.w _ _ _ (.dK (mergeK [] kvs)) from ⟨hlen, hm, merged [] prs, KV.merge rel .nil, hd'⟩), rfl, q _ (I.hok.fresh (Nat.le_refl _))⟩
end
section
variable {K : PySem.W.Frag} {F H : Hp} {O : Own} {σ : L2.St} {ρ : List Slot}
theorem RS.newTupX {vs : List V} {xs : List D} {p : Addr} {od : Obj} (r : RS K F σ ρ H O) (np : H p = none) (hd : od.dict = none) (rv : Rs K F vs xs) :
    RS K (upd F p (.frz od (.tup vs))) σ ρ (upd H p (.frz od (.tup vs))) O ∧ R K (upd F p (.frz od (.tup vs))) (.ref p) (.tpx xs) ∧ Step F H O (upd F p (.frz od (.tup vs))) (upd H p (.frz od (.tup vs))) O ∧ Same H (upd H p (.frz od (.tup vs))) := by
  have fp : F p = none := by
    cases q : F p with
    | none => rfl
    | some o => have := r.fh p o q; rw [np] at this; cases this
  have sm : Same H (upd H p (.frz od (.tup vs))) := fun b o e => by rw [upd_ne (ne_of_none e np)]; exact e
  have smF : Same F (upd F p (.frz od (.tup vs))) := fun b o e => by rw [upd_ne (ne_of_none e fp)]; exact e
  refine ⟨r.ext smF (fun b o e => ?_) (fun a i u ha hi hu => ⟨sm _ _ hu, ha⟩) (fun b i e => ?_), .tpx upd_same hd (rv.up smF), ⟨fun b o h _ => sm b o h, fun b o h => ⟨o, sm b o h⟩, smF, fun b o h => ?_, fun b i e => .inl ⟨i, e⟩⟩, sm⟩
  · by_cases hb : b = p
    · subst hb; rw [upd_same] at e ⊢; exact e
    · rw [upd_ne hb] at e ⊢; exact r.fh b o e
  · obtain ⟨h1, o, h2⟩ := r.out b i e
    have : b ≠ p := ne_of_none h2 np
    exact ⟨by rw [upd_ne this]; exact h1, o, sm b o h2⟩
  · by_cases hb : b = p
    · subst hb; exact .inr (.inr np)
    · rw [upd_ne hb] at h; exact .inl h
/-- the pairs of a list of data -/
def prsD : List D → Option (List (Key × D))
  | [] => some []
  | .tup [k, d] :: xs => (keyD k).bind fun q => (prsD xs).map fun r => (q, d) :: r
  | _ => none
def mrgD (kxs : List (Key × D)) : List (Key × D) := kxs.foldl (fun acc p => putD acc p.1 p.2) []
theorem prs_read : ∀ {xs : List D} {vs : List V} {kxs : List (Key × D)}, Rs K F vs xs → prsD xs = some kxs → ∃ (ps : List Addr) (kvs : List (Key × V)), vs = ps.map V.ref ∧ Paired (fun p kv => SqT K F p [kV kv.1, kv.2]) ps kvs ∧ KX K F kvs kxs
  | [], vs, kxs, r, e => by
    cases r
    cases e
    exact ⟨[], [], rfl, .nil, rfl, .nil⟩
  | x :: xs, vs, kxs, r, e => by
    cases r with
    | @cons v vs _ _ r1 r2 =>
      cases x with
      | tup ys =>
        match ys, r1, e with
        | [k, d], r1, e =>
          have e : ((keyD k).bind fun q => (prsD xs).map fun r => (q, d) :: r) = some kxs := e
          cases hk : keyD k with
          | none => rw [hk] at e; cases e
          | some q =>
            rw [hk] at e
            have e : ((prsD xs).map fun r => (q, d) :: r) = some kxs := e
            cases hx : prsD xs with
            | none => rw [hx] at e; cases e
            | some kx =>
              rw [hx] at e
              cases e
              obtain ⟨ps, kvs, e1, e2, e3⟩ := prs_read r2 hx
              cases r1 with
              | @tup a ws _ sq rr =>
                cases rr with
                | cons ra rb =>
                  cases rb with
                  | cons rb rn =>
                    cases rn
                    rename_i va vb
                    have ea := key_read ra hk
                    subst ea
                    subst e1
                    refine ⟨a :: ps, (q, vb) :: kvs, rfl, .cons sq e2, ?_, ?_⟩
                    · show _ :: _ = _ :: _
                      rw [e3.1]
                    · exact .cons rb e3.2
        | [], r1, e => cases e
        | [_], r1, e => cases e
        | _ :: _ :: _ :: _, r1, e => cases e
      | _ => cases e
theorem KX.mrg : ∀ {more : List (Key × V)} {mored : List (Key × D)} {kvs : List (Key × V)} {kxs : List (Key × D)}, KX K F more mored → KX K F kvs kxs → KX K F (mergeK kvs more) (mored.foldl (fun acc p => putD acc p.1 p.2) kxs)
  | [], [], _, _, _, h => h
  | [], _ :: _, _, _, h, _ => by have := h.1; cases this
  | _ :: _, [], _, _, h, _ => by have := h.1; cases this
  | (k, v) :: more, (k2, d) :: mored, kvs, kxs, h, h2 => by
    have e : k = k2 := by have := h.1; exact (List.cons.inj this).1
    subst e
    have t : KX K F more mored := ⟨(List.cons.inj h.1).2, by have := h.2; cases this with | cons _ b => exact b⟩
    have rv : R K F v d := by have := h.2; cases this with | cons a _ => exact a
    exact KX.mrg (more := more) (mored := mored) t (h2.put k rv)
end
section
variable {X : Cx} {W : WX}
/-- tuple(xs): exact -/
@[simp] noncomputable def dTupX (f : DEn) (ρ : List Slot) : Res (Slot × List Slot) := (f ρ).bind fun p => (Res.lift p.1.listD).bind fun u => .ok (.sh (.tpx u), p.2)
theorem de_tupX {pu : Bool} {e : Expr} {p pos : Pos} {f : DEn} (hm : X.mg "tuple" = none) (ha : DE X W pu e f) (hg : Gl X "tuple" := by rfl)
    (he : starEach (e :: []) X.env = (false, eval e X.env) :: starEach [] X.env := by rfl) (hpl : (backTo pos (starEach [] X.env)).any (·.1) = false := by rfl) :
    DE X W pu (.Call (.Name "tuple" p) [e] [] pos) (dTupX f) := by
  refine ⟨PE_imp (pe_callTy call_tupleX hg hm boot_tuple (pa_cons ha.pe pa_nil he) (by decide) (by decide) he hpl) fun σ H Q ⟨F, O, ρ, rs, h⟩ => ⟨F, O, ρ, rs, ?_⟩⟩
  unfold dTupX at h
  rw [Res.wp_bind] at h
  refine Res.wp_mono h (fun p hp => ?_) (fun _ _ e => e)
  intro F1 O1 x H1 rs1 v1 st1 pu1
  rw [Res.wp_bind, Res.wp_lift] at hp
  obtain ⟨u, hu, hp⟩ := hp
  obtain ⟨a, vs, rfl, q, r⟩ := v1.listD rs1.fh hu
  refine ⟨a, vs, rfl, SqL.of q, fun l o nl hd => ?_⟩
  obtain ⟨a, b, c, d⟩ := rs1.newTupX nl hd r
  exact hp _ _ _ _ a b (st1.trans c) fun z => (pu1 z).trans d
/-- dict(t), closed -/
@[simp] noncomputable def dDictX (f : DEn) (ρ : List Slot) : Res (Slot × List Slot) := (f ρ).bind fun p => match p.1 with
  | .sh (.tpx xs) => (Res.lift (prsD xs)).bind fun kxs => .ok (.sh (.dct ((mrgD kxs).map (·.1)) ((mrgD kxs).map (·.2))), p.2)
  | _ => .stuck
theorem de_dictX {pu : Bool} {e : Expr} {p pos : Pos} {f : DEn} (hm : X.mg "dict" = none) (ha : DE X W pu e f) (hc : X.calm = true := by rfl) (hg : Gl X "dict" := by rfl)
    (he : starEach (e :: []) X.env = (false, eval e X.env) :: starEach [] X.env := by rfl) (hpl : (backTo pos (starEach [] X.env)).any (·.1) = false := by rfl) :
    DE X W pu (.Call (.Name "dict" p) [e] [] pos) (dDictX f) := by
  refine ⟨PE_imp (pe_frz (pe_callTy (call_dictX hc) hg hm (show bootBuiltins "dict" = some (.type "dict") by decide +kernel) (pa_cons ha.pe pa_nil he) (by decide) (by decide) he hpl)) fun σ H Q ⟨F, O, ρ, rs, h⟩ => ⟨F, O, ρ, rs, ?_⟩⟩
  unfold dDictX at h
  rw [Res.wp_bind] at h
  refine Res.wp_mono h (fun p hp => ?_) (fun _ _ e => e)
  intro F1 O1 x H1 rs1 v1 st1 pu1
  cases hs : p.1 with
  | sh d =>
    cases d with
    | tpx xs =>
      rw [hs] at v1
      simp only [hs] at hp
      rw [Res.wp_bind, Res.wp_lift] at hp
      obtain ⟨kxs, hk, hp⟩ := hp
      cases v1 with
      | @tpx a od vs _ hF hd r =>
        obtain ⟨ps, kvs, e1, e2, e3⟩ := prs_read r hk
        subst e1
        have e2' : Paired (fun p kv => SqT X.K H1 p [kV kv.1, kv.2]) ps kvs := paired_imp (fun p kv h => same_seqT rs1.fh h) e2
        refine ⟨a, od, ps, kvs, rfl, rs1.fh _ _ hF, hd, e2', fun l nl => ⟨l, _, rfl, upd_same, trivial, fun ob => ?_⟩⟩
        rw [upd_upd]
        have km : KX X.K F1 (mergeK [] kvs) (mrgD kxs) := KX.mrg e3 ⟨rfl, .nil⟩
        obtain ⟨a1, b1, c1, d1⟩ := rs1.newClosed (od := ob) nl km.1 km.2
        exact hp _ _ _ _ a1 b1 (st1.trans c1) fun z => (pu1 z).trans d1
    | _ => simp only [hs] at hp; exact hp.elim
  | _ => simp only [hs] at hp; exact hp.elim
variable {I : List Nat}
/-! ### xs, y = [], b -/
@[simp] noncomputable def dPar2N (i j : Nat) (f : DLn) (ρ : List Slot) : Out := (f ρ).out fun ds ρ1 => match ds with
  | [a] => .nx ((ρ1.set i (.own [])).set j (.sh a))
  | _ => .stuck
theorem ds_par2N {x y : Str} {pu : Bool} {b : Expr} {f : DLn} {px py pt pl : Pos} {kt k2 pt2} {pos : Pos} (i j : Nat) (hc : X.calm = true) (hN : X.N.Nodup) (ha : AF X W pu [b] f)
    (hw : swappedStores [.Tuple [.Name x px, .Name y py] kt pt] (.Tuple [.List [] pl, b] k2 pt2) X.env = pure (some [x, y]))
    (hi : X.N[i]? = some x := by rfl) (hj : X.N[j]? = some y := by rfl) (hij : i ≠ j := by decide)
    (hx : X.env.scope.names.lookup x = some .local := by rfl) (hy : X.env.scope.names.lookup y = some .local := by rfl) (hI : i ∉ I := by decide) (hJ : j ∉ I := by decide)
    (hs : swapsWithSole [.Tuple [.Name x px, .Name y py] kt pt] (.Tuple [.List [] pl, b] k2 pt2) pos.line X.env = pure false := by rfl)
    (h1 : starEach [.List [] pl, b] X.env = (false, eval (.List [] pl) X.env) :: starEach [b] X.env := by rfl) : DS X W I (.Assign [.Tuple [.Name x px, .Name y py] kt pt] (.Tuple [.List [] pl, b] k2 pt2) pos) (dPar2N i j f) := by
  refine ⟨PS_imp (ps_par hc hN hi hj hij hx hy (pa_cons (pe_lst pa_nil) ha.pa h1) hw hs) fun D σ H ⟨F, O, ρ, rs, h⟩ => ?_⟩
  refine ⟨le_line (Nat.zero_le _), fun p np => ?_⟩
  have smH : Same H (upd H p (.lst [])) := fun b o e => by rw [upd_ne (ne_of_none e np)]; exact e
  have op : O p = none := by
    cases q : O p with
    | none => rfl
    | some j => obtain ⟨_, o, h2⟩ := rs.out p j q; rw [np] at h2; cases h2
  have fp : F p = none := by
    cases q : F p with
    | none => rfl
    | some o => have := rs.fh p o q; rw [np] at this; cases this
  have rs1 : RS X.K F σ ρ (upd H p (.lst [])) O := rs.ext (Same.refl F) (rs.fh.trans smH) (fun a i u ha hi hu => ⟨smH _ _ hu, ha⟩) fun b i e => by
    obtain ⟨h1, o, h2⟩ := rs.out b i e
    exact ⟨h1, o, smH b o h2⟩
  have st0 : Step F H O F (upd H p (.lst [])) O := ⟨fun b o e _ => smH b o e, fun b o e => ⟨o, smH b o e⟩, Same.refl F, fun b o e => .inl e, fun b i e => .inl ⟨i, e⟩⟩
  have hw' := out_wp (P := fun q => OutOk X.K X.mg W I D F O σ H (match q.1 with | [a] => Out.nx ((q.2.set i (.own [])).set j (.sh a)) | _ => .stuck)) h fun ds ρ1 h => h
  refine ⟨F, O, ρ, rs1, Res.wp_mono hw' (fun q h => ?_) (PX.step st0)⟩
  intro F1 O1 vs H2 rs2 v1 st1 _
  obtain ⟨ds, ρ1⟩ := q
  match ds, v1, h with
  | [d], .cons r1 .nil, h =>
    have hp : H2 p = some (.lst []) := st1.keep p _ upd_same op
    have f1p : F1 p = none := by
      cases q : F1 p with
      | none => rfl
      | some o =>
        rcases st1.low p o q with z | ⟨j, z⟩ | z
        · rw [fp] at z; cases z
        · rw [op] at z; cases z
        · rw [upd_same] at z; cases z
    have rs3 : RS X.K F1 σ ρ1 H2 (fun b => if b = p then some ρ1.length else O1 b) := rs2.ext (Same.refl F1) rs2.fh (fun a i u ha hi hu => ⟨hu, by
      have o1p : O1 p = none := by
        cases q : O1 p with
        | none => rfl
        | some j =>
          rcases st1.fp p j q with ⟨j, z⟩ | z
          · rw [op] at z; cases z
          · rw [upd_same] at z; cases z
      have : a ≠ p := fun z => by subst z; rw [o1p] at ha; cases ha
      simp [this, ha]⟩) fun b i e => by
        by_cases hb : b = p
        · subst hb; exact ⟨f1p, _, hp⟩
        · simp [hb] at e; exact rs2.out b i e
    obtain ⟨O4, rs4, st4⟩ := rs3.store i (v := .ref p) (s := .own []) ⟨p, [], rfl, hp, by simp, .nil⟩ rfl
    have st01 := st0.trans st1
    have st3 : Step F H O F1 H2 (fun b => if b = p then some ρ1.length else O1 b) := ⟨st01.keep, st01.there, st01.fr, st01.low, fun b i e => by
      by_cases hb : b = p
      · subst hb; exact .inr np
      · simp [hb] at e; exact st01.fp b i e⟩
    exact ⟨_, _, rfl, h F1 O4 _ H2 (rs4.setSh j r1) (st3.trans st4) ((Pin.set hI).trans (Pin.set hJ))⟩
end
end DL
/-! DLB: dict(d) of a dict: a new own dict -/
namespace DL
open PySem PySem.Spec PyProof.Rows L2
section
variable {X : Cx}
theorem call_dictC : CallR X (.type "dict") (fun xs H Q => ∃ (a : Addr) (kvs : List (Key × V)), xs = [.ref a] ∧ Rd H a (.dK kvs) ∧ ∀ p, H p = none → Q (.ref p) (upd H p (.dK kvs))) := by
  intro pins s σ H xs us Q I r q
  obtain ⟨a, kvs, ex, e, q⟩ := q
  subst ex
  obtain ⟨u, eu, rx⟩ := vals1 r
  subst eu
  cases rx
  exact d_copyOf I e fun p s' np I' => ⟨.ref p, _, I', rfl, q p np⟩
end
section
variable {K : PySem.W.Frag} {F H : Hp} {O : Own} {σ : L2.St} {ρ : List Slot}
theorem RS.newDictK {p : Addr} {kvs : List (Key × V)} {kxs : List (Key × D)} (r : RS K F σ ρ H O) (np : H p = none) (kx : KX K F kvs kxs) :
    RS K F σ ρ (upd H p (.dK kvs)) (fun b => if b = p then some ρ.length else O b) ∧ VOk K F (upd H p (.dK kvs)) (fun b => if b = p then some ρ.length else O b) ρ.length (.od kxs) (.ref p) ∧
      Step F H O F (upd H p (.dK kvs)) (fun b => if b = p then some ρ.length else O b) ∧ Same H (upd H p (.dK kvs)) := by
  have sm : Same H (upd H p (.dK kvs)) := fun b o e => by rw [upd_ne (ne_of_none e np)]; exact e
  refine ⟨r.ext (Same.refl F) (r.fh.trans sm) (fun a i u ha hi hu => ⟨sm _ _ hu, ?_⟩) (fun b i e => ?_), ⟨p, kvs, rfl, upd_same, by simp, kx.1, kx.2⟩, ⟨fun b o h _ => sm b o h, fun b o h => ⟨o, sm b o h⟩, Same.refl F, fun b o h => .inl h, fun b i e => ?_⟩, sm⟩
  · have : a ≠ p := ne_of_none hu np
    simp [this, ha]
  · by_cases hb : b = p
    · subst hb
      refine ⟨?_, _, upd_same⟩
      cases q : F b with
      | none => rfl
      | some o => have := r.fh b o q; rw [np] at this; cases this
    · simp [hb] at e
      obtain ⟨h1, o, h2⟩ := r.out b i e
      exact ⟨h1, o, sm b o h2⟩
  · by_cases hb : b = p
    · subst hb; exact .inr np
    · simp [hb] at e; exact .inl ⟨i, e⟩
theorem rs_len {vs : List V} {xs : List D} (h : Rs K F vs xs) : vs.length = xs.length := by
  induction xs generalizing vs with
  | nil => cases h; rfl
  | cons x xs ih =>
    cases h with
    | cons a b => rw [List.length_cons, List.length_cons, ih b]
theorem kx_zip {kvs : List (Key × V)} {ks : List Key} {ds : List D} (h1 : kvs.map (·.1) = ks) (h2 : Rs K F (kvs.map (·.2)) ds) : KX K F kvs (ks.zip ds) := by
  have l1 : ks.length = kvs.length := by rw [← h1, List.length_map]
  have l2 := rs_len h2
  rw [List.length_map] at l2
  refine ⟨?_, ?_⟩
  · rw [List.map_fst_zip (by omega)]; exact h1
  · rw [List.map_snd_zip (by omega)]; exact h2
end
section
variable {X : Cx} {W : WX}
/-- dict(d) of closed data: an own dict -/
@[simp] noncomputable def dDCopy (f : DEn) (ρ : List Slot) : Res (Slot × List Slot) := (f ρ).bind fun p => match p.1 with
  | .sh (.dct ks ds) => .ok (.od (ks.zip ds), p.2)
  | _ => .stuck
theorem de_dcopy {pu : Bool} {e : Expr} {p pos : Pos} {f : DEn} (hm : X.mg "dict" = none) (ha : DE X W pu e f) (hg : Gl X "dict" := by rfl)
    (he : starEach (e :: []) X.env = (false, eval e X.env) :: starEach [] X.env := by rfl) (hpl : (backTo pos (starEach [] X.env)).any (·.1) = false := by rfl) :
    DE X W pu (.Call (.Name "dict" p) [e] [] pos) (dDCopy f) := by
  refine ⟨PE_imp (pe_callTy call_dictC hg hm (show bootBuiltins "dict" = some (.type "dict") by decide +kernel) (pa_cons ha.pe pa_nil he) (by decide) (by decide) he hpl) fun σ H Q ⟨F, O, ρ, rs, h⟩ => ⟨F, O, ρ, rs, ?_⟩⟩
  unfold dDCopy at h
  rw [Res.wp_bind] at h
  refine Res.wp_mono h (fun p hp => ?_) (fun _ _ e => e)
  intro F1 O1 x H1 rs1 v1 st1 pu1
  cases hs : p.1 with
  | sh d =>
    cases d with
    | dct ks ds =>
      rw [hs] at v1
      simp only [hs] at hp
      cases v1 with
      | @dct a od kvs _ _ hF hk r =>
        refine ⟨a, kvs, rfl, .inr ⟨od, rs1.fh _ _ hF⟩, fun l nl => ?_⟩
        obtain ⟨a1, b1, c1, d1⟩ := rs1.newDictK nl (kx_zip hk r)
        exact hp _ _ _ _ a1 b1 (st1.trans c1) fun z => (pu1 z).trans d1
    | _ => simp only [hs] at hp; exact hp.elim
  | _ => simp only [hs] at hp; exact hp.elim
end
end DL
/-! DLF: try: body, except X as e: suite; the exception stays as a value -/
namespace L2
open PySem PySem.Spec PyProof.Rows
section
variable {X : Cx} {pins : List (Addr × Obj)} {σ : St} {H : Hp} {s : Shared}
theorem Inv.trackX (I : Inv X pins σ H s) {a : Addr} {oe : Obj} {vs : Array Value} {cls : Value} (he : s.heap.get? a = some oe) (hz : Zc cls none oe) (hd : oe.data = .fields vs) (na : H a = none) (n0 : X.s_0.heap.get? a = none) (nL : a ≠ X.env.locals) (np : ∀ p ∈ X.pn ++ pins, p.1 ≠ a) :
    Inv X pins σ (upd H a (DL.ExK cls a)) s := by
  refine ⟨I.ok, I.os, I.bare, ⟨I.base.keep, I.base.slot, fun b o e n hx => ?_, I.base.there, fun b xs e => ?_, fun b o u e => ?_, fun b ps e => ?_⟩, I.loc, I.cell, ?_, fun x c e => ?_, fun p hp => ?_, fun b ob e => ?_, I.len⟩
  · rw [upd_ne (fun z => by rw [z, n0] at e; cases e)]
    exact I.base.free b o e n hx
  · have q := I.base.tups b xs e
    rw [upd_ne (ne_of_none q na)]; exact q
  · have q := I.base.frzs b o u e
    rw [upd_ne (ne_of_none q na)]; exact q
  · obtain ⟨m, q⟩ := I.base.tbls b ps e
    exact ⟨m, by rw [upd_ne (ne_of_none q na)]; exact q⟩
  · rw [upd_ne (Ne.symm nL)]
    exact I.free
  · rw [upd_ne (fun z => by
      obtain ⟨v, o, ho, hc⟩ := I.cell x c e
      rw [z, he] at ho
      cases ho
      rw [hd] at hc
      cases hc)]
    exact I.freeC x c e
  · obtain ⟨e, n, ne, nf, d⟩ := I.pin p hp
    exact ⟨e, by rw [upd_ne (np p hp)]; exact n, ne, nf, d⟩
  · by_cases hb : b = a
    · subst hb
      rw [upd_same] at e
      cases e
      exact ⟨⟨oe, vs, he, hz, hd⟩, ⟨oe, he⟩, fun h1 h2 ⟨o, v, q, r⟩ k => ⟨o, v, k o q, r⟩⟩
    · rw [upd_ne hb] at e
      exact (I.hok b ob e).stay (fun c v _ q => q) (fun c q => by rw [upd_ne (ne_of_none q na)]; exact q) fun c xs q => by rw [upd_ne (ne_of_none q na)]; exact q
theorem Inv.suite0 (I : Inv X pins σ H s) (a : Addr) : Inv (X.suite a (X.pn ++ pins)) [] σ H s :=
  ⟨I.ok.suite _ _, I.os, I.bare, I.base, I.loc, I.cell, I.free, I.freeC, fun p hp => I.pin p (by rw [List.append_nil] at hp; exact hp), I.hok, I.len⟩
theorem Inv.unsuite0 {a : Addr} {pn' : List (Addr × Obj)} (I : Inv (X.suite a (X.pn ++ pins)) pn' σ H s) (ok : X.Ok) : Inv X pins σ H s :=
  ⟨ok, I.os, I.bare, I.base, I.loc, I.cell, I.free, I.freeC, fun p hp => I.pin p (List.mem_append_left _ hp), I.hok, I.len⟩
end
/-- what the clause 'except x as n' wishes: the exception is tracked from then on -/
def wKeep (K : PySem.W.Frag) (c : Value) (i : Nat) (ts : Addr → Value → TS) (Wout : WX) (D : Ends) : WX := fun cls d σ H =>
  ∃ b, PySem.W.exmOne K cls c = some b ∧ (b = true → d = none ∧ ∀ a, H a = none → ts a cls { nx := fun σ' H' => D.nx (σ'.set i none) H', rt := D.rt, bk := fun σ' H' => D.bk (σ'.set i none) H', ct := fun σ' H' => D.ct (σ'.set i none) H' } (σ.set i (some (.ref a))) (upd H a (DL.ExK cls a))) ∧
    (b = false → Wout cls d σ H)
section
variable {X : Cx} {x n : Str} {c : Value} {i : Nat} {body suite : List Stmt} {b₀ : Stmt} {np pos pos' : Pos} {tb : WX → TS} {ts : Addr → Value → TS} {Wout : WX}
theorem ps_try_keep (hs : X.stack = X.env :: X.outer) (hf : X.env.frame = some X.env.locals) (hex : X.ex = []) (hN : X.N.Nodup) (hi : X.N[i]? = some n) (hln : X.env.kindOf n = some .local) (hc : Names X x c) (tk : Takes X Wout)
    (hb : ∀ (W : WX) (pn : List (Addr × Obj)) (xe : Value → Shared → Prop), Takes (X.tr pn xe) W → PassesOwn (model X.prog X.w) X.A X.env xe → PSs (X.tr pn xe) body (tb W))
    (hsu : ∀ (a : Addr) (cls : Value) (pn : List (Addr × Obj)), PSs (X.suite a pn) (b₀ :: suite) (ts a cls)) :
    PS X (.Try body [.ExceptHandler (some (.Name x np)) (some n) (b₀ :: suite) pos'] [] [] pos) (fun D σ H => tb (wKeep X.K c i ts Wout D) D σ H) := by
  refine ⟨fun pins s σ H D I h => ?_⟩
  have ok := I.ok
  have hfr : X.A.frames = some (X.env :: X.outer) := by rw [ok.frames, hs]
  have hloc : Loc X.env.scope n := .inl hln
  refine wpAny_Try_except ?_
  refine wpAny_mono ((hb (wKeep X.K c i ts Wout D) (X.pn ++ pins) (fun e s₁ => wpAny (model X.prog X.w) X.A (noteFrame e X.env) (fun _ s₂ => wpAny (model X.prog X.w) X.A (setFlight e none) (fun _ s₃ =>
    wpAny (model X.prog X.w) X.A (handleBy e X.env [.ExceptHandler (some (.Name x np)) (some n) (b₀ :: suite) pos']) (SP X pins D) X.xe s₃) X.xe s₂) X.xe s₁) (fun u s' xx => ?_) PassesOwn.looking).run [] s σ H D (I.toTry _) h) (fun f s1 hsp => ?_) (fun e s1 he => he)
  · -- the catch
    obtain ⟨a, B, sI, pins', σ', H', cls, d, rfl, J', nb, up, sky, na, os, ag, b, hb1, hyes, hno⟩ := xx
    have J : Inv X pins σ' H' sI := J'.ofTry ok
    have sky' : Sky B (X.env :: X.outer) a (Zc cls d) X.env.locals s'.heap := by rw [← hs]; exact sky
    show wpAny (model X.prog X.w) X.A (noteFrame (.ref a) X.env) _ _ _
    refine Sky.land Zc.steady hfr hf sky' fun h3 fl3 up3 => ?_
    have J3 : Inv X pins σ' H' { s' with heap := h3 } := J.landed nb fl3.1 (up.trans up3) os ag
    obtain ⟨oe3, vs3, he3, hz3, hd3⟩ := fl3.there
    have notFr : ∀ {h : Heap} {o : Obj} {vs : Array Value}, h.FunFrames B (X.env :: X.outer) → h.get? a = some o → o.data = .fields vs → a ∉ frs (X.env :: X.outer) := fun {h o vs} ff e dd hm => by
      obtain ⟨_, o', e', hnf⟩ := ff.mem hm
      rw [e] at e'; cases e'
      exact hnf _ dd
    have nfr := notFr fl3.2.2.1 he3 hd3
    have nL : a ≠ X.env.locals := fun z => nfr (List.mem_filterMap.mpr ⟨X.env, List.mem_cons_self, by rw [hf, z]⟩)
    have nF : a ∉ X.fs := fun hm => by
      obtain ⟨e, he, q⟩ := List.mem_filterMap.mp hm
      exact nfr (List.mem_filterMap.mpr ⟨e, List.mem_cons_of_mem _ he, q⟩)
    have nB : B.get? a = none := fl3.2.1
    have nS : sI.heap.get? a = none := by
      cases q : sI.heap.get? a with
      | none => rfl
      | some o =>
        have z := nb a o q (by rw [hs]; exact nfr)
        rw [nB] at z; cases z
    have n0 : X.s_0.heap.get? a = none := by
      cases q : X.s_0.heap.get? a with
      | none => rfl
      | some o =>
        obtain ⟨o', z⟩ := J.base.there a o q (by rw [hex]; exact fun z => nomatch z)
        rw [nS] at z; cases z
    have npn : ∀ p ∈ X.pn ++ pins, p.1 ≠ a := fun p hp z => by
      have w := (J.pin p hp).1
      rw [z, nS] at w; cases w
    have S3 := J3.suite he3 hd3 na nL nF
    refine wpAny_handleBy_cons (codeAny_handlers_test ?_) (by intro q; cases q)
    have LT : PySem.W.Looks (model X.prog X.w) h3 (typeOf (.ref a)) cls := fun A Q E s k q => wpAny_typeOf_ref (k _ _ he3) (by rw [hz3.1]; exact q)
    have LM := PySem.W.exm_one (M := model X.prog X.w) (J3.kIn) LT hb1
    have test : ∀ {Q : Value → Shared → Prop} {E : Value → Shared → Prop}, Q c { s' with heap := h3 } → wpAny (model X.prog X.w) (X.A.mark (some (.ref a))) (eval (.Name x np) X.env) Q E { s' with heap := h3 } := fun {Q E} q => by
      obtain ⟨hg, hdbg, hm | ⟨hm, hv, hnn⟩⟩ := hc
      · exact ld_glob (X := X.suite a ((a, oe3) :: (X.pn ++ pins))) S3 hg hm q hdbg
      · exact ld_blt (X := X.suite a ((a, oe3) :: (X.pn ++ pins))) S3 hg hm hv q hnn hdbg
    refine test (LM.here ?_)
    cases b with
    | true =>
      refine codeAny_handlers_suite_as ?_
      refine HandSPX.lands_againZ fl3 fun h4 fl4 up4 => ?_
      have J4 : Inv X pins σ' H' { s' with heap := h4 } := J.landed nb fl4.1 ((up.trans up3).trans up4) os ag
      obtain ⟨oe4, vs4, he4, hz4, hd4⟩ := fl4.there
      obtain ⟨dn, hy2⟩ := hyes rfl
      subst dn
      have S4 := (J4.trackX he4 hz4 hd4 na n0 nL npn).suite0 a
      refine store_ok (X := X.suite a (X.pn ++ pins)) (v := .ref a) S4 hN hi hloc rfl (fun s5 S5 => ?_) (.inr hln)
      refine wpAny_mono ((hsu a cls (X.pn ++ pins)).run [] s5 _ _ _ S5 (hy2 a na)) (fun f s6 hsp => ?_) (fun _ _ z => False.elim z)
      have end_ : ∀ {σ6 : St} {H6 : Hp} {Q : Shared → Prop}, Inv (X.suite a (X.pn ++ pins)) [] σ6 H6 s6 → (∀ s7, Inv X pins (σ6.set i none) H6 s7 → Q s7) →
          wpAny (model X.prog X.w) X.A (do bindName X.env n .none; unbindBehindTheSuite X.env n pos') (fun _ s7 => Q s7) X.xe s6 := fun {σ6 H6 Q} S6 hq => gone_ok (S6.unsuite0 ok) hN hi hln hq
      cases f with
      | next =>
        obtain ⟨σ6, H6, S6, q6⟩ := hsp
        exact end_ S6 fun s7 J7 => ⟨_, _, J7, q6⟩
      | brk =>
        obtain ⟨σ6, H6, S6, q6⟩ := hsp
        exact end_ S6 fun s7 J7 => ⟨_, _, J7, q6⟩
      | cont =>
        obtain ⟨σ6, H6, S6, q6⟩ := hsp
        exact end_ S6 fun s7 J7 => ⟨_, _, J7, q6⟩
      | ret u =>
        obtain ⟨v6, σ6, H6, S6, r6, q6⟩ := hsp
        exact end_ S6 fun s7 J7 => ⟨_, _, _, J7, r6, q6⟩
    | false =>
      show wpAny _ X.A (handleBy (.ref a) X.env []) _ _ _
      refine wpAny_handleBy_nil ?_
      obtain ⟨k1, k2, k3, oe, vs, T, oT, ts', he, hz, hd, h1, hr⟩ := id fl3
      unfold PySem.passOn
      refine wpAny_bind (wpAny_field he hd h1 ?_)
      rw [if_neg (show ¬ ((Value.ref T == Value.none) = true) from by simp)]
      have fin : wpAny (model X.prog X.w) X.A (setFlight (.ref a) X.env.frame) (fun _ s4 => wpAny (model X.prog X.w) X.A (throw (.ref a) : Sem Flow) (SP X pins D) X.xe s4) X.xe { s' with heap := h3 } := by
        rw [hf]
        refine HandSPX.setFlight_upZ fl3 fun h4 hh4 up4 => wpAny_throw (tk _ _ ?_)
        exact ⟨a, B, sI, pins, σ', H', cls, d, rfl, J, nb, (up.trans up3).trans up4, .inr (.inr (by rw [hs]; exact hh4)), na, os, ag, hno rfl⟩
      first
        | exact wpAny_bind (wpAny_pure (wpAny_bind fin))
        | exact wpAny_bind fin
  · cases f with
    | next =>
      obtain ⟨σ', H', J', q⟩ := hsp
      exact wpAny_execs_nil ⟨σ', H', J'.ofTry ok, q⟩
    | brk =>
      obtain ⟨σ', H', J', q⟩ := hsp
      exact ⟨σ', H', J'.ofTry ok, q⟩
    | cont =>
      obtain ⟨σ', H', J', q⟩ := hsp
      exact ⟨σ', H', J'.ofTry ok, q⟩
    | ret u =>
      obtain ⟨v, σ', H', J', r, q⟩ := hsp
      exact ⟨v, σ', H', J'.ofTry ok, r, q⟩
end
end L2
namespace DL
open PySem PySem.Spec PyProof.Rows L2
/-- a class of exceptions, known well -/
structure ExV (K : PySem.W.Frag) (mg : Str → Option Value) (c : Str) : Prop where
  ok : ∃ C, mg c = some (.ref C) ∧ ExX K c C
/-- exceptions of these classes are caught by x -/
structure AllX (K : PySem.W.Frag) (mg : Str → Option Value) (x : Str) (cs : List Str) : Prop where
  nm : ∃ C, mg x = some (.ref C)
  all : ∀ c ∈ cs, ExV K mg c ∧ PySem.W.exmOne K (exv mg c) (exv mg x) = some true
theorem exv_of {mg : Str → Option Value} {c : Str} {C : Addr} (h : mg c = some (.ref C)) : exv mg c = .ref C := by unfold exv; rw [h]; rfl
@[simp] noncomputable def dTryAs (cs : List Str) (i : Nat) (f g : DSn) (ρ : List Slot) : Out := match f ρ with
  | .ex c ρ1 => if c ∈ cs then (match g (ρ1.set i (.sh (.exc c))) with
    | .nx ρ2 => .nx (ρ2.set i .un)
    | .bk ρ2 => .bk (ρ2.set i .un)
    | .ct ρ2 => .ct (ρ2.set i .un)
    | .rt s ρ2 => .rt s ρ2
    | _ => .stuck) else .stuck
  | o => o
theorem RS.gone {K : PySem.W.Frag} {F H : Hp} {O : Own} {σ : L2.St} {ρ : List Slot} (r : RS K F σ ρ H O) (i : Nat) : RS K F (σ.set i none) (ρ.set i .un) H O := by
  refine ⟨by rw [List.length_set, List.length_set]; exact r.len, r.fh, fun j s hs => ?_, r.out⟩
  by_cases hj : i = j
  · subst hj
    by_cases hl : i < ρ.length
    · rw [List.getElem?_set_self hl] at hs
      cases hs
      trivial
    · rw [List.getElem?_eq_none (by rw [List.length_set]; omega)] at hs; cases hs
  · rw [List.getElem?_set_ne hj] at hs
    rw [List.getElem?_set_ne hj]
    exact r.ok j s hs
theorem RS.newX {K : PySem.W.Frag} {F H : Hp} {O : Own} {σ : L2.St} {ρ : List Slot} (r : RS K F σ ρ H O) {a : Addr} (na : H a = none) (o : HO) :
    RS K (upd F a o) σ ρ (upd H a o) O ∧ Step F H O (upd F a o) (upd H a o) O := by
  have fa : F a = none := by
    cases q : F a with
    | none => rfl
    | some u => have z := r.fh a u q; rw [na] at z; cases z
  have sm : Same F (upd F a o) := fun b u e => by rw [upd_ne (ne_of_none e fa)]; exact e
  refine ⟨r.ext sm (fun b u e => ?_) (fun b j u pb hj hu => ⟨by rw [upd_ne (ne_of_none hu na)]; exact hu, pb⟩) (fun b j e => ?_), ⟨fun b u h n => by rw [upd_ne (ne_of_none h na)]; exact h, fun b u h => ⟨u, by rw [upd_ne (ne_of_none h na)]; exact h⟩, sm, fun b u e => ?_, fun b j e => .inl ⟨j, e⟩⟩⟩
  · by_cases hb : b = a
    · subst hb; rw [upd_same] at e ⊢; exact e
    · rw [upd_ne hb] at e ⊢; exact r.fh b u e
  · obtain ⟨h1, u, h2⟩ := r.out b j e
    have ne := ne_of_none h2 na
    exact ⟨by rw [upd_ne ne]; exact h1, u, by rw [upd_ne ne]; exact h2⟩
  · by_cases hb : b = a
    · subst hb; exact .inr (.inr na)
    · rw [upd_ne hb] at e; exact .inl e
section
variable {X : Cx} {W : WX} {I : List Nat}
theorem ds_tryAs {x n : Str} {cs : List Str} {body suite : List Stmt} {b₀ : Stmt} {np pos pos' : Pos} {f g : DSn} (i : Nat) (hN : X.N.Nodup) (tk : Takes X W) {K : PySem.W.Frag} {mg : Str → Option Value} (h : AllX K mg x cs)
    (hb : ∀ (W1 : WX) (pn : List (Addr × Obj)) (xe : Value → Shared → Prop), Takes (X.tr pn xe) W1 → PassesOwn (model X.prog X.w) X.A X.env xe → DSs (X.tr pn xe) W1 I body f)
    (hsu : ∀ (a : Addr) (pn : List (Addr × Obj)), DSs (X.suite a pn) W0 I (b₀ :: suite) g)
    (hi : X.N[i]? = some n := by rfl) (hln : X.env.kindOf n = some .local := by rfl) (hI : i ∉ I := by decide)
    (hX : X.K = K ∧ X.mg = mg := by exact ⟨rfl, rfl⟩) (hg : Gl X x := by rfl) (hdb : (x == ("__debug__" : Str)) = false := by decide) (hs : X.stack = X.env :: X.outer := by rfl) (hf : X.env.frame = some X.env.locals := by rfl) (hex : X.ex = [] := by rfl) :
    DS X W I (.Try body [.ExceptHandler (some (.Name x np)) (some n) (b₀ :: suite) pos'] [] [] pos) (dTryAs cs i f g) := by
  obtain ⟨rfl, rfl⟩ := hX
  obtain ⟨Cx, gm⟩ := h.nm
  have e := exv_of gm
  refine ⟨PS_imp (ps_try_keep (tb := fun W1 => dS X.K X.mg W1 I f) (ts := fun _ _ => dS X.K X.mg W0 I g) (c := exv X.mg x) hs hf hex hN hi hln ⟨hg, hdb, .inl (gm.trans (congrArg some e.symm))⟩ tk (fun W1 pn xe t p => (hb W1 pn xe t p).pss) fun a cls pn => (hsu a pn).pss) fun D σ H ⟨F, O, ρ, rs, h'⟩ => ⟨F, O, ρ, rs, ?_⟩⟩
  unfold dTryAs at h'
  cases hf : f ρ with
  | nx ρ1 => rw [hf] at h'; exact h'
  | bk ρ1 => rw [hf] at h'; exact h'
  | ct ρ1 => rw [hf] at h'; exact h'
  | rt s ρ1 => rw [hf] at h'; exact h'
  | stuck => rw [hf] at h'; exact h'
  | ex c ρ1 =>
    rw [hf] at h'
    dsimp only at h'
    by_cases hc : c ∈ cs
    · rw [if_pos hc] at h'
      obtain ⟨hv, hm⟩ := h.all c hc
      obtain ⟨C, g1, hXc⟩ := hv.ok
      have ec := exv_of g1
      intro F' O' σ' H' rs' st pn
      refine ⟨true, hm, fun _ => ⟨rfl, fun a na => ?_⟩, fun z => nomatch z⟩
      obtain ⟨rs1, st1⟩ := rs'.newX na (ExK (exv X.mg c) a)
      have rx : R X.K (upd F' a (ExK (exv X.mg c) a)) (.ref a) (.exc c) := .exc (by rw [upd_same, ec]) hXc
      obtain ⟨O2, rs2, st2⟩ := rs1.store (s := .sh (.exc c)) i rx rfl
      refine ⟨_, O2, _, rs2, ?_⟩
      have st3 := st.trans (st1.trans st2)
      have pn3 : Pin I σ (σ'.set i (some (.ref a))) := pn.trans (Pin.set hI)
      cases hg2 : g (ρ1.set i (.sh (.exc c))) with
      | nx ρ2 =>
        rw [hg2] at h'
        exact fun Fz Oz σz Hz rz sz pz => h' Fz Oz _ Hz (rz.gone i) (st3.trans sz) ((pn3.trans pz).trans (Pin.set hI))
      | bk ρ2 =>
        rw [hg2] at h'
        exact fun Fz Oz σz Hz rz sz pz => h' Fz Oz _ Hz (rz.gone i) (st3.trans sz) ((pn3.trans pz).trans (Pin.set hI))
      | ct ρ2 =>
        rw [hg2] at h'
        exact fun Fz Oz σz Hz rz sz pz => h' Fz Oz _ Hz (rz.gone i) (st3.trans sz) ((pn3.trans pz).trans (Pin.set hI))
      | rt s ρ2 =>
        rw [hg2] at h'
        exact fun Fz Oz σz Hz v rz vz sz pz => h' Fz Oz _ Hz v rz vz (st3.trans sz) (pn3.trans pz)
      | stuck => rw [hg2] at h'; exact h'.elim
      | ex _ _ => rw [hg2] at h'; exact h'.elim
    · rw [if_neg hc] at h'; exact h'.elim
/-! ### isinstance(e, C), C a class of exceptions -/
/-- which of these classes are under one -/
structure IsT (K : PySem.W.Frag) (cv : Value) (tbl : List (Str × Bool)) : Prop where
  non : PySem.W.kitOne K (.type "NoneType") cv = some false
  all : ∀ c b, (c, b) ∈ tbl → ∃ C, PySem.W.nsIn K mainGlobals c = some (some (.ref C)) ∧ PySem.W.kitOne K (.ref C) cv = some b
theorem isT_nil {K : PySem.W.Frag} {cv : Value} (h : PySem.W.kitOne K (.type "NoneType") cv = some false) : IsT K cv [] := ⟨h, fun _ _ z => nomatch z⟩
theorem isT_cons {K : PySem.W.Frag} {cv : Value} {c : Str} {b : Bool} {C : Addr} {tbl : List (Str × Bool)} (h1 : PySem.W.nsIn K mainGlobals c = some (some (.ref C))) (h2 : PySem.W.kitOne K (.ref C) cv = some b) (h : IsT K cv tbl) : IsT K cv ((c, b) :: tbl) :=
  ⟨h.non, fun c' b' m => by
    rcases List.mem_cons.mp m with e | m
    · cases e; exact ⟨C, h1, h2⟩
    · exact h.all c' b' m⟩
theorem allX_nil {K : PySem.W.Frag} {mg : Str → Option Value} {x : Str} {C : Addr} (h : mg x = some (.ref C)) : AllX K mg x [] := ⟨⟨C, h⟩, fun _ z => nomatch z⟩
theorem exm_of {K : PySem.W.Frag} {C Cx : Addr} (b : PySem.W.subIn K (.ref Cx) (.type "BaseException") = some true) (t : PySem.W.typeIn K (.ref Cx) = some (.type "type")) (s : PySem.W.subIn K (.ref C) (.ref Cx) = some true) (d : PySem.W.hasDictIn K Cx = true) : PySem.W.exmOne K (.ref C) (.ref Cx) = some true :=
  PySem.W.exm_ref b d t s
theorem allX_cons {K : PySem.W.Frag} {mg : Str → Option Value} {x c : Str} {C Cx : Addr} {cs : List Str} (h1 : mg c = some (.ref C)) (h2 : mg x = some (.ref Cx)) (hX : ExX K c C) (hm : PySem.W.exmOne K (.ref C) (.ref Cx) = some true) (h : AllX K mg x cs) : AllX K mg x (c :: cs) :=
  ⟨h.nm, fun c' m => by
    rcases List.mem_cons.mp m with e | m
    · subst e; exact ⟨⟨C, h1, hX⟩, by rw [exv_of h1, exv_of h2]; exact hm⟩
    · exact h.all c' m⟩
noncomputable def isTab (tbl : List (Str × Bool)) : D → Option D
  | .exc c => (tbl.lookup c).map .bl
  | .non => some (.bl false)
  | _ => none
@[simp] theorem isTab_non {tbl : List (Str × Bool)} : isTab tbl .non = some (.bl false) := rfl
@[simp] theorem isTab_exc {tbl : List (Str × Bool)} {c : Str} : isTab tbl (.exc c) = (tbl.lookup c).map .bl := rfl
@[simp] noncomputable def dIsC (tbl : List (Str × Bool)) (f : DEn) (ρ : List Slot) : Res (Slot × List Slot) := (f ρ).bind fun p => (Res.lift p.1.val).bind fun d => (Res.lift (isTab tbl d)).bind fun z => .ok (.sh z, p.2)
theorem lookup_mem {c : Str} {b : Bool} : ∀ {tbl : List (Str × Bool)}, tbl.lookup c = some b → (c, b) ∈ tbl
  | [], h => by cases h
  | (c', b') :: t, h => by
    rw [List.lookup_cons] at h
    cases q : c == c' with
    | true =>
      rw [q] at h
      cases h
      rw [eq_of_beq q]
      exact List.mem_cons_self
    | false => rw [q] at h; exact List.mem_cons_of_mem _ (lookup_mem h)
theorem isC_imp {K : PySem.W.Frag} {mg : Str → Option Value} {W : WX} {F F1 H H1 : Hp} {O O1 : Own} {σ : L2.St} {Q : VK} {tbl : List (Str × Bool)} {cV : V} {cv : Value} {d : D} {x : V} {ρ1 : List Slot} {pu : Bool} (k : ClsV cV cv) (ht : IsT K cv tbl) (rx : R K H1 x d)
    (hk : ((Res.lift (isTab tbl d)).bind fun z => Res.ok (Slot.sh z, ρ1)).wp (PV K pu F O σ H Q) (PX K mg W F O σ H)) (rs1 : RS K F1 σ ρ1 H1 O1) (st1 : Step F H O F1 H1 O1) (p1 : pu = true → Same H H1) : rIsi K [x, cV] H1 Q ∨ rIsK K [x, cV] H1 Q := by
  rw [Res.wp_bind, Res.wp_lift] at hk
  obtain ⟨z, hz, hk⟩ := hk
  cases d with
  | non =>
    cases hz
    cases rx
    exact .inl ⟨.non, cV, .type "NoneType", cv, false, rfl, k, .base .non, ht.non, hk F1 O1 _ H1 rs1 (.bl _) st1 p1⟩
  | exc c =>
    have hz : (tbl.lookup c).map .bl = some z := hz
    obtain ⟨b, hl, rfl⟩ := Option.map_eq_some_iff.mp hz
    obtain ⟨C2, n2, k2⟩ := ht.all c b (lookup_mem hl)
    cases rx with
    | @exc a C _ ha hX =>
      have e := hX.ns.symm.trans n2
      cases e
      exact .inr ⟨_, _, cV, cv, b, rfl, ha, hX.ex, fun u r => k.eq r, k2, hk F1 O1 _ H1 rs1 (.bl _) st1 p1⟩
  | _ => cases hz
theorem de_isO {pu : Bool} {e : Expr} {x : Str} {tbl : List (Str × Bool)} {p p2 pos : Pos} {f : DEn} {K : PySem.W.Frag} {mg : Str → Option Value} (hm : mg "isinstance" = none) (hx : ∃ C, mg x = some (.ref C)) (ht : IsT K (exv mg x) tbl) (ha : DE X W pu e f)
    (hX : X.K = K ∧ X.mg = mg := by exact ⟨rfl, rfl⟩) (hg : Gl X "isinstance" := by rfl) (hgx : Gl X x := by rfl) (hdb : (x == ("__debug__" : Str)) = false := by decide)
    (he : starEach (e :: [.Name x p2]) X.env = (false, eval e X.env) :: starEach [.Name x p2] X.env := by rfl) (hpl : (backTo pos (starEach [.Name x p2] X.env)).any (·.1) = false := by rfl) :
    DE X W pu (.Call (.Name "isinstance" p) [e, .Name x p2] [] pos) (dIsC tbl f) := by
  obtain ⟨rfl, rfl⟩ := hX
  obtain ⟨C, gC⟩ := hx
  rw [exv_of gC] at ht
  refine ⟨PE_imp (pe_callB call_isX hg hm boot_isinstance (pa_cons ha.pe (pa_cons (pe_glob (v := .ref C) hgx gC rfl hdb) pa_nil) he) (by decide) (by decide) he hpl) fun σ H Q ⟨F, O, ρ, rs, h⟩ => one_pe (k := fun d ρ1 => (Res.lift (isTab tbl d)).bind fun z => Res.ok (Slot.sh z, ρ1)) rs h fun d ρ1 F1 O1 x H1 rs1 st1 p1 rx hk => ?_⟩
  exact isC_imp (.own C) ht rx hk rs1 st1 p1
theorem de_isB {pu : Bool} {e : Expr} {x : Str} {T : String} {tbl : List (Str × Bool)} {p p2 pos : Pos} {f : DEn} {K : PySem.W.Frag} {mg : Str → Option Value} (hm : mg "isinstance" = none) (hx : mg x = none) (hv : bootBuiltins x = some (.type T)) (ht : IsT K (.type T) tbl) (ha : DE X W pu e f)
    (hX : X.K = K ∧ X.mg = mg := by exact ⟨rfl, rfl⟩) (hg : Gl X "isinstance" := by rfl) (hgx : Gl X x := by rfl) (hn : x ≠ "__name__" := by decide) (hdb : (x == ("__debug__" : Str)) = false := by decide)
    (he : starEach (e :: [.Name x p2]) X.env = (false, eval e X.env) :: starEach [.Name x p2] X.env := by rfl) (hpl : (backTo pos (starEach [.Name x p2] X.env)).any (·.1) = false := by rfl) :
    DE X W pu (.Call (.Name "isinstance" p) [e, .Name x p2] [] pos) (dIsC tbl f) := by
  obtain ⟨rfl, rfl⟩ := hX
  refine ⟨PE_imp (pe_callB call_isX hg hm boot_isinstance (pa_cons ha.pe (pa_cons (pe_bltn (v := .ty T) hgx hx hv rfl hn hdb) pa_nil) he) (by decide) (by decide) he hpl) fun σ H Q ⟨F, O, ρ, rs, h⟩ => one_pe (k := fun d ρ1 => (Res.lift (isTab tbl d)).bind fun z => Res.ok (Slot.sh z, ρ1)) rs h fun d ρ1 F1 O1 x H1 rs1 st1 p1 rx hk => ?_⟩
  exact isC_imp (.ty T) ht rx hk rs1 st1 p1
theorem kit_refTy {K : PySem.W.Frag} {C : Addr} {T : String} {b : Bool} (s : PySem.W.subIn K (.ref C) (.type T) = some b) (m : PySem.W.kitMeta T = true) : PySem.W.kitOne K (.ref C) (.type T) = some b := by
  unfold PySem.W.kitOne
  rw [if_neg (show ¬ ((Value.ref C == Value.type T) = true) by simp)]
  show (if PySem.W.kitMeta T = true then PySem.W.subIn K (.ref C) (.type T) else none) = _
  rw [if_pos m]; exact s
theorem kit_refRef {K : PySem.W.Frag} {C D : Addr} {b : Bool} (s : PySem.W.subIn K (.ref C) (.ref D) = some b) (d : PySem.W.hasDictIn K D = true) (t : PySem.W.typeIn K (.ref D) = some (.type "type")) (ss : PySem.W.subIn K (.ref D) (.ref D) = some true) : PySem.W.kitOne K (.ref C) (.ref D) = some b := by
  obtain ⟨cd, hc, _⟩ := PySem.W.any_some d
  have e2 : ((PySem.W.clsIn K D).isSome && PySem.W.typeIn K (.ref D) == some (.type "type")) = true := by rw [hc, t] <;> rfl
  unfold PySem.W.kitOne
  by_cases q : (Value.ref C == Value.ref D) = true
  · rw [if_pos q]
    have e : C = D := Value.ref.inj (beq_iff_eq.mp q)
    rw [e, ss] at s
    exact s
  · rw [if_neg q]
    show (if ((PySem.W.clsIn K D).isSome && PySem.W.typeIn K (.ref D) == some (.type "type")) = true then PySem.W.subIn K (.ref C) (.ref D) else none) = _
    rw [if_pos e2]; exact s
theorem kit_nonRef {K : PySem.W.Frag} {D : Addr} {b : Bool} (s : PySem.W.subIn K (.type "NoneType") (.ref D) = some b) (d : PySem.W.hasDictIn K D = true) (t : PySem.W.typeIn K (.ref D) = some (.type "type")) : PySem.W.kitOne K (.type "NoneType") (.ref D) = some b := by
  obtain ⟨cd, hc, _⟩ := PySem.W.any_some d
  have e2 : ((PySem.W.clsIn K D).isSome && PySem.W.typeIn K (.ref D) == some (.type "type")) = true := by rw [hc, t] <;> rfl
  unfold PySem.W.kitOne
  rw [if_neg (show ¬ ((Value.type "NoneType" == Value.ref D) = true) by simp)]
  show (if ((PySem.W.clsIn K D).isSome && PySem.W.typeIn K (.ref D) == some (.type "type")) = true then PySem.W.subIn K (.type "NoneType") (.ref D) else none) = _
  rw [if_pos e2]; exact s
theorem kit_nonVE {K : PySem.W.Frag} : PySem.W.kitOne K (.type "NoneType") (.type "ValueError") = some false := kit_ty (by decide +kernel)
theorem meta_VE : PySem.W.kitMeta "ValueError" = true := by decide +kernel
/-- the head's facts of a class -/
theorem exX_mk {K : PySem.W.Frag} {c : Str} {C : Addr} (ns : PySem.W.nsIn K mainGlobals c = some (some (.ref C))) (hg : PySem.W.findIn K (.ref C) "__getattribute__" = some (some (.builtin "BaseException.__getattribute__"))) (hk : PySem.W.findIn K (.ref C) "__getattr__" = some none)
    (hs : PySem.W.subIn K (.ref C) (.type "BaseException") = some true) (hd : PySem.W.hasDictIn K C = true) (ha : PySem.W.findIn K (.ref C) "__class__" = some (some (.builtin "object.__class__")))
    (hn : PySem.W.specialIn K (.builtin "object.__class__") "__get__" = some (some (.builtin "getset_descriptor.__get__"))) (ht : PySem.W.takesIn K (.builtin "object.__class__") = some true) (hm : PySem.W.mroIn K C (.type "object") = some true)
    (n1 : PySem.W.subIn K (.ref C) (.type "NoneType") = some false) (n2 : PySem.W.subIn K (.ref C) (.type "bool") = some false) (n3 : PySem.W.subIn K (.ref C) (.type "int") = some false) (n4 : PySem.W.subIn K (.ref C) (.type "str") = some false)
    (n5 : PySem.W.subIn K (.ref C) (.type "list") = some false) (n6 : PySem.W.subIn K (.ref C) (.type "tuple") = some false) (n7 : PySem.W.subIn K (.ref C) (.type "dict") = some false) : ExX K c C :=
  ⟨ns, ⟨hg, hk, hs, hd, ha, hn, ht, hm⟩, fun T h => by
    simp only [List.mem_cons, List.not_mem_nil, or_false] at h
    rcases h with rfl | rfl | rfl | rfl | rfl | rfl | rfl <;> exact kit_refTy (by assumption) (by decide +kernel)⟩
end
end DL
/-! DLG: X(e) as a value, str(i), try with three handlers -/
namespace L2
open PySem PySem.Spec PyProof.Rows
theorem pe_excK {X : Cx} {C : Addr} {bmB : List Value} {B newId initId : String} {x : Str} {e : Expr} {ta : TE} {p pos : Pos} (F : ExcBaseFacts B newId initId bmB) (q : PySem.W.excIn X.K C bmB newId = true) (gC : X.mg x = some (.ref C)) (kC : PySem.W.keepIn X.K (.ref C) = true) (hg : Gl X x)
    (he : PE X e ta) (hs : starEach [e] X.env = (false, eval e X.env) :: starEach [] X.env := by rfl) (hdb : (x == ("__debug__" : Str)) = false := by decide) :
    PE X (.Call (.Name x p) [e] [] pos) (fun σ H Q => ta σ H fun _ H1 => ∀ a, H1 a = none → Q (.ref a) (upd H1 a (DL.ExK (.ref C) a))) := by
  refine ⟨fun pins s σ H Q I h => ?_⟩
  refine wpAny_Call_Name_kw (ld_glob I hg gC ?_ hdb)
  refine PySem.W.callWith_K (h₀ := X.base) I.ok.mod.kin kC ?_ hs (by rfl)
  rw [hs]
  show wpAny _ _ (spliced ((false, eval e X.env) :: backTo pos (starEach [] X.env))) _ _ s
  refine Calls.spliced_cons (thn (he.run pins s σ H _ I h) fun u s1 ⟨v, H1, I1, r1, q1⟩ => ?_)
  refine Calls.spliced_nil ⟨I1.kIn, ?_⟩
  show wpAny _ _ (call (.ref C) [u]) _ _ _
  obtain ⟨bm, N, nm, qn, bs, hdct, sn, sub, ab, col, dd, k0, k1, k2, k3, k5, mN, hC, hN, hni, T⟩ := exc_obj I1.kIn q
  refine wpAny_call_exc_subT F T hC hN hni (fun h' a hm => ?_) (by show 1 ≤ sizeLine; rw [sizeLine_eq]; omega)
  have hn : H1 a = none := I1.hok.gone hm.new
  obtain ⟨t, ht, _, _⟩ := hm.there
  exact ⟨.ref a, upd H1 a (DL.ExK (.ref C) a), I1.laidN hm.keeps hm.new hn ⟨⟨_, _, ht, ⟨rfl, rfl⟩, rfl⟩, ⟨_, ht⟩, fun _ _ ⟨o, v, q, r⟩ k => ⟨o, v, k o q, r⟩⟩, rfl, q1 a hn⟩
end L2
namespace DL
open PySem PySem.Spec PyProof.Rows L2
@[simp] noncomputable def gStr : List D → Option D
  | [.int i] => @ite _ (i.natAbs.log2 < 1920) (Classical.propDecidable _) (some (.str (toString i))) none
  | _ => none
section
variable {X : Cx} {W : WX} {I : List Nat}
theorem bs_str : BlS X (.type "str") gStr := ⟨_, call_str_int, fun H vs ds z Q r hz q => by
  unfold gStr at hz
  split at hz
  · obtain ⟨c, e⟩ := ite_some hz
    cases e
    cases r with
    | cons r t => cases t; cases r; exact ⟨_, rfl, c, q rfl⟩
  · cases hz⟩
/-- X(e), an exception as a value -/
@[simp] noncomputable def dExc (c : Str) (f : DEn) (ρ : List Slot) : Res (Slot × List Slot) := (f ρ).bind fun p => (Res.lift p.1.val).bind fun _ => .ok (.sh (.exc c), p.2)
theorem de_excV {pu : Bool} {c : Str} {e : Expr} {p pos : Pos} {f : DEn} {K : PySem.W.Frag} {mg : Str → Option Value} (h : ExF K mg c) (hv : ExV K mg c) (he : DE X W pu e f)
    (hX : X.K = K ∧ X.mg = mg := by exact ⟨rfl, rfl⟩) (hg : Gl X c := by rfl) (hs : starEach [e] X.env = (false, eval e X.env) :: starEach [] X.env := by rfl) (hdb : (c == ("__debug__" : Str)) = false := by decide) :
    DE X W false (.Call (.Name c p) [e] [] pos) (dExc c f) := by
  obtain ⟨rfl, rfl⟩ := hX
  obtain ⟨C, g, x, k, _, _⟩ := h.ok
  obtain ⟨C2, g2, kX⟩ := hv.ok
  have : C2 = C := by rw [g] at g2; cases g2; rfl
  subst this
  refine ⟨PE_imp (pe_excK PySem.F.excBase_ValueError x g k hg he.pe hs hdb) fun σ H Q ⟨F, O, ρ, rs, h⟩ => one_pe (k := fun d ρ1 => Res.ok (Slot.sh (.exc c), ρ1)) rs h fun d ρ1 F1 O1 x H1 rs1 st1 p1 rx hk a na => ?_⟩
  obtain ⟨rs2, st2⟩ := rs1.newX na (ExK (.ref C2) a)
  exact hk _ _ _ _ rs2 (R.exc (upd_same ..) kX) (st1.trans st2) (fun z => nomatch z)
theorem exm_sub {K : PySem.W.Frag} {mg : Str → Option Value} {c : Str} {v : Value} {b : Bool} (h : ExF K mg c) (s : PySem.W.subIn K v (exv mg c) = some b) : PySem.W.exmOne K v (exv mg c) = some b := by
  obtain ⟨C, g, x, k, bb, t⟩ := h.ok
  have e : exv mg c = .ref C := by unfold exv; rw [g]; rfl
  rw [e] at s ⊢
  have hc : ∃ cd, PySem.W.clsIn K C = some cd := by
    unfold PySem.W.excIn at x
    split at x
    · rename_i cd sl ho
      exact ⟨cd, by unfold PySem.W.clsIn; rw [ho]⟩
    · cases x
  obtain ⟨cd, h1⟩ := hc
  have e1 : (PySem.W.subIn K (.ref C) (.type "BaseException") == some true) = true := by rw [bb] <;> rfl
  have e2 : ((PySem.W.clsIn K C).isSome && PySem.W.typeIn K (.ref C) == some (.type "type")) = true := by rw [h1, t] <;> rfl
  show (if (PySem.W.subIn K (.ref C) (.type "BaseException") == some true) = true then (if ((PySem.W.clsIn K C).isSome && PySem.W.typeIn K (.ref C) == some (.type "type")) = true then PySem.W.subIn K v (.ref C) else none) else none) = some b
  rw [if_pos e1, if_pos e2, s]
/-- try: f, except x1: g1, except x2: g2, except x3: g3 -/
noncomputable def noEx : Out → Out
  | .ex _ _ => .stuck
  | o => o
@[simp] noncomputable def dTry3 (x1 x2 x3 : Str) (f g1 g2 g3 : DSn) (ρ : List Slot) : Out := match f ρ with
  | .ex c ρ1 => if c = x1 then noEx (g1 ρ1) else if c = x2 then noEx (g2 ρ1) else if c = x3 then noEx (g3 ρ1) else .stuck
  | o => o
/-- three classes, none under an earlier one -/
structure Apart3 (K : PySem.W.Frag) (mg : Str → Option Value) (x1 x2 x3 : Str) : Prop where
  a21 : PySem.W.subIn K (exv mg x2) (exv mg x1) = some false
  a31 : PySem.W.subIn K (exv mg x3) (exv mg x1) = some false
  a32 : PySem.W.subIn K (exv mg x3) (exv mg x2) = some false
theorem ds_try3 {x1 x2 x3 : Str} {body s1 s2 s3 : List Stmt} {b1 b2 b3 : Stmt} {n1 n2 n3 p1 p2 p3 pos : Pos} {f g1 g2 g3 : DSn} (tk : Takes X W) {K : PySem.W.Frag} {mg : Str → Option Value} (h1 : ExF K mg x1) (h2 : ExF K mg x2) (h3 : ExF K mg x3) (ap : Apart3 K mg x1 x2 x3)
    (hb : ∀ (W1 : WX) (pn : List (Addr × Obj)) (xe : Value → Shared → Prop), Takes (X.tr pn xe) W1 → PassesOwn (model X.prog X.w) X.A X.env xe → DSs (X.tr pn xe) W1 I body f)
    (hs1 : ∀ (a : Addr) (pn : List (Addr × Obj)), DSs (X.suite a pn) W0 I (b1 :: s1) g1) (hs2 : ∀ (a : Addr) (pn : List (Addr × Obj)), DSs (X.suite a pn) W0 I (b2 :: s2) g2) (hs3 : ∀ (a : Addr) (pn : List (Addr × Obj)), DSs (X.suite a pn) W0 I (b3 :: s3) g3)
    (hX : X.K = K ∧ X.mg = mg := by exact ⟨rfl, rfl⟩) (hg1 : Gl X x1 := by rfl) (hg2 : Gl X x2 := by rfl) (hg3 : Gl X x3 := by rfl) (hd1 : (x1 == ("__debug__" : Str)) = false := by decide) (hd2 : (x2 == ("__debug__" : Str)) = false := by decide) (hd3 : (x3 == ("__debug__" : Str)) = false := by decide)
    (hs : X.stack = X.env :: X.outer := by rfl) (hf : X.env.frame = some X.env.locals := by rfl) :
    DS X W I (.Try body [.ExceptHandler (some (.Name x1 n1)) none (b1 :: s1) p1, .ExceptHandler (some (.Name x2 n2)) none (b2 :: s2) p2, .ExceptHandler (some (.Name x3 n3)) none (b3 :: s3) p3] [] [] pos) (dTry3 x1 x2 x3 f g1 g2 g3) := by
  obtain ⟨rfl, rfl⟩ := hX
  have nm : ∀ {x : Str}, ExF X.K X.mg x → Gl X x → (x == ("__debug__" : Str)) = false → Names X x (exv X.mg x) := fun {x} h hg hd => by
    obtain ⟨C, gm, _⟩ := h.ok
    have e : exv X.mg x = .ref C := by unfold exv; rw [gm]; rfl
    exact ⟨hg, hd, .inl (gm.trans (congrArg some e.symm))⟩
  have land : ∀ {g : DSn} {F : Hp} {O : Own} {σ : L2.St} {H : Hp} {D : Ends} {ρ1 : List Slot}, OutOk X.K X.mg W I D F O σ H (noEx (g ρ1)) → ∀ {F' O' σ' H'}, RS X.K F' σ' ρ1 H' O' → Step F H O F' H' O' → Pin I σ σ' → dS X.K X.mg W0 I g D σ' H' := fun {g F O σ H D ρ1} h {F' O' σ' H'} rs' st pn => by
    refine ⟨F', O', ρ1, rs', ?_⟩
    unfold noEx at h
    cases hg2 : g ρ1 with
    | nx ρ2 => rw [hg2] at h; exact OutOk.step (W := W0) (o := .nx ρ2) st pn h
    | bk ρ2 => rw [hg2] at h; exact OutOk.step (W := W0) (o := .bk ρ2) st pn h
    | ct ρ2 => rw [hg2] at h; exact OutOk.step (W := W0) (o := .ct ρ2) st pn h
    | rt s ρ2 => rw [hg2] at h; exact OutOk.step (W := W0) (o := .rt s ρ2) st pn h
    | stuck => rw [hg2] at h; exact h.elim
    | ex _ _ => rw [hg2] at h; exact h.elim
  refine ⟨PS_imp (ps_try_many (tb := fun W1 => dS X.K X.mg W1 I f) (l := [(exv X.mg x1, fun _ _ _ => dS X.K X.mg W0 I g1), (exv X.mg x2, fun _ _ _ => dS X.K X.mg W0 I g2), (exv X.mg x3, fun _ _ _ => dS X.K X.mg W0 I g3)]) hs hf tk (fun W1 pn xe t p => (hb W1 pn xe t p).pss)
    (.cons (nm h1 hg1 hd1) (fun a oe cls d pn _ _ => (hs1 a ((a, oe) :: pn)).pss) (.cons (nm h2 hg2 hd2) (fun a oe cls d pn _ _ => (hs2 a ((a, oe) :: pn)).pss) (.cons (nm h3 hg3 hd3) (fun a oe cls d pn _ _ => (hs3 a ((a, oe) :: pn)).pss) .nil)))) fun D σ H ⟨F, O, ρ, rs, h⟩ => ⟨F, O, ρ, rs, ?_⟩⟩
  unfold dTry3 at h
  cases hf : f ρ with
  | nx ρ1 => rw [hf] at h; exact h
  | bk ρ1 => rw [hf] at h; exact h
  | ct ρ1 => rw [hf] at h; exact h
  | rt s ρ1 => rw [hf] at h; exact h
  | stuck => rw [hf] at h; exact h
  | ex c ρ1 =>
    rw [hf] at h
    dsimp only at h
    by_cases c1 : c = x1
    · subst c1
      rw [if_pos rfl] at h
      intro F' O' σ' H' rs' st pn
      exact ⟨true, exm_self h1, fun _ a _ => land h rs' st pn, fun z => nomatch z⟩
    · rw [if_neg c1] at h
      by_cases c2 : c = x2
      · subst c2
        rw [if_pos rfl] at h
        intro F' O' σ' H' rs' st pn
        exact ⟨false, exm_sub h1 ap.a21, (fun z => nomatch z), fun _ => ⟨true, exm_self h2, fun _ a _ => land h rs' st pn, fun z => nomatch z⟩⟩
      · rw [if_neg c2] at h
        by_cases c3 : c = x3
        · subst c3
          rw [if_pos rfl] at h
          intro F' O' σ' H' rs' st pn
          exact ⟨false, exm_sub h1 ap.a31, (fun z => nomatch z), fun _ => ⟨false, exm_sub h2 ap.a32, (fun z => nomatch z), fun _ => ⟨true, exm_self h3, fun _ a _ => land h rs' st pn, fun z => nomatch z⟩⟩⟩
        · rw [if_neg c3] at h; exact h.elim
end
end DL
namespace LW
open PySem PySem.Spec PyProof.Rows L2 DL
/-! ### the text -/
def topS (i : Nat) : Stmt := PySem.Challenge.pw_leastreasons_k48_fitting.main.body.getD i (.Pass ⟨0, 0, 0, 0⟩)
abbrev s_is_whole : Stmt := topS 9
theorem sc_is_whole : FnScope ["value"] ["value"] (defScope s_is_whole) := ⟨rfl, rfl, rfl, by decide +kernel, rfl, by decide +kernel, by decide +kernel⟩
abbrev s_is_below : Stmt := topS 10
theorem sc_is_below : FnScope ["value", "bound"] ["value", "bound"] (defScope s_is_below) := ⟨rfl, rfl, rfl, by decide +kernel, rfl, by decide +kernel, by decide +kernel⟩
abbrev s_is_sizes : Stmt := topS 11
theorem sc_is_sizes : FnScope ["value", "size"] ["value"] (defScope s_is_sizes) := ⟨rfl, rfl, rfl, by decide +kernel, rfl, by decide +kernel, by decide +kernel⟩
abbrev s_need_sizes : Stmt := topS 12
theorem sc_need_sizes : FnScope ["sizes"] ["sizes"] (defScope s_need_sizes) := ⟨rfl, rfl, rfl, by decide +kernel, rfl, by decide +kernel, by decide +kernel⟩
abbrev s_product : Stmt := topS 13
theorem sc_product : FnScope ["sizes", "found", "size"] ["sizes"] (defScope s_product) := ⟨rfl, rfl, rfl, by decide +kernel, rfl, by decide +kernel, by decide +kernel⟩
abbrev s_need_small : Stmt := topS 14
theorem sc_need_small : FnScope ["sizes"] ["sizes"] (defScope s_need_small) := ⟨rfl, rfl, rfl, by decide +kernel, rfl, by decide +kernel, by decide +kernel⟩
abbrev s_cases_of : Stmt := topS 15
theorem sc_cases_of : FnScope ["sizes", "half", "found", "size", "known", "parts", "row", "part"] ["sizes", "half"] (defScope s_cases_of) := ⟨rfl, rfl, rfl, by decide +kernel, rfl, by decide +kernel, by decide +kernel⟩
abbrev s_all_cases : Stmt := topS 16
theorem sc_all_cases : FnScope ["sizes", "size"] ["sizes"] (defScope s_all_cases) := ⟨rfl, rfl, rfl, by decide +kernel, rfl, by decide +kernel, by decide +kernel⟩
abbrev s_is_values : Stmt := topS 18
theorem sc_is_values : FnScope ["size", "value", "at", "part"] ["size", "value"] (defScope s_is_values) := ⟨rfl, rfl, rfl, by decide +kernel, rfl, by decide +kernel, by decide +kernel⟩
abbrev s_is_condition : Stmt := topS 19
theorem sc_is_condition : FnScope ["sizes", "value"] ["sizes", "value"] (defScope s_is_condition) := ⟨rfl, rfl, rfl, by decide +kernel, rfl, by decide +kernel, by decide +kernel⟩
abbrev s_is_conditions : Stmt := topS 20
theorem sc_is_conditions : FnScope ["sizes", "value", "at", "part"] ["sizes", "value"] (defScope s_is_conditions) := ⟨rfl, rfl, rfl, by decide +kernel, rfl, by decide +kernel, by decide +kernel⟩
abbrev s_is_fitting : Stmt := topS 21
theorem sc_is_fitting : FnScope ["conditions", "case", "field", "parts"] ["conditions", "case"] (defScope s_is_fitting) := ⟨rfl, rfl, rfl, by decide +kernel, rfl, by decide +kernel, by decide +kernel⟩
abbrev s_need_conditions : Stmt := topS 23
theorem sc_need_conditions : FnScope ["sizes", "conditions"] ["sizes", "conditions"] (defScope s_need_conditions) := ⟨rfl, rfl, rfl, by decide +kernel, rfl, by decide +kernel, by decide +kernel⟩
abbrev s_fitting : Stmt := topS 24
theorem sc_fitting : FnScope ["sizes", "conditions", "case"] ["sizes", "conditions"] (defScope s_fitting) := ⟨rfl, rfl, rfl, by decide +kernel, rfl, by decide +kernel, by decide +kernel⟩
abbrev s__law_cell : Stmt := topS 26
theorem sc__law_cell : FnScope ["script", "k"] ["script", "k"] (defScope s__law_cell) := ⟨rfl, rfl, rfl, by decide +kernel, rfl, by decide +kernel, by decide +kernel⟩
abbrev s__law_draw : Stmt := topS 27
theorem sc__law_draw : FnScope ["cell", "k", "limit", "seed", "first", "second", "third"] ["cell", "k", "limit"] (defScope s__law_draw) := ⟨rfl, rfl, rfl, by decide +kernel, rfl, by decide +kernel, by decide +kernel⟩
abbrev s__law_sizes : Stmt := topS 28
theorem sc__law_sizes : FnScope ["cell", "more", "most", "top", "sheet", "many", "k", "size"] ["cell", "more", "most"] (defScope s__law_sizes) := ⟨rfl, rfl, rfl, by decide +kernel, rfl, by decide +kernel, by decide +kernel⟩
abbrev s__law_cases : Stmt := topS 29
theorem sc__law_cases : FnScope ["sheet", "rows", "size", "longer", "row", "part"] ["sheet"] (defScope s__law_cases) := ⟨rfl, rfl, rfl, by decide +kernel, rfl, by decide +kernel, by decide +kernel⟩
abbrev s__law_values : Stmt := topS 30
theorem sc__law_values : FnScope ["cell", "k", "size", "part"] ["cell", "k", "size"] (defScope s__law_values) := ⟨rfl, rfl, rfl, by decide +kernel, rfl, by decide +kernel, by decide +kernel⟩
abbrev s__law_conditions : Stmt := topS 31
theorem sc__law_conditions : FnScope ["sheet", "cell", "single", "found", "field", "values"] ["sheet", "cell"] (defScope s__law_conditions) := ⟨rfl, rfl, rfl, by decide +kernel, rfl, by decide +kernel, by decide +kernel⟩
abbrev s__law_integer : Stmt := topS 32
theorem sc__law_integer : FnScope ["found"] ["found"] (defScope s__law_integer) := ⟨rfl, rfl, rfl, by decide +kernel, rfl, by decide +kernel, by decide +kernel⟩
abbrev s__law_bad_sizes : Stmt := topS 33
theorem sc__law_bad_sizes : FnScope ["sheet", "cell", "word", "odd", "at", "k"] ["sheet", "cell"] (defScope s__law_bad_sizes) := ⟨rfl, rfl, rfl, by decide +kernel, rfl, by decide +kernel, by decide +kernel⟩
abbrev s__law_bad_condition : Stmt := topS 34
theorem sc__law_bad_condition : FnScope ["sheet", "field", "values", "word", "menu"] ["sheet", "field", "values", "word"] (defScope s__law_bad_condition) := ⟨rfl, rfl, rfl, by decide +kernel, rfl, by decide +kernel, by decide +kernel⟩
abbrev s__law_bad : Stmt := topS 35
theorem sc__law_bad : FnScope ["sheet", "pairs", "cell", "word", "at", "turned"] ["sheet", "pairs", "cell"] (defScope s__law_bad) := ⟨rfl, rfl, rfl, by decide +kernel, rfl, by decide +kernel, by decide +kernel⟩
abbrev s__law_refused : Stmt := topS 36
theorem sc__law_refused : FnScope ["sheet", "pairs", "told"] ["sheet", "pairs"] (defScope s__law_refused) := ⟨rfl, rfl, rfl, by decide +kernel, rfl, by decide +kernel, by decide +kernel⟩
abbrev s_law : Stmt := topS 37
theorem sc_law : FnScope ["script", "first", "most", "sheet", "cases", "large", "cell", "pairs", "due", "row", "found", "spoiled", "wide", "others", "case", "k", "field", "values"] ["script"] (defScope s_law) := ⟨rfl, rfl, rfl, by decide +kernel, rfl, by decide +kernel, by decide +kernel⟩
/-! ### the denotations -/
noncomputable def b_is_whole : DSn :=
    dRet (dAnd (dIsi "int" (dName 0)) (dNot (dIsi "bool" (dName 0))))
noncomputable def F_is_whole : DFn := fnG 1 1 false b_is_whole
noncomputable def b_is_below : DSn :=
    dRet (dAnd (dCall 1 F_is_whole (dConsF (dName 0) (dNil))) (dChain true true gLe gLt (dC (.int 0)) (dName 0) (dName 1)))
noncomputable def F_is_below : DFn := fnG 2 2 false b_is_below
noncomputable def b_is_sizes : DSn :=
    dSeq (dIf (dOrT (dNotT (dTst (dIsi "list" (dName 0)))) (dBinT true gGt (dBl gLen (dConsP true (dName 0) (dNil))) (dC (.int (24))))) (dRet (dC (.bl false))) (dSkip))
    (dRet (dBl gAll (dConsP true (dLc true (dSeqI (dName 0)) (tgN 1) (dYes) (dAnd (dCall 2 F_is_below (dConsF (dName 1) (dConsF (dBin true gAdd (dC (.int (6))) (dC (.int 1))) (dNil)))) (dBin true gGt (dName 1) (dC (.int 1)))) [1]) (dNil))))
noncomputable def F_is_sizes : DFn := fnG 2 1 false b_is_sizes
noncomputable def b_need_sizes : DSn :=
    dIf (dNotT (dTst (dCall 1 F_is_sizes (dConsF (dName 0) (dNil))))) (dRaise "InvalidSizes") (dSkip)
noncomputable def F_need_sizes : DFn := fnG 1 1 false b_need_sizes
noncomputable def b_product : DSn :=
    dSeq (dSetF 1 (dC (.int 1)))
    (dSeq (dFor (dSeqI (dName 0)) (tgN 2) (dSetF 1 (dBin true gMul (dName 1) (dName 2))))
    (dRet (dName 1)))
noncomputable def F_product : DFn := fnG 3 1 false b_product
noncomputable def b_need_small : DSn :=
    dIf (dBinT true gGt (dCall 1 F_product (dConsF (dName 0) (dNil))) (dC (.int (1024)))) (dRaise "NotSmall") (dSkip)
noncomputable def F_need_small : DFn := fnG 1 1 false b_need_small
noncomputable def b_cases_of : DSn :=
    dSeq (dSetF 2 (dLst (dConsF (dLst (dNil)) (dNil))))
    (dSeq (dFor (dZip true (dName 0) (dName 1)) (tgTup (tgCons (tgN 3) (tgCons (tgN 4) (tgNil)))) (dSeq (dSetF 5 (dIfE (dBinT true gIsNot (dName 4) (dC .non)) (dLst (dConsF (dName 4) (dNil))) (dLRg1 (dName 3))))
    (dSetF 2 (dLc2 true (dSeqI (dName 2)) (tgN 6) (dYes) (dSeqI (dName 5)) (tgN 7) (dYes) (dBinL true catL (dName 6) (dLst (dConsF (dName 7) (dNil)))) [6, 7] [7]))))
    (dRet (dName 2)))
noncomputable def F_cases_of : DFn := fnG 8 2 false b_cases_of
noncomputable def b_all_cases : DSn :=
    dRet (dCall 2 F_cases_of (dConsF (dName 0) (dConsF (dLc true (dSeqI (dName 0)) (tgN 1) (dYes) (dC .non) [1]) (dNil))))
noncomputable def F_all_cases : DFn := fnG 2 1 false b_all_cases
noncomputable def b_is_values : DSn :=
    dSeq (dIf (dOrT (dNotT (dTst (dIsi "tuple" (dName 1)))) (dNotT (dTst (dBl gAll (dConsP true (dLc true (dSeqI (dName 1)) (tgN 3) (dYes) (dCall 2 F_is_below (dConsF (dName 3) (dConsF (dName 0) (dNil)))) [3]) (dNil)))))) (dRet (dC (.bl false))) (dSkip))
    (dRet (dBl gAll (dConsP true (dLc true (dRng1 (dBin true gSub (dBl gLen (dConsP true (dName 1) (dNil))) (dC (.int 1)))) (tgN 2) (dYes) (dBin true gLt (dIx true (dName 1) (dName 2)) (dIx true (dName 1) (dBin true gAdd (dName 2) (dC (.int 1))))) [2]) (dNil))))
noncomputable def F_is_values : DFn := fnG 4 2 false b_is_values
noncomputable def b_is_condition : DSn :=
    dSeq (dIf (dOrT (dNotT (dTst (dIsi "tuple" (dName 1)))) (dOrT (dBinT true gNe (dBl gLen (dConsP true (dName 1) (dNil))) (dC (.int 2))) (dNotT (dTst (dCall 2 F_is_below (dConsF (dIx true (dName 1) (dC (.int 0))) (dConsF (dBl gLen (dConsP true (dName 0) (dNil))) (dNil)))))))) (dRet (dC (.bl false))) (dSkip))
    (dRet (dCall 2 F_is_values (dConsF (dIx true (dName 0) (dIx true (dName 1) (dC (.int 0)))) (dConsF (dIx true (dName 1) (dC (.int 1))) (dNil)))))
noncomputable def F_is_condition : DFn := fnG 2 2 false b_is_condition
noncomputable def b_is_conditions : DSn :=
    dSeq (dIf (dOrT (dNotT (dTst (dIsi "tuple" (dName 1)))) (dNotT (dTst (dBl gAll (dConsP true (dLc true (dSeqI (dName 1)) (tgN 3) (dYes) (dCall 2 F_is_condition (dConsF (dName 0) (dConsF (dName 3) (dNil)))) [3]) (dNil)))))) (dRet (dC (.bl false))) (dSkip))
    (dRet (dBl gAll (dConsP true (dLc true (dRng1 (dBin true gSub (dBl gLen (dConsP true (dName 1) (dNil))) (dC (.int 1)))) (tgN 2) (dYes) (dBin true gLt (dIx true (dIx true (dName 1) (dName 2)) (dC (.int 0))) (dIx true (dIx true (dName 1) (dBin true gAdd (dName 2) (dC (.int 1)))) (dC (.int 0)))) [2]) (dNil))))
noncomputable def F_is_conditions : DFn := fnG 4 2 false b_is_conditions
noncomputable def b_is_fitting : DSn :=
    dRet (dBl gAll (dConsP true (dLc true (dSeqI (dName 0)) (tgTup (tgCons (tgN 2) (tgCons (tgN 3) (tgNil)))) (dYes) (dBin true gIn (dIx true (dName 1) (dName 2)) (dName 3)) [2, 3]) (dNil)))
noncomputable def F_is_fitting : DFn := fnG 4 2 false b_is_fitting
noncomputable def b_need_conditions : DSn :=
    dIf (dNotT (dTst (dCall 2 F_is_conditions (dConsF (dName 0) (dConsF (dName 1) (dNil)))))) (dRaise "InvalidConditions") (dSkip)
noncomputable def F_need_conditions : DFn := fnG 2 2 false b_need_conditions
noncomputable def b_fitting : DSn :=
    dSeq (dDrop (dCall 1 F_need_sizes (dConsF (dName 0) (dNil))))
    (dSeq (dDrop (dCall 2 F_need_conditions (dConsF (dName 0) (dConsF (dName 1) (dNil)))))
    (dSeq (dDrop (dCall 1 F_need_small (dConsF (dName 0) (dNil))))
    (dRet (dBl gLen (dConsP true (dLc true (dSeqI (dCall 1 F_all_cases (dConsF (dName 0) (dNil)))) (tgN 2) (dTst (dCall 2 F_is_fitting (dConsF (dName 1) (dConsF (dName 2) (dNil))))) (dName 2) [2]) (dNil))))))
noncomputable def F_fitting : DFn := fnG 3 2 false b_fitting
noncomputable def b__law_cell : DSn :=
    dSeq (dIf (dBinT true gLt (dName 1) (dBl gLen (dConsP true (dName 0) (dNil)))) (dRet (dIx true (dName 0) (dName 1))) (dSkip))
    (dRet (dC (.int 0)))
noncomputable def F__law_cell : DFn := fnG 2 2 false b__law_cell
noncomputable def b__law_draw : DSn :=
    dSeq (dIf (dBinT true gGe (dName 0) (dBin true gPow (dC (.int 10)) (dC (.int 18)))) (dRet (dBin true gMod (dBin true gMod (dBl gInt (dConsP true (dBin true gShr (dName 0) (dBin true gMul (dC (.int 14)) (dName 1))) (dNil))) (dC (.int 16384))) (dName 2))) (dSkip))
    (dSeq (dSetF 3 (dBin true gMod (dBl gInt (dConsP true (dBin true gAdd (dBin true gAdd (dBin true gMul (dName 0) (dC (.int 48271))) (dBin true gMul (dBin true gMul (dC (.int 7919)) (dName 1)) (dName 1))) (dC (.int 30011))) (dNil))) (dC (.int 1000000007))))
    (dSeq (dSetF 4 (dBin true gMod (dBl gInt (dConsP true (dBin true gAdd (dBin true gMul (dName 3) (dName 3)) (dBin true gMul (dC (.int 60493)) (dName 1))) (dNil))) (dC (.int 2147483629))))
    (dSeq (dSetF 5 (dBin true gMod (dBl gInt (dConsP true (dBin true gAdd (dBin true gMul (dName 4) (dName 4)) (dName 3)) (dNil))) (dC (.int 2147483587))))
    (dSeq (dSetF 6 (dBin true gMod (dBl gInt (dConsP true (dBin true gAdd (dBin true gMul (dName 5) (dName 5)) (dName 4)) (dNil))) (dC (.int 2147483563))))
    (dRet (dBin true gMod (dBl gInt (dConsP true (dBin true gFdiv (dName 6) (dC (.int 64))) (dNil))) (dName 2)))))))
noncomputable def F__law_draw : DFn := fnG 7 3 false b__law_draw
noncomputable def b__law_sizes : DSn :=
    dSeq (dSetF 3 (dIx true (dTup (dConsF (dC (.int 5)) (dConsF (dC (.int 2)) (dConsF (dC (.int 1)) (dNil))))) (dCall 3 F__law_draw (dConsF (dName 0) (dConsF (dC (.int 12)) (dConsF (dC (.int 3)) (dNil)))))))
    (dSeq (dSet 4 (dLst (dNil)))
    (dSeq (dSetF 5 (dC (.int 1)))
    (dSeq (dFor (dRng1 (dCall 3 F__law_draw (dConsF (dName 0) (dConsF (dC (.int 0)) (dConsF (dC (.int 11)) (dNil)))))) (tgN 6) (dSeq (dSetF 7 (dBin true gAdd (dC (.int 2)) (dCall 3 F__law_draw (dConsF (dName 0) (dConsF (dBin true gAdd (dC (.int 1)) (dName 6)) (dConsF (dName 3) (dNil)))))))
    (dIf (dBinT true gLe (dBin true gMul (dName 5) (dBin true gAdd (dName 7) (dName 1))) (dName 2)) (dSeq (dApp 4 (dName 7))
    (dSetF 5 (dBin true gMul (dName 5) (dBin true gAdd (dName 7) (dName 1))))) (dSkip))))
    (dRet (dNameM 4)))))
noncomputable def F__law_sizes : DFn := fnG 8 3 false b__law_sizes
noncomputable def b__law_cases : DSn :=
    dSeq (dSetF 1 (dLst (dConsF (dLst (dNil)) (dNil))))
    (dSeq (dFor (dSeqI (dName 0)) (tgN 2) (dSeq (dSet 3 (dLst (dNil)))
    (dSeq (dFor (dSeqI (dName 1)) (tgN 4) (dFor (dRng1 (dName 2)) (tgN 5) (dApp 3 (dBinL true catL (dName 4) (dLst (dConsF (dName 5) (dNil)))))))
    (dSetF 1 (dNameM 3)))))
    (dRet (dName 1)))
noncomputable def F__law_cases : DFn := fnG 6 1 false b__law_cases
noncomputable def b__law_values : DSn :=
    dRet (dTupOf (dLc true (dRng1 (dName 2)) (tgN 3) (dBinT true gEq (dCall 3 F__law_draw (dConsF (dName 0) (dConsF (dBin true gAdd (dName 1) (dName 3)) (dConsF (dC (.int 2)) (dNil))))) (dC (.int 1))) (dName 3) [3]))
noncomputable def F__law_values : DFn := fnG 4 3 false b__law_values
noncomputable def b__law_conditions : DSn :=
    dSeq (dSetF 2 (dBin true gEq (dCall 3 F__law_draw (dConsF (dName 1) (dConsF (dC (.int 1)) (dConsF (dC (.int 2)) (dNil))))) (dC (.int 1))))
    (dSeq (dSet 3 (dLst (dNil)))
    (dSeq (dFor (dRng1 (dBl gLen (dConsP true (dName 0) (dNil)))) (tgN 4) (dIf (dAndT (dBinT true gLt (dBl gLen (dConsP true (dName 3) (dNil))) (dC (.int 6))) (dBinT true gEq (dCall 3 F__law_draw (dConsF (dName 1) (dConsF (dBin true gAdd (dBin true gMul (dC (.int 7)) (dName 4)) (dC (.int 2))) (dConsF (dC (.int 2)) (dNil))))) (dC (.int 1)))) (dSeq (dSetF 5 (dCall 3 F__law_values (dConsF (dName 1) (dConsF (dBin true gAdd (dBin true gMul (dC (.int 7)) (dName 4)) (dC (.int 3))) (dConsF (dIx true (dName 0) (dName 4)) (dNil))))))
    (dSeq (dIf (dTst (dName 2)) (dSetF 5 (dTup (dConsF (dCall 3 F__law_draw (dConsF (dName 1) (dConsF (dBin true gAdd (dBin true gMul (dC (.int 7)) (dName 4)) (dC (.int 3))) (dConsF (dIx true (dName 0) (dName 4)) (dNil))))) (dNil)))) (dSkip))
    (dApp 3 (dTup (dConsF (dName 4) (dConsF (dName 5) (dNil))))))) (dSkip)))
    (dRet (dTupOf (dName 3)))))
noncomputable def F__law_conditions : DFn := fnG 6 2 false b__law_conditions
noncomputable def b__law_integer : DSn :=
    dRet (dAnd (dIsi "int" (dName 0)) (dNot (dIsi "bool" (dName 0))))
noncomputable def F__law_integer : DFn := fnG 1 1 false b__law_integer
noncomputable def b__law_bad_sizes : DSn :=
    dSeq (dSetF 2 (dCall 3 F__law_draw (dConsF (dName 1) (dConsF (dC (.int 110)) (dConsF (dC (.int 8)) (dNil))))))
    (dSeq (dIf (dBinT true gEq (dName 2) (dC (.int 0))) (dRet (dTupOf (dName 0))) (dSkip))
    (dSeq (dIf (dBinT true gEq (dName 2) (dC (.int 1))) (dRet (dBinL true catL (dName 0) (dLc true (dRng1 (dBin true gSub (dC (.int 25)) (dBl gLen (dConsP true (dName 0) (dNil))))) (tgN 5) (dYes) (dC (.int 2)) [5]))) (dSkip))
    (dSeq (dIf (dBinT true gEq (dName 2) (dC (.int 2))) (dRet (dIx true (dLst (dConsF (dC .non) (dConsF (dC (.str "22")) (dConsF (dC (.int 5)) (dConsF (dC (.bl true)) (dConsF (dTup (dNil)) (dConsF (dExc "NotSmall" (dC (.str "no"))) (dNil)))))))) (dCall 3 F__law_draw (dConsF (dName 1) (dConsF (dC (.int 125)) (dConsF (dC (.int 6)) (dNil))))))) (dSkip))
    (dSeq (dSetF 3 (dIx true (dLst (dConsF (dC (.int 1)) (dConsF (dC (.int 7)) (dConsF (dC (.bl true)) (dConsF (dC .non) (dConsF (dC (.int 0)) (dConsF (dUn gNeg (dC (.int 2))) (dConsF (dC (.str "2")) (dConsF (dLst (dConsF (dC (.int 2)) (dNil))) (dConsF (dBin true gPow (dC (.int 10)) (dC (.int 30))) (dNil))))))))))) (dCall 3 F__law_draw (dConsF (dName 1) (dConsF (dC (.int 125)) (dConsF (dC (.int 9)) (dNil)))))))
    (dSeq (dSetF 4 (dCall 3 F__law_draw (dConsF (dName 1) (dConsF (dC (.int 126)) (dConsF (dBin true gAdd (dBl gLen (dConsP true (dName 0) (dNil))) (dC (.int 1))) (dNil))))))
    (dSeq (dIf (dBinT true gLt (dName 2) (dC (.int 5))) (dRet (dBinL true catL (dBinL true catL (dSl true (dName 0) (dNoP) (dPart (dName 4))) (dLst (dConsF (dName 3) (dNil)))) (dSl true (dName 0) (dPart (dName 4)) (dNoP)))) (dSkip))
    (dRet (dBinL true catL (dBinL true catL (dSl true (dName 0) (dNoP) (dPart (dName 4))) (dLst (dConsF (dName 3) (dNil)))) (dSl true (dName 0) (dPart (dBin true gAdd (dName 4) (dC (.int 1)))) (dNoP))))))))))
noncomputable def F__law_bad_sizes : DFn := fnG 6 2 false b__law_bad_sizes
noncomputable def b__law_bad_condition : DSn :=
    dSeq (dSetF 4 (dLst (dConsF (dTup (dConsF (dName 1) (dConsF (dBinU true (dName 2) (dTup (dConsF (dIx true (dName 0) (dName 1)) (dNil)))) (dNil)))) (dConsF (dTup (dConsF (dName 1) (dConsF (dBlL Slot.elems (dName 2)) (dNil)))) (dConsF (dTup (dConsF (dName 1) (dConsF (dName 2) (dConsF (dName 2) (dNil))))) (dConsF (dTup (dConsF (dC (.bl false)) (dConsF (dName 2) (dNil)))) (dNil)))))))
    (dSeq (dSetF 4 (dBinL true catL (dName 4) (dLst (dConsF (dTup (dConsF (dName 1) (dConsF (dTup (dConsF (dC (.int 1)) (dConsF (dC (.int 0)) (dNil)))) (dNil)))) (dConsF (dTup (dConsF (dName 1) (dConsF (dTup (dConsF (dC (.int 0)) (dConsF (dC (.int 0)) (dNil)))) (dNil)))) (dConsF (dTup (dConsF (dName 1) (dConsF (dTup (dConsF (dC (.int 0)) (dConsF (dC (.bl true)) (dNil)))) (dNil)))) (dConsF (dTup (dConsF (dName 1) (dConsF (dTup (dConsF (dUn gNeg (dC (.int 1))) (dConsF (dC (.int 0)) (dNil)))) (dNil)))) (dConsF (dTup (dConsF (dUn gNeg (dC (.int 1))) (dConsF (dName 2) (dNil)))) (dConsF (dTup (dConsF (dName 1) (dConsF (dC .non) (dNil)))) (dNil))))))))))
    (dSeq (dSetF 4 (dBinL true catL (dName 4) (dLst (dConsF (dTup (dConsF (dName 1) (dConsF (dC (.int 0)) (dNil)))) (dConsF (dTup (dConsF (dName 1) (dNil))) (dConsF (dTup (dNil)) (dConsF (dLst (dConsF (dName 1) (dConsF (dName 2) (dNil)))) (dConsF (dName 1) (dConsF (dC (.str "0")) (dConsF (dC .non) (dNil)))))))))))
    (dSeq (dSetF 4 (dBinL true catL (dName 4) (dLst (dConsF (dTup (dConsF (dBl gStr (dConsP true (dName 1) (dNil))) (dConsF (dName 2) (dNil)))) (dConsF (dTup (dConsF (dTup (dConsF (dName 1) (dNil))) (dConsF (dName 2) (dNil)))) (dNil))))))
    (dRet (dIx true (dName 4) (dBin true gMod (dBl gInt (dConsP true (dName 3) (dNil))) (dBl gLen (dConsP true (dName 4) (dNil)))))))))
noncomputable def F__law_bad_condition : DFn := fnG 5 4 false b__law_bad_condition
noncomputable def b__law_bad : DSn :=
    dSeq (dSetF 3 (dCall 3 F__law_draw (dConsF (dName 2) (dConsF (dC (.int 81)) (dConsF (dC (.int 12)) (dNil))))))
    (dSeq (dIf (dBinT true gEq (dName 3) (dC (.int 0))) (dRet (dBinU true (dName 1) (dTup (dConsF (dTup (dConsF (dBl gLen (dConsP true (dName 0) (dNil))) (dConsF (dTup (dNil)) (dNil)))) (dNil))))) (dSkip))
    (dSeq (dIf (dBinT true gEq (dName 3) (dC (.int 1))) (dRet (dIx true (dLst (dConsF (dC .non) (dConsF (dC (.int 0)) (dConsF (dC (.str "0")) (dConsF (dTup (dConsF (dC (.int 0)) (dNil))) (dConsF (dExc "NotSmall" (dC (.str "no"))) (dConsF (dTup (dConsF (dTup (dNil)) (dNil))) (dNil)))))))) (dCall 3 F__law_draw (dConsF (dName 2) (dConsF (dC (.int 82)) (dConsF (dC (.int 6)) (dNil))))))) (dSkip))
    (dSeq (dIf (dOrT (dBinT true gEq (dName 3) (dC (.int 2))) (dBinT true gEq (dName 1) (dTup (dNil)))) (dRet (dBlL Slot.elems (dName 1))) (dSkip))
    (dSeq (dIf (dBinT true gEq (dName 3) (dC (.int 3))) (dRet (dBinU true (dName 1) (dTup (dConsF (dIx true (dName 1) (dCall 3 F__law_draw (dConsF (dName 2) (dConsF (dC (.int 82)) (dConsF (dBl gLen (dConsP true (dName 1) (dNil))) (dNil)))))) (dNil))))) (dSkip))
    (dSeq (dIf (dAndT (dBinT true gEq (dName 3) (dC (.int 4))) (dBinT true gGt (dBl gLen (dConsP true (dName 1) (dNil))) (dC (.int 1)))) (dSeq (dSetF 4 (dCall 3 F__law_draw (dConsF (dName 2) (dConsF (dC (.int 82)) (dConsF (dBin true gSub (dBl gLen (dConsP true (dName 1) (dNil))) (dC (.int 1))) (dNil))))))
    (dRet (dBinU true (dBinU true (dSl true (dName 1) (dNoP) (dPart (dName 4))) (dTup (dConsF (dIx true (dName 1) (dBin true gAdd (dName 4) (dC (.int 1)))) (dConsF (dIx true (dName 1) (dName 4)) (dNil))))) (dSl true (dName 1) (dPart (dBin true gAdd (dName 4) (dC (.int 2)))) (dNoP))))) (dSkip))
    (dSeq (dSetF 4 (dCall 3 F__law_draw (dConsF (dName 2) (dConsF (dC (.int 82)) (dConsF (dBl gLen (dConsP true (dName 1) (dNil))) (dNil))))))
    (dSeq (dSetF 5 (dCall 4 F__law_bad_condition (dConsF (dName 0) (dConsF (dIx true (dIx true (dName 1) (dName 4)) (dC (.int 0))) (dConsF (dIx true (dIx true (dName 1) (dName 4)) (dC (.int 1))) (dConsF (dCall 3 F__law_draw (dConsF (dName 2) (dConsF (dC (.int 83)) (dConsF (dC (.int 19)) (dNil))))) (dNil)))))))
    (dRet (dBinU true (dBinU true (dSl true (dName 1) (dNoP) (dPart (dName 4))) (dTup (dConsF (dName 5) (dNil)))) (dSl true (dName 1) (dPart (dBin true gAdd (dName 4) (dC (.int 1)))) (dNoP)))))))))))
noncomputable def F__law_bad : DFn := fnG 6 3 false b__law_bad
noncomputable def b__law_refused : DSn :=
    dSeq (dSetF 2 (dC (.str "nothing")))
    (dSeq (dTry3 "InvalidSizes" "InvalidConditions" "NotSmall" (dDrop (dCall 2 F_fitting (dConsF (dName 0) (dConsF (dName 1) (dNil))))) (dSetF 2 (dC (.str "sizes"))) (dSetF 2 (dC (.str "conditions"))) (dSetF 2 (dC (.str "small"))))
    (dRet (dName 2)))
noncomputable def F__law_refused : DFn := fnG 3 2 false b__law_refused
noncomputable def b_law : DSn :=
    dSeq (dSetF 1 (dCall 2 F__law_cell (dConsF (dName 0) (dConsF (dC (.int 0)) (dNil)))))
    (dSeq (dSetF 2 (dC (.int 64)))
    (dSeq (dIf (dBinT true gEq (dCall 3 F__law_draw (dConsF (dName 1) (dConsF (dC (.int 20)) (dConsF (dC (.int 8)) (dNil))))) (dC (.int 5))) (dSetF 2 (dC (.int 1024))) (dSkip))
    (dSeq (dSetF 3 (dCall 3 F__law_sizes (dConsF (dName 1) (dConsF (dC (.int 0)) (dConsF (dName 2) (dNil))))))
    (dSeq (dSetF 4 (dCall 1 F__law_cases (dConsF (dName 3) (dNil))))
    (dSeq (dSetF 5 (dBinL true catL (dBinL true catL (dName 3) (dLst (dConsF (dC (.int 6)) (dConsF (dC (.int 6)) (dConsF (dC (.int 6)) (dConsF (dC (.int 5)) (dNil))))))) (dIx true (dLst (dConsF (dLst (dNil)) (dConsF (dLc true (dRng1 (dBin true gSub (dC (.int 20)) (dBl gLen (dConsP true (dName 3) (dNil))))) (tgN 15) (dYes) (dC (.int 6)) [15]) (dNil)))) (dCall 3 F__law_draw (dConsF (dName 1) (dConsF (dC (.int 84)) (dConsF (dC (.int 2)) (dNil))))))))
    (dSeq (dFor (dSeqI (dSl true (dName 0) (dPart (dC (.int 1))) (dPart (dBin true gAdd (dC (.int 2)) (dBl gMin (dConsP true (dC (.int 12)) (dConsP true (dBin true gFdiv (dC (.int 512)) (dBl gLen (dConsP true (dName 4) (dNil)))) (dNil)))))))) (tgN 6) (dSeq (dSetF 7 (dCall 2 F__law_conditions (dConsF (dName 3) (dConsF (dName 6) (dNil)))))
    (dSeq (dSetF 8 (dBl gLen (dConsP true (dLc true (dSeqI (dName 4)) (tgN 14) (dTst (dBl gAll (dConsP true (dLc true (dSeqI (dName 7)) (tgTup (tgCons (tgN 16) (tgCons (tgN 17) (tgNil)))) (dYes) (dBin true gIn (dIx true (dName 14) (dName 16)) (dName 17)) [16, 17]) (dNil)))) (dName 14) [14]) (dNil))))
    (dSeq (dSetF 9 (dBlL Slot.elems (dName 3)))
    (dSeq (dSetF 10 (dCall 2 F_fitting (dConsF (dName 9) (dConsF (dName 7) (dNil)))))
    (dSeq (dIf (dOrT (dNotT (dTst (dCall 1 F__law_integer (dConsF (dName 10) (dNil))))) (dOrT (dBinT true gNe (dName 10) (dName 8)) (dBinT true gNe (dName 9) (dName 3)))) (dRet (dC (.bl false))) (dSkip))
    (dSeq (dSetF 11 (dCall 3 F__law_bad (dConsF (dName 3) (dConsF (dName 7) (dConsF (dName 6) (dNil))))))
    (dSeq (dIf (dOrT (dBinT true gNe (dCall 2 F__law_refused (dConsF (dName 3) (dConsF (dName 11) (dNil)))) (dC (.str "conditions"))) (dBinT true gNe (dCall 2 F__law_refused (dConsF (dName 5) (dConsF (dName 7) (dNil)))) (dC (.str "small")))) (dRet (dC (.bl false))) (dSkip))
    (dSeq (dSetF 12 (dCall 2 F__law_bad_sizes (dConsF (dName 3) (dConsF (dName 6) (dNil)))))
    (dSeq (dFor (dSeqI (dLst (dConsF (dTup (dNil)) (dConsF (dName 7) (dConsF (dName 11) (dNil)))))) (tgN 13) (dIf (dBinT true gNe (dCall 2 F__law_refused (dConsF (dName 12) (dConsF (dName 13) (dNil)))) (dC (.str "sizes"))) (dRet (dC (.bl false))) (dSkip)))
    (dSeq (dSetF 11 (dCall 3 F__law_bad (dConsF (dName 5) (dConsF (dName 7) (dConsF (dName 6) (dNil))))))
    (dIf (dBinT true gNe (dCall 2 F__law_refused (dConsF (dName 5) (dConsF (dName 11) (dNil)))) (dC (.str "conditions"))) (dRet (dC (.bl false))) (dSkip)))))))))))))
    (dRet (dBin true gEq (dCall 2 F_fitting (dPick 2 [1, 0] (dConsF (dTup (dNil)) (dConsF (dBlL Slot.elems (dName 3)) (dNil))))) (dBl gLen (dConsP true (dName 4) (dNil)))))))))))
noncomputable def F_law : DFn := fnG 18 1 false b_law
/-! ### what the top leaves -/
structure Txt (K : PySem.W.Frag) (mg : Str → Option Value) : Prop where
  one : True
  z_isinstance : mg "isinstance" = none
  z_int : mg "int" = none
  z_bool : mg "bool" = none
  z_all : mg "all" = none
  z_list : mg "list" = none
  z_len : mg "len" = none
  z_zip : mg "zip" = none
  z_range : mg "range" = none
  z_tuple : mg "tuple" = none
  z_str : mg "str" = none
  z_min : mg "min" = none
  g_MOST_VALUES : ∃ t, mg "MOST_VALUES" = some (.int (6) t)
  g_MOST_FIELDS : ∃ t, mg "MOST_FIELDS" = some (.int (24) t)
  g_SMALL : ∃ t, mg "SMALL" = some (.int (1024) t)
  e_InvalidSizes : ExF K mg "InvalidSizes"
  e_NotSmall : ExF K mg "NotSmall"
  e_InvalidConditions : ExF K mg "InvalidConditions"
  vx_NotSmall : ExV K mg "NotSmall"
  ap_InvalidSizes_InvalidConditions_NotSmall : Apart3 K mg "InvalidSizes" "InvalidConditions" "NotSmall"
theorem ty_int : tysOk "int" = true := by decide +kernel
theorem ty_bool : tysOk "bool" = true := by decide +kernel
theorem ty_str : tysOk "str" = true := by decide +kernel
theorem ty_list : tysOk "list" = true := by decide +kernel
theorem ty_tuple : tysOk "tuple" = true := by decide +kernel
/-! ### the derivations -/
section
variable {P : Program} {w : World} {K : PySem.W.Frag} {mg : Str → Option Value} {base : Heap}
theorem d_is_whole {f : Addr} {fd : FuncData} (Fn : Fun K "is_whole" "is_whole" s_is_whole f fd) (hm : mg "is_whole" = some (.ref f)) (hb : Binds K fd ["value"] []) (T : Txt K mg) : Dfn P w K mg base "is_whole" ["value"] 1 F_is_whole :=
  Dfn.mk' (N := ["value"]) (body := b_is_whole) false Fn hm hb sc_is_whole fun cdv A outer s H E hr =>
    (dss_one (ds_ret (de_and (de_isi T.z_isinstance T.z_int boot_int ty_int (de_name 0)) (de_one (de_not (de_isi T.z_isinstance T.z_bool boot_bool ty_bool (de_name 0)))))))
theorem d_is_below {f : Addr} {fd : FuncData} (Fn : Fun K "is_below" "is_below" s_is_below f fd) (hm : mg "is_below" = some (.ref f)) (hb : Binds K fd ["value", "bound"] []) (T : Txt K mg) (h_is_whole : Dfn P w K mg base "is_whole" ["value"] 1 F_is_whole) : Dfn P w K mg base "is_below" ["value", "bound"] 2 F_is_below :=
  Dfn.mk' (N := ["value", "bound"]) (body := b_is_below) false Fn hm hb sc_is_below fun cdv A outer s H E hr =>
    (dss_one (ds_ret (de_and (de_call (takes_of rfl rfl rfl rfl) h_is_whole (hr.mono (by decide)) (af_cons (de_name 0) af_nil)) (de_one (de_chain os_le os_lt de_int (de_name 0) (de_name 1))))))
theorem d_is_sizes {f : Addr} {fd : FuncData} (Fn : Fun K "is_sizes" "is_sizes" s_is_sizes f fd) (hm : mg "is_sizes" = some (.ref f)) (hb : Binds K fd ["value"] []) (T : Txt K mg) (h_is_below : Dfn P w K mg base "is_below" ["value", "bound"] 2 F_is_below) : Dfn P w K mg base "is_sizes" ["value"] 3 F_is_sizes :=
  Dfn.mk' (N := ["value", "size"]) (body := b_is_sizes) false Fn hm hb sc_is_sizes fun cdv A outer s H E hr =>
    (dss_cons (ds_if ((dw_or (dt_not (dt_val (de_isi T.z_isinstance T.z_list boot_list ty_list (de_name 0)))) (dw_or1 (dt_cmp os_gt (de_blB bs_len T.z_len boot_len (ap_cons (de_name 0) ap_nil)) (de_gint T.g_MOST_FIELDS)))).dt) (dss_one (ds_ret de_bl)) dss_nil)
    (dss_one (ds_ret (de_blB (bs_all rfl) T.z_all boot_all (ap_cons (de_lc [("size", 1)] rfl sc_is_sizes.nd (di_seq (de_name 0)) (blkOk_by (by kernel_rfl)) (fun _ _ _ _ _ => (dg_name 1 sc_is_sizes.nd)) (fun _ _ _ _ _ => dts_nil) (fun _ _ _ _ _ => (de_and (de_call takes0 h_is_below (hr.mono (by decide)) (af_cons (de_name 1) (af_cons (de_bin os_add (de_gint T.g_MOST_VALUES) de_int) af_nil))) (de_one (de_cmp os_gt (de_name 1) de_int))))) ap_nil)))))
theorem d_need_sizes {f : Addr} {fd : FuncData} (Fn : Fun K "need_sizes" "need_sizes" s_need_sizes f fd) (hm : mg "need_sizes" = some (.ref f)) (hb : Binds K fd ["sizes"] []) (T : Txt K mg) (h_is_sizes : Dfn P w K mg base "is_sizes" ["value"] 3 F_is_sizes) : Dfn P w K mg base "need_sizes" ["sizes"] 4 F_need_sizes :=
  Dfn.mk' (N := ["sizes"]) (body := b_need_sizes) false Fn hm hb sc_need_sizes fun cdv A outer s H E hr =>
    (dss_one (ds_if (dt_not (dt_val (de_call (takes_of rfl rfl rfl rfl) h_is_sizes (hr.mono (by decide)) (af_cons (de_name 0) af_nil)))) (dss_one (ds_raise rfl (takes_of rfl rfl rfl rfl) (pmk_d T.e_InvalidSizes))) dss_nil))
theorem d_product {f : Addr} {fd : FuncData} (Fn : Fun K "product" "product" s_product f fd) (hm : mg "product" = some (.ref f)) (hb : Binds K fd ["sizes"] []) (T : Txt K mg) : Dfn P w K mg base "product" ["sizes"] 1 F_product :=
  Dfn.mk' (N := ["sizes", "found", "size"]) (body := b_product) false Fn hm hb sc_product fun cdv A outer s H E hr =>
    (dss_cons (ds_setF 1 sc_product.nd de_int)
    (dss_cons (ds_for (passes_of rfl) rfl (di_seq (de_name 0)) (dg_name 2 sc_product.nd) (dss_one (ds_setF 1 sc_product.nd (de_bin os_mul (de_name 1) (de_name 2)))))
    (dss_one (ds_ret (de_name 1)))))
theorem d_need_small {f : Addr} {fd : FuncData} (Fn : Fun K "need_small" "need_small" s_need_small f fd) (hm : mg "need_small" = some (.ref f)) (hb : Binds K fd ["sizes"] []) (T : Txt K mg) (h_product : Dfn P w K mg base "product" ["sizes"] 1 F_product) : Dfn P w K mg base "need_small" ["sizes"] 2 F_need_small :=
  Dfn.mk' (N := ["sizes"]) (body := b_need_small) false Fn hm hb sc_need_small fun cdv A outer s H E hr =>
    (dss_one (ds_if (dt_cmp os_gt (de_call (takes_of rfl rfl rfl rfl) h_product (hr.mono (by decide)) (af_cons (de_name 0) af_nil)) (de_gint T.g_SMALL)) (dss_one (ds_raise rfl (takes_of rfl rfl rfl rfl) (pmk_d T.e_NotSmall))) dss_nil))
theorem d_cases_of {f : Addr} {fd : FuncData} (Fn : Fun K "cases_of" "cases_of" s_cases_of f fd) (hm : mg "cases_of" = some (.ref f)) (hb : Binds K fd ["sizes", "half"] []) (T : Txt K mg) : Dfn P w K mg base "cases_of" ["sizes", "half"] 1 F_cases_of :=
  Dfn.mk' (N := ["sizes", "half", "found", "size", "known", "parts", "row", "part"]) (body := b_cases_of) false Fn hm hb sc_cases_of fun cdv A outer s H E hr =>
    (dss_cons (ds_setF 2 sc_cases_of.nd (de_lst (af_cons (de_lst af_nil) af_nil)))
    (dss_cons (ds_for (passes_of rfl) rfl (di_zip T.z_zip (de_name 0) (de_name 1)) (dg_tup rfl (dgs_cons (dg_name 3 sc_cases_of.nd) (dgs_cons (dg_name 4 sc_cases_of.nd) dgs_nil)) (tg_lenS (tg_lenS tg_len0))) (dss_cons (ds_setF 5 sc_cases_of.nd (de_ifExp (dt_cmp os_isnot (de_name 4) de_non) (de_lst (af_cons (de_name 4) af_nil)) (de_listRg1 rfl T.z_list T.z_range (de_name 3))))
    (dss_one (ds_setLc2F 2 [("row", 6), ("part", 7)] [7] rfl sc_cases_of.nd (sw_true rfl rfl rfl (by decide +kernel)) (di_seq (de_name 2)) (blkOk_by (by kernel_rfl)) (fun _ _ _ _ _ => (dg_name 6 sc_cases_of.nd)) (fun _ _ _ _ _ => dts_nil) (fun _ _ _ _ _ => (di_seq (de_name 5))) (fun _ _ _ _ _ => (dg_name 7 sc_cases_of.nd)) (fun _ _ _ _ _ => dts_nil) (fun _ _ _ _ _ => (de_binL opl_cat (de_name 6) (de_lst (af_cons (de_name 7) af_nil))))))))
    (dss_one (ds_ret (de_name 2)))))
theorem d_all_cases {f : Addr} {fd : FuncData} (Fn : Fun K "all_cases" "all_cases" s_all_cases f fd) (hm : mg "all_cases" = some (.ref f)) (hb : Binds K fd ["sizes"] []) (T : Txt K mg) (h_cases_of : Dfn P w K mg base "cases_of" ["sizes", "half"] 1 F_cases_of) : Dfn P w K mg base "all_cases" ["sizes"] 2 F_all_cases :=
  Dfn.mk' (N := ["sizes", "size"]) (body := b_all_cases) false Fn hm hb sc_all_cases fun cdv A outer s H E hr =>
    (dss_one (ds_ret (de_call (takes_of rfl rfl rfl rfl) h_cases_of (hr.mono (by decide)) (af_cons (de_name 0) (af_cons (de_lc [("size", 1)] rfl sc_all_cases.nd (di_seq (de_name 0)) (blkOk_by (by kernel_rfl)) (fun _ _ _ _ _ => (dg_name 1 sc_all_cases.nd)) (fun _ _ _ _ _ => dts_nil) (fun _ _ _ _ _ => de_non)) af_nil)))))
theorem d_is_values {f : Addr} {fd : FuncData} (Fn : Fun K "is_values" "is_values" s_is_values f fd) (hm : mg "is_values" = some (.ref f)) (hb : Binds K fd ["size", "value"] []) (T : Txt K mg) (h_is_below : Dfn P w K mg base "is_below" ["value", "bound"] 2 F_is_below) : Dfn P w K mg base "is_values" ["size", "value"] 3 F_is_values :=
  Dfn.mk' (N := ["size", "value", "at", "part"]) (body := b_is_values) false Fn hm hb sc_is_values fun cdv A outer s H E hr =>
    (dss_cons (ds_if ((dw_or (dt_not (dt_val (de_isi T.z_isinstance T.z_tuple boot_tuple ty_tuple (de_name 1)))) (dw_or1 (dt_not (dt_val (de_blB (bs_all rfl) T.z_all boot_all (ap_cons (de_lc [("part", 3)] rfl sc_is_values.nd (di_seq (de_name 1)) (blkOk_by (by kernel_rfl)) (fun _ _ _ _ _ => (dg_name 3 sc_is_values.nd)) (fun _ _ _ _ _ => dts_nil) (fun _ _ _ _ _ => (de_call takes0 h_is_below (hr.mono (by decide)) (af_cons (de_name 3) (af_cons (de_name 0) af_nil))))) ap_nil)))))).dt) (dss_one (ds_ret de_bl)) dss_nil)
    (dss_one (ds_ret (de_blB (bs_all rfl) T.z_all boot_all (ap_cons (de_lc [("at", 2)] rfl sc_is_values.nd (di_rng1 T.z_range (de_bin os_sub (de_blB bs_len T.z_len boot_len (ap_cons (de_name 1) ap_nil)) de_int)) (blkOk_by (by kernel_rfl)) (fun _ _ _ _ _ => (dg_name 2 sc_is_values.nd)) (fun _ _ _ _ _ => dts_nil) (fun _ _ _ _ _ => (de_cmp os_lt (de_ix (de_name 1) (de_name 2)) (de_ix (de_name 1) (de_bin os_add (de_name 2) de_int))))) ap_nil)))))
theorem d_is_condition {f : Addr} {fd : FuncData} (Fn : Fun K "is_condition" "is_condition" s_is_condition f fd) (hm : mg "is_condition" = some (.ref f)) (hb : Binds K fd ["sizes", "value"] []) (T : Txt K mg) (h_is_values : Dfn P w K mg base "is_values" ["size", "value"] 3 F_is_values) (h_is_below : Dfn P w K mg base "is_below" ["value", "bound"] 2 F_is_below) : Dfn P w K mg base "is_condition" ["sizes", "value"] 4 F_is_condition :=
  Dfn.mk' (N := ["sizes", "value"]) (body := b_is_condition) false Fn hm hb sc_is_condition fun cdv A outer s H E hr =>
    (dss_cons (ds_if ((dw_or (dt_not (dt_val (de_isi T.z_isinstance T.z_tuple boot_tuple ty_tuple (de_name 1)))) (dw_or (dt_cmp (os_ne hr) (de_blB bs_len T.z_len boot_len (ap_cons (de_name 1) ap_nil)) de_int) (dw_or1 (dt_not (dt_val (de_call (takes_of rfl rfl rfl rfl) h_is_below (hr.mono (by decide)) (af_cons (de_ix (de_name 1) de_int) (af_cons (de_blB bs_len T.z_len boot_len (ap_cons (de_name 0) ap_nil)) af_nil)))))))).dt) (dss_one (ds_ret de_bl)) dss_nil)
    (dss_one (ds_ret (de_call (takes_of rfl rfl rfl rfl) h_is_values (hr.mono (by decide)) (af_cons (de_ix (de_name 0) (de_ix (de_name 1) de_int)) (af_cons (de_ix (de_name 1) de_int) af_nil))))))
theorem d_is_conditions {f : Addr} {fd : FuncData} (Fn : Fun K "is_conditions" "is_conditions" s_is_conditions f fd) (hm : mg "is_conditions" = some (.ref f)) (hb : Binds K fd ["sizes", "value"] []) (T : Txt K mg) (h_is_condition : Dfn P w K mg base "is_condition" ["sizes", "value"] 4 F_is_condition) : Dfn P w K mg base "is_conditions" ["sizes", "value"] 5 F_is_conditions :=
  Dfn.mk' (N := ["sizes", "value", "at", "part"]) (body := b_is_conditions) false Fn hm hb sc_is_conditions fun cdv A outer s H E hr =>
    (dss_cons (ds_if ((dw_or (dt_not (dt_val (de_isi T.z_isinstance T.z_tuple boot_tuple ty_tuple (de_name 1)))) (dw_or1 (dt_not (dt_val (de_blB (bs_all rfl) T.z_all boot_all (ap_cons (de_lc [("part", 3)] rfl sc_is_conditions.nd (di_seq (de_name 1)) (blkOk_by (by kernel_rfl)) (fun _ _ _ _ _ => (dg_name 3 sc_is_conditions.nd)) (fun _ _ _ _ _ => dts_nil) (fun _ _ _ _ _ => (de_call takes0 h_is_condition (hr.mono (by decide)) (af_cons (de_name 0) (af_cons (de_name 3) af_nil))))) ap_nil)))))).dt) (dss_one (ds_ret de_bl)) dss_nil)
    (dss_one (ds_ret (de_blB (bs_all rfl) T.z_all boot_all (ap_cons (de_lc [("at", 2)] rfl sc_is_conditions.nd (di_rng1 T.z_range (de_bin os_sub (de_blB bs_len T.z_len boot_len (ap_cons (de_name 1) ap_nil)) de_int)) (blkOk_by (by kernel_rfl)) (fun _ _ _ _ _ => (dg_name 2 sc_is_conditions.nd)) (fun _ _ _ _ _ => dts_nil) (fun _ _ _ _ _ => (de_cmp os_lt (de_ix (de_ix (de_name 1) (de_name 2)) de_int) (de_ix (de_ix (de_name 1) (de_bin os_add (de_name 2) de_int)) de_int)))) ap_nil)))))
theorem d_is_fitting {f : Addr} {fd : FuncData} (Fn : Fun K "is_fitting" "is_fitting" s_is_fitting f fd) (hm : mg "is_fitting" = some (.ref f)) (hb : Binds K fd ["conditions", "case"] []) (T : Txt K mg) : Dfn P w K mg base "is_fitting" ["conditions", "case"] 1 F_is_fitting :=
  Dfn.mk' (N := ["conditions", "case", "field", "parts"]) (body := b_is_fitting) false Fn hm hb sc_is_fitting fun cdv A outer s H E hr =>
    (dss_one (ds_ret (de_blB (bs_all rfl) T.z_all boot_all (ap_cons (de_lc [("field", 2), ("parts", 3)] rfl sc_is_fitting.nd (di_seq (de_name 0)) (blkOk_by (by kernel_rfl)) (fun _ _ _ _ _ => (dg_tup rfl (dgs_cons (dg_name 2 sc_is_fitting.nd) (dgs_cons (dg_name 3 sc_is_fitting.nd) dgs_nil)) (tg_lenS (tg_lenS tg_len0)))) (fun _ _ _ _ _ => dts_nil) (fun _ _ _ _ _ => (de_cmp os_in (de_ix (de_name 1) (de_name 2)) (de_name 3)))) ap_nil))))
theorem d_need_conditions {f : Addr} {fd : FuncData} (Fn : Fun K "need_conditions" "need_conditions" s_need_conditions f fd) (hm : mg "need_conditions" = some (.ref f)) (hb : Binds K fd ["sizes", "conditions"] []) (T : Txt K mg) (h_is_conditions : Dfn P w K mg base "is_conditions" ["sizes", "value"] 5 F_is_conditions) : Dfn P w K mg base "need_conditions" ["sizes", "conditions"] 6 F_need_conditions :=
  Dfn.mk' (N := ["sizes", "conditions"]) (body := b_need_conditions) false Fn hm hb sc_need_conditions fun cdv A outer s H E hr =>
    (dss_one (ds_if (dt_not (dt_val (de_call (takes_of rfl rfl rfl rfl) h_is_conditions (hr.mono (by decide)) (af_cons (de_name 0) (af_cons (de_name 1) af_nil))))) (dss_one (ds_raise rfl (takes_of rfl rfl rfl rfl) (pmk_d T.e_InvalidConditions))) dss_nil))
theorem d_fitting {f : Addr} {fd : FuncData} (Fn : Fun K "fitting" "fitting" s_fitting f fd) (hm : mg "fitting" = some (.ref f)) (hb : Binds K fd ["sizes", "conditions"] []) (T : Txt K mg) (h_all_cases : Dfn P w K mg base "all_cases" ["sizes"] 2 F_all_cases) (h_is_fitting : Dfn P w K mg base "is_fitting" ["conditions", "case"] 1 F_is_fitting) (h_need_small : Dfn P w K mg base "need_small" ["sizes"] 2 F_need_small) (h_need_conditions : Dfn P w K mg base "need_conditions" ["sizes", "conditions"] 6 F_need_conditions) (h_need_sizes : Dfn P w K mg base "need_sizes" ["sizes"] 4 F_need_sizes) : Dfn P w K mg base "fitting" ["sizes", "conditions"] 7 F_fitting :=
  Dfn.mk' (N := ["sizes", "conditions", "case"]) (body := b_fitting) false Fn hm hb sc_fitting fun cdv A outer s H E hr =>
    (dss_cons (ds_expr (de_call (takes_of rfl rfl rfl rfl) h_need_sizes (hr.mono (by decide)) (af_cons (de_name 0) af_nil)))
    (dss_cons (ds_expr (de_call (takes_of rfl rfl rfl rfl) h_need_conditions (hr.mono (by decide)) (af_cons (de_name 0) (af_cons (de_name 1) af_nil))))
    (dss_cons (ds_expr (de_call (takes_of rfl rfl rfl rfl) h_need_small (hr.mono (by decide)) (af_cons (de_name 0) af_nil)))
    (dss_one (ds_ret (de_blB bs_len T.z_len boot_len (ap_cons (de_lc [("case", 2)] rfl sc_fitting.nd (di_seq (de_call (takes_of rfl rfl rfl rfl) h_all_cases (hr.mono (by decide)) (af_cons (de_name 0) af_nil))) (blkOk_by (by kernel_rfl)) (fun _ _ _ _ _ => (dg_name 2 sc_fitting.nd)) (fun _ _ _ _ _ => (dts_one (dt_val (de_call takes0 h_is_fitting (hr.mono (by decide)) (af_cons (de_name 1) (af_cons (de_name 2) af_nil)))))) (fun _ _ _ _ _ => (de_name 2))) ap_nil)))))))
theorem d__law_cell {f : Addr} {fd : FuncData} (Fn : Fun K "_law_cell" "_law_cell" s__law_cell f fd) (hm : mg "_law_cell" = some (.ref f)) (hb : Binds K fd ["script", "k"] []) (T : Txt K mg) : Dfn P w K mg base "_law_cell" ["script", "k"] 1 F__law_cell :=
  Dfn.mk' (N := ["script", "k"]) (body := b__law_cell) false Fn hm hb sc__law_cell fun cdv A outer s H E hr =>
    (dss_cons (ds_if (dt_cmp os_lt (de_name 1) (de_blB bs_len T.z_len boot_len (ap_cons (de_name 0) ap_nil))) (dss_one (ds_ret (de_ix (de_name 0) (de_name 1)))) dss_nil)
    (dss_one (ds_ret de_int)))
theorem d__law_draw {f : Addr} {fd : FuncData} (Fn : Fun K "_law_draw" "_law_draw" s__law_draw f fd) (hm : mg "_law_draw" = some (.ref f)) (hb : Binds K fd ["cell", "k", "limit"] []) (T : Txt K mg) : Dfn P w K mg base "_law_draw" ["cell", "k", "limit"] 1 F__law_draw :=
  Dfn.mk' (N := ["cell", "k", "limit", "seed", "first", "second", "third"]) (body := b__law_draw) false Fn hm hb sc__law_draw fun cdv A outer s H E hr =>
    (dss_cons (ds_if (dt_cmp os_ge (de_name 0) (de_bin os_pow de_int de_int)) (dss_one (ds_ret (de_bin os_mod (de_bin os_mod (de_blT bs_int T.z_int boot_int (ap_cons (de_bin os_shr (de_name 0) (de_bin os_mul de_int (de_name 1))) ap_nil)) de_int) (de_name 2)))) dss_nil)
    (dss_cons (ds_setF 3 sc__law_draw.nd (de_bin os_mod (de_blT bs_int T.z_int boot_int (ap_cons (de_bin os_add (de_bin os_add (de_bin os_mul (de_name 0) de_int) (de_bin os_mul (de_bin os_mul de_int (de_name 1)) (de_name 1))) de_int) ap_nil)) de_int))
    (dss_cons (ds_setF 4 sc__law_draw.nd (de_bin os_mod (de_blT bs_int T.z_int boot_int (ap_cons (de_bin os_add (de_bin os_mul (de_name 3) (de_name 3)) (de_bin os_mul de_int (de_name 1))) ap_nil)) de_int))
    (dss_cons (ds_setF 5 sc__law_draw.nd (de_bin os_mod (de_blT bs_int T.z_int boot_int (ap_cons (de_bin os_add (de_bin os_mul (de_name 4) (de_name 4)) (de_name 3)) ap_nil)) de_int))
    (dss_cons (ds_setF 6 sc__law_draw.nd (de_bin os_mod (de_blT bs_int T.z_int boot_int (ap_cons (de_bin os_add (de_bin os_mul (de_name 5) (de_name 5)) (de_name 4)) ap_nil)) de_int))
    (dss_one (ds_ret (de_bin os_mod (de_blT bs_int T.z_int boot_int (ap_cons (de_bin os_fdiv (de_name 6) de_int) ap_nil)) (de_name 2)))))))))
theorem d__law_sizes {f : Addr} {fd : FuncData} (Fn : Fun K "_law_sizes" "_law_sizes" s__law_sizes f fd) (hm : mg "_law_sizes" = some (.ref f)) (hb : Binds K fd ["cell", "more", "most"] []) (T : Txt K mg) (h__law_draw : Dfn P w K mg base "_law_draw" ["cell", "k", "limit"] 1 F__law_draw) : Dfn P w K mg base "_law_sizes" ["cell", "more", "most"] 2 F__law_sizes :=
  Dfn.mk' (N := ["cell", "more", "most", "top", "sheet", "many", "k", "size"]) (body := b__law_sizes) false Fn hm hb sc__law_sizes fun cdv A outer s H E hr =>
    (dss_cons (ds_setF 3 sc__law_sizes.nd (de_ix (de_tup (af_cons de_int (af_cons de_int (af_cons de_int af_nil)))) (de_call (takes_of rfl rfl rfl rfl) h__law_draw (hr.mono (by decide)) (af_cons (de_name 0) (af_cons de_int (af_cons de_int af_nil))))))
    (dss_cons (ds_set 4 sc__law_sizes.nd (de_lst af_nil))
    (dss_cons (ds_setF 5 sc__law_sizes.nd de_int)
    (dss_cons (ds_for (passes_of rfl) rfl (di_rng1 T.z_range (de_call (takes_of rfl rfl rfl rfl) h__law_draw (hr.mono (by decide)) (af_cons (de_name 0) (af_cons de_int (af_cons de_int af_nil))))) (dg_name 6 sc__law_sizes.nd) (dss_cons (ds_setF 7 sc__law_sizes.nd (de_bin os_add de_int (de_call (takes_of rfl rfl rfl rfl) h__law_draw (hr.mono (by decide)) (af_cons (de_name 0) (af_cons (de_bin os_add de_int (de_name 6)) (af_cons (de_name 3) af_nil))))))
    (dss_one (ds_if (dt_cmp os_le (de_bin os_mul (de_name 5) (de_bin os_add (de_name 7) (de_name 1))) (de_name 2)) (dss_cons (ds_app 4 (de_name 7))
    (dss_one (ds_setF 5 sc__law_sizes.nd (de_bin os_mul (de_name 5) (de_bin os_add (de_name 7) (de_name 1)))))) dss_nil))))
    (dss_one (ds_ret (de_nameM 4)))))))
theorem d__law_cases {f : Addr} {fd : FuncData} (Fn : Fun K "_law_cases" "_law_cases" s__law_cases f fd) (hm : mg "_law_cases" = some (.ref f)) (hb : Binds K fd ["sheet"] []) (T : Txt K mg) : Dfn P w K mg base "_law_cases" ["sheet"] 1 F__law_cases :=
  Dfn.mk' (N := ["sheet", "rows", "size", "longer", "row", "part"]) (body := b__law_cases) false Fn hm hb sc__law_cases fun cdv A outer s H E hr =>
    (dss_cons (ds_setF 1 sc__law_cases.nd (de_lst (af_cons (de_lst af_nil) af_nil)))
    (dss_cons (ds_for (passes_of rfl) rfl (di_seq (de_name 0)) (dg_name 2 sc__law_cases.nd) (dss_cons (ds_set 3 sc__law_cases.nd (de_lst af_nil))
    (dss_cons (ds_for (passes_of rfl) rfl (di_seq (de_name 1)) (dg_name 4 sc__law_cases.nd) (dss_one (ds_for (passes_of rfl) rfl (di_rng1 T.z_range (de_name 2)) (dg_name 5 sc__law_cases.nd) (dss_one (ds_app 3 (de_binL opl_cat (de_name 4) (de_lst (af_cons (de_name 5) af_nil))))))))
    (dss_one (ds_setF 1 sc__law_cases.nd (de_nameM 3))))))
    (dss_one (ds_ret (de_name 1)))))
theorem d__law_values {f : Addr} {fd : FuncData} (Fn : Fun K "_law_values" "_law_values" s__law_values f fd) (hm : mg "_law_values" = some (.ref f)) (hb : Binds K fd ["cell", "k", "size"] []) (T : Txt K mg) (h__law_draw : Dfn P w K mg base "_law_draw" ["cell", "k", "limit"] 1 F__law_draw) : Dfn P w K mg base "_law_values" ["cell", "k", "size"] 2 F__law_values :=
  Dfn.mk' (N := ["cell", "k", "size", "part"]) (body := b__law_values) false Fn hm hb sc__law_values fun cdv A outer s H E hr =>
    (dss_one (ds_ret (de_tupOf T.z_tuple (de_lc [("part", 3)] rfl sc__law_values.nd (di_rng1 T.z_range (de_name 2)) (blkOk_by (by kernel_rfl)) (fun _ _ _ _ _ => (dg_name 3 sc__law_values.nd)) (fun _ _ _ _ _ => (dts_one (dt_cmp (os_eq hr) (de_call takes0 h__law_draw (hr.mono (by decide)) (af_cons (de_name 0) (af_cons (de_bin os_add (de_name 1) (de_name 3)) (af_cons de_int af_nil)))) de_int))) (fun _ _ _ _ _ => (de_name 3))))))
theorem d__law_conditions {f : Addr} {fd : FuncData} (Fn : Fun K "_law_conditions" "_law_conditions" s__law_conditions f fd) (hm : mg "_law_conditions" = some (.ref f)) (hb : Binds K fd ["sheet", "cell"] []) (T : Txt K mg) (h__law_draw : Dfn P w K mg base "_law_draw" ["cell", "k", "limit"] 1 F__law_draw) (h__law_values : Dfn P w K mg base "_law_values" ["cell", "k", "size"] 2 F__law_values) : Dfn P w K mg base "_law_conditions" ["sheet", "cell"] 3 F__law_conditions :=
  Dfn.mk' (N := ["sheet", "cell", "single", "found", "field", "values"]) (body := b__law_conditions) false Fn hm hb sc__law_conditions fun cdv A outer s H E hr =>
    (dss_cons (ds_setF 2 sc__law_conditions.nd (de_cmp (os_eq hr) (de_call (takes_of rfl rfl rfl rfl) h__law_draw (hr.mono (by decide)) (af_cons (de_name 1) (af_cons de_int (af_cons de_int af_nil)))) de_int))
    (dss_cons (ds_set 3 sc__law_conditions.nd (de_lst af_nil))
    (dss_cons (ds_for (passes_of rfl) rfl (di_rng1 T.z_range (de_blB bs_len T.z_len boot_len (ap_cons (de_name 0) ap_nil))) (dg_name 4 sc__law_conditions.nd) (dss_one (ds_if ((dw_and (dt_cmp os_lt (de_blB bs_len T.z_len boot_len (ap_cons (de_name 3) ap_nil)) de_int) (dw_and1 (dt_cmp (os_eq hr) (de_call (takes_of rfl rfl rfl rfl) h__law_draw (hr.mono (by decide)) (af_cons (de_name 1) (af_cons (de_bin os_add (de_bin os_mul de_int (de_name 4)) de_int) (af_cons de_int af_nil)))) de_int))).dt) (dss_cons (ds_setF 5 sc__law_conditions.nd (de_call (takes_of rfl rfl rfl rfl) h__law_values (hr.mono (by decide)) (af_cons (de_name 1) (af_cons (de_bin os_add (de_bin os_mul de_int (de_name 4)) de_int) (af_cons (de_ix (de_name 0) (de_name 4)) af_nil)))))
    (dss_cons (ds_if (dt_val (de_name 2)) (dss_one (ds_setF 5 sc__law_conditions.nd (de_tup (af_cons (de_call (takes_of rfl rfl rfl rfl) h__law_draw (hr.mono (by decide)) (af_cons (de_name 1) (af_cons (de_bin os_add (de_bin os_mul de_int (de_name 4)) de_int) (af_cons (de_ix (de_name 0) (de_name 4)) af_nil)))) af_nil)))) dss_nil)
    (dss_one (ds_app 3 (de_tup (af_cons (de_name 4) (af_cons (de_name 5) af_nil))))))) dss_nil)))
    (dss_one (ds_ret (de_tupOf T.z_tuple (de_name 3)))))))
theorem d__law_integer {f : Addr} {fd : FuncData} (Fn : Fun K "_law_integer" "_law_integer" s__law_integer f fd) (hm : mg "_law_integer" = some (.ref f)) (hb : Binds K fd ["found"] []) (T : Txt K mg) : Dfn P w K mg base "_law_integer" ["found"] 1 F__law_integer :=
  Dfn.mk' (N := ["found"]) (body := b__law_integer) false Fn hm hb sc__law_integer fun cdv A outer s H E hr =>
    (dss_one (ds_ret (de_and (de_isi T.z_isinstance T.z_int boot_int ty_int (de_name 0)) (de_one (de_not (de_isi T.z_isinstance T.z_bool boot_bool ty_bool (de_name 0)))))))
theorem d__law_bad_sizes {f : Addr} {fd : FuncData} (Fn : Fun K "_law_bad_sizes" "_law_bad_sizes" s__law_bad_sizes f fd) (hm : mg "_law_bad_sizes" = some (.ref f)) (hb : Binds K fd ["sheet", "cell"] []) (T : Txt K mg) (h__law_draw : Dfn P w K mg base "_law_draw" ["cell", "k", "limit"] 1 F__law_draw) : Dfn P w K mg base "_law_bad_sizes" ["sheet", "cell"] 2 F__law_bad_sizes :=
  Dfn.mk' (N := ["sheet", "cell", "word", "odd", "at", "k"]) (body := b__law_bad_sizes) false Fn hm hb sc__law_bad_sizes fun cdv A outer s H E hr =>
    (dss_cons (ds_setF 2 sc__law_bad_sizes.nd (de_call (takes_of rfl rfl rfl rfl) h__law_draw (hr.mono (by decide)) (af_cons (de_name 1) (af_cons de_int (af_cons de_int af_nil)))))
    (dss_cons (ds_if (dt_cmp (os_eq hr) (de_name 2) de_int) (dss_one (ds_ret (de_tupOf T.z_tuple (de_name 0)))) dss_nil)
    (dss_cons (ds_if (dt_cmp (os_eq hr) (de_name 2) de_int) (dss_one (ds_ret (de_binL opl_cat (de_name 0) (de_lc [("k", 5)] rfl sc__law_bad_sizes.nd (di_rng1 T.z_range (de_bin os_sub de_int (de_blB bs_len T.z_len boot_len (ap_cons (de_name 0) ap_nil)))) (blkOk_by (by kernel_rfl)) (fun _ _ _ _ _ => (dg_name 5 sc__law_bad_sizes.nd)) (fun _ _ _ _ _ => dts_nil) (fun _ _ _ _ _ => de_int))))) dss_nil)
    (dss_cons (ds_if (dt_cmp (os_eq hr) (de_name 2) de_int) (dss_one (ds_ret (de_ix (de_lst (af_cons de_non (af_cons de_str (af_cons de_int (af_cons de_bl (af_cons (de_tup af_nil) (af_cons (de_excV T.e_NotSmall T.vx_NotSmall de_str) af_nil))))))) (de_call (takes_of rfl rfl rfl rfl) h__law_draw (hr.mono (by decide)) (af_cons (de_name 1) (af_cons de_int (af_cons de_int af_nil))))))) dss_nil)
    (dss_cons (ds_setF 3 sc__law_bad_sizes.nd (de_ix (de_lst (af_cons de_int (af_cons de_int (af_cons de_bl (af_cons de_non (af_cons de_int (af_cons (de_un ou_neg de_int) (af_cons de_str (af_cons (de_lst (af_cons de_int af_nil)) (af_cons (de_bin os_pow de_int de_int) af_nil)))))))))) (de_call (takes_of rfl rfl rfl rfl) h__law_draw (hr.mono (by decide)) (af_cons (de_name 1) (af_cons de_int (af_cons de_int af_nil))))))
    (dss_cons (ds_setF 4 sc__law_bad_sizes.nd (de_call (takes_of rfl rfl rfl rfl) h__law_draw (hr.mono (by decide)) (af_cons (de_name 1) (af_cons de_int (af_cons (de_bin os_add (de_blB bs_len T.z_len boot_len (ap_cons (de_name 0) ap_nil)) de_int) af_nil)))))
    (dss_cons (ds_if (dt_cmp os_lt (de_name 2) de_int) (dss_one (ds_ret (de_binL opl_cat (de_binL opl_cat (de_slice (de_name 0) do_none (do_some (de_name 4))) (de_lst (af_cons (de_name 3) af_nil))) (de_slice (de_name 0) (do_some (de_name 4)) do_none)))) dss_nil)
    (dss_one (ds_ret (de_binL opl_cat (de_binL opl_cat (de_slice (de_name 0) do_none (do_some (de_name 4))) (de_lst (af_cons (de_name 3) af_nil))) (de_slice (de_name 0) (do_some (de_bin os_add (de_name 4) de_int)) do_none)))))))))))
theorem d__law_bad_condition {f : Addr} {fd : FuncData} (Fn : Fun K "_law_bad_condition" "_law_bad_condition" s__law_bad_condition f fd) (hm : mg "_law_bad_condition" = some (.ref f)) (hb : Binds K fd ["sheet", "field", "values", "word"] []) (T : Txt K mg) : Dfn P w K mg base "_law_bad_condition" ["sheet", "field", "values", "word"] 1 F__law_bad_condition :=
  Dfn.mk' (N := ["sheet", "field", "values", "word", "menu"]) (body := b__law_bad_condition) false Fn hm hb sc__law_bad_condition fun cdv A outer s H E hr =>
    (dss_cons (ds_setF 4 sc__law_bad_condition.nd (de_lst (af_cons (de_tup (af_cons (de_name 1) (af_cons (de_binU (de_name 2) (de_tup (af_cons (de_ix (de_name 0) (de_name 1)) af_nil))) af_nil))) (af_cons (de_tup (af_cons (de_name 1) (af_cons (de_blLT bl_list T.z_list boot_list (de_name 2)) af_nil))) (af_cons (de_tup (af_cons (de_name 1) (af_cons (de_name 2) (af_cons (de_name 2) af_nil)))) (af_cons (de_tup (af_cons de_bl (af_cons (de_name 2) af_nil))) af_nil))))))
    (dss_cons (ds_setF 4 sc__law_bad_condition.nd (de_binL opl_cat (de_name 4) (de_lst (af_cons (de_tup (af_cons (de_name 1) (af_cons (de_tup (af_cons de_int (af_cons de_int af_nil))) af_nil))) (af_cons (de_tup (af_cons (de_name 1) (af_cons (de_tup (af_cons de_int (af_cons de_int af_nil))) af_nil))) (af_cons (de_tup (af_cons (de_name 1) (af_cons (de_tup (af_cons de_int (af_cons de_bl af_nil))) af_nil))) (af_cons (de_tup (af_cons (de_name 1) (af_cons (de_tup (af_cons (de_un ou_neg de_int) (af_cons de_int af_nil))) af_nil))) (af_cons (de_tup (af_cons (de_un ou_neg de_int) (af_cons (de_name 2) af_nil))) (af_cons (de_tup (af_cons (de_name 1) (af_cons de_non af_nil))) af_nil)))))))))
    (dss_cons (ds_setF 4 sc__law_bad_condition.nd (de_binL opl_cat (de_name 4) (de_lst (af_cons (de_tup (af_cons (de_name 1) (af_cons de_int af_nil))) (af_cons (de_tup (af_cons (de_name 1) af_nil)) (af_cons (de_tup af_nil) (af_cons (de_lst (af_cons (de_name 1) (af_cons (de_name 2) af_nil))) (af_cons (de_name 1) (af_cons de_str (af_cons de_non af_nil))))))))))
    (dss_cons (ds_setF 4 sc__law_bad_condition.nd (de_binL opl_cat (de_name 4) (de_lst (af_cons (de_tup (af_cons (de_blT bs_str T.z_str boot_str (ap_cons (de_name 1) ap_nil)) (af_cons (de_name 2) af_nil))) (af_cons (de_tup (af_cons (de_tup (af_cons (de_name 1) af_nil)) (af_cons (de_name 2) af_nil))) af_nil)))))
    (dss_one (ds_ret (de_ix (de_name 4) (de_bin os_mod (de_blT bs_int T.z_int boot_int (ap_cons (de_name 3) ap_nil)) (de_blB bs_len T.z_len boot_len (ap_cons (de_name 4) ap_nil))))))))))
theorem d__law_bad {f : Addr} {fd : FuncData} (Fn : Fun K "_law_bad" "_law_bad" s__law_bad f fd) (hm : mg "_law_bad" = some (.ref f)) (hb : Binds K fd ["sheet", "pairs", "cell"] []) (T : Txt K mg) (h__law_bad_condition : Dfn P w K mg base "_law_bad_condition" ["sheet", "field", "values", "word"] 1 F__law_bad_condition) (h__law_draw : Dfn P w K mg base "_law_draw" ["cell", "k", "limit"] 1 F__law_draw) : Dfn P w K mg base "_law_bad" ["sheet", "pairs", "cell"] 2 F__law_bad :=
  Dfn.mk' (N := ["sheet", "pairs", "cell", "word", "at", "turned"]) (body := b__law_bad) false Fn hm hb sc__law_bad fun cdv A outer s H E hr =>
    (dss_cons (ds_setF 3 sc__law_bad.nd (de_call (takes_of rfl rfl rfl rfl) h__law_draw (hr.mono (by decide)) (af_cons (de_name 2) (af_cons de_int (af_cons de_int af_nil)))))
    (dss_cons (ds_if (dt_cmp (os_eq hr) (de_name 3) de_int) (dss_one (ds_ret (de_binU (de_name 1) (de_tup (af_cons (de_tup (af_cons (de_blB bs_len T.z_len boot_len (ap_cons (de_name 0) ap_nil)) (af_cons (de_tup af_nil) af_nil))) af_nil))))) dss_nil)
    (dss_cons (ds_if (dt_cmp (os_eq hr) (de_name 3) de_int) (dss_one (ds_ret (de_ix (de_lst (af_cons de_non (af_cons de_int (af_cons de_str (af_cons (de_tup (af_cons de_int af_nil)) (af_cons (de_excV T.e_NotSmall T.vx_NotSmall de_str) (af_cons (de_tup (af_cons (de_tup af_nil) af_nil)) af_nil))))))) (de_call (takes_of rfl rfl rfl rfl) h__law_draw (hr.mono (by decide)) (af_cons (de_name 2) (af_cons de_int (af_cons de_int af_nil))))))) dss_nil)
    (dss_cons (ds_if ((dw_or (dt_cmp (os_eq hr) (de_name 3) de_int) (dw_or1 (dt_cmp (os_eq hr) (de_name 1) (de_tup af_nil)))).dt) (dss_one (ds_ret (de_blLT bl_list T.z_list boot_list (de_name 1)))) dss_nil)
    (dss_cons (ds_if (dt_cmp (os_eq hr) (de_name 3) de_int) (dss_one (ds_ret (de_binU (de_name 1) (de_tup (af_cons (de_ix (de_name 1) (de_call (takes_of rfl rfl rfl rfl) h__law_draw (hr.mono (by decide)) (af_cons (de_name 2) (af_cons de_int (af_cons (de_blB bs_len T.z_len boot_len (ap_cons (de_name 1) ap_nil)) af_nil))))) af_nil))))) dss_nil)
    (dss_cons (ds_if ((dw_and (dt_cmp (os_eq hr) (de_name 3) de_int) (dw_and1 (dt_cmp os_gt (de_blB bs_len T.z_len boot_len (ap_cons (de_name 1) ap_nil)) de_int))).dt) (dss_cons (ds_setF 4 sc__law_bad.nd (de_call (takes_of rfl rfl rfl rfl) h__law_draw (hr.mono (by decide)) (af_cons (de_name 2) (af_cons de_int (af_cons (de_bin os_sub (de_blB bs_len T.z_len boot_len (ap_cons (de_name 1) ap_nil)) de_int) af_nil)))))
    (dss_one (ds_ret (de_binU (de_binU (de_slice (de_name 1) do_none (do_some (de_name 4))) (de_tup (af_cons (de_ix (de_name 1) (de_bin os_add (de_name 4) de_int)) (af_cons (de_ix (de_name 1) (de_name 4)) af_nil)))) (de_slice (de_name 1) (do_some (de_bin os_add (de_name 4) de_int)) do_none))))) dss_nil)
    (dss_cons (ds_setF 4 sc__law_bad.nd (de_call (takes_of rfl rfl rfl rfl) h__law_draw (hr.mono (by decide)) (af_cons (de_name 2) (af_cons de_int (af_cons (de_blB bs_len T.z_len boot_len (ap_cons (de_name 1) ap_nil)) af_nil)))))
    (dss_cons (ds_setF 5 sc__law_bad.nd (de_call (takes_of rfl rfl rfl rfl) h__law_bad_condition (hr.mono (by decide)) (af_cons (de_name 0) (af_cons (de_ix (de_ix (de_name 1) (de_name 4)) de_int) (af_cons (de_ix (de_ix (de_name 1) (de_name 4)) de_int) (af_cons (de_call (takes_of rfl rfl rfl rfl) h__law_draw (hr.mono (by decide)) (af_cons (de_name 2) (af_cons de_int (af_cons de_int af_nil)))) af_nil))))))
    (dss_one (ds_ret (de_binU (de_binU (de_slice (de_name 1) do_none (do_some (de_name 4))) (de_tup (af_cons (de_name 5) af_nil))) (de_slice (de_name 1) (do_some (de_bin os_add (de_name 4) de_int)) do_none))))))))))))
theorem d__law_refused {f : Addr} {fd : FuncData} (Fn : Fun K "_law_refused" "_law_refused" s__law_refused f fd) (hm : mg "_law_refused" = some (.ref f)) (hb : Binds K fd ["sheet", "pairs"] []) (T : Txt K mg) (h_fitting : Dfn P w K mg base "fitting" ["sizes", "conditions"] 7 F_fitting) : Dfn P w K mg base "_law_refused" ["sheet", "pairs"] 8 F__law_refused :=
  Dfn.mk' (N := ["sheet", "pairs", "told"]) (body := b__law_refused) false Fn hm hb sc__law_refused fun cdv A outer s H E hr =>
    (dss_cons (ds_setF 2 sc__law_refused.nd de_str)
    (dss_cons (ds_try3 (takes_of rfl rfl rfl rfl) T.e_InvalidSizes T.e_InvalidConditions T.e_NotSmall T.ap_InvalidSizes_InvalidConditions_NotSmall (fun W1 pn1 xe1 tk1 ps1 => (dss_one (ds_expr (de_call tk1 h_fitting (hr.mono (by decide)) (af_cons (de_name 0) (af_cons (de_name 1) af_nil)))))) (fun a1 pn1 => (dss_one (ds_setF 2 sc__law_refused.nd de_str))) (fun a1 pn1 => (dss_one (ds_setF 2 sc__law_refused.nd de_str))) (fun a1 pn1 => (dss_one (ds_setF 2 sc__law_refused.nd de_str))))
    (dss_one (ds_ret (de_name 2)))))
theorem d_law {f : Addr} {fd : FuncData} (Fn : Fun K "law" "law" s_law f fd) (T : Txt K mg) (h_fitting : Dfn P w K mg base "fitting" ["sizes", "conditions"] 7 F_fitting) (h__law_refused : Dfn P w K mg base "_law_refused" ["sheet", "pairs"] 8 F__law_refused) (h__law_bad : Dfn P w K mg base "_law_bad" ["sheet", "pairs", "cell"] 2 F__law_bad) (h__law_bad_sizes : Dfn P w K mg base "_law_bad_sizes" ["sheet", "cell"] 2 F__law_bad_sizes) (h__law_integer : Dfn P w K mg base "_law_integer" ["found"] 1 F__law_integer) (h__law_conditions : Dfn P w K mg base "_law_conditions" ["sheet", "cell"] 3 F__law_conditions) (h__law_draw : Dfn P w K mg base "_law_draw" ["cell", "k", "limit"] 1 F__law_draw) (h__law_cases : Dfn P w K mg base "_law_cases" ["sheet"] 1 F__law_cases) (h__law_sizes : Dfn P w K mg base "_law_sizes" ["cell", "more", "most"] 2 F__law_sizes) (h__law_cell : Dfn P w K mg base "_law_cell" ["script", "k"] 1 F__law_cell) (hk_fitting_0 : DfnK P w K mg base "fitting" ["sizes", "conditions"] 7 F_fitting ["conditions", "sizes"] [1, 0]) : FnOk P w K mg base (L2.CX P w) 9 f fd ["script"] (spF K mg 1 F_law) :=
  fn_d (N := ["script", "first", "most", "sheet", "cases", "large", "cell", "pairs", "due", "row", "found", "spoiled", "wide", "others", "case", "k", "field", "values"]) (ps := ["script"]) (body := b_law) false Fn sc_law fun cdv A outer s H E hr =>
    (dss_cons (ds_setF 1 sc_law.nd (de_call (takes_of rfl rfl rfl rfl) h__law_cell (hr.mono (by decide)) (af_cons (de_name 0) (af_cons de_int af_nil))))
    (dss_cons (ds_setF 2 sc_law.nd de_int)
    (dss_cons (ds_if (dt_cmp (os_eq hr) (de_call (takes_of rfl rfl rfl rfl) h__law_draw (hr.mono (by decide)) (af_cons (de_name 1) (af_cons de_int (af_cons de_int af_nil)))) de_int) (dss_one (ds_setF 2 sc_law.nd de_int)) dss_nil)
    (dss_cons (ds_setF 3 sc_law.nd (de_call (takes_of rfl rfl rfl rfl) h__law_sizes (hr.mono (by decide)) (af_cons (de_name 1) (af_cons de_int (af_cons (de_name 2) af_nil)))))
    (dss_cons (ds_setF 4 sc_law.nd (de_call (takes_of rfl rfl rfl rfl) h__law_cases (hr.mono (by decide)) (af_cons (de_name 3) af_nil)))
    (dss_cons (ds_setF 5 sc_law.nd (de_binL opl_cat (de_binL opl_cat (de_name 3) (de_lst (af_cons de_int (af_cons de_int (af_cons de_int (af_cons de_int af_nil)))))) (de_ix (de_lst (af_cons (de_lst af_nil) (af_cons (de_lc [("k", 15)] rfl sc_law.nd (di_rng1 T.z_range (de_bin os_sub de_int (de_blB bs_len T.z_len boot_len (ap_cons (de_name 3) ap_nil)))) (blkOk_by (by kernel_rfl)) (fun _ _ _ _ _ => (dg_name 15 sc_law.nd)) (fun _ _ _ _ _ => dts_nil) (fun _ _ _ _ _ => de_int)) af_nil))) (de_call (takes_of rfl rfl rfl rfl) h__law_draw (hr.mono (by decide)) (af_cons (de_name 1) (af_cons de_int (af_cons de_int af_nil)))))))
    (dss_cons (ds_for (passes_of rfl) rfl (di_seq (de_slice (de_name 0) (do_some de_int) (do_some (de_bin os_add de_int (de_blB (bs_min rfl) T.z_min boot_min (ap_cons de_int (ap_cons (de_bin os_fdiv de_int (de_blB bs_len T.z_len boot_len (ap_cons (de_name 4) ap_nil))) ap_nil))))))) (dg_name 6 sc_law.nd) (dss_cons (ds_setF 7 sc_law.nd (de_call (takes_of rfl rfl rfl rfl) h__law_conditions (hr.mono (by decide)) (af_cons (de_name 3) (af_cons (de_name 6) af_nil))))
    (dss_cons (ds_setF 8 sc_law.nd (de_blB bs_len T.z_len boot_len (ap_cons (de_lc [("case", 14)] rfl sc_law.nd (di_seq (de_name 4)) (blkOk_by (by kernel_rfl)) (fun _ _ _ _ _ => (dg_name 14 sc_law.nd)) (fun _ _ _ _ _ => (dts_one (dt_val (de_blB (bs_all rfl) T.z_all boot_all (ap_cons (de_lc [("field", 16), ("values", 17)] rfl sc_law.nd (di_seq (de_name 7)) (blkOk_by (by kernel_rfl)) (fun _ _ _ _ _ => (dg_tup rfl (dgs_cons (dg_name 16 sc_law.nd) (dgs_cons (dg_name 17 sc_law.nd) dgs_nil)) (tg_lenS (tg_lenS tg_len0)))) (fun _ _ _ _ _ => dts_nil) (fun _ _ _ _ _ => (de_cmp os_in (de_ix (de_name 14) (de_name 16)) (de_name 17)))) ap_nil))))) (fun _ _ _ _ _ => (de_name 14))) ap_nil)))
    (dss_cons (ds_setF 9 sc_law.nd (de_blLT bl_list T.z_list boot_list (de_name 3)))
    (dss_cons (ds_setF 10 sc_law.nd (de_call (takes_of rfl rfl rfl rfl) h_fitting (hr.mono (by decide)) (af_cons (de_name 9) (af_cons (de_name 7) af_nil))))
    (dss_cons (ds_if ((dw_or (dt_not (dt_val (de_call (takes_of rfl rfl rfl rfl) h__law_integer (hr.mono (by decide)) (af_cons (de_name 10) af_nil)))) (dw_or (dt_cmp (os_ne hr) (de_name 10) (de_name 8)) (dw_or1 (dt_cmp (os_ne hr) (de_name 9) (de_name 3))))).dt) (dss_one (ds_ret de_bl)) dss_nil)
    (dss_cons (ds_setF 11 sc_law.nd (de_call (takes_of rfl rfl rfl rfl) h__law_bad (hr.mono (by decide)) (af_cons (de_name 3) (af_cons (de_name 7) (af_cons (de_name 6) af_nil)))))
    (dss_cons (ds_if ((dw_or (dt_cmp (os_ne hr) (de_call (takes_of rfl rfl rfl rfl) h__law_refused (hr.mono (by decide)) (af_cons (de_name 3) (af_cons (de_name 11) af_nil))) de_str) (dw_or1 (dt_cmp (os_ne hr) (de_call (takes_of rfl rfl rfl rfl) h__law_refused (hr.mono (by decide)) (af_cons (de_name 5) (af_cons (de_name 7) af_nil))) de_str))).dt) (dss_one (ds_ret de_bl)) dss_nil)
    (dss_cons (ds_setF 12 sc_law.nd (de_call (takes_of rfl rfl rfl rfl) h__law_bad_sizes (hr.mono (by decide)) (af_cons (de_name 3) (af_cons (de_name 6) af_nil))))
    (dss_cons (ds_for (passes_of rfl) rfl (di_seq (de_lst (af_cons (de_tup af_nil) (af_cons (de_name 7) (af_cons (de_name 11) af_nil))))) (dg_name 13 sc_law.nd) (dss_one (ds_if (dt_cmp (os_ne hr) (de_call (takes_of rfl rfl rfl rfl) h__law_refused (hr.mono (by decide)) (af_cons (de_name 12) (af_cons (de_name 13) af_nil))) de_str) (dss_one (ds_ret de_bl)) dss_nil)))
    (dss_cons (ds_setF 11 sc_law.nd (de_call (takes_of rfl rfl rfl rfl) h__law_bad (hr.mono (by decide)) (af_cons (de_name 5) (af_cons (de_name 7) (af_cons (de_name 6) af_nil)))))
    (dss_one (ds_if (dt_cmp (os_ne hr) (de_call (takes_of rfl rfl rfl rfl) h__law_refused (hr.mono (by decide)) (af_cons (de_name 5) (af_cons (de_name 11) af_nil))) de_str) (dss_one (ds_ret de_bl)) dss_nil)))))))))))))
    (dss_one (ds_ret (de_cmp (os_eq hr) (de_callK (takes_of rfl rfl rfl rfl) hk_fitting_0 (hr.mono (by decide)) (kf_cons (de_tup af_nil) (kf_cons (de_blLT bl_list T.z_list boot_list (de_name 3)) kf_nil))) (de_blB bs_len T.z_len boot_len (ap_cons (de_name 4) ap_nil))))))))))))
end
end LW
namespace LW
open PySem PySem.Spec PyProof.Rows L2 DL
theorem fnG_io {N n : Nat} {body : DSn} {ss ρ' : List Slot} {s : Slot} {ys : List D} (h : body (ss ++ List.replicate (N - n) .un) = .rt s ρ') (hh : ρ'.head? = some (.par ys)) (hl : ss.length = n) (hN : n ≤ N) (ha : argsOk true ss = true) : fnG N n true body ss = .ok (s, .par ys :: ss.tail) := by
  unfold fnG
  rw [if_pos ⟨⟨hl, hN⟩, ha⟩, h]
  show (if true = true then _ else _) = _
  rw [if_pos rfl, hh]
inductive All2 {α β : Type} (P : α → β → Prop) : List α → List β → Prop
  | nil : All2 P [] []
  | cons {x y xs ys} : P x y → All2 P xs ys → All2 P (x :: xs) (y :: ys)
theorem All2.snoc {α β : Type} {P : α → β → Prop} {x : α} {y : β} (h : P x y) : ∀ {xs : List α} {ys : List β}, All2 P xs ys → All2 P (xs ++ [x]) (ys ++ [y])
  | _, _, .nil => .cons h .nil
  | _, _, .cons a b => .cons a (b.snoc h)
theorem All2.length {α β : Type} {P : α → β → Prop} : ∀ {xs : List α} {ys : List β}, All2 P xs ys → xs.length = ys.length
  | _, _, .nil => rfl
  | _, _, .cons a b => by rw [List.length_cons, List.length_cons, b.length]
theorem All2.right {α β : Type} {P : α → β → Prop} {Q : β → Prop} (h : ∀ x y, P x y → Q y) : ∀ {xs : List α} {ys : List β}, All2 P xs ys → ∀ y ∈ ys, Q y
  | _, _, .nil => fun y hy => by cases hy
  | _, _, .cons a b => fun y hy => by
    rcases List.mem_cons.mp hy with rfl | hy
    · exact h _ _ a
    · exact b.right h y hy
theorem dSeqI_at {ρ : List Slot} {i : Nat} {xs : List D} (h : ρ[i]? = some (.sh (.lst xs))) : dSeqI (dName i) ρ = .ok ((true, xs), ρ) := by
  simp [h]
abbrev tI (r : List Int) : D := .tup (r.map D.int)
abbrev wD (ws : List (List Int)) : D := .tup (ws.map tI)
def RowOk (s : Nat) (r : List Int) : Prop := r.length = s ∧ ∀ w ∈ r, -50 ≤ w ∧ w ≤ 50
theorem All2.len_le {α β : Type} {P : α → β → Prop} {xs : List α} {ys : List β} (h : All2 P xs ys) {n : Nat} (l : xs.length ≤ n) : ys.length ≤ n := by rw [← h.length]; exact l
/-- the sum of a case -/
def sumC (ws : List (List Int)) (row : List Nat) : Int := ((List.range row.length).map fun i => (ws.getD i []).getD (row.getD i 0) 0).sum
theorem at_tups {ws : List (List Int)} {i : Nat} (h : i < ws.length) : L2.atI (ws.map tI) (i : Int) = some (tI (ws.getD i [])) := by
  refine L2.atI_nat ?_
  rw [List.getElem?_map, List.getD_eq_getElem?_getD, List.getElem?_eq_getElem h]; rfl
theorem at_ints {r : List Int} {i : Nat} (h : i < r.length) : L2.atI (r.map D.int) (i : Int) = some (.int (r.getD i 0)) := by
  refine L2.atI_nat ?_
  rw [List.getElem?_map, List.getD_eq_getElem?_getD, List.getElem?_eq_getElem h]; rfl
def isWhole : D → Bool
  | .int _ => true
  | _ => false
theorem e_is_whole (d : D) : F_is_whole [.sh d] = .ok (.sh (.bl (isWhole d)), [.sh d]) := by
  refine fnG_rt (ρ' := [.sh d]) ?_ rfl (by decide) rfl
  cases d <;> rfl
theorem e_is_below (n b : Int) : F_is_below [.sh (.int n), .sh (.int b)] = .ok (.sh (.bl (decide (0 ≤ n ∧ n < b))), [.sh (.int n), .sh (.int b)]) := by
  refine fnG_rt (ρ' := [.sh (.int n), .sh (.int b)]) ?_ rfl (by decide) rfl
  by_cases h : 0 ≤ n <;> by_cases h2 : n < b <;> simp [b_is_below, e_is_whole, isWhole, h, h2]
def SzOk (sz : List Nat) : Prop := sz.length ≤ 24 ∧ ∀ s ∈ sz, 2 ≤ s ∧ s ≤ 6
theorem e_is_sizes {sz : List Nat} (h : SzOk sz) : F_is_sizes [.sh (nats sz)] = .ok (.sh (.bl true), [.sh (nats sz)]) := by
  refine fnG_rt (ρ' := [.sh (nats sz), .un]) ?_ rfl (by decide) rfl
  have hl := h.1
  have e := dLc_mapS (fr := true) (it := dSeqI (dName 0)) (te := dAnd (dCall 2 F_is_below (dConsF (dName 1) (dConsF (dBin true gAdd (dC (.int (6))) (dC (.int 1))) (dNil)))) (dBin true gGt (dName 1) (dC (.int 1)))) (v := 1) (ρ := [.sh (nats sz), .un]) (ρ1 := [.sh (nats sz), .un]) sz nI (fun _ => D.bl true) (fz := true) (dSeqI_at rfl) rfl rfl rfl (small_line (by omega)) (fun s hs => by
    have hs := h.2 s hs
    have e := e_is_below s 7
    rw [decide_eq_true (show (0 : Int) ≤ s ∧ (s : Int) < 7 by omega)] at e
    have l : (1 : Int) < (s : Int) := by omega
    simp [e]
    omega)
  have g := gAll_true sz
  refine dSeq_nx (ρ1 := [.sh (nats sz), .un]) ?_ ?_
  · simp
    omega
  · show dRet _ [.sh (nats sz), .un] = _
    simp [e, g]
theorem e_need_sizes {sz : List Nat} (h : SzOk sz) : F_need_sizes [.sh (nats sz)] = .ok (.sh .non, [.sh (nats sz)]) := by
  refine fnG_nx (ρ' := [.sh (nats sz)]) ?_ rfl (by decide) rfl
  have e := e_is_sizes h
  show dIf _ _ _ _ = _
  simp [e]
theorem All2.get {α β : Type} {P : α → β → Prop} : ∀ {xs : List α} {ys : List β} {i : Nat} {x : α} {y : β}, All2 P xs ys → xs[i]? = some x → ys[i]? = some y → P x y
  | _, _, 0, _, _, .cons a b, h1, h2 => by cases h1; cases h2; exact a
  | _, _, i + 1, _, _, .cons a b, h1, h2 => b.get (i := i) h1 h2
theorem zip_eq {α β : Type} (c : α → D) (c2 : β → D) (d : α) (d2 : β) (xs : List α) (ys : List β) (h : xs.length = ys.length) : (((xs.map c).zip (ys.map c2)).map fun p => D.tup [p.1, p.2]) = (List.range xs.length).map fun i => D.tup [c (xs.getD i d), c2 (ys.getD i d2)] := by
  refine List.ext_getElem (by simp [h]) fun i h1 h2 => ?_
  have a : i < xs.length := by simpa using h2
  have b : i < ys.length := by omega
  simp [a, b]
/-- a row of weights for a field of s values -/
def RowN (s : Nat) (r : List Int) : Prop := r.length = s
theorem All2.imp {α β : Type} {P Q : α → β → Prop} (h : ∀ x y, P x y → Q x y) : ∀ {xs : List α} {ys : List β}, All2 P xs ys → All2 Q xs ys
  | _, _, .nil => .nil
  | _, _, .cons a b => .cons (h _ _ a) (b.imp h)
theorem row_n {sz : List Nat} {ws : List (List Int)} (h : All2 RowOk sz ws) : All2 RowN sz ws := h.imp fun _ _ r => r.1
theorem row_at {sz : List Nat} {ws : List (List Int)} (ha : All2 RowN sz ws) {i : Nat} (hi : i < ws.length) : (ws.getD i []).length = sz.getD i 0 := by
  have h1 : ws[i]? = some (ws.getD i []) := by
    rw [List.getD_eq_getElem?_getD, List.getElem?_eq_getElem hi]; rfl
  have h2 : sz[i]? = some (sz.getD i 0) := by
    rw [List.getD_eq_getElem?_getD, List.getElem?_eq_getElem (by rw [ha.length]; exact hi)]; rfl
  exact ha.get h2 h1
theorem sum_lens : ∀ {sz : List Nat} {ws : List (List Int)}, All2 RowN sz ws → (∀ s ∈ sz, s ≤ 6) → (ws.map fun r => r.length).sum ≤ 6 * ws.length
  | _, _, .nil, _ => Nat.le_refl _
  | _, _, .cons a b, h => by
    have ih := sum_lens b fun s hs => h s (List.mem_cons_of_mem _ hs)
    have := h _ List.mem_cons_self
    have := (show _ = _ from a)
    rw [List.map_cons, List.sum_cons, List.length_cons]
    omega
theorem lc_whole (ws : List (List Int)) (a : D) (s4 : Slot) (hl : (ws.map fun r => r.length).sum ≤ 1000) : dLc2 true (dSeqI (dName 1)) (tgN 2) (dYes) (dSeqI (dName 2)) (tgN 3) (dYes) (dCall 1 F_is_whole (dConsF (dName 3) (dNil))) [2, 3] [3] [.sh a, .sh (wD ws), .un, .un, s4] = .ok (.own (ws.map fun r => r.map fun _ => D.bl true).flatten, [.sh a, .sh (wD ws), .un, .un, s4]) :=
  dLc2_eq (fz := true) ws tI D.int (fun r => r) (fun _ _ => D.bl true) (by simp) rfl rfl rfl (by decide) rfl (fun r _ => by simp) (fun r _ x _ => ⟨.sh (.bl true), by
    have e := e_is_whole (.int x)
    simp [e, isWhole], rfl⟩) (by rw [sizeLine_eq]; omega)
theorem flat_true (ws : List (List Int)) : gAll [.lst (ws.map fun r => r.map fun _ => D.bl true).flatten] = some (.bl true) := by
  have e : (ws.map fun r => r.map fun _ => D.bl true).flatten = (ws.flatten).map fun _ => D.bl true := by
    rw [List.map_flatten]
  rw [e]
  exact gAll_true _
abbrev cardD (ws : List (List Int)) (b : Int) : D := .tup [.str "card", wD ws, .int b]
theorem strT {ρ : List Slot} {i : Nat} {a b : Str} {c : Bool} (h : ρ[i]? = some (.sh (.str a))) (e : (a == b) = c) (oa : PyData.strOk a = true := by decide +kernel) (ob : PyData.strOk b = true := by decide +kernel) : dBinT true gEq (dName i) (dC (.str b)) ρ = .ok (c, ρ) := by
  simp [h, e, oa, ob]
theorem strN {f : DEn} {ρ : List Slot} {a b : Str} {c : Bool} (h : f ρ = .ok (.sh (.str a), ρ)) (e : (a != b) = c) (oa : PyData.strOk a = true := by decide +kernel) (ob : PyData.strOk b = true := by decide +kernel) : dBinT true gNe f (dC (.str b)) ρ = .ok (c, ρ) := by
  have e : (!(a == b)) = c := e
  simp [h, e, oa, ob]
theorem strB {ρ : List Slot} {i : Nat} {a b : Str} {c : Bool} (h : ρ[i]? = some (.sh (.str a))) (e : (a == b) = c) (oa : PyData.strOk a = true := by decide +kernel) (ob : PyData.strOk b = true := by decide +kernel) : dBin true gEq (dName i) (dC (.str b)) ρ = .ok (.sh (.bl c), ρ) := by
  simp [h, e, oa, ob]
def minL : List Int → Int
  | [] => 0
  | n :: ns => ns.foldl min n
def maxL : List Int → Int
  | [] => 0
  | n :: ns => ns.foldl max n
theorem minL_mem {r : List Int} (h : r ≠ []) : minL r ∈ r ∧ ∀ y ∈ r, minL r ≤ y := by
  cases r with
  | nil => exact absurd rfl h
  | cons n ns => exact foldl_min_mem ns n
theorem maxL_mem {r : List Int} (h : r ≠ []) : maxL r ∈ r ∧ ∀ y ∈ r, y ≤ maxL r := by
  cases r with
  | nil => exact absurd rfl h
  | cons n ns => exact foldl_max_mem ns n
theorem minL_is {r : List Int} {m : Int} (hm : m ∈ r) (h : ∀ y ∈ r, m ≤ y) : minL r = m := by
  obtain ⟨a, b⟩ := minL_mem (r := r) (fun e => by rw [e] at hm; cases hm)
  exact Int.le_antisymm (b m hm) (h _ a)
theorem maxL_is {r : List Int} {m : Int} (hm : m ∈ r) (h : ∀ y ∈ r, y ≤ m) : maxL r = m := by
  obtain ⟨a, b⟩ := maxL_mem (r := r) (fun e => by rw [e] at hm; cases hm)
  exact Int.le_antisymm (h _ a) (b m hm)
theorem gMin_of {r : List Int} (h : r ≠ []) : gMin [.lst (r.map D.int)] = some (.int (minL r)) := by
  cases r with
  | nil => exact absurd rfl h
  | cons n ns =>
    show (asInts ((n :: ns).map D.int)).bind _ = _
    rw [asInts_ints]; rfl
theorem gMax_of {r : List Int} (h : r ≠ []) : gMax [.lst (r.map D.int)] = some (.int (maxL r)) := by
  cases r with
  | nil => exact absurd rfl h
  | cons n ns =>
    show (asInts ((n :: ns).map D.int)).bind _ = _
    rw [asInts_ints]; rfl
theorem gSum_ints (xs : List Int) : gSum [.lst (xs.map D.int)] = some (.int xs.sum) := by
  have g := gSum_of (fun i : Int => i) xs
  rw [List.map_id'] at g
  exact g
theorem tupI_at {ρ : List Slot} {i : Nat} {r : List Int} (h : ρ[i]? = some (.sh (tI r))) : dSeqI (dName i) ρ = .ok ((true, r.map D.int), ρ) := by
  simp [h]
theorem row_ne {sz : List Nat} {ws : List (List Int)} (h : SzOk sz) (ha : All2 RowN sz ws) : ∀ r ∈ ws, r ≠ [] ∧ r.length ≤ 6 := by
  intro r hr
  obtain ⟨i, hi, rfl⟩ := List.getElem_of_mem hr
  have hi2 : i < sz.length := by rw [ha.length]; exact hi
  have a := ha.get (i := i) (List.getElem?_eq_getElem hi2) (List.getElem?_eq_getElem hi)
  have b := h.2 sz[i] (List.getElem_mem hi2)
  have l := (show _ = _ from a)
  refine ⟨fun e => ?_, by omega⟩
  rw [e, List.length_nil] at l
  omega
theorem getD_mem {ws : List (List Int)} {i : Nat} (h : i < ws.length) : ws.getD i [] ∈ ws := by
  rw [List.getD_eq_getElem?_getD, List.getElem?_eq_getElem h]
  exact List.getElem_mem h
theorem map_range_getD (ws : List (List Int)) (f : List Int → D) : (List.range ws.length).map (fun i => f (ws.getD i [])) = ws.map f := by
  refine List.ext_getElem (by simp) fun i h1 h2 => ?_
  have a : i < ws.length := by simpa using h2
  simp [a]
theorem range_at {n i : Nat} {pre post : List Nat} (e : List.range n = pre ++ i :: post) : i = pre.length ∧ i < n := by
  have h : (List.range n)[pre.length]? = some i := by rw [e]; simp
  have hlt : pre.length < n := by
    have := (List.getElem?_eq_some_iff.mp h).1
    simpa using this
  rw [List.getElem?_range hlt] at h
  have := Option.some.inj h
  omega
def EndOk (most : Bool) (r : List Int) (i : Nat) : Prop := i < r.length ∧ ∀ j, j < r.length → if most = true then r.getD j 0 ≤ r.getD i 0 else r.getD i 0 ≤ r.getD j 0
/-- a call that writes the own list in slot i -/
theorem e_io2 {G : DFn} {n i : Nat} {b b' ds : List D} {ρ rest : List Slot} {r r' : Slot} {fa : DLn} (hi : ρ[i]? = some (.own b)) (hf : fa ρ = .ok (ds, ρ)) (hn : ds.length + 1 = n) (e : G (.par b :: ds.map .sh) = .ok (r, .par b' :: rest)) (hr : r.ret = some r') :
    dCallIO i n G fa ρ = .ok (r', ρ.set i (.own b')) := by
  unfold dCallIO
  cases r <;> first | (cases hr; done) | (cases hr; simp [hi, hf, hn, e])
theorem sum_map_sub {α : Type} (f g : α → Int) : ∀ l : List α, (l.map fun x => f x - g x).sum = (l.map f).sum - (l.map g).sum
  | [] => by simp
  | x :: l => by
    have := sum_map_sub f g l
    simp only [List.map_cons, List.sum_cons]
    omega
theorem getD_map {α β : Type} (f : α → β) (xs : List α) (i : Nat) (a : α) (b : β) (h : i < xs.length) : (xs.map f).getD i b = f (xs.getD i a) := by
  simp [h]
theorem sum_range_getD (ws : List (List Int)) (f : List Int → Int) : ((List.range ws.length).map fun i => f (ws.getD i [])).sum = (ws.map f).sum := by
  congr 1
  refine List.ext_getElem (by simp) fun i h1 h2 => ?_
  have a : i < ws.length := by simpa using h2
  simp [a]
/-- a row of values of the sheet's fields -/
def RowIn (ws : List (List Int)) (row : List Nat) : Prop := row.length = ws.length ∧ ∀ i, i < ws.length → row.getD i 0 < (ws.getD i []).length
theorem low_min {r : List Int} (h : r ≠ []) : minL (r.map fun x => x - minL r) = 0 := by
  obtain ⟨a, b⟩ := minL_mem h
  refine minL_is (List.mem_map.mpr ⟨minL r, a, by omega⟩) fun y hy => ?_
  obtain ⟨x, hx, rfl⟩ := List.mem_map.mp hy
  have := b x hx
  omega
theorem row_in {sz row : List Nat} {ws : List (List Int)} (h : All2 RowN sz ws) (hr : All2 (fun s d => d < s) sz row) : RowIn ws row := by
  refine ⟨by rw [← h.length, ← hr.length], fun i hi => ?_⟩
  have l := h.length
  have l2 := hr.length
  rw [row_at h hi]
  refine hr.get (i := i) ?_ ?_
  · rw [List.getD_eq_getElem?_getD, List.getElem?_eq_getElem (by omega)]; rfl
  · rw [List.getD_eq_getElem?_getD, List.getElem?_eq_getElem (by omega)]; rfl
theorem deqs_ints (xs ys : List Int) : deqs (xs.map D.int) (ys.map D.int) = true ↔ xs = ys := deqs_map D.int (fun x y => by simp [deq]) xs ys
theorem deq_tI (r : List Int) : deq (tI r) (tI r) = true := by
  unfold deq
  exact (deqs_ints r r).mpr rfl
theorem deqs_self {α : Type} (f : α → D) (h : ∀ x, deq (f x) (f x) = true) : ∀ xs : List α, deqs (xs.map f) (xs.map f) = true
  | [] => by simp [deqs]
  | x :: xs => by
    rw [List.map_cons, deqs, h x, deqs_self f h xs]; rfl
theorem fit_tI (r : List Int) (n : Nat) : D.fit (tI r) (n + 1) = true := fits_ints r n
theorem getD_int {r : List Int} {i : Nat} (h : i < r.length) : r.getD i 0 ∈ r := by
  rw [List.getD_eq_getElem?_getD, List.getElem?_eq_getElem h]
  exact List.getElem_mem h
abbrev RowD (sz row : List Nat) : Prop := All2 (fun s d => d < s) sz row
theorem rowD_at {sz row : List Nat} (h : RowD sz row) {i : Nat} (hi : i < sz.length) : row.getD i 0 < sz.getD i 0 := by
  have l := h.length
  refine h.get (i := i) ?_ ?_
  · rw [List.getD_eq_getElem?_getD, List.getElem?_eq_getElem hi]; rfl
  · rw [List.getD_eq_getElem?_getD, List.getElem?_eq_getElem (by omega)]; rfl
def slackC (ws : List (List Int)) (b : Int) (row : List Nat) : Int := if b ≤ sumC ws row then sumC ws row - b else b - 1 - sumC ws row
def dropI (yes : Bool) (r : List Int) (k : Nat) : Int := if yes = true then r.getD k 0 - minL r else maxL r - r.getD k 0
def dropsC (ws : List (List Int)) (b : Int) (row : List Nat) : List Int := (List.range ws.length).map fun i => dropI (decide (b ≤ sumC ws row)) (ws.getD i []) (row.getD i 0)
theorem e_law_cell (ns : List Int) (k : Nat) : F__law_cell [.sh (.scr ns), .sh (nI k)] = .ok (.sh (.int (ns.getD k 0)), [.sh (.scr ns), .sh (nI k)]) := by
  refine fnG_rt (ρ' := [.sh (.scr ns), .sh (nI k)]) ?_ rfl (by decide) rfl
  by_cases h : k < ns.length
  · have a : L2.atI ns (k : Int) = some (ns.getD k 0) := L2.atI_nat (by
      rw [List.getD_eq_getElem?_getD, List.getElem?_eq_getElem h]; rfl)
    have h' : (k : Int) < (ns.length : Int) := by omega
    refine dSeq_rt ?_
    generalize ns.getD k 0 = x at a
    simp [kIx, h, a]
  · have e : ns.getD k 0 = 0 := by
      rw [List.getD_eq_getElem?_getD, List.getElem?_eq_none (by omega)]; rfl
    rw [e]
    refine dSeq_nx (ρ1 := [.sh (.scr ns), .sh (nI k)]) ?_ ?_
    · simp [h]
    · simp
/-- small enough to be drawn from -/
def CellOk (x : Int) : Prop := x.natAbs < 2 ^ 1048577
theorem mod_nat (x : Int) {m : Nat} (h : 0 < m) : ∃ d : Nat, d < m ∧ x % (m : Int) = (d : Int) := by
  have a := Int.emod_nonneg x (show (m : Int) ≠ 0 by omega)
  have b := Int.emod_lt_of_pos x (show (0 : Int) < (m : Int) by omega)
  exact ⟨(x % (m : Int)).toNat, by omega, by omega⟩
theorem draw_ex {x : Int} (hx : CellOk x) {k l : Nat} (hk : k < 10000) (hl : 0 < l) (hl2 : l < 100000) : ∃ d, d < l ∧ F__law_draw [.sh (.int x), .sh (nI k), .sh (nI l)] = .ok (.sh (nI d), [.sh (.int x), .sh (nI k), .sh (nI l)]) := by
  have p : gPow (.int 10) (.int 18) = some (.int (10 ^ 18)) := gPow_ok (by decide) (by decide) (by decide)
  have hl' : (0 : Int) < (l : Int) := by omega
  by_cases c : (10 : Int) ^ 18 ≤ x
  · obtain ⟨d, hd, e⟩ := mod_nat (x / 2 ^ (14 * (k : Int)).toNat % 16384) hl
    refine ⟨d, hd, fnG_rt (ρ' := [.sh (.int x), .sh (nI k), .sh (nI l), .un, .un, .un, .un]) ?_ rfl (by decide) rfl⟩
    have g1 := gMul_ok (show Sz 4 14 by decide) (show Sz 14 (k : Int) by show (k : Int).natAbs < 2 ^ 14; omega)
    have m1 : gMod (.int (x / 2 ^ (14 * (k : Int)).toNat)) (.int 16384) = some (.int (x / 2 ^ (14 * (k : Int)).toNat % 16384)) := gMod_pos (by decide)
    have m2 := gMod_pos (i := x / 2 ^ (14 * (k : Int)).toNat % 16384) hl'
    rw [e] at m2
    have sh : gShr (.int x) (.int (14 * (k : Int))) = some (.int (x / 2 ^ (14 * (k : Int)).toNat)) := by
      show (if (0 : Int) ≤ 14 * (k : Int) then some (D.int (x / 2 ^ (14 * (k : Int)).toNat)) else none) = _
      exact if_pos (by omega)
    have c' : (1000000000000000000 : Int) ≤ x := c
    refine dSeq_rt ?_
    generalize (x / 2 ^ (14 * (k : Int)).toNat) = y at m1 m2 sh e
    simp [-gShr, -gMod, p, c', g1, sh, m1, m2]
  · have c0 : x < 10 ^ 18 := by omega
    have hx2 : Sz 1048577 x := hx
    have sk : Sz 14 (k : Int) := by show (k : Int).natAbs < 2 ^ 14; omega
    have g1 := gMul_ok hx2 (show Sz 16 48271 by decide)
    have g2 := gMul_ok (show Sz 13 7919 by decide) sk
    have s2 : Sz 27 (7919 * (k : Int)) := Sz.mul (show Sz 13 7919 by decide) sk
    have g3 := gMul_ok s2 sk
    have m1 : gMod (.int (x * 48271 + 7919 * (k : Int) * (k : Int) + 30011)) (.int 1000000007) = some (.int ((x * 48271 + 7919 * (k : Int) * (k : Int) + 30011) % 1000000007)) := gMod_pos (by decide)
    have b1 := Int.emod_nonneg (x * 48271 + 7919 * (k : Int) * (k : Int) + 30011) (show (1000000007 : Int) ≠ 0 by decide)
    have b2 := Int.emod_lt_of_pos (x * 48271 + 7919 * (k : Int) * (k : Int) + 30011) (show (0 : Int) < 1000000007 by decide)
    generalize (x * 48271 + 7919 * (k : Int) * (k : Int) + 30011) % 1000000007 = v3 at m1 b1 b2
    have z3 : Sz 31 v3 := by show v3.natAbs < 2 ^ 31; omega
    have g4 := gMul_ok z3 z3
    have g5 := gMul_ok (show Sz 16 60493 by decide) sk
    have m2 : gMod (.int (v3 * v3 + 60493 * (k : Int))) (.int 2147483629) = some (.int ((v3 * v3 + 60493 * (k : Int)) % 2147483629)) := gMod_pos (by decide)
    have b3 := Int.emod_nonneg (v3 * v3 + 60493 * (k : Int)) (show (2147483629 : Int) ≠ 0 by decide)
    have b4 := Int.emod_lt_of_pos (v3 * v3 + 60493 * (k : Int)) (show (0 : Int) < 2147483629 by decide)
    generalize (v3 * v3 + 60493 * (k : Int)) % 2147483629 = v4 at m2 b3 b4
    have z4 : Sz 31 v4 := by show v4.natAbs < 2 ^ 31; omega
    have g6 := gMul_ok z4 z4
    have m3 : gMod (.int (v4 * v4 + v3)) (.int 2147483587) = some (.int ((v4 * v4 + v3) % 2147483587)) := gMod_pos (by decide)
    have b5 := Int.emod_nonneg (v4 * v4 + v3) (show (2147483587 : Int) ≠ 0 by decide)
    have b6 := Int.emod_lt_of_pos (v4 * v4 + v3) (show (0 : Int) < 2147483587 by decide)
    generalize (v4 * v4 + v3) % 2147483587 = v5 at m3 b5 b6
    have z5 : Sz 31 v5 := by show v5.natAbs < 2 ^ 31; omega
    have g7 := gMul_ok z5 z5
    have m4 : gMod (.int (v5 * v5 + v4)) (.int 2147483563) = some (.int ((v5 * v5 + v4) % 2147483563)) := gMod_pos (by decide)
    generalize (v5 * v5 + v4) % 2147483563 = v6 at m4
    have f1 : gFdiv (.int v6) (.int 64) = some (.int (v6 / 64)) := gFdiv_lit (by decide)
    obtain ⟨d, hd, e⟩ := mod_nat (v6 / 64) hl
    have m5 := gMod_pos (i := v6 / 64) hl'
    rw [e] at m5
    refine ⟨d, hd, fnG_rt (ρ' := [.sh (.int x), .sh (nI k), .sh (nI l), .sh (.int v3), .sh (.int v4), .sh (.int v5), .sh (.int v6)]) ?_ rfl (by decide) rfl⟩
    refine dSeq_nx (ρ1 := [.sh (.int x), .sh (nI k), .sh (nI l), .un, .un, .un, .un]) ?_ (dSeq_nx (ρ1 := [.sh (.int x), .sh (nI k), .sh (nI l), .sh (.int v3), .un, .un, .un]) ?_ (dSeq_nx (ρ1 := [.sh (.int x), .sh (nI k), .sh (nI l), .sh (.int v3), .sh (.int v4), .un, .un]) ?_ (dSeq_nx (ρ1 := [.sh (.int x), .sh (nI k), .sh (nI l), .sh (.int v3), .sh (.int v4), .sh (.int v5), .un]) ?_ (dSeq_nx (ρ1 := [.sh (.int x), .sh (nI k), .sh (nI l), .sh (.int v3), .sh (.int v4), .sh (.int v5), .sh (.int v6)]) ?_ ?_))))
    · have c' : ¬ (1000000000000000000 : Int) ≤ x := c
      simp [p, c']
    · show dSetF 3 _ [.sh (.int x), .sh (nI k), .sh (nI l), .un, .un, .un, .un] = _
      simp [-gMod, g1, g2, g3, m1]
    · show dSetF 4 _ [.sh (.int x), .sh (nI k), .sh (nI l), .sh (.int v3), .un, .un, .un] = _
      simp [-gMod, g4, g5, m2]
    · show dSetF 5 _ [.sh (.int x), .sh (nI k), .sh (nI l), .sh (.int v3), .sh (.int v4), .un, .un] = _
      simp [-gMod, g6, m3]
    · show dSetF 6 _ [.sh (.int x), .sh (nI k), .sh (nI l), .sh (.int v3), .sh (.int v4), .sh (.int v5), .un] = _
      simp [-gMod, g7, m4]
    · simp [-gMod, f1, m5]
noncomputable def drw (x : Int) (k l : Nat) : Nat := @dite _ (∃ d, d < l ∧ F__law_draw [.sh (.int x), .sh (nI k), .sh (nI l)] = .ok (.sh (nI d), [.sh (.int x), .sh (nI k), .sh (nI l)])) (Classical.propDecidable _) (fun h => h.choose) fun _ => 0
theorem e_draw {x : Int} (hx : CellOk x) {k l : Nat} (hk : k < 10000) (hl : 0 < l) (hl2 : l < 100000) : drw x k l < l ∧ F__law_draw [.sh (.int x), .sh (nI k), .sh (nI l)] = .ok (.sh (nI (drw x k l)), [.sh (.int x), .sh (nI k), .sh (nI l)]) := by
  have h := draw_ex hx hk hl hl2
  unfold drw
  rw [dif_pos h]
  exact h.choose_spec
/-- the product of the sizes, each with m more -/
def prdM (m : Nat) (sz : List Nat) : Nat := sz.foldl (fun a s => a * (s + m)) 1
theorem prdM_snoc (m : Nat) (sz : List Nat) (s : Nat) : prdM m (sz ++ [s]) = prdM m sz * (s + m) := by
  unfold prdM
  rw [List.foldl_append]; rfl
theorem prdM_pos {m : Nat} {sz : List Nat} (h : ∀ s ∈ sz, 2 ≤ s ∧ s ≤ 6) : 0 < prdM m sz := by
  have key : ∀ (sz : List Nat) (a : Nat), 0 < a → (∀ s ∈ sz, 2 ≤ s ∧ s ≤ 6) → 0 < sz.foldl (fun a s => a * (s + m)) a := by
    intro sz
    induction sz with
    | nil => intro a h _; exact h
    | cons s sz ih =>
      intro a ha h
      have := h s List.mem_cons_self
      exact ih _ (Nat.mul_pos ha (by omega)) fun t ht => h t (List.mem_cons_of_mem _ ht)
  exact key sz 1 (by decide) h
theorem prdM_take {m : Nat} {sz : List Nat} (h : ∀ s ∈ sz, 2 ≤ s ∧ s ≤ 6) {pre post : List Nat} (e : sz = pre ++ post) : prdM m pre ≤ prdM m sz := by
  subst e
  induction post generalizing pre with
  | nil => rw [List.append_nil]; exact Nat.le_refl _
  | cons s post ih =>
    have hs := h s (by simp)
    have q := ih (pre := pre ++ [s]) (by simpa using h)
    rw [List.append_assoc] at q
    refine Nat.le_trans ?_ q
    rw [prdM_snoc]
    exact Nat.le_mul_of_pos_right _ (by omega)
theorem prdM_le {m : Nat} (sz : List Nat) : prdM 0 sz ≤ prdM m sz := by
  have key : ∀ (sz : List Nat) (a b : Nat), a ≤ b → sz.foldl (fun a s => a * (s + 0)) a ≤ sz.foldl (fun a s => a * (s + m)) b := by
    intro sz
    induction sz with
    | nil => intro a b h; exact h
    | cons s sz ih => intro a b h; exact ih _ _ (Nat.mul_le_mul h (by omega))
  exact key sz 1 1 (Nat.le_refl _)
theorem e_law_sizes {x : Int} (hx : CellOk x) {more most : Nat} (hm : more ≤ 1) (h1 : 1 ≤ most) (h2 : most ≤ 2000) :
    ∃ sz : List Nat, sz.length ≤ 10 ∧ (∀ s ∈ sz, 2 ≤ s ∧ s ≤ 6) ∧ prdM more sz ≤ most ∧ F__law_sizes [.sh (.int x), .sh (nI more), .sh (nI most)] = .ok (.own (sz.map nI), [.sh (.int x), .sh (nI more), .sh (nI most)]) := by
  obtain ⟨d1, e1⟩ := e_draw hx (k := 12) (l := 3) (by decide) (by decide) (by decide)
  have ht : ∃ top : Nat, 1 ≤ top ∧ top ≤ 5 ∧ L2.atI [D.int 5, D.int 2, D.int 1] (drw x 12 3 : Int) = some (nI top) := by
    generalize drw x 12 3 = d at d1
    rcases (show d = 0 ∨ d = 1 ∨ d = 2 by omega) with rfl | rfl | rfl
    · exact ⟨5, by decide, by decide, rfl⟩
    · exact ⟨2, by decide, by decide, rfl⟩
    · exact ⟨1, by decide, by decide, rfl⟩
  obtain ⟨top, t1, t2, at1⟩ := ht
  obtain ⟨d2, e2⟩ := e_draw hx (k := 0) (l := 11) (by decide) (by decide) (by decide)
  have e1 : F__law_draw [.sh (.int x), .sh (.int 12), .sh (.int 3)] = _ := e1
  have e2 : F__law_draw [.sh (.int x), .sh (.int 0), .sh (.int 11)] = _ := e2
  generalize drw x 12 3 = dd at e1 at1
  generalize drw x 0 11 = many at d2 e2
  obtain ⟨ρ', e, sz, s6, s7, hl, hs, hp, rfl⟩ := dFor_inv (it := dRng1 (dCall 3 F__law_draw (dConsF (dName 0) (dConsF (dC (.int 0)) (dConsF (dC (.int 11)) (dNil)))))) (g := tgN 6) (body := dSeq (dSetF 7 (dBin true gAdd (dC (.int 2)) (dCall 3 F__law_draw (dConsF (dName 0) (dConsF (dBin true gAdd (dC (.int 1)) (dName 6)) (dConsF (dName 3) (dNil)))))))
    (dIf (dBinT true gLe (dBin true gMul (dName 5) (dBin true gAdd (dName 7) (dName 1))) (dName 2)) (dSeq (dApp 4 (dName 7))
    (dSetF 5 (dBin true gMul (dName 5) (dBin true gAdd (dName 7) (dName 1))))) (dSkip)))
    (ρ := [.sh (.int x), .sh (nI more), .sh (nI most), .sh (nI top), .own [], .sh (nI 1), .un, .un]) (ρ1 := [.sh (.int x), .sh (nI more), .sh (nI most), .sh (nI top), .own [], .sh (nI 1), .un, .un]) (List.range many) nI
    (fun pre ρ => ∃ (sz : List Nat) (s6 s7 : Slot), sz.length ≤ pre.length ∧ (∀ s ∈ sz, 2 ≤ s ∧ s ≤ 6) ∧ prdM more sz ≤ most ∧ ρ = [.sh (.int x), .sh (nI more), .sh (nI most), .sh (nI top), .own (sz.map nI), .sh (nI (prdM more sz)), s6, s7])
    (rngN_ok many (by omega) (by simp [e2])) rfl ⟨[], .un, .un, Nat.zero_le _, fun s hs => absurd hs (by simp), h1, rfl⟩ (fun pre k post ρ e hρ => by
      obtain ⟨sz, s6, s7, hl, hs, hp, rfl⟩ := hρ
      obtain ⟨hk, hk2⟩ := range_at e
      obtain ⟨d3, e3⟩ := e_draw hx (k := 1 + k) (l := top) (by omega) (by omega) (by omega)
      have ek : (1 : Int) + (k : Int) = ((1 + k : Nat) : Int) := by omega
      generalize drw x (1 + k) top = dk at d3 e3
      have e3 : F__law_draw [.sh (.int x), .sh (.int (1 + (k : Int))), .sh (nI top)] = .ok (.sh (nI dk), [.sh (.int x), .sh (.int (1 + (k : Int))), .sh (nI top)]) := by rw [ek]; exact e3
      have s1 : dSetF 7 (dBin true gAdd (dC (.int 2)) (dCall 3 F__law_draw (dConsF (dName 0) (dConsF (dBin true gAdd (dC (.int 1)) (dName 6)) (dConsF (dName 3) (dNil)))))) [.sh (.int x), .sh (nI more), .sh (nI most), .sh (nI top), .own (sz.map nI), .sh (nI (prdM more sz)), .sh (nI k), s7]
          = .nx [.sh (.int x), .sh (nI more), .sh (nI most), .sh (nI top), .own (sz.map nI), .sh (nI (prdM more sz)), .sh (nI k), .sh (nI (2 + dk))] := by
        generalize sz.map nI = o
        simp [e3]
      have gm := gMul_ok (show Sz 11 (prdM more sz : Int) by show (prdM more sz : Int).natAbs < 2 ^ 11; omega) (show Sz 5 (((2 + dk : Nat) : Int) + (more : Int)) by show (((2 + dk : Nat) : Int) + (more : Int)).natAbs < 2 ^ 5; omega)
      have l : (sz.map nI).length < sizeLine := small_line (by rw [List.length_map]; omega)
      have em : ((prdM more sz : Nat) : Int) * (((2 + dk : Nat) : Int) + (more : Int)) = ((prdM more (sz ++ [2 + dk]) : Nat) : Int) := by
        rw [prdM_snoc]
        push_cast
        rfl
      rw [em] at gm
      have pl : (pre ++ [k]).length = pre.length + 1 := by simp
      rw [pl]
      by_cases c : prdM more (sz ++ [2 + dk]) ≤ most
      · refine ⟨_, [.sh (.int x), .sh (nI more), .sh (nI most), .sh (nI top), .own ((sz ++ [2 + dk]).map nI), .sh (nI (prdM more (sz ++ [2 + dk]))), .sh (nI k), .sh (nI (2 + dk))], rfl, .inl (dSeq_nx s1 ?_), sz ++ [2 + dk], _, _, by rw [List.length_append, List.length_singleton]; omega, fun s hs' => ?_, c, rfl⟩
        · rw [List.map_append]
          generalize sz.map nI = o at l
          generalize prdM more (sz ++ [2 + dk]) = p' at gm c
          generalize prdM more sz = p at gm
          generalize 2 + dk = s at gm
          have c' : (p' : Int) ≤ (most : Int) := by omega
          simp [gm, c, l]
        · rcases List.mem_append.mp hs' with z | z
          · exact hs s z
          · rw [List.mem_singleton.mp z]; omega
      · refine ⟨_, [.sh (.int x), .sh (nI more), .sh (nI most), .sh (nI top), .own (sz.map nI), .sh (nI (prdM more sz)), .sh (nI k), .sh (nI (2 + dk))], rfl, .inl (dSeq_nx s1 ?_), sz, _, _, by omega, hs, hp, rfl⟩
        generalize sz.map nI = o at l
        generalize prdM more (sz ++ [2 + dk]) = p' at gm c
        generalize prdM more sz = p at gm
        generalize 2 + dk = s at gm
        simp [gm, c])
  rw [List.length_range] at hl
  refine ⟨sz, by omega, hs, hp, fnG_rt (ρ' := [.sh (.int x), .sh (nI more), .sh (nI most), .sh (nI top), .un, .sh (nI (prdM more sz)), s6, s7]) ?_ rfl (by decide) rfl⟩
  refine dSeq_nx (ρ1 := [.sh (.int x), .sh (nI more), .sh (nI most), .sh (nI top), .un, .un, .un, .un]) ?_ (dSeq_nx (ρ1 := [.sh (.int x), .sh (nI more), .sh (nI most), .sh (nI top), .own [], .un, .un, .un]) ?_ (dSeq_nx (ρ1 := [.sh (.int x), .sh (nI more), .sh (nI most), .sh (nI top), .own [], .sh (nI 1), .un, .un]) ?_ (dSeq_nx e ?_)))
  · show dSetF 3 _ [.sh (.int x), .sh (nI more), .sh (nI most), .un, .un, .un, .un, .un] = _
    simp [e1, kIx, at1]
  · simp
  · simp
  · generalize sz.map nI = o
    simp
theorem e_product {sz : List Nat} (hs : ∀ s ∈ sz, 2 ≤ s ∧ s ≤ 6) (hp : prdM 0 sz ≤ 1000000) (hl : sz.length < 1000) : F_product [.sh (nats sz)] = .ok (.sh (nI (prdM 0 sz)), [.sh (nats sz)]) := by
  obtain ⟨ρ', e, s2, rfl⟩ := dFor_inv (it := dSeqI (dName 0)) (g := tgN 2) (body := dSetF 1 (dBin true gMul (dName 1) (dName 2))) (ρ := [.sh (nats sz), .sh (nI 1), .un]) (ρ1 := [.sh (nats sz), .sh (nI 1), .un]) sz nI
    (fun pre ρ => ∃ s2, ρ = [.sh (nats sz), .sh (nI (prdM 0 pre)), s2]) (dSeqI_at rfl) rfl ⟨.un, rfl⟩ (fun pre s post ρ e hρ => by
      obtain ⟨s2, rfl⟩ := hρ
      have q := prdM_take (m := 0) hs e
      have hs' := hs s (by rw [e]; simp)
      have gm := gMul_ok (show Sz 20 (prdM 0 pre : Int) by show (prdM 0 pre : Int).natAbs < 2 ^ 20; omega) (show Sz 3 (s : Int) by show (s : Int).natAbs < 2 ^ 3; omega)
      refine ⟨_, [.sh (nats sz), .sh (nI (prdM 0 (pre ++ [s]))), .sh (nI s)], rfl, .inl ?_, _, rfl⟩
      rw [prdM_snoc]
      generalize prdM 0 pre = p at gm
      simp [gm])
  refine fnG_rt (ρ' := [.sh (nats sz), .sh (nI (prdM 0 sz)), s2]) ?_ rfl (by decide) rfl
  generalize prdM 0 sz = p at e
  refine dSeq_nx (ρ1 := [.sh (nats sz), .sh (nI 1), .un]) ?_ (dSeq_nx e ?_)
  · simp
  · simp
theorem e_need_small {sz : List Nat} (hs : ∀ s ∈ sz, 2 ≤ s ∧ s ≤ 6) (hp : prdM 0 sz ≤ 1024) (hl : sz.length < 1000) : F_need_small [.sh (nats sz)] = .ok (.sh .non, [.sh (nats sz)]) := by
  refine fnG_nx (ρ' := [.sh (nats sz)]) ?_ rfl (by decide) rfl
  have e := e_product hs (by omega) hl
  show dIf _ _ _ [.sh (nats sz)] = _
  generalize prdM 0 sz = p at e hp
  have q : ¬ (1024 : Int) < (p : Int) := by omega
  generalize nats sz = z at e
  simp [e]
  omega
theorem lrg_nat {f : DEn} {ρ ρ1 : List Slot} (n : Nat) (h : n < 100000) (e : f ρ = .ok (.sh (nI n), ρ1)) : dLRg1 f ρ = .ok (.own ((List.range n).map nI), ρ1) := by
  have ok : rgOk 0 (n : Int) = true := @decide_eq_true _ (_) (by omega)
  have d : rgD 0 (n : Int) = (List.range n).map nI := by
    unfold rgD
    have : ((n : Int) - 0).toNat = n := by omega
    rw [this]
    refine List.map_congr_left fun i _ => ?_
    rw [Int.zero_add]
  unfold dLRg1
  simp [e, ok, d]
def caseStep (rows : List (List Nat)) (s : Nat) : List (List Nat) := (rows.map fun r => (List.range s).map fun p => r ++ [p]).flatten
/-- all cases, ascending -/
def casesL (sz : List Nat) : List (List Nat) := sz.foldl caseStep [[]]
theorem casesL_snoc (sz : List Nat) (s : Nat) : casesL (sz ++ [s]) = caseStep (casesL sz) s := by
  unfold casesL
  rw [List.foldl_append]; rfl
theorem caseStep_len (rows : List (List Nat)) (s : Nat) : (caseStep rows s).length = rows.length * s := by
  unfold caseStep
  induction rows with
  | nil => simp
  | cons r rows ih =>
    rw [List.map_cons, List.flatten_cons, List.length_append, ih, List.length_map, List.length_range, List.length_cons, Nat.succ_mul, Nat.add_comm]
theorem casesL_len (sz : List Nat) : (casesL sz).length = prdM 0 sz := by
  have key : ∀ (sz : List Nat) (rows : List (List Nat)) (a : Nat), rows.length = a → (sz.foldl caseStep rows).length = sz.foldl (fun a s => a * (s + 0)) a := by
    intro sz
    induction sz with
    | nil => intro rows a h; exact h
    | cons s sz ih => intro rows a h; exact ih _ _ (by rw [caseStep_len, h]; rfl)
  exact key sz [[]] 1 rfl
theorem mem_caseStep {rows : List (List Nat)} {s : Nat} {r : List Nat} : r ∈ caseStep rows s ↔ ∃ q ∈ rows, ∃ p < s, r = q ++ [p] := by
  unfold caseStep
  constructor
  · intro h
    obtain ⟨l, hl, hr⟩ := List.mem_flatten.mp h
    obtain ⟨q, hq, rfl⟩ := List.mem_map.mp hl
    obtain ⟨p, hp, rfl⟩ := List.mem_map.mp hr
    exact ⟨q, hq, p, List.mem_range.mp hp, rfl⟩
  · rintro ⟨q, hq, p, hp, rfl⟩
    exact List.mem_flatten.mpr ⟨_, List.mem_map.mpr ⟨q, hq, rfl⟩, List.mem_map.mpr ⟨p, List.mem_range.mpr hp, rfl⟩⟩
theorem casesL_row {sz : List Nat} : ∀ r ∈ casesL sz, RowD sz r := by
  have key : ∀ (post pre : List Nat) (rows : List (List Nat)), (∀ r ∈ rows, RowD pre r) → ∀ r ∈ post.foldl caseStep rows, RowD (pre ++ post) r := by
    intro post
    induction post with
    | nil => intro pre rows h r hr; rw [List.append_nil]; exact h r hr
    | cons s post ih =>
      intro pre rows h r hr
      have q := ih (pre ++ [s]) (caseStep rows s) (fun r hr => by
        obtain ⟨q, hq, p, hp, rfl⟩ := mem_caseStep.mp hr
        exact All2.snoc (P := fun s d => d < s) hp (h q hq)) r hr
      rw [List.append_assoc] at q
      exact q
  intro r hr
  exact key sz [] [[]] (fun r hr => by rw [List.mem_singleton.mp hr]; exact .nil) r hr
theorem step_flat (rows : List (List Nat)) (s : Nat) : ((rows.map fun r => (List.range s).map fun p => nats (r ++ [p])).flatten) = (caseStep rows s).map nats := by
  unfold caseStep
  rw [List.map_flatten, List.map_map]
  congr 1
  refine List.map_congr_left fun r _ => ?_
  show _ = List.map nats (List.map _ _)
  rw [List.map_map]; rfl
theorem row_len {rows : List (List Nat)} {pre : List Nat} (h : ∀ r ∈ rows, RowD pre r) : ∀ r ∈ rows, r.length = pre.length := fun r hr => (h r hr).length.symm
theorem e_law_cases {sz : List Nat} (h : SzOk sz) (hp : prdM 0 sz ≤ 1024) : F__law_cases [.sh (nats sz)] = .ok (.sh (.lst ((casesL sz).map nats)), [.sh (nats sz)]) := by
  obtain ⟨ρ', e, s2, s3, s4, s5, rfl⟩ := dFor_inv (it := dSeqI (dName 0)) (g := tgN 2) (body := dSeq (dSet 3 (dLst (dNil)))
    (dSeq (dFor (dSeqI (dName 1)) (tgN 4) (dFor (dRng1 (dName 2)) (tgN 5) (dApp 3 (dBinL true catL (dName 4) (dLst (dConsF (dName 5) (dNil)))))))
    (dSetF 1 (dNameM 3)))) (ρ := [.sh (nats sz), .sh (.lst [.lst []]), .un, .un, .un, .un]) (ρ1 := [.sh (nats sz), .sh (.lst [.lst []]), .un, .un, .un, .un]) sz nI
    (fun pre ρ => ∃ s2 s3 s4 s5, ρ = [.sh (nats sz), .sh (.lst ((casesL pre).map nats)), s2, s3, s4, s5]) (dSeqI_at rfl) rfl ⟨.un, .un, .un, .un, rfl⟩ (fun pre s post ρ e hρ => by
      obtain ⟨s2, s3, s4, s5, rfl⟩ := hρ
      have hs' := h.2 s (by rw [e]; simp)
      have pl : pre.length ≤ 24 := by
        have := h.1
        rw [e, List.length_append] at this
        omega
      have big : (casesL pre).length * s ≤ 1024 := by
        have q := prdM_take (m := 0) h.2 (pre := pre ++ [s]) (post := post) (by rw [e, List.append_assoc]; rfl)
        rw [prdM_snoc] at q
        rw [casesL_len]
        have : s + 0 = s := rfl
        rw [this] at q
        omega
      have rl := row_len (casesL_row (sz := pre))
      rw [casesL_snoc]
      generalize hrows : casesL pre = rows at big rl
      obtain ⟨ρ'', e2, b4, b5, rfl⟩ := dFor_inv (it := dSeqI (dName 1)) (g := tgN 4) (body := dFor (dRng1 (dName 2)) (tgN 5) (dApp 3 (dBinL true catL (dName 4) (dLst (dConsF (dName 5) (dNil)))))) (ρ := [.sh (nats sz), .sh (.lst (rows.map nats)), .sh (nI s), .own [], s4, s5]) (ρ1 := [.sh (nats sz), .sh (.lst (rows.map nats)), .sh (nI s), .own [], s4, s5]) rows nats
        (fun pr ρ => ∃ b4 b5, ρ = [.sh (nats sz), .sh (.lst (rows.map nats)), .sh (nI s), .own ((caseStep pr s).map nats), b4, b5]) (dSeqI_at rfl) rfl ⟨s4, s5, rfl⟩ (fun pr r po ρ e3 hρ => by
          obtain ⟨b4, b5, rfl⟩ := hρ
          have hr : r.length ≤ 24 := by
            have := rl r (by rw [e3]; simp)
            omega
          have hpr : pr.length < rows.length := by rw [e3, List.length_append, List.length_cons]; omega
          have mul1 : (pr.length + 1) * s ≤ rows.length * s := Nat.mul_le_mul_right s hpr
          rw [Nat.succ_mul] at mul1
          obtain ⟨ρ3, e4, b5', rfl⟩ := dFor_inv (it := dRng1 (dName 2)) (g := tgN 5) (body := dApp 3 (dBinL true catL (dName 4) (dLst (dConsF (dName 5) (dNil))))) (ρ := [.sh (nats sz), .sh (.lst (rows.map nats)), .sh (nI s), .own ((caseStep pr s).map nats), .sh (nats r), b5]) (ρ1 := [.sh (nats sz), .sh (.lst (rows.map nats)), .sh (nI s), .own ((caseStep pr s).map nats), .sh (nats r), b5]) (List.range s) nI
            (fun q ρ => ∃ b5', ρ = [.sh (nats sz), .sh (.lst (rows.map nats)), .sh (nI s), .own ((caseStep pr s).map nats ++ q.map fun p => nats (r ++ [p])), .sh (nats r), b5']) (rngN_ok s (by omega) rfl) rfl ⟨b5, by rw [List.map_nil, List.append_nil]⟩ (fun q p po2 ρ e5 hρ => by
              obtain ⟨b5', rfl⟩ := hρ
              obtain ⟨hq, hp2⟩ := range_at e5
              have l : ((caseStep pr s).map nats ++ q.map fun p => nats (r ++ [p])).length < sizeLine := by
                rw [List.length_append, List.length_map, List.length_map, caseStep_len]
                exact small_line (by omega)
              rw [List.map_append, ← List.append_assoc]
              generalize ((caseStep pr s).map nats ++ q.map fun p => nats (r ++ [p])) = o at l
              have l2 : r.length + 1 ≤ sizeLine := by rw [sizeLine_eq]; omega
              have e6 : nats (r ++ [p]) = .lst (r.map nI ++ [nI p]) := by
                show D.lst ((r ++ [p]).map nI) = _
                rw [List.map_append]; rfl
              refine ⟨_, [.sh (nats sz), .sh (.lst (rows.map nats)), .sh (nI s), .own (o ++ [nats (r ++ [p])]), .sh (nats r), .sh (nI p)], rfl, .inl ?_, _, rfl⟩
              rw [e6]
              generalize rows.map nats = rr
              simp [l, l2])
          refine ⟨_, _, rfl, .inl e4, .sh (nats r), b5', ?_⟩
          have e7 : caseStep (pr ++ [r]) s = caseStep pr s ++ (List.range s).map fun p => r ++ [p] := by
            unfold caseStep
            rw [List.map_append, List.flatten_append]
            simp
          rw [e7, List.map_append, List.map_map]; rfl)
      refine ⟨_, [.sh (nats sz), .sh (.lst ((caseStep rows s).map nats)), .sh (nI s), .un, b4, b5], rfl, .inl (dSeq_nx (ρ1 := [.sh (nats sz), .sh (.lst (rows.map nats)), .sh (nI s), .own [], s4, s5]) ?_ (dSeq_nx e2 ?_)), _, _, _, _, rfl⟩
      · generalize rows.map nats = rr
        rfl
      · generalize rows.map nats = rr
        generalize (caseStep rows s).map nats = r2
        simp)
  refine fnG_rt (ρ' := [.sh (nats sz), .sh (.lst ((casesL sz).map nats)), s2, s3, s4, s5]) ?_ rfl (by decide) rfl
  generalize (casesL sz).map nats = cs at e
  refine dSeq_nx (ρ1 := [.sh (nats sz), .sh (.lst [.lst []]), .un, .un, .un, .un]) ?_ (dSeq_nx e ?_)
  · simp
  · simp
theorem zip_non : ∀ sz : List Nat, ((sz.map nI).zip (sz.map fun _ => D.non)).map (fun p => D.tup [p.1, p.2]) = sz.map fun s => D.tup [nI s, .non]
  | [] => rfl
  | s :: sz => by
    exact congrArg (D.tup [nI s, .non] :: ·) (zip_non sz)
theorem sum_const {α : Type} (rows : List α) (k : Nat) : (rows.map fun _ => k).sum = rows.length * k := by
  induction rows with
  | nil => simp
  | cons r rows ih => rw [List.map_cons, List.sum_cons, ih, List.length_cons, Nat.succ_mul, Nat.add_comm]
theorem e_all_cases {sz : List Nat} (h : SzOk sz) (hp : prdM 0 sz ≤ 1024) : F_all_cases [.sh (nats sz)] = .ok (.sh (.lst ((casesL sz).map nats)), [.sh (nats sz)]) := by
  have lc := dLc_mapS (fr := true) (it := dSeqI (dName 0)) (te := dC .non) (v := 1) (ρ := [.sh (nats sz), .un]) (ρ1 := [.sh (nats sz), .un]) sz nI (fun _ => D.non) (fz := true) (dSeqI_at rfl) rfl rfl rfl (small_line (by have := h.1; omega)) (fun x hx => by simp)
  have zq := zip_non sz
  obtain ⟨ρ', e, s3, s4, s5, rfl⟩ := dFor_inv (it := dZip true (dName 0) (dName 1)) (g := tgTup (tgCons (tgN 3) (tgCons (tgN 4) (tgNil)))) (body := dSeq (dSetF 5 (dIfE (dBinT true gIsNot (dName 4) (dC .non)) (dLst (dConsF (dName 4) (dNil))) (dLRg1 (dName 3))))
    (dSetF 2 (dLc2 true (dSeqI (dName 2)) (tgN 6) (dYes) (dSeqI (dName 5)) (tgN 7) (dYes) (dBinL true catL (dName 6) (dLst (dConsF (dName 7) (dNil)))) [6, 7] [7]))) (ρ := [.sh (nats sz), .sh (.lst (sz.map fun _ => D.non)), .sh (.lst [.lst []]), .un, .un, .un, .un, .un]) (ρ1 := [.sh (nats sz), .sh (.lst (sz.map fun _ => D.non)), .sh (.lst [.lst []]), .un, .un, .un, .un, .un]) sz (fun s => D.tup [nI s, .non])
    (fun pre ρ => ∃ s3 s4 s5, ρ = [.sh (nats sz), .sh (.lst (sz.map fun _ => D.non)), .sh (.lst ((casesL pre).map nats)), s3, s4, s5, .un, .un]) (ds := ((sz.map nI).zip (sz.map fun _ => D.non)).map fun p => D.tup [p.1, p.2]) rfl zq ⟨.un, .un, .un, rfl⟩ (fun pre s post ρ e hρ => by
      obtain ⟨s3, s4, s5, rfl⟩ := hρ
      have hs' := h.2 s (by rw [e]; simp)
      have pl : pre.length ≤ 24 := by
        have := h.1
        rw [e, List.length_append] at this
        omega
      have big : (casesL pre).length * s ≤ 1024 := by
        have q := prdM_take (m := 0) h.2 (pre := pre ++ [s]) (post := post) (by rw [e, List.append_assoc]; rfl)
        rw [prdM_snoc] at q
        rw [casesL_len]
        have : s + 0 = s := rfl
        rw [this] at q
        omega
      have rl := row_len (casesL_row (sz := pre))
      rw [casesL_snoc]
      generalize hrows : casesL pre = rows at big rl
      generalize D.lst (sz.map fun _ => D.non) = nn
      have lr := lrg_nat (f := dName 3) (ρ := [.sh (nats sz), .sh nn, .sh (.lst (rows.map nats)), .sh (nI s), .sh .non, s5, .un, .un]) (ρ1 := [.sh (nats sz), .sh nn, .sh (.lst (rows.map nats)), .sh (nI s), .sh .non, s5, .un, .un]) s (by omega) rfl
      refine ⟨_, [.sh (nats sz), .sh nn, .sh (.lst ((caseStep rows s).map nats)), .sh (nI s), .sh .non, .sh (nats (List.range s)), .un, .un], rfl, .inl (dSeq_nx (ρ1 := [.sh (nats sz), .sh nn, .sh (.lst (rows.map nats)), .sh (nI s), .sh .non, .sh (nats (List.range s)), .un, .un]) ?_ ?_), _, _, _, rfl⟩
      · show dSetF 5 _ [.sh (nats sz), .sh nn, .sh (.lst (rows.map nats)), .sh (nI s), .sh .non, s5, .un, .un] = _
        have c : dBinT true gIsNot (dName 4) (dC .non) [.sh (nats sz), .sh nn, .sh (.lst (rows.map nats)), .sh (nI s), .sh .non, s5, .un, .un] = .ok (false, [.sh (nats sz), .sh nn, .sh (.lst (rows.map nats)), .sh (nI s), .sh .non, s5, .un, .un]) := rfl
        generalize rows.map nats = rr at lr c ⊢
        have lr : _ = Res.ok (Slot.own ((List.range s).map nI), _) := lr
        generalize hrs : (List.range s).map nI = rs at lr
        have hrs : nats (List.range s) = .lst rs := by rw [← hrs]
        rw [hrs]
        simp [-dBinT, c, lr]
      · show dSetF 2 _ [.sh (nats sz), .sh nn, .sh (.lst (rows.map nats)), .sh (nI s), .sh .non, .sh (nats (List.range s)), .un, .un] = _
        have l2 := dLc2_eq (fr := true) (fz := true) (it := dSeqI (dName 2)) (it1 := dSeqI (dName 5)) (te := dBinL true catL (dName 6) (dLst (dConsF (dName 7) (dNil)))) (v := 6) (u := 7) (ρ := [.sh (nats sz), .sh nn, .sh (.lst (rows.map nats)), .sh (nI s), .sh .non, .sh (nats (List.range s)), .un, .un]) (ρ1 := [.sh (nats sz), .sh nn, .sh (.lst (rows.map nats)), .sh (nI s), .sh .non, .sh (nats (List.range s)), .un, .un]) rows nats nI (fun _ => List.range s) (fun r p => nats (r ++ [p])) (dSeqI_at rfl) rfl rfl rfl (by decide) rfl (fun r hr => dSeqI_at rfl) (fun r hr p hp => ⟨.own (r.map nI ++ [nI p]), by
            have := rl r hr
            have l2 : r.length + 1 ≤ sizeLine := by rw [sizeLine_eq]; omega
            generalize rows.map nats = rr
            generalize nats (List.range s) = rs
            simp [l2], by
            show some (D.lst _) = some (D.lst _)
            rw [List.map_append]; rfl⟩) (by
            have e : (rows.map fun _ => (List.range s).length).sum = rows.length * s := by rw [List.length_range, sum_const]
            rw [e, sizeLine_eq]
            omega)
        rw [step_flat] at l2
        generalize rows.map nats = rr at l2 ⊢
        generalize nats (List.range s) = rs at l2 ⊢
        generalize (caseStep rows s).map nats = r2 at l2 ⊢
        simp [l2])
  have ec : F_cases_of [.sh (nats sz), .sh (.lst (sz.map fun _ => D.non))] = .ok (.sh (.lst ((casesL sz).map nats)), [.sh (nats sz), .sh (.lst (sz.map fun _ => D.non))]) := by
    refine fnG_rt (ρ' := [.sh (nats sz), .sh (.lst (sz.map fun _ => D.non)), .sh (.lst ((casesL sz).map nats)), s3, s4, s5, .un, .un]) ?_ rfl (by decide) rfl
    generalize (casesL sz).map nats = cs at e
    generalize D.lst (sz.map fun _ => D.non) = nn at e
    refine dSeq_nx (ρ1 := [.sh (nats sz), .sh nn, .sh (.lst [.lst []]), .un, .un, .un, .un, .un]) ?_ (dSeq_nx e ?_)
    · simp
    · simp
  refine fnG_rt (ρ' := [.sh (nats sz), .un]) ?_ rfl (by decide) rfl
  show dRet _ [.sh (nats sz), .un] = _
  generalize (casesL sz).map nats = cs at ec
  generalize (sz.map fun _ => D.non) = nn at ec lc
  generalize nats sz = z at ec lc
  simp [lc, ec]
abbrev tN (vs : List Nat) : D := .tup (vs.map nI)
abbrev condD (c : Nat × List Nat) : D := .tup [nI c.1, tN c.2]
abbrev condsD (cs : List (Nat × List Nat)) : D := .tup (cs.map condD)
abbrev ruleD (r : List (Nat × List Nat) × Bool) : D := .tup [condsD r.1, .bl r.2]
theorem notInW {ρ : List Slot} {i : Nat} {w : Str} {c : Bool} (h : ρ[i]? = some (.sh (.str w))) (e : (!(("and" : Str) == w || (("or" : Str) == w || ("odd" : Str) == w))) = c) : dBinT true gNotIn (dName i) (dTup (dConsF (dC (.str "and")) (dConsF (dC (.str "or")) (dConsF (dC (.str "odd")) (dNil))))) ρ = .ok (c, ρ) := by
  subst e
  simp [h]
theorem inW {ρ : List Slot} {i : Nat} {w : Str} (h : ρ[i]? = some (.sh (.str w))) (e : (("and" : Str) == w || (("or" : Str) == w || ("odd" : Str) == w)) = true) : dBin true gIn (dName i) (dTup (dConsF (dC (.str "and")) (dConsF (dC (.str "or")) (dConsF (dC (.str "odd")) (dNil))))) ρ = .ok (.sh (.bl true), ρ) := by
  simp [h]
  simpa using e
theorem asc_getD {fs : List Nat} (h : fs.Pairwise (· < ·)) {i j : Nat} (hij : i < j) (hj : j < fs.length) : fs.getD i 0 < fs.getD j 0 := by
  rw [List.getD_eq_getElem?_getD, List.getElem?_eq_getElem (by omega), List.getD_eq_getElem?_getD, List.getElem?_eq_getElem hj]
  exact List.pairwise_iff_getElem.mp h i j (by omega) hj hij
theorem e_is_values {s : Nat} {vs : List Nat} (hb : ∀ v ∈ vs, v < s) (hp : vs.Pairwise (· < ·)) (hl : vs.length < 1000) : F_is_values [.sh (nI s), .sh (tN vs)] = .ok (.sh (.bl true), [.sh (nI s), .sh (tN vs)]) := by
  refine fnG_rt (ρ' := [.sh (nI s), .sh (tN vs), .un, .un]) ?_ rfl (by decide) rfl
  have e1 := dLc_mapS (fr := true) (it := dSeqI (dName 1)) (te := dCall 2 F_is_below (dConsF (dName 3) (dConsF (dName 0) (dNil)))) (v := 3) (ρ := [.sh (nI s), .sh (tN vs), .un, .un]) (ρ1 := [.sh (nI s), .sh (tN vs), .un, .un]) vs nI (fun _ => D.bl true) (fz := true) rfl rfl rfl rfl (small_line (by omega)) (fun m h => by
    have := hb m h
    have e := e_is_below m s
    rw [decide_eq_true (show (0 : Int) ≤ m ∧ (m : Int) < s by omega)] at e
    generalize tN vs = t
    simp [e])
  have e2 := dLc_mapS (fr := true) (it := dRng1 (dBin true gSub (dBl gLen (dConsP true (dName 1) (dNil))) (dC (.int 1)))) (te := dBin true gLt (dIx true (dName 1) (dName 2)) (dIx true (dName 1) (dBin true gAdd (dName 2) (dC (.int 1))))) (v := 2) (ρ := [.sh (nI s), .sh (tN vs), .un, .un]) (ρ1 := [.sh (nI s), .sh (tN vs), .un, .un]) (List.range (vs.length - 1)) nI (fun _ => D.bl true) (fz := true) (rngI_ok vs.length (by omega) (by simp)) rfl rfl rfl (small_line (by rw [List.length_range]; omega)) (fun i h => by
    have h := List.mem_range.mp h
    have a := at_nat (xs := vs) (i := i) (by omega)
    have c := at_nat1 (xs := vs) (i := i) (by omega)
    have l := asc_getD hp (i := i) (j := i + 1) (by omega) (by omega)
    generalize vs.getD i 0 = x at a l
    generalize vs.getD (i + 1) 0 = y at c l
    simp [kIx, a, c, l])
  have g1 := gAll_true vs
  have g2 := gAll_true (List.range (vs.length - 1))
  generalize (vs.map fun _ => D.bl true) = u1 at e1 g1
  generalize (List.range (vs.length - 1)).map (fun _ => D.bl true) = u2 at e2 g2
  refine dSeq_nx (ρ1 := [.sh (nI s), .sh (tN vs), .un, .un]) ?_ ?_
  · show dIf _ _ _ [.sh (nI s), .sh (tN vs), .un, .un] = _
    have ti : dIsi "tuple" (dName 1) [.sh (nI s), .sh (tN vs), .un, .un] = .ok (.sh (.bl true), [.sh (nI s), .sh (tN vs), .un, .un]) := rfl
    generalize tN vs = t at e1 ti
    simp [-dIsi, ti, e1, g1]
  · show dRet _ [.sh (nI s), .sh (tN vs), .un, .un] = _
    generalize tN vs = t at e2
    simp [e2, g2]
def CondOk (sz : List Nat) (c : Nat × List Nat) : Prop := c.1 < sz.length ∧ (∀ v ∈ c.2, v < sz.getD c.1 0) ∧ c.2.Pairwise (· < ·) ∧ c.2.length < 1000
theorem e_is_condition {sz : List Nat} {c : Nat × List Nat} (h : CondOk sz c) (hl : sz.length < 1000) : F_is_condition [.sh (nats sz), .sh (condD c)] = .ok (.sh (.bl true), [.sh (nats sz), .sh (condD c)]) := by
  obtain ⟨h1, h2, h3, h4⟩ := h
  have ev := e_is_values h2 h3 h4
  have eb := e_is_below c.1 sz.length
  rw [decide_eq_true (show (0 : Int) ≤ (c.1 : Int) ∧ (c.1 : Int) < (sz.length : Int) by omega)] at eb
  have at1 := at_nat h1
  refine fnG_rt (ρ' := [.sh (nats sz), .sh (condD c)]) ?_ rfl (by decide) rfl
  have a0 : dIx true (dName 1) (dC (.int 0)) [.sh (nats sz), .sh (condD c)] = .ok (.sh (nI c.1), [.sh (nats sz), .sh (condD c)]) := rfl
  have a1 : dIx true (dName 1) (dC (.int 1)) [.sh (nats sz), .sh (condD c)] = .ok (.sh (tN c.2), [.sh (nats sz), .sh (condD c)]) := rfl
  have ti : dIsi "tuple" (dName 1) [.sh (nats sz), .sh (condD c)] = .ok (.sh (.bl true), [.sh (nats sz), .sh (condD c)]) := rfl
  have c2 : dBinT true gNe (dBl gLen (dConsP true (dName 1) (dNil))) (dC (.int 2)) [.sh (nats sz), .sh (condD c)] = .ok (false, [.sh (nats sz), .sh (condD c)]) := rfl
  generalize tN c.2 = t at ev a1
  generalize condD c = cd at a0 a1 ti c2
  generalize c.1 = f at *
  generalize sz.getD f 0 = s at ev at1
  have a3 : dIx true (dName 0) (dIx true (dName 1) (dC (.int 0))) [.sh (nats sz), .sh cd] = .ok (.sh (nI s), [.sh (nats sz), .sh cd]) := by
    rw [dIx]
    show Res.bind (Res.ok (Slot.sh (nats sz), [Slot.sh (nats sz), Slot.sh cd])) _ = _
    simp [-dIx, a0, kIx, at1]
  refine dSeq_nx (ρ1 := [.sh (nats sz), .sh cd]) ?_ ?_
  · show dIf _ _ _ [.sh (nats sz), .sh cd] = _
    simp [-dIx, -dIsi, -dBinT, a0, ti, c2, eb]
  · show dRet _ [.sh (nats sz), .sh cd] = _
    simp [-dIx, a1, a3, ev]
structure CondsOk (sz : List Nat) (cs : List (Nat × List Nat)) : Prop where
  ok : ∀ c ∈ cs, CondOk sz c
  asc : (cs.map (·.1)).Pairwise (· < ·)
  few : cs.length ≤ 24
theorem e_is_conditions {sz : List Nat} {cs : List (Nat × List Nat)} (h : CondsOk sz cs) (hl : sz.length < 1000) : F_is_conditions [.sh (nats sz), .sh (condsD cs)] = .ok (.sh (.bl true), [.sh (nats sz), .sh (condsD cs)]) := by
  have few := h.few
  refine fnG_rt (ρ' := [.sh (nats sz), .sh (condsD cs), .un, .un]) ?_ rfl (by decide) rfl
  have e1 := dLc_mapS (fr := true) (it := dSeqI (dName 1)) (te := dCall 2 F_is_condition (dConsF (dName 0) (dConsF (dName 3) (dNil)))) (v := 3) (ρ := [.sh (nats sz), .sh (condsD cs), .un, .un]) (ρ1 := [.sh (nats sz), .sh (condsD cs), .un, .un]) cs condD (fun _ => D.bl true) (fz := true) rfl rfl rfl rfl (small_line (by omega)) (fun c hc => by
    have e := e_is_condition (h.ok c hc) hl
    generalize condD c = d at e
    generalize condsD cs = t
    simp [e])
  have e2 := dLc_mapS (fr := true) (it := dRng1 (dBin true gSub (dBl gLen (dConsP true (dName 1) (dNil))) (dC (.int 1)))) (te := dBin true gLt (dIx true (dIx true (dName 1) (dName 2)) (dC (.int 0))) (dIx true (dIx true (dName 1) (dBin true gAdd (dName 2) (dC (.int 1)))) (dC (.int 0)))) (v := 2) (ρ := [.sh (nats sz), .sh (condsD cs), .un, .un]) (ρ1 := [.sh (nats sz), .sh (condsD cs), .un, .un]) (List.range (cs.length - 1)) nI (fun _ => D.bl true) (fz := true) (rngI_ok cs.length (by omega) (by simp)) rfl rfl rfl (small_line (by rw [List.length_range]; omega)) (fun i hi => by
    have hi := List.mem_range.mp hi
    have gt : ∀ j, j < cs.length → L2.atI (cs.map condD) (j : Int) = some (condD (cs.getD j (0, []))) := fun j hj => L2.atI_nat (by
      rw [List.getElem?_map, List.getD_eq_getElem?_getD, List.getElem?_eq_getElem hj]; rfl)
    have a := gt i (by omega)
    have c : L2.atI (cs.map condD) ((i : Int) + 1) = some (condD (cs.getD (i + 1) (0, []))) := gt (i + 1) (by omega)
    have l : (cs.getD i (0, [])).1 < (cs.getD (i + 1) (0, [])).1 := by
      have q := asc_getD h.asc (i := i) (j := i + 1) (by omega) (by rw [List.length_map]; omega)
      rw [getD_map _ cs i (0, []) 0 (by omega), getD_map _ cs (i + 1) (0, []) 0 (by omega)] at q
      exact q
    generalize cs.getD i (0, []) = x at a l
    generalize cs.getD (i + 1) (0, []) = y at c l
    generalize hcd : cs.map condD = cd at a c
    have hcd : condsD cs = .tup cd := by rw [← hcd]
    rw [hcd]
    have z1 : ∀ u : D, L2.atI [nI x.1, u] 0 = some (nI x.1) := fun _ => rfl
    have z2 : ∀ u : D, L2.atI [nI y.1, u] 0 = some (nI y.1) := fun _ => rfl
    simp [kIx, a, c, z1, z2, l])
  have g1 := gAll_true cs
  have g2 := gAll_true (List.range (cs.length - 1))
  generalize (cs.map fun _ => D.bl true) = u1 at e1 g1
  generalize (List.range (cs.length - 1)).map (fun _ => D.bl true) = u2 at e2 g2
  have ti : dIsi "tuple" (dName 1) [.sh (nats sz), .sh (condsD cs), .un, .un] = .ok (.sh (.bl true), [.sh (nats sz), .sh (condsD cs), .un, .un]) := rfl
  generalize condsD cs = t at e1 e2 ti
  refine dSeq_nx (ρ1 := [.sh (nats sz), .sh t, .un, .un]) ?_ ?_
  · show dIf _ _ _ [.sh (nats sz), .sh t, .un, .un] = _
    simp [-dIsi, ti, e1, g1]
  · show dRet _ [.sh (nats sz), .sh t, .un, .un] = _
    simp [e2, g2]
theorem any_nats (f : Nat) (xs : List Nat) : (xs.map nI).any (fun y => deq y (nI f)) = xs.contains f := by
  rw [List.any_map]
  induction xs with
  | nil => rfl
  | cons x xs ih =>
    rw [List.any_cons, List.contains_cons, ih]
    have e : (deq (nI x) (nI f)) = (f == x) := by
      rw [deq_int, natEq]
      exact BEq.comm
    show (deq (nI x) (nI f) || _) = _
    rw [e]
theorem gIn_tN (f : Nat) (xs : List Nat) : gIn (nI f) (tN xs) = some (.bl (xs.contains f)) := by
  have h1 : (xs.map nI).all D.flat = true := by simp
  have h2 := any_nats f xs
  generalize hm : xs.map nI = m at h1 h2
  have ht : tN xs = .tup m := by rw [← hm]
  rw [ht]
  simp [gIn, h1, h2]
/-- a loop that may end at the first of its kind -/
theorem forL_find {α : Type} {g : DTg} {body : DSn} (c : α → D) (Inv : List Slot → Prop) (p : α → Bool) (v : α → Slot) : ∀ (xs : List α) (ρ : List Slot), Inv ρ →
    (∀ x ∈ xs, ∀ ρ, Inv ρ → ∃ ρ1 ρ2, g (c x) ρ = some ρ1 ∧ Inv ρ2 ∧ body ρ1 = if p x = true then .rt (v x) ρ2 else .nx ρ2) →
    ∃ ρ2, Inv ρ2 ∧ forL g body (xs.map c) ρ = (match xs.find? p with | some x => .rt (v x) ρ2 | none => .nx ρ2)
  | [], ρ, h, _ => ⟨ρ, h, rfl⟩
  | x :: xs, ρ, h, hs => by
    obtain ⟨ρ1, ρ2, h1, h2, h3⟩ := hs x List.mem_cons_self ρ h
    by_cases q : p x = true
    · rw [if_pos q] at h3
      refine ⟨ρ2, h2, ?_⟩
      rw [List.find?_cons, q, List.map_cons]
      unfold forL
      simp only [h1, h3]
    · rw [if_neg q] at h3
      obtain ⟨ρ3, h4, h5⟩ := forL_find c Inv p v xs ρ2 h2 fun y hy => hs y (List.mem_cons_of_mem _ hy)
      refine ⟨ρ3, h4, ?_⟩
      rw [List.find?_cons, Bool.not_eq_true _ |>.mp q, List.map_cons]
      unfold forL
      simp only [h1, h3]
      exact h5
theorem dFor_find {α : Type} {it : DIn} {g : DTg} {body : DSn} {ρ ρ1 : List Slot} {ds : List D} (xs : List α) (c : α → D) (Inv : List Slot → Prop) (p : α → Bool) (v : α → Slot) (hi : it ρ = .ok ((true, ds), ρ1)) (hd : ds = xs.map c) (h0 : Inv ρ1)
    (hs : ∀ x ∈ xs, ∀ ρ, Inv ρ → ∃ ρ1 ρ2, g (c x) ρ = some ρ1 ∧ Inv ρ2 ∧ body ρ1 = if p x = true then .rt (v x) ρ2 else .nx ρ2) :
    ∃ ρ2, Inv ρ2 ∧ dFor it g body ρ = (match xs.find? p with | some x => .rt (v x) ρ2 | none => .nx ρ2) := by
  subst hd
  obtain ⟨ρ2, h1, h2⟩ := forL_find c Inv p v xs ρ1 h0 hs
  refine ⟨ρ2, h1, ?_⟩
  rw [← h2]
  unfold dFor
  rw [hi]; rfl
def isFit (row : List Nat) (cs : List (Nat × List Nat)) : Bool := cs.all fun c => c.2.contains (row.getD c.1 0)
def firstR (row : List Nat) (rs : List (List (Nat × List Nat) × Bool)) (last : Bool) : Bool := match rs.find? (fun r => isFit row r.1) with
  | some r => r.2
  | none => last
theorem e_is_fitting {sz row : List Nat} {cs : List (Nat × List Nat)} (h : CondsOk sz cs) (hr : RowD sz row) : F_is_fitting [.sh (condsD cs), .sh (nats row)] = .ok (.sh (.bl (isFit row cs)), [.sh (condsD cs), .sh (nats row)]) := by
  have few := h.few
  have lc : dLc true (dSeqI (dName 0)) (tgTup (tgCons (tgN 2) (tgCons (tgN 3) (tgNil)))) (dYes) (dBin true gIn (dIx true (dName 1) (dName 2)) (dName 3)) [2, 3] [.sh (condsD cs), .sh (nats row), .un, .un] = .ok (.own ((cs.filter fun _ => true).map fun c => D.bl (c.2.contains (row.getD c.1 0))), [.sh (condsD cs), .sh (nats row), .un, .un]) :=
    dLcG_eq (fz := true) cs condD (fun _ => true) (fun c => D.bl (c.2.contains (row.getD c.1 0))) (fun c => [.sh (condsD cs), .sh (nats row), .sh (nI c.1), .sh (tN c.2)]) rfl rfl rfl rfl (small_line (by omega)) rfl rfl (fun c hc => rfl) (fun c hc => rfl) (fun c hc => rfl) (fun c hc => rfl) (fun c hc _ => by
      have q := h.ok c hc
      have a := at_nat (xs := row) (i := c.1) (by rw [← hr.length]; exact q.1)
      have g := gIn_tN (row.getD c.1 0) c.2
      refine ⟨.sh (.bl (c.2.contains (row.getD c.1 0))), ?_, rfl⟩
      generalize row.getD c.1 0 = x at a g
      generalize c.2.contains x = b at g
      generalize tN c.2 = t at g
      generalize condsD cs = cd
      simp [-gIn, kIx, a, g])
  rw [filter_all (fun _ _ => rfl)] at lc
  have g := gAll_of (fun c : Nat × List Nat => c.2.contains (row.getD c.1 0)) cs
  refine fnG_rt (ρ' := [.sh (condsD cs), .sh (nats row), .un, .un]) ?_ rfl (by decide) rfl
  show dRet _ [.sh (condsD cs), .sh (nats row), .un, .un] = _
  have g : gAll _ = some (.bl (isFit row cs)) := g
  generalize isFit row cs = b at g
  generalize (cs.map fun c => D.bl (c.2.contains (row.getD c.1 0))) = us at lc g
  generalize condsD cs = cd at lc
  simp [lc, g]
/-- the number of a case -/
def idxC (sz row : List Nat) : Nat := (sz.zip row).foldl (fun a p => a * p.1 + p.2) 0
theorem idxC_snoc {sz row : List Nat} (h : sz.length = row.length) (s d : Nat) : idxC (sz ++ [s]) (row ++ [d]) = idxC sz row * s + d := by
  unfold idxC
  rw [List.zip_append h, List.foldl_append]; rfl
theorem idxC_lt {sz row : List Nat} (h : RowD sz row) : idxC sz row < prdM 0 sz := by
  have key : ∀ {sz row : List Nat}, RowD sz row → ∀ a b : Nat, a < b → (sz.zip row).foldl (fun a p => a * p.1 + p.2) a < sz.foldl (fun a s => a * (s + 0)) b := by
    intro sz row h
    induction h with
    | nil => intro a b h; exact h
    | @cons s d sz row hd _ ih =>
      intro a b hab
      refine ih _ _ ?_
      show a * s + d < b * (s + 0)
      have q : (a + 1) * s ≤ b * s := Nat.mul_le_mul_right s hab
      rw [Nat.succ_mul] at q
      have : s + 0 = s := rfl
      rw [this]
      omega
  exact key h 0 1 (by decide)
noncomputable def valsL (x : Int) (k s : Nat) : List Nat := (List.range s).filter fun i => drw x (k + i) 2 == 1
theorem asc_range (s : Nat) (p : Nat → Bool) : ((List.range s).filter p).Pairwise (· < ·) := List.Pairwise.filter _ List.pairwise_lt_range
theorem valsL_ok {x : Int} {k s : Nat} : (∀ v ∈ valsL x k s, v < s) ∧ (valsL x k s).Pairwise (· < ·) ∧ (valsL x k s).length ≤ s := by
  refine ⟨fun v hv => List.mem_range.mp (List.mem_filter.mp hv).1, asc_range _ _, ?_⟩
  have := List.length_filter_le (fun i => drw x (k + i) 2 == 1) (List.range s)
  rw [List.length_range] at this
  exact this
theorem one_of (d : Nat) (_h : d < 2) : ((d : Int) == 1) = (d == 1) := natEq d 1
theorem e_law_values {x : Int} (hx : CellOk x) {k s : Nat} (hk : k < 5000) (hs : s < 1000) : F__law_values [.sh (.int x), .sh (nI k), .sh (nI s)] = .ok (.sh (tN (valsL x k s)), [.sh (.int x), .sh (nI k), .sh (nI s)]) := by
  refine fnG_rt (ρ' := [.sh (.int x), .sh (nI k), .sh (nI s), .un]) ?_ rfl (by decide) rfl
  have lc : dLc true (dRng1 (dName 2)) (tgN 3) (dBinT true gEq (dCall 3 F__law_draw (dConsF (dName 0) (dConsF (dBin true gAdd (dName 1) (dName 3)) (dConsF (dC (.int 2)) (dNil))))) (dC (.int 1))) (dName 3) [3] [.sh (.int x), .sh (nI k), .sh (nI s), .un] = .ok (.own (((List.range s).filter fun i => drw x (k + i) 2 == 1).map nI), [.sh (.int x), .sh (nI k), .sh (nI s), .un]) := by
    refine dLc_eqS (List.range s) nI (fun i => drw x (k + i) 2 == 1) nI (fz := true) (rngN_ok s (by omega) (by simp)) rfl rfl rfl (small_line (by rw [List.length_range]; omega)) (fun i hi => ?_) (fun i hi _ => rfl)
    have hi := List.mem_range.mp hi
    obtain ⟨d1, e1⟩ := e_draw hx (k := k + i) (l := 2) (by omega) (by omega) (by omega)
    have o := one_of _ d1
    generalize drw x (k + i) 2 = dk at e1 o
    have e1 : F__law_draw [.sh (.int x), .sh (.int ((k : Int) + (i : Int))), .sh (.int 2)] = .ok (.sh (nI dk), [.sh (.int x), .sh (.int ((k : Int) + (i : Int))), .sh (.int 2)]) := e1
    show dBinT true gEq _ _ [.sh (.int x), .sh (nI k), .sh (nI s), .sh (nI i)] = .ok (_, [.sh (.int x), .sh (nI k), .sh (nI s), .sh (nI i)])
    simp [e1, o]
  show dRet _ [.sh (.int x), .sh (nI k), .sh (nI s), .un] = _
  unfold valsL
  generalize (List.range s).filter (fun i => drw x (k + i) 2 == 1) = vs at lc
  simp [lc]
theorem conds_snoc {sz : List Nat} {cs : List (Nat × List Nat)} (h : CondsOk sz cs) {f : Nat} {vs : List Nat} (hb : ∀ c ∈ cs, c.1 < f) (hf : f < sz.length) (h1 : ∀ v ∈ vs, v < sz.getD f 0) (h2 : vs.Pairwise (· < ·)) (h3 : vs.length < 1000) (hl : cs.length ≤ 6) : CondsOk sz (cs ++ [(f, vs)]) where
  ok c hc := by
    rcases List.mem_append.mp hc with q | q
    · exact h.ok c q
    · rw [List.mem_singleton.mp q]; exact ⟨hf, h1, h2, h3⟩
  asc := by
    rw [List.map_append, List.pairwise_append]
    refine ⟨h.asc, List.pairwise_singleton _ _, fun a ha b hb' => ?_⟩
    obtain ⟨c, hc, rfl⟩ := List.mem_map.mp ha
    rw [List.map_singleton, List.mem_singleton] at hb'
    rw [hb']
    exact hb c hc
  few := by rw [List.length_append, List.length_singleton]; omega
theorem size_at {sz : List Nat} (hs : SzOk sz) {f : Nat} (hf : f < sz.length) : 2 ≤ sz.getD f 0 ∧ sz.getD f 0 ≤ 6 := hs.2 _ (by rw [List.getD_eq_getElem?_getD, List.getElem?_eq_getElem hf]; exact List.getElem_mem hf)
theorem e_law_conditions {x : Int} (hx : CellOk x) {sz : List Nat} (hs : SzOk sz) : ∃ cs, CondsOk sz cs ∧ F__law_conditions [.sh (nats sz), .sh (.int x)] = .ok (.sh (condsD cs), [.sh (nats sz), .sh (.int x)]) := by
  have hl := hs.1
  obtain ⟨d1, e1⟩ := e_draw hx (k := 1) (l := 2) (by omega) (by omega) (by omega)
  have o1 := one_of _ d1
  generalize drw x 1 2 = sg at e1 o1 d1
  have e1 : F__law_draw [.sh (.int x), .sh (.int 1), .sh (.int 2)] = .ok (.sh (nI sg), [.sh (.int x), .sh (.int 1), .sh (.int 2)]) := e1
  obtain ⟨ρ', e, cs, s4, s5, ok, few, _, rfl⟩ := dFor_inv (it := dRng1 (dBl gLen (dConsP true (dName 0) (dNil)))) (g := tgN 4) (body := dIf (dAndT (dBinT true gLt (dBl gLen (dConsP true (dName 3) (dNil))) (dC (.int 6))) (dBinT true gEq (dCall 3 F__law_draw (dConsF (dName 1) (dConsF (dBin true gAdd (dBin true gMul (dC (.int 7)) (dName 4)) (dC (.int 2))) (dConsF (dC (.int 2)) (dNil))))) (dC (.int 1)))) (dSeq (dSetF 5 (dCall 3 F__law_values (dConsF (dName 1) (dConsF (dBin true gAdd (dBin true gMul (dC (.int 7)) (dName 4)) (dC (.int 3))) (dConsF (dIx true (dName 0) (dName 4)) (dNil))))))
    (dSeq (dIf (dTst (dName 2)) (dSetF 5 (dTup (dConsF (dCall 3 F__law_draw (dConsF (dName 1) (dConsF (dBin true gAdd (dBin true gMul (dC (.int 7)) (dName 4)) (dC (.int 3))) (dConsF (dIx true (dName 0) (dName 4)) (dNil))))) (dNil)))) (dSkip))
    (dApp 3 (dTup (dConsF (dName 4) (dConsF (dName 5) (dNil))))))) (dSkip))
    (ρ := [.sh (nats sz), .sh (.int x), .sh (.bl (sg == 1)), .own [], .un, .un]) (ρ1 := [.sh (nats sz), .sh (.int x), .sh (.bl (sg == 1)), .own [], .un, .un]) (List.range sz.length) nI
    (fun pre ρ => ∃ (cs : List (Nat × List Nat)) (s4 s5 : Slot), CondsOk sz cs ∧ cs.length ≤ 6 ∧ (∀ c ∈ cs, c.1 < pre.length) ∧ ρ = [.sh (nats sz), .sh (.int x), .sh (.bl (sg == 1)), .own (cs.map condD), s4, s5])
    (rngN_ok sz.length (by omega) (by simp)) rfl ⟨[], .un, .un, ⟨fun c hc => absurd hc (by simp), List.Pairwise.nil, by simp⟩, by simp, fun c hc => absurd hc (by simp), rfl⟩ (fun pre f post ρ e hρ => by
      obtain ⟨cs, s4, s5, ok, few, lt, rfl⟩ := hρ
      obtain ⟨hk, hf⟩ := range_at e
      obtain ⟨z1, z2⟩ := size_at hs hf
      have pl : (pre ++ [f]).length = pre.length + 1 := by simp
      rw [pl]
      have at1 := at_nat hf
      have ll : (cs.map condD).length = cs.length := List.length_map _
      obtain ⟨d2, e2⟩ := e_draw hx (k := 7 * f + 2) (l := 2) (by omega) (by omega) (by omega)
      have o2 := one_of _ d2
      generalize drw x (7 * f + 2) 2 = a2 at d2 e2 o2
      have k2 : ((7 * f + 2 : Nat) : Int) = 7 * (f : Int) + 2 := by omega
      have e2 : F__law_draw [.sh (.int x), .sh (.int (7 * (f : Int) + 2)), .sh (.int 2)] = .ok (.sh (nI a2), [.sh (.int x), .sh (.int (7 * (f : Int) + 2)), .sh (.int 2)]) := by rw [← k2]; exact e2
      have gm := gMul_ok (show Sz 4 (7 : Int) by decide) (show Sz 6 (f : Int) by show (f : Int).natAbs < 2 ^ 6; omega)
      by_cases c : cs.length < 6 ∧ a2 = 1
      · obtain ⟨c1, rfl⟩ := c
        have k3 : ((7 * f + 3 : Nat) : Int) = 7 * (f : Int) + 3 := by omega
        have ev := e_law_values hx (k := 7 * f + 3) (s := sz.getD f 0) (by omega) (by omega)
        obtain ⟨v1, v2, v3⟩ := valsL_ok (x := x) (k := 7 * f + 3) (s := sz.getD f 0)
        generalize valsL x (7 * f + 3) (sz.getD f 0) = vs at ev v1 v2 v3
        obtain ⟨d3, e3⟩ := e_draw hx (k := 7 * f + 3) (l := sz.getD f 0) (by omega) (by omega) (by omega)
        generalize drw x (7 * f + 3) (sz.getD f 0) = a3 at d3 e3
        have ev : F__law_values [.sh (.int x), .sh (.int (7 * (f : Int) + 3)), .sh (nI (sz.getD f 0))] = .ok (.sh (tN vs), [.sh (.int x), .sh (.int (7 * (f : Int) + 3)), .sh (nI (sz.getD f 0))]) := by rw [← k3]; exact ev
        have e3 : F__law_draw [.sh (.int x), .sh (.int (7 * (f : Int) + 3)), .sh (nI (sz.getD f 0))] = .ok (.sh (nI a3), [.sh (.int x), .sh (.int (7 * (f : Int) + 3)), .sh (nI (sz.getD f 0))]) := by rw [← k3]; exact e3
        refine ⟨_, [.sh (nats sz), .sh (.int x), .sh (.bl (sg == 1)), .own ((cs ++ [(f, if (sg == 1) = true then [a3] else vs)]).map condD), .sh (nI f), .sh (tN (if (sg == 1) = true then [a3] else vs))], rfl, .inl ?_, cs ++ [(f, if (sg == 1) = true then [a3] else vs)], _, _, ?_, ?_, ?_, rfl⟩
        · rw [List.map_append]
          have lc : (cs.length : Int) < 6 := by omega
          have l := small_line (n := cs.length) (by omega)
          rw [← ll] at l lc
          generalize cs.map condD = o at l lc ⊢
          generalize sz.getD f 0 = s at at1 ev e3
          show dIf _ _ _ [.sh (nats sz), .sh (.int x), .sh (.bl (sg == 1)), .own o, .sh (nI f), s5] = _
          by_cases q : sg = 1
          · subst q
            simp [gm, e2, o2, lc, kIx, at1, ev, e3, l]
          · have q2 : (sg == 1) = false := by simpa using q
            rw [q2]
            generalize ht : tN vs = t at ev
            simp [gm, e2, o2, lc, kIx, at1, ev, l]
            exact ht.symm
        · refine conds_snoc ok (fun c hc => by have := lt c hc; omega) hf ?_ ?_ ?_ (by omega)
          · split
            · intro v hv; rw [List.mem_singleton.mp hv]; exact d3
            · exact v1
          · split
            · exact List.pairwise_singleton _ _
            · exact v2
          · split
            · simp
            · omega
        · rw [List.length_append, List.length_singleton]; omega
        · intro c hc
          rcases List.mem_append.mp hc with q | q
          · have := lt c q; omega
          · rw [List.mem_singleton.mp q]; show f < _; omega
      · refine ⟨_, [.sh (nats sz), .sh (.int x), .sh (.bl (sg == 1)), .own (cs.map condD), .sh (nI f), s5], rfl, .inl ?_, cs, _, _, ok, few, fun c hc => by have := lt c hc; omega, rfl⟩
        generalize hcd : cs.map condD = o at ll ⊢
        show dIf _ _ _ [.sh (nats sz), .sh (.int x), .sh (.bl (sg == 1)), .own o, .sh (nI f), s5] = _
        by_cases c1 : cs.length < 6
        · have c2 : ¬ a2 = 1 := fun q => c ⟨c1, q⟩
          have q2 : (a2 == 1) = false := by simpa using c2
          rw [q2] at o2
          have lc : (o.length : Int) < 6 := by omega
          simp [gm, e2, o2, lc]
          try omega
        · have lc : ¬ (o.length : Int) < 6 := by omega
          simp [lc])
  refine ⟨cs, ok, fnG_rt (ρ' := [.sh (nats sz), .sh (.int x), .sh (.bl (sg == 1)), .own (cs.map condD), s4, s5]) ?_ rfl (by decide) rfl⟩
  generalize hcd : cs.map condD = o at e
  refine dSeq_nx (ρ1 := [.sh (nats sz), .sh (.int x), .sh (.bl (sg == 1)), .un, .un, .un]) ?_ (dSeq_nx (ρ1 := [.sh (nats sz), .sh (.int x), .sh (.bl (sg == 1)), .own [], .un, .un]) ?_ (dSeq_nx e ?_))
  · show dSetF 2 _ [.sh (nats sz), .sh (.int x), .un, .un, .un, .un] = _
    simp [e1, o1]
  · simp
  · unfold condsD
    rw [hcd]
    simp
theorem all2_snoc {α β : Type} {P : α → β → Prop} : ∀ {xs : List α} {ys : List β} {x : α} {y : β}, All2 P xs ys → P x y → All2 P (xs ++ [x]) (ys ++ [y])
  | _, _, _, _, .nil, h => .cons h .nil
  | _, _, _, _, .cons a b, h => .cons a (all2_snoc b h)
end LW
namespace LW
open PySem PySem.Spec PyProof.Rows L2 DL
theorem natNeD (x y : Nat) : gNe (nI x) (nI y) = some (.bl (x != y)) := by
  have k := natEq x y
  have e : (x != y) = !(x == y) := rfl
  rw [e, ← k]
  simp
theorem natEqD (x y : Nat) : gEq (nI x) (nI y) = some (.bl (x == y)) := by
  have k := natEq x y
  rw [← k]
  simp
def belowB : D → Nat → Bool
  | .int i, s => decide (0 ≤ i ∧ i < (s : Int))
  | _, _ => false
theorem e_below_D (x : D) (s : Nat) : F_is_below [.sh x, .sh (nI s)] = .ok (.sh (.bl (belowB x s)), [.sh x, .sh (nI s)]) := by
  cases x with
  | int i => exact e_is_below i (s : Int)
  | non => exact fnG_rt (ρ' := [.sh .non, .sh (nI s)]) (by show b_is_below [.sh .non, .sh (nI s)] = _; simp [b_is_below, e_is_whole, isWhole, belowB]) rfl (by decide) rfl
  | bl b => exact fnG_rt (ρ' := [.sh (.bl b), .sh (nI s)]) (by show b_is_below [.sh (.bl b), .sh (nI s)] = _; simp [b_is_below, e_is_whole, isWhole, belowB]) rfl (by decide) rfl
  | str b => exact fnG_rt (ρ' := [.sh (.str b), .sh (nI s)]) (by show b_is_below [.sh (.str b), .sh (nI s)] = _; simp [b_is_below, e_is_whole, isWhole, belowB]) rfl (by decide) rfl
  | lst b => exact fnG_rt (ρ' := [.sh (.lst b), .sh (nI s)]) (by show b_is_below [.sh (.lst b), .sh (nI s)] = _; simp [b_is_below, e_is_whole, isWhole, belowB]) rfl (by decide) rfl
  | tup b => exact fnG_rt (ρ' := [.sh (.tup b), .sh (nI s)]) (by show b_is_below [.sh (.tup b), .sh (nI s)] = _; simp [b_is_below, e_is_whole, isWhole, belowB]) rfl (by decide) rfl
  | scr b => exact fnG_rt (ρ' := [.sh (.scr b), .sh (nI s)]) (by show b_is_below [.sh (.scr b), .sh (nI s)] = _; simp [b_is_below, e_is_whole, isWhole, belowB]) rfl (by decide) rfl
  | dct b c => exact fnG_rt (ρ' := [.sh (.dct b c), .sh (nI s)]) (by show b_is_below [.sh (.dct b c), .sh (nI s)] = _; simp [b_is_below, e_is_whole, isWhole, belowB]) rfl (by decide) rfl
  | exc b => exact fnG_rt (ρ' := [.sh (.exc b), .sh (nI s)]) (by show b_is_below [.sh (.exc b), .sh (nI s)] = _; simp [b_is_below, e_is_whole, isWhole, belowB]) rfl (by decide) rfl
  | tpx b => exact fnG_rt (ρ' := [.sh (.tpx b), .sh (nI s)]) (by show b_is_below [.sh (.tpx b), .sh (nI s)] = _; simp [b_is_below, e_is_whole, isWhole, belowB]) rfl (by decide) rfl
theorem eq_bl (x y : Bool) : gEq (.bl x) (.bl y) = some (.bl (x == y)) := by
  unfold gEq
  rw [if_pos ⟨rfl, rfl⟩]
  simp [deq]
theorem cut_takeK {α : Type} (xs : List α) (k : Nat) : DL.cut xs none (some (k : Int)) = xs.take k := by
  unfold DL.cut
  rw [HT.sIx_nat, HT.sIx_none, List.drop_zero, Nat.sub_zero]
  by_cases h : k ≤ xs.length
  · rw [Nat.min_eq_left h]
  · rw [Nat.min_eq_right (by omega), List.take_length, List.take_of_length_le (by omega)]
theorem cut_dropK {α : Type} (xs : List α) (k : Nat) : DL.cut xs (some (k : Int)) none = xs.drop k := by
  unfold DL.cut
  rw [HT.sIx_nat, HT.sIx_none]
  by_cases h : k ≤ xs.length
  · rw [Nat.min_eq_left h, List.take_of_length_le (by rw [List.length_drop]; exact Nat.le_refl _)]
  · rw [Nat.min_eq_right (by omega), List.drop_eq_nil_of_le (Nat.le_refl _), List.drop_eq_nil_of_le (by omega)]; simp
theorem cut_last {α : Type} (xs : List α) : (DL.cut xs none (some (-1))).length = xs.length - 1 := by
  unfold DL.cut
  have e : HT.sIx xs.length xs.length (some (-1)) = xs.length - 1 := by
    show (if (-1 : Int) < 0 then ((-1 : Int) + (xs.length : Int)).toNat else min (-1 : Int).toNat xs.length) = _
    rw [if_pos (by decide)]
    omega
  rw [e, HT.sIx_none, List.drop_zero, Nat.sub_zero, List.length_take]
  omega
/-- joined lists -/
theorem catE {f1 f2 : DEn} {ρ : List Slot} {s1 s2 : Slot} {xs ys : List D} (h1 : f1 ρ = .ok (s1, ρ)) (h2 : f2 ρ = .ok (s2, ρ)) (g1 : s1 = .sh (.lst xs) ∨ s1 = .own xs) (g2 : s2 = .sh (.lst ys) ∨ s2 = .own ys) (l : xs.length + ys.length ≤ 1000) : dBinL true catL f1 f2 ρ = .ok (.own (xs ++ ys), ρ) := by
  have l2 : xs.length + ys.length ≤ sizeLine := by rw [sizeLine_eq]; omega
  rcases g1 with rfl | rfl <;> rcases g2 with rfl | rfl <;> simp [h1, h2, l2]
theorem slE1 {ρ : List Slot} {R : List D} {f : DEn} {k : Nat} (h2 : ρ[2]? = some (.sh (.lst R))) (hf : f ρ = .ok (.sh (nI k), ρ)) : dSl true (dName 2) (dNoP) (dPart f) ρ = .ok (.own (R.take k), ρ) := by
  have c := cut_takeK R k
  simp [h2, hf, c]
theorem slE2 {ρ : List Slot} {R : List D} {f : DEn} {k : Nat} (h2 : ρ[2]? = some (.sh (.lst R))) (hf : f ρ = .ok (.sh (nI k), ρ)) : dSl true (dName 2) (dPart f) (dNoP) ρ = .ok (.own (R.drop k), ρ) := by
  have c := cut_dropK R k
  simp [h2, hf, c]
theorem oneE {f : DEn} {ρ : List Slot} {x : D} (h : f ρ = .ok (.sh x, ρ)) : dLst (dConsF f (dNil)) ρ = .ok (.own [x], ρ) := by
  simp [h]
/-- a list with one part exchanged -/
theorem putE {ρ : List Slot} {R : List D} {at_ : Nat} {f : DEn} {x : D} (h2 : ρ[2]? = some (.sh (.lst R))) (h6 : ρ[6]? = some (.sh (nI at_))) (ha : at_ < R.length) (hl : R.length ≤ 100) (hf : f ρ = .ok (.sh x, ρ)) :
    dBinL true catL (dBinL true catL (dSl true (dName 2) (dNoP) (dPart (dName 6))) (dLst (dConsF f (dNil)))) (dSl true (dName 2) (dPart (dBin true gAdd (dName 6) (dC (.int 1)))) (dNoP)) ρ = .ok (.own (R.set at_ x), ρ) := by
  have n6 : dName 6 ρ = .ok (.sh (nI at_), ρ) := dName_at h6
  have p1 : dBin true gAdd (dName 6) (dC (.int 1)) ρ = .ok (.sh (nI (at_ + 1)), ρ) := by
    have ga : gAdd (nI at_) (.int 1) = some (nI (at_ + 1)) := rfl
    simp [-gAdd, h6, ga]
  have s1 := slE1 h2 n6
  have s2 := slE2 h2 p1
  have o := oneE hf
  have lt := List.length_take_le at_ R
  have ld : (R.drop (at_ + 1)).length ≤ 100 := by rw [List.length_drop]; omega
  have c1 := catE s1 o (.inr rfl) (.inr rfl) (by simp; omega)
  have c2 := catE c1 s2 (.inr rfl) (.inr rfl) (by rw [List.length_append, List.length_singleton]; omega)
  rw [List.set_eq_take_append_cons_drop, if_pos ha]
  rw [List.append_assoc] at c2
  exact c2
theorem below_bad_big {s : Nat} (hs : s ≤ 6) : belowB (.int (10 ^ 20)) s = false := by
  unfold belowB
  refine decide_eq_false fun h => ?_
  have : (10 : Int) ^ 20 = 100000000000000000000 := by decide
  rw [this] at h
  omega
theorem catG {f1 f2 : DEn} {ρ ρ1 ρ2 : List Slot} {s1 s2 : Slot} {xs ys : List D} (h1 : f1 ρ = .ok (s1, ρ1)) (h2 : f2 ρ1 = .ok (s2, ρ2)) (g1 : s1 = .sh (.lst xs) ∨ s1 = .own xs) (g2 : s2 = .sh (.lst ys) ∨ s2 = .own ys) (l : xs.length + ys.length ≤ 50000) : dBinL true catL f1 f2 ρ = .ok (.own (xs ++ ys), ρ2) := by
  have l2 : xs.length + ys.length ≤ sizeLine := by rw [sizeLine_eq]; omega
  rcases g1 with rfl | rfl <;> rcases g2 with rfl | rfl <;> simp [h1, h2, l2]
theorem slG1 {ρ : List Slot} {R : List D} {i : Nat} {f : DEn} {k : Nat} (h2 : ρ[i]? = some (.sh (.lst R))) (hf : f ρ = .ok (.sh (nI k), ρ)) : dSl true (dName i) (dNoP) (dPart f) ρ = .ok (.own (R.take k), ρ) := by
  have c := cut_takeK R k
  simp [h2, hf, c]
theorem slG2 {ρ : List Slot} {R : List D} {i : Nat} {f : DEn} {k : Nat} (h2 : ρ[i]? = some (.sh (.lst R))) (hf : f ρ = .ok (.sh (nI k), ρ)) : dSl true (dName i) (dPart f) (dNoP) ρ = .ok (.own (R.drop k), ρ) := by
  have c := cut_dropK R k
  simp [h2, hf, c]
theorem putI {ρ ρ2 : List Slot} {R : List D} {i j at_ : Nat} {f : DEn} {x : D} (h2 : ρ[i]? = some (.sh (.lst R))) (h6 : ρ[j]? = some (.sh (nI at_))) (h2' : ρ2[i]? = some (.sh (.lst R))) (h6' : ρ2[j]? = some (.sh (nI at_))) (ha : at_ < R.length) (hl : R.length ≤ 100) (hf : f ρ = .ok (.sh x, ρ2)) :
    dBinL true catL (dBinL true catL (dSl true (dName i) (dNoP) (dPart (dName j))) (dLst (dConsF f (dNil)))) (dSl true (dName i) (dPart (dBin true gAdd (dName j) (dC (.int 1)))) (dNoP)) ρ = .ok (.own (R.set at_ x), ρ2) := by
  have n6 : dName j ρ = .ok (.sh (nI at_), ρ) := dName_at h6
  have p1 : dBin true gAdd (dName j) (dC (.int 1)) ρ2 = .ok (.sh (nI (at_ + 1)), ρ2) := by
    have ga : gAdd (nI at_) (.int 1) = some (nI (at_ + 1)) := rfl
    simp [-gAdd, h6', ga]
  have s1 := slG1 h2 n6
  have s2 := slG2 h2' p1
  have o : dLst (dConsF f (dNil)) ρ = .ok (.own [x], ρ2) := by simp [hf]
  have lt := List.length_take_le at_ R
  have ld : (R.drop (at_ + 1)).length ≤ 100 := by rw [List.length_drop]; omega
  have c1 := catG s1 o (.inr rfl) (.inr rfl) (by simp; omega)
  have c2 := catG c1 s2 (.inr rfl) (.inr rfl) (by rw [List.length_append, List.length_singleton]; omega)
  rw [List.set_eq_take_append_cons_drop, if_pos ha]
  rw [List.append_assoc] at c2
  exact c2
theorem gMod_nat {v s : Nat} (h : 0 < s) : gMod (nI v) (nI s) = some (nI (v % s)) := gMod_pos (i := (v : Int)) (j := (s : Int)) (by omega)
theorem atMem {α : Type} {xs : List α} {i : Nat} {d : α} (h : i < xs.length) : xs.getD i d ∈ xs := by
  rw [List.getD_eq_getElem?_getD, List.getElem?_eq_getElem h, Option.getD_some]
  exact List.getElem_mem h

theorem dIf_t48 {c : DTn} {A B : DSn} {ρ ρ1 : List Slot} (h : c ρ = .ok (true, ρ1)) : dIf c A B ρ = A ρ1 := by
  unfold dIf
  rw [h]
  rfl
theorem tup_val (a b : D) : L2.atI [a, b] 0 = some a ∧ L2.atI [a, b] 1 = some b := ⟨L2.atI_nat (j := 0) rfl, L2.atI_nat (j := 1) rfl⟩
/-! values -/
theorem val_kind {s : Nat} {y : D} (h : y.isT "tuple" = false) : F_is_values [.sh (nI s), .sh y] = .ok (.sh (.bl false), [.sh (nI s), .sh y]) := by
  refine fnG_rt (ρ' := [.sh (nI s), .sh y, .un, .un]) (dSeq_rt ((dIf_t48 (ρ1 := [.sh (nI s), .sh y, .un, .un]) ?_).trans rfl)) rfl (by decide) rfl
  show (dOrT (dNotT (dTst (dIsi "tuple" (dName 1)))) (dNotT (dTst (dBl gAll (dConsP true (dLc true (dSeqI (dName 1)) (tgN 3) (dYes) (dCall 2 F_is_below (dConsF (dName 3) (dConsF (dName 0) (dNil)))) [3]) (dNil)))))) [.sh (nI s), .sh y, .un, .un] = _
  simp [-D.isT, h]
theorem val_lc {s : Nat} {ys : List D} (hl : ys.length < 1000) : (dLc true (dSeqI (dName 1)) (tgN 3) (dYes) (dCall 2 F_is_below (dConsF (dName 3) (dConsF (dName 0) (dNil)))) [3]) [.sh (nI s), .sh (.tup ys), .un, .un] = .ok (.own (ys.map fun y => D.bl (belowB y s)), [.sh (nI s), .sh (.tup ys), .un, .un]) := by
  refine dLc_mapS ys (fun y => y) _ (fz := true) rfl (List.map_id' ys).symm rfl rfl (small_line (by omega)) (fun y hy => ?_)
  have e := e_below_D y s
  show dCall 2 _ _ [.sh (nI s), .sh (.tup ys), .un, .sh y] = .ok (_, [.sh (nI s), .sh (.tup ys), .un, .sh y])
  generalize belowB y s = b at e ⊢
  generalize nI s = sd at e ⊢
  simp [e]
theorem val_cond {s : Nat} {ys : List D} (hl : ys.length < 1000) : (dOrT (dNotT (dTst (dIsi "tuple" (dName 1)))) (dNotT (dTst (dBl gAll (dConsP true (dLc true (dSeqI (dName 1)) (tgN 3) (dYes) (dCall 2 F_is_below (dConsF (dName 3) (dConsF (dName 0) (dNil)))) [3]) (dNil)))))) [.sh (nI s), .sh (.tup ys), .un, .un] = .ok (!ys.all fun y => belowB y s, [.sh (nI s), .sh (.tup ys), .un, .un]) := by
  have lc := val_lc (s := s) hl
  have g := gAll_of (fun y => belowB y s) ys
  generalize (ys.map fun y => D.bl (belowB y s)) = us at lc g
  generalize (ys.all fun y => belowB y s) = b at g ⊢
  have ti : dIsi "tuple" (dName 1) [.sh (nI s), .sh (.tup ys), .un, .un] = .ok (.sh (.bl true), [.sh (nI s), .sh (.tup ys), .un, .un]) := rfl
  generalize nI s = sd at lc ti ⊢
  generalize D.tup ys = t at lc ti ⊢
  simp [-dIsi, ti, lc, g]
theorem val_part {s : Nat} {ys : List D} (hl : ys.length < 1000) {y : D} (hy : y ∈ ys) (hb : belowB y s = false) : F_is_values [.sh (nI s), .sh (.tup ys)] = .ok (.sh (.bl false), [.sh (nI s), .sh (.tup ys)]) := by
  have c := val_cond (s := s) hl
  rw [show (ys.all fun y => belowB y s) = false from List.all_eq_false.mpr ⟨y, hy, by rw [hb]; decide⟩] at c
  exact fnG_rt (ρ' := [.sh (nI s), .sh (.tup ys), .un, .un]) (dSeq_rt ((dIf_t48 c).trans rfl)) rfl (by decide) rfl
theorem val_pair {s u v : Nat} (hu : u < s) (hv : v < s) (h : ¬ u < v) : F_is_values [.sh (nI s), .sh (.tup [nI u, nI v])] = .ok (.sh (.bl false), [.sh (nI s), .sh (.tup [nI u, nI v])]) := by
  have c := val_cond (s := s) (ys := [nI u, nI v]) (by simp)
  have bb : ([nI u, nI v].all fun y => belowB y s) = true := by
    simp only [List.all_cons, List.all_nil, Bool.and_true, belowB, Bool.and_eq_true, decide_eq_true_eq]
    omega
  rw [bb] at c
  have lc : (dLc true (dRng1 (dBin true gSub (dBl gLen (dConsP true (dName 1) (dNil))) (dC (.int 1)))) (tgN 2) (dYes) (dBin true gLt (dIx true (dName 1) (dName 2)) (dIx true (dName 1) (dBin true gAdd (dName 2) (dC (.int 1))))) [2]) [.sh (nI s), .sh (.tup [nI u, nI v]), .un, .un] = .ok (.own ((List.range 1).map fun _ => D.bl false), [.sh (nI s), .sh (.tup [nI u, nI v]), .un, .un]) := by
    refine dLc_mapS (List.range 1) nI _ (fz := true) (rngI_ok 2 (by omega) (by simp)) rfl rfl rfl (small_line (by simp)) (fun i hi => ?_)
    have i0 : i = 0 := by have := List.mem_range.mp hi; omega
    subst i0
    obtain ⟨x0, x1⟩ := tup_val (nI u) (nI v)
    have x1 : L2.atI [nI u, nI v] ((0 : Int) + 1) = some (nI v) := x1
    have g : gLt (nI u) (nI v) = some (.bl false) := by
      show some (D.bl (decide ((u : Int) < (v : Int)))) = _
      rw [decide_eq_false (by omega)]
    generalize [nI u, nI v] = ys at x0 x1 ⊢
    generalize nI u = uu at x0 g
    generalize nI v = vv at x1 g
    show dBin true gLt _ _ [.sh (nI s), .sh (.tup ys), .sh (.int 0), .un] = .ok (_, [.sh (nI s), .sh (.tup ys), .sh (.int 0), .un])
    have x1 : L2.atI ys 1 = some vv := x1
    simp [-gLt, kIx, x0, x1, g]
  have g := gAll_of (fun _ : Nat => false) (List.range 1)
  have g : gAll [.lst ((List.range 1).map fun _ => D.bl false)] = some (.bl false) := g
  generalize ((List.range 1).map fun _ => D.bl false) = us at lc g
  generalize D.tup [nI u, nI v] = tt at c lc ⊢
  refine fnG_rt (ρ' := [.sh (nI s), .sh tt, .un, .un]) (dSeq_nx (dIf_no c) ?_) rfl (by decide) rfl
  simp [lc, g]
/-! a condition -/
theorem con_kind {sz : List Nat} {x : D} (h : x.isT "tuple" = false) : F_is_condition [.sh (nats sz), .sh x] = .ok (.sh (.bl false), [.sh (nats sz), .sh x]) := by
  refine fnG_rt (ρ' := [.sh (nats sz), .sh x]) (dSeq_rt ((dIf_t48 (ρ1 := [.sh (nats sz), .sh x]) ?_).trans rfl)) rfl (by decide) rfl
  show (dOrT (dNotT (dTst (dIsi "tuple" (dName 1)))) (dOrT (dBinT true gNe (dBl gLen (dConsP true (dName 1) (dNil))) (dC (.int 2))) (dNotT (dTst (dCall 2 F_is_below (dConsF (dIx true (dName 1) (dC (.int 0))) (dConsF (dBl gLen (dConsP true (dName 0) (dNil))) (dNil)))))))) [.sh (nats sz), .sh x] = _
  generalize nats sz = z
  simp [-D.isT, h]
theorem con_len {sz : List Nat} {xs : List D} (h : xs.length ≠ 2) : F_is_condition [.sh (nats sz), .sh (.tup xs)] = .ok (.sh (.bl false), [.sh (nats sz), .sh (.tup xs)]) := by
  refine fnG_rt (ρ' := [.sh (nats sz), .sh (.tup xs)]) (dSeq_rt ((dIf_t48 (ρ1 := [.sh (nats sz), .sh (.tup xs)]) ?_).trans rfl)) rfl (by decide) rfl
  show (dOrT (dNotT (dTst (dIsi "tuple" (dName 1)))) (dOrT (dBinT true gNe (dBl gLen (dConsP true (dName 1) (dNil))) (dC (.int 2))) (dNotT (dTst (dCall 2 F_is_below (dConsF (dIx true (dName 1) (dC (.int 0))) (dConsF (dBl gLen (dConsP true (dName 0) (dNil))) (dNil)))))))) [.sh (nats sz), .sh (.tup xs)] = _
  have g1 : gLen [.tup xs] = some (nI xs.length) := rfl
  have gn := natNeD xs.length 2
  rw [show (xs.length != 2) = true by simpa using h] at gn
  have gn : gNe (nI xs.length) (.int 2) = some (.bl true) := gn
  have ti : dIsi "tuple" (dName 1) [.sh (nats sz), .sh (.tup xs)] = .ok (.sh (.bl true), [.sh (nats sz), .sh (.tup xs)]) := rfl
  generalize nI xs.length = n at g1 gn
  generalize D.tup xs = t at g1 ti ⊢
  generalize nats sz = z at ti ⊢
  simp [-dIsi, -gLen, -gNe, ti, g1, gn]
theorem con_two {sz : List Nat} {f y : D} {b : Bool} (hb : belowB f sz.length = b) : (dOrT (dNotT (dTst (dIsi "tuple" (dName 1)))) (dOrT (dBinT true gNe (dBl gLen (dConsP true (dName 1) (dNil))) (dC (.int 2))) (dNotT (dTst (dCall 2 F_is_below (dConsF (dIx true (dName 1) (dC (.int 0))) (dConsF (dBl gLen (dConsP true (dName 0) (dNil))) (dNil)))))))) [.sh (nats sz), .sh (.tup [f, y])] = .ok (!b, [.sh (nats sz), .sh (.tup [f, y])]) := by
  have g1 : gLen [.tup [f, y]] = some (.int 2) := rfl
  have gn : gNe (.int 2) (.int 2) = some (.bl false) := gNe_same rfl (by simp [deq])
  have ti : dIsi "tuple" (dName 1) [.sh (nats sz), .sh (.tup [f, y])] = .ok (.sh (.bl true), [.sh (nats sz), .sh (.tup [f, y])]) := rfl
  have a0 : dIx true (dName 1) (dC (.int 0)) [.sh (nats sz), .sh (.tup [f, y])] = .ok (.sh f, [.sh (nats sz), .sh (.tup [f, y])]) := rfl
  have e := e_below_D f sz.length
  rw [hb] at e
  have gl : gLen [nats sz] = some (nI sz.length) := by
    unfold nats
    show some (D.int _) = _
    rw [List.length_map]
  generalize nI sz.length = n at e gl
  generalize D.tup [f, y] = t at g1 ti a0 ⊢
  generalize nats sz = z at ti a0 gl ⊢
  cases b <;> simp [-dIsi, -dIx, -gLen, -gNe, ti, g1, gn, a0, e, gl]
theorem con_field {sz : List Nat} {f y : D} (hb : belowB f sz.length = false) : F_is_condition [.sh (nats sz), .sh (.tup [f, y])] = .ok (.sh (.bl false), [.sh (nats sz), .sh (.tup [f, y])]) :=
  fnG_rt (ρ' := [.sh (nats sz), .sh (.tup [f, y])]) (dSeq_rt ((dIf_t48 (con_two hb)).trans rfl)) rfl (by decide) rfl
theorem con_vals {sz : List Nat} {f : Nat} {y : D} (hf : f < sz.length) (e : F_is_values [.sh (nI (sz.getD f 0)), .sh y] = .ok (.sh (.bl false), [.sh (nI (sz.getD f 0)), .sh y])) : F_is_condition [.sh (nats sz), .sh (.tup [nI f, y])] = .ok (.sh (.bl false), [.sh (nats sz), .sh (.tup [nI f, y])]) := by
  have c := con_two (sz := sz) (f := nI f) (y := y) (b := true) (by unfold belowB; exact decide_eq_true ⟨by omega, by omega⟩)
  refine fnG_rt (ρ' := [.sh (nats sz), .sh (.tup [nI f, y])]) (dSeq_nx (dIf_no c) ?_) rfl (by decide) rfl
  have at1 := at_nat (xs := sz) hf
  have a0 : dIx true (dName 1) (dC (.int 0)) [.sh (nats sz), .sh (.tup [nI f, y])] = .ok (.sh (nI f), [.sh (nats sz), .sh (.tup [nI f, y])]) := rfl
  have a1 : dIx true (dName 1) (dC (.int 1)) [.sh (nats sz), .sh (.tup [nI f, y])] = .ok (.sh y, [.sh (nats sz), .sh (.tup [nI f, y])]) := rfl
  generalize nI (sz.getD f 0) = s at e at1
  generalize D.tup [nI f, y] = cd at a0 a1 ⊢
  have a3 : dIx true (dName 0) (dIx true (dName 1) (dC (.int 0))) [.sh (nats sz), .sh cd] = .ok (.sh s, [.sh (nats sz), .sh cd]) := by
    rw [dIx]
    show Res.bind (Res.ok (Slot.sh (nats sz), [Slot.sh (nats sz), Slot.sh cd])) _ = _
    simp [-dIx, a0, kIx, at1]
  show dRet _ [.sh (nats sz), .sh cd] = _
  simp [-dIx, a1, a3, e]
/-! conditions -/
def BadK (sz : List Nat) (v : D) : Prop := F_is_conditions [.sh (nats sz), .sh v] = .ok (.sh (.bl false), [.sh (nats sz), .sh v])
def BadI (sz : List Nat) (x : D) : Prop := F_is_condition [.sh (nats sz), .sh x] = .ok (.sh (.bl false), [.sh (nats sz), .sh x])
theorem cs_kind {sz : List Nat} {v : D} (h : v.isT "tuple" = false) : BadK sz v := by
  refine fnG_rt (ρ' := [.sh (nats sz), .sh v, .un, .un]) (dSeq_rt ((dIf_t48 (ρ1 := [.sh (nats sz), .sh v, .un, .un]) ?_).trans rfl)) rfl (by decide) rfl
  show (dOrT (dNotT (dTst (dIsi "tuple" (dName 1)))) (dNotT (dTst (dBl gAll (dConsP true (dLc true (dSeqI (dName 1)) (tgN 3) (dYes) (dCall 2 F_is_condition (dConsF (dName 0) (dConsF (dName 3) (dNil)))) [3]) (dNil)))))) [.sh (nats sz), .sh v, .un, .un] = _
  generalize nats sz = z
  simp [-D.isT, h]
theorem cs_cond {sz : List Nat} {xs : List D} {β : D → Bool} (hl : xs.length < 1000) (hβ : ∀ x ∈ xs, F_is_condition [.sh (nats sz), .sh x] = .ok (.sh (.bl (β x)), [.sh (nats sz), .sh x])) : (dOrT (dNotT (dTst (dIsi "tuple" (dName 1)))) (dNotT (dTst (dBl gAll (dConsP true (dLc true (dSeqI (dName 1)) (tgN 3) (dYes) (dCall 2 F_is_condition (dConsF (dName 0) (dConsF (dName 3) (dNil)))) [3]) (dNil)))))) [.sh (nats sz), .sh (.tup xs), .un, .un] = .ok (!xs.all β, [.sh (nats sz), .sh (.tup xs), .un, .un]) := by
  have lc : (dLc true (dSeqI (dName 1)) (tgN 3) (dYes) (dCall 2 F_is_condition (dConsF (dName 0) (dConsF (dName 3) (dNil)))) [3]) [.sh (nats sz), .sh (.tup xs), .un, .un] = .ok (.own (xs.map fun x => D.bl (β x)), [.sh (nats sz), .sh (.tup xs), .un, .un]) := by
    refine dLc_mapS xs (fun y => y) _ (fz := true) rfl (List.map_id' xs).symm rfl rfl (small_line (by omega)) (fun x hx => ?_)
    have e := hβ x hx
    show dCall 2 _ _ [.sh (nats sz), .sh (.tup xs), .un, .sh x] = .ok (_, [.sh (nats sz), .sh (.tup xs), .un, .sh x])
    generalize β x = b at e ⊢
    generalize nats sz = z at e ⊢
    simp [e]
  have g := gAll_of β xs
  generalize (xs.map fun x => D.bl (β x)) = us at lc g
  generalize xs.all β = b at g ⊢
  have ti : dIsi "tuple" (dName 1) [.sh (nats sz), .sh (.tup xs), .un, .un] = .ok (.sh (.bl true), [.sh (nats sz), .sh (.tup xs), .un, .un]) := rfl
  generalize D.tup xs = t at lc ti ⊢
  generalize nats sz = z at lc ti ⊢
  simp [-dIsi, ti, lc, g]
theorem cs_part {sz : List Nat} {xs : List D} {x : D} (hl : xs.length < 1000) (hx : x ∈ xs) (h : BadI sz x) (ho : ∀ y ∈ xs, y ≠ x → ∃ c, CondOk sz c ∧ y = condD c) (hn : sz.length < 1000) : BadK sz (.tup xs) := by
  have c := cs_cond (sz := sz) (β := fun y => @ite _ (y = x) (Classical.propDecidable _) false true) hl (fun y hy => by
    show F_is_condition _ = .ok (.sh (.bl (@ite Bool (y = x) (Classical.propDecidable _) false true)), _)
    by_cases q : y = x
    · subst q
      rw [show (@ite Bool (y = y) (Classical.propDecidable _) false true) = false from @if_pos _ _ rfl _ _ _]
      exact h
    · rw [show (@ite Bool (y = x) (Classical.propDecidable _) false true) = true from @if_neg _ _ q _ _ _]
      obtain ⟨c, hc, rfl⟩ := ho y hy q
      exact e_is_condition hc hn)
  rw [show (xs.all fun y => @ite _ (y = x) (Classical.propDecidable _) false true) = false from List.all_eq_false.mpr ⟨x, hx, by
    rw [show (@ite Bool (x = x) (Classical.propDecidable _) false true) = false from @if_pos _ _ rfl _ _ _]; decide⟩] at c
  exact fnG_rt (ρ' := [.sh (nats sz), .sh (.tup xs), .un, .un]) (dSeq_rt ((dIf_t48 c).trans rfl)) rfl (by decide) rfl
theorem cs_asc {sz : List Nat} {cs : List (Nat × List Nat)} (hok : ∀ c ∈ cs, CondOk sz c) (hl : cs.length < 1000) (hn : sz.length < 1000) {i : Nat} (hi : i + 1 < cs.length) (h : ¬ (cs.getD i (0, [])).1 < (cs.getD (i + 1) (0, [])).1) : BadK sz (condsD cs) := by
  have c := cs_cond (sz := sz) (xs := cs.map condD) (β := fun _ => true) (by rw [List.length_map]; exact hl) (fun y hy => by
    obtain ⟨c, hc, rfl⟩ := List.mem_map.mp hy
    exact e_is_condition (hok c hc) hn)
  rw [show ((cs.map condD).all fun _ => true) = true by simp] at c
  have lc : (dLc true (dRng1 (dBin true gSub (dBl gLen (dConsP true (dName 1) (dNil))) (dC (.int 1)))) (tgN 2) (dYes) (dBin true gLt (dIx true (dIx true (dName 1) (dName 2)) (dC (.int 0))) (dIx true (dIx true (dName 1) (dBin true gAdd (dName 2) (dC (.int 1)))) (dC (.int 0)))) [2]) [.sh (nats sz), .sh (condsD cs), .un, .un] = .ok (.own ((List.range (cs.length - 1)).map fun i => D.bl (decide ((cs.getD i (0, [])).1 < (cs.getD (i + 1) (0, [])).1))), [.sh (nats sz), .sh (condsD cs), .un, .un]) := by
    refine dLc_mapS (List.range (cs.length - 1)) nI _ (fz := true) (rngI_ok cs.length (by omega) (by simp)) rfl rfl rfl (small_line (by rw [List.length_range]; omega)) (fun i hi => ?_)
    have hi := List.mem_range.mp hi
    have gt : ∀ j, j < cs.length → L2.atI (cs.map condD) (j : Int) = some (condD (cs.getD j (0, []))) := fun j hj => L2.atI_nat (by
      rw [List.getElem?_map, List.getD_eq_getElem?_getD, List.getElem?_eq_getElem hj]; rfl)
    have a := gt i (by omega)
    have c : L2.atI (cs.map condD) ((i : Int) + 1) = some (condD (cs.getD (i + 1) (0, []))) := gt (i + 1) (by omega)
    generalize cs.getD i (0, []) = x at a ⊢
    generalize cs.getD (i + 1) (0, []) = y at c ⊢
    generalize hcd : cs.map condD = cd at a c
    have hcd : condsD cs = .tup cd := by rw [← hcd]
    rw [hcd]
    have z1 : ∀ u : D, L2.atI [nI x.1, u] 0 = some (nI x.1) := fun _ => rfl
    have z2 : ∀ u : D, L2.atI [nI y.1, u] 0 = some (nI y.1) := fun _ => rfl
    have g : gLt (nI x.1) (nI y.1) = some (.bl (decide (x.1 < y.1))) := by
      have : decide ((x.1 : Int) < (y.1 : Int)) = decide (x.1 < y.1) := by
        rw [Bool.eq_iff_iff, decide_eq_true_iff, decide_eq_true_iff]
        omega
      rw [← this]
      simp
    show dBin true gLt _ _ [.sh (nats sz), .sh (.tup cd), .sh (nI i), .un] = .ok (_, [.sh (nats sz), .sh (.tup cd), .sh (nI i), .un])
    simp [-gLt, kIx, a, c, z1, z2, g]
  have g := gAll_of (fun i => decide ((cs.getD i (0, [])).1 < (cs.getD (i + 1) (0, [])).1)) (List.range (cs.length - 1))
  rw [show ((List.range (cs.length - 1)).all fun i => decide ((cs.getD i (0, [])).1 < (cs.getD (i + 1) (0, [])).1)) = false from List.all_eq_false.mpr ⟨i, List.mem_range.mpr (by omega), by rw [decide_eq_false h]; decide⟩] at g
  generalize ((List.range (cs.length - 1)).map fun i => D.bl (decide ((cs.getD i (0, [])).1 < (cs.getD (i + 1) (0, [])).1))) = us at lc g
  have c : (dOrT (dNotT (dTst (dIsi "tuple" (dName 1)))) (dNotT (dTst (dBl gAll (dConsP true (dLc true (dSeqI (dName 1)) (tgN 3) (dYes) (dCall 2 F_is_condition (dConsF (dName 0) (dConsF (dName 3) (dNil)))) [3]) (dNil)))))) [.sh (nats sz), .sh (.tup (cs.map condD)), .un, .un] = .ok (false, _) := c
  have lc : (dLc true (dRng1 (dBin true gSub (dBl gLen (dConsP true (dName 1) (dNil))) (dC (.int 1)))) (tgN 2) (dYes) (dBin true gLt (dIx true (dIx true (dName 1) (dName 2)) (dC (.int 0))) (dIx true (dIx true (dName 1) (dBin true gAdd (dName 2) (dC (.int 1)))) (dC (.int 0)))) [2]) [.sh (nats sz), .sh (.tup (cs.map condD)), .un, .un] = .ok (.own us, [.sh (nats sz), .sh (.tup (cs.map condD)), .un, .un]) := lc
  show F_is_conditions [.sh (nats sz), .sh (.tup (cs.map condD))] = .ok (_, [.sh (nats sz), .sh (.tup (cs.map condD))])
  generalize cs.map condD = t at c lc ⊢
  generalize nats sz = z at c lc ⊢
  refine fnG_rt (ρ' := [.sh z, .sh (.tup t), .un, .un]) (dSeq_nx (dIf_no c) ?_) rfl (by decide) rfl
  show dRet _ [.sh z, .sh (.tup t), .un, .un] = _
  simp [lc, g]
/-! sizes -/
def sizeB (x : D) : Bool := belowB x 7 && match x with
  | .int i => decide (1 < i)
  | _ => false
theorem size_kind {v : D} (h : v.isT "list" = false) : F_is_sizes [.sh v] = .ok (.sh (.bl false), [.sh v]) := by
  refine fnG_rt (ρ' := [.sh v, .un]) (dSeq_rt ((dIf_t48 (ρ1 := [.sh v, .un]) ?_).trans rfl)) rfl (by decide) rfl
  show (dOrT (dNotT (dTst (dIsi "list" (dName 0)))) (dBinT true gGt (dBl gLen (dConsP true (dName 0) (dNil))) (dC (.int (24))))) [.sh v, .un] = _
  simp [-D.isT, h]
theorem size_len {xs : List D} : (dOrT (dNotT (dTst (dIsi "list" (dName 0)))) (dBinT true gGt (dBl gLen (dConsP true (dName 0) (dNil))) (dC (.int (24))))) [.sh (.lst xs), .un] = .ok (decide (24 < xs.length), [.sh (.lst xs), .un]) := by
  have g1 : gLen [.lst xs] = some (nI xs.length) := rfl
  have gg : gGt (nI xs.length) (.int 24) = some (.bl (decide (24 < xs.length))) := by
    have : decide ((24 : Int) < (xs.length : Int)) = decide (24 < xs.length) := by
      rw [Bool.eq_iff_iff, decide_eq_true_iff, decide_eq_true_iff]
      omega
    rw [← this]
    simp
  generalize decide (24 < xs.length) = c at gg ⊢
  generalize nI xs.length = n at g1 gg
  simp [-gLen, -gGt, g1, gg]
theorem size_long {xs : List D} (h : 24 < xs.length) : F_is_sizes [.sh (.lst xs)] = .ok (.sh (.bl false), [.sh (.lst xs)]) := by
  have c := size_len (xs := xs)
  rw [decide_eq_true h] at c
  exact fnG_rt (ρ' := [.sh (.lst xs), .un]) (dSeq_rt ((dIf_t48 c).trans rfl)) rfl (by decide) rfl
theorem size_part {xs : List D} (hl : xs.length ≤ 24) {x : D} (hx : x ∈ xs) (hb : sizeB x = false) : F_is_sizes [.sh (.lst xs)] = .ok (.sh (.bl false), [.sh (.lst xs)]) := by
  have c := size_len (xs := xs)
  rw [decide_eq_false (by omega)] at c
  have lc : (dLc true (dSeqI (dName 0)) (tgN 1) (dYes) (dAnd (dCall 2 F_is_below (dConsF (dName 1) (dConsF (dBin true gAdd (dC (.int (6))) (dC (.int 1))) (dNil)))) (dBin true gGt (dName 1) (dC (.int 1)))) [1]) [.sh (.lst xs), .un] = .ok (.own (xs.map fun x => D.bl (sizeB x)), [.sh (.lst xs), .un]) := by
    refine dLc_mapS xs (fun x => x) _ (fz := true) (dSeqI_at rfl) (List.map_id' xs).symm rfl rfl (small_line (by omega)) (fun x hx => ?_)
    have e := e_below_D x 7
    show (dAnd (dCall 2 F_is_below (dConsF (dName 1) (dConsF (dBin true gAdd (dC (.int (6))) (dC (.int 1))) (dNil)))) (dBin true gGt (dName 1) (dC (.int 1)))) [.sh (.lst xs), .sh x] = .ok (_, [.sh (.lst xs), .sh x])
    unfold sizeB
    have ga : gAdd (.int 6) (.int 1) = some (nI 7) := rfl
    cases hb : belowB x 7 with
    | false =>
      rw [hb] at e
      generalize nI 7 = n7 at e ga
      simp [-gAdd, e, ga]
    | true =>
      rw [hb] at e
      cases x with
      | int i =>
        generalize nI 7 = n7 at e ga
        simp [-gAdd, e, ga]
      | _ => cases hb
  have g := gAll_of sizeB xs
  rw [show xs.all sizeB = false from List.all_eq_false.mpr ⟨x, hx, by rw [hb]; decide⟩] at g
  generalize (xs.map fun x => D.bl (sizeB x)) = us at lc g
  refine fnG_rt (ρ' := [.sh (.lst xs), .un]) (dSeq_nx (dIf_no c) ?_) rfl (by decide) rfl
  simp [lc, g]
end LW
namespace LW
open PySem PySem.Spec PyProof.Rows L2 DL
theorem exc_kind {T : String} (h : T ∈ ["NoneType", "bool", "int", "str", "list", "tuple", "dict"]) (c : Str) : D.isT T (.exc c) = false := tysOk_in h c
theorem lenN (xs : List Nat) : gLen [nats xs] = some (nI xs.length) := by
  unfold nats
  show some (D.int _) = _
  rw [List.length_map]
/-! fitting -/
theorem fitting_sizes {v u : D} (h : F_is_sizes [.sh v] = .ok (.sh (.bl false), [.sh v])) : F_fitting [.sh v, .sh u] = .ex "InvalidSizes" [.sh v, .sh u] := by
  have n : F_need_sizes [.sh v] = .ex "InvalidSizes" [.sh v] := by
    refine fnG_ex (ρ' := [.sh v]) ?_ rfl (by decide) rfl
    show dIf _ _ _ [.sh v] = _
    simp [h]
  refine fnG_ex (ρ' := [.sh v, .sh u, .un]) ?_ rfl (by decide) rfl
  have e : (dDrop (dCall 1 F_need_sizes (dConsF (dName 0) (dNil)))) [.sh v, .sh u, .un] = .ex "InvalidSizes" [.sh v, .sh u, .un] := by simp [n]
  show dSeq _ _ [.sh v, .sh u, .un] = _
  unfold dSeq
  rw [e]
theorem fitting_conds {sz : List Nat} (hs : SzOk sz) {u : D} (h : BadK sz u) : F_fitting [.sh (nats sz), .sh u] = .ex "InvalidConditions" [.sh (nats sz), .sh u] := by
  have h : F_is_conditions [.sh (nats sz), .sh u] = _ := h
  have e1 := e_need_sizes hs
  generalize nats sz = z at h e1 ⊢
  have n : F_need_conditions [.sh z, .sh u] = .ex "InvalidConditions" [.sh z, .sh u] := by
    refine fnG_ex (ρ' := [.sh z, .sh u]) ?_ rfl (by decide) rfl
    show dIf _ _ _ [.sh z, .sh u] = _
    simp [h]
  refine fnG_ex (ρ' := [.sh z, .sh u, .un]) (dSeq_nx (ρ1 := [.sh z, .sh u, .un]) (by simp [e1]) ?_) rfl (by decide) rfl
  have e : (dDrop (dCall 2 F_need_conditions (dConsF (dName 0) (dConsF (dName 1) (dNil))))) [.sh z, .sh u, .un] = .ex "InvalidConditions" [.sh z, .sh u, .un] := by simp [n]
  unfold dSeq
  rw [e]
theorem need_conds {sz : List Nat} (hl : sz.length < 1000) {cs : List (Nat × List Nat)} (hc : CondsOk sz cs) : F_need_conditions [.sh (nats sz), .sh (condsD cs)] = .ok (.sh .non, [.sh (nats sz), .sh (condsD cs)]) := by
  have h := e_is_conditions hc hl
  refine fnG_nx (ρ' := [.sh (nats sz), .sh (condsD cs)]) ?_ rfl (by decide) rfl
  generalize condsD cs = u at h ⊢
  generalize nats sz = z at h ⊢
  show dIf _ _ _ [.sh z, .sh u] = _
  simp [h]
theorem prd_bound : ∀ (l : List Nat) (a : Nat), (∀ s ∈ l, s ≤ 6) → l.foldl (fun a s => a * (s + 0)) a ≤ a * 6 ^ l.length
  | [], a, _ => by simp
  | s :: l, a, h => by
    rw [List.foldl_cons, List.length_cons]
    have h1 := prd_bound l (a * (s + 0)) (fun x hx => h x (List.mem_cons_of_mem _ hx))
    have h2 : s ≤ 6 := h s List.mem_cons_self
    have h3 : a * (s + 0) * 6 ^ l.length ≤ a * 6 * 6 ^ l.length := Nat.mul_le_mul_right _ (Nat.mul_le_mul_left _ h2)
    rw [Nat.pow_succ, Nat.mul_comm (6 ^ l.length) 6, ← Nat.mul_assoc]
    omega
theorem prd_24 {l : List Nat} (h : ∀ s ∈ l, s ≤ 6) (hl : l.length ≤ 24) : prdM 0 l < 2 ^ 63 := by
  have h1 := prd_bound l 1 h
  have h2 : 6 ^ l.length ≤ 6 ^ 24 := Nat.pow_le_pow_right (by omega) hl
  have h3 : (6 : Nat) ^ 24 < 2 ^ 63 := by decide
  unfold prdM
  omega
theorem e_product_big {sz : List Nat} (hs : SzOk sz) : F_product [.sh (nats sz)] = .ok (.sh (nI (prdM 0 sz)), [.sh (nats sz)]) := by
  have hl := hs.1
  obtain ⟨ρ', e, s2, rfl⟩ := dFor_inv (it := dSeqI (dName 0)) (g := tgN 2) (body := dSetF 1 (dBin true gMul (dName 1) (dName 2))) (ρ := [.sh (nats sz), .sh (nI 1), .un]) (ρ1 := [.sh (nats sz), .sh (nI 1), .un]) sz nI
    (fun pre ρ => ∃ s2, ρ = [.sh (nats sz), .sh (nI (prdM 0 pre)), s2]) (dSeqI_at rfl) rfl ⟨.un, rfl⟩ (fun pre s post ρ e hρ => by
      obtain ⟨s2, rfl⟩ := hρ
      have q := prd_24 (l := pre) (fun s h => (hs.2 s (by rw [e]; simp [h])).2) (by have := congrArg List.length e; rw [List.length_append, List.length_cons] at this; omega)
      have hs' := hs.2 s (by rw [e]; simp)
      have gm := gMul_ok (show Sz 63 (prdM 0 pre : Int) by show (prdM 0 pre : Int).natAbs < 2 ^ 63; omega) (show Sz 3 (s : Int) by show (s : Int).natAbs < 2 ^ 3; omega)
      refine ⟨_, [.sh (nats sz), .sh (nI (prdM 0 (pre ++ [s]))), .sh (nI s)], rfl, .inl ?_, _, rfl⟩
      rw [prdM_snoc]
      generalize prdM 0 pre = p at gm
      simp [gm])
  refine fnG_rt (ρ' := [.sh (nats sz), .sh (nI (prdM 0 sz)), s2]) ?_ rfl (by decide) rfl
  generalize prdM 0 sz = p at e
  refine dSeq_nx (ρ1 := [.sh (nats sz), .sh (nI 1), .un]) ?_ (dSeq_nx e ?_)
  · simp
  · simp
theorem fitting_small {sz : List Nat} (hs : SzOk sz) {cs : List (Nat × List Nat)} (hc : CondsOk sz cs) (hp : 1024 < prdM 0 sz) : F_fitting [.sh (nats sz), .sh (condsD cs)] = .ex "NotSmall" [.sh (nats sz), .sh (condsD cs)] := by
  have e1 := e_need_sizes hs
  have e2 := need_conds (by have := hs.1; omega) hc
  have e3 := e_product_big hs
  have gg : gGt (nI (prdM 0 sz)) (.int 1024) = some (.bl true) := by
    show some (D.bl (decide ((1024 : Int) < (prdM 0 sz : Int)))) = _
    rw [decide_eq_true (by omega)]
  generalize condsD cs = u at e2 ⊢
  generalize nats sz = z at e1 e2 e3 ⊢
  generalize nI (prdM 0 sz) = p at e3 gg
  have n : F_need_small [.sh z] = .ex "NotSmall" [.sh z] := by
    refine fnG_ex (ρ' := [.sh z]) ?_ rfl (by decide) rfl
    show dIf _ _ _ [.sh z] = _
    simp [-gGt, e3, gg]
  refine fnG_ex (ρ' := [.sh z, .sh u, .un]) (dSeq_nx (ρ1 := [.sh z, .sh u, .un]) (by simp [e1]) (dSeq_nx (ρ1 := [.sh z, .sh u, .un]) (by simp [e2]) ?_)) rfl (by decide) rfl
  have e : (dDrop (dCall 1 F_need_small (dConsF (dName 0) (dNil)))) [.sh z, .sh u, .un] = .ex "NotSmall" [.sh z, .sh u, .un] := by simp [n]
  unfold dSeq
  rw [e]
theorem e_fitting {sz : List Nat} (hs : SzOk sz) (hp : prdM 0 sz ≤ 1024) {cs : List (Nat × List Nat)} (hc : CondsOk sz cs) : F_fitting [.sh (nats sz), .sh (condsD cs)] = .ok (.sh (nI ((casesL sz).filter fun r => isFit r cs).length), [.sh (nats sz), .sh (condsD cs)]) := by
  have hl := hs.1
  have e1 := e_need_sizes hs
  have e2 := need_conds (by omega) hc
  have e3 := e_need_small hs.2 hp (by omega)
  have e4 := e_all_cases hs hp
  have lc : (dLc true (dSeqI (dCall 1 F_all_cases (dConsF (dName 0) (dNil)))) (tgN 2) (dTst (dCall 2 F_is_fitting (dConsF (dName 1) (dConsF (dName 2) (dNil))))) (dName 2) [2]) [.sh (nats sz), .sh (condsD cs), .un] = .ok (.own (((casesL sz).filter fun r => isFit r cs).map nats), [.sh (nats sz), .sh (condsD cs), .un]) := by
    refine dLc_eqS (casesL sz) nats _ nats (fz := true) (ds := (casesL sz).map nats) (by
      generalize (casesL sz).map nats = cc at e4 ⊢
      generalize condsD cs = u
      generalize nats sz = z at e4 ⊢
      simp [e4, D.items]) rfl rfl rfl (small_line (by rw [casesL_len]; omega)) (fun q hq => ?_) (fun q hq _ => rfl)
    have e := e_is_fitting hc (casesL_row q hq)
    show dTst _ [.sh (nats sz), .sh (condsD cs), .sh (nats q)] = .ok (_, [.sh (nats sz), .sh (condsD cs), .sh (nats q)])
    generalize isFit q cs = b at e ⊢
    generalize condsD cs = u at e ⊢
    generalize nats q = qq at e ⊢
    generalize nats sz = z
    simp [e]
  have gl : gLen [.lst (((casesL sz).filter fun r => isFit r cs).map nats)] = some (nI ((casesL sz).filter fun r => isFit r cs).length) := by
    show some (D.int _) = _
    rw [List.length_map]
  generalize nI ((casesL sz).filter fun r => isFit r cs).length = n at gl ⊢
  generalize ((casesL sz).filter fun r => isFit r cs).map nats = W at lc gl
  generalize condsD cs = u at e2 lc ⊢
  generalize nats sz = z at e1 e2 e3 lc ⊢
  refine fnG_rt (ρ' := [.sh z, .sh u, .un]) (dSeq_nx (ρ1 := [.sh z, .sh u, .un]) (by simp [e1]) (dSeq_nx (ρ1 := [.sh z, .sh u, .un]) (by simp [e2]) (dSeq_nx (ρ1 := [.sh z, .sh u, .un]) (by simp [e3]) ?_))) rfl (by decide) rfl
  simp [-gLen, lc, gl]
/-! what is raised -/
theorem refused_of {z v : D} {c w : Str} (e : F_fitting [.sh z, .sh v] = .ex c [.sh z, .sh v]) (h : (c = "InvalidSizes" ∧ w = "sizes") ∨ (c = "InvalidConditions" ∧ w = "conditions") ∨ (c = "NotSmall" ∧ w = "small")) : F__law_refused [.sh z, .sh v] = .ok (.sh (.str w), [.sh z, .sh v]) := by
  refine fnG_rt (ρ' := [.sh z, .sh v, .sh (.str w)]) (dSeq_nx (ρ1 := [.sh z, .sh v, .sh (.str "nothing")]) rfl (dSeq_nx (ρ1 := [.sh z, .sh v, .sh (.str w)]) ?_ rfl)) rfl (by decide) rfl
  have e1 : dDrop (dCall 2 F_fitting (dConsF (dName 0) (dConsF (dName 1) (dNil)))) [.sh z, .sh v, .sh (.str "nothing")] = .ex c [.sh z, .sh v, .sh (.str "nothing")] := by
    generalize D.str "nothing" = no
    simp [e]
  unfold dTry3
  rw [e1]
  dsimp only
  rcases h with ⟨rfl, rfl⟩ | ⟨rfl, rfl⟩ | ⟨rfl, rfl⟩
  · rw [if_pos rfl]; rfl
  · rw [if_neg (by decide +kernel), if_pos rfl]; rfl
  · rw [if_neg (by decide +kernel), if_neg (by decide +kernel), if_pos rfl]; rfl
/-! wrong sizes -/
def Fzd (s : DL.Slot) (v : D) : Prop := s = .sh v ∨ ∃ xs, s = .own xs ∧ v = .lst xs
theorem e_law_bad_sizes {x : Int} (hx : CellOk x) {sz : List Nat} (hs : SzOk sz) (hl : sz.length ≤ 20) : ∃ (s : DL.Slot) (v : D), F__law_bad_sizes [.sh (nats sz), .sh (.int x)] = .ok (s, [.sh (nats sz), .sh (.int x)]) ∧ Fzd s v ∧ F_is_sizes [.sh v] = .ok (.sh (.bl false), [.sh v]) := by
  obtain ⟨hw, e1⟩ := e_draw hx (k := 110) (l := 8) (by omega) (by omega) (by omega)
  generalize drw x 110 8 = w at hw e1
  have gl := lenN sz
  have eqs : ∀ k : Nat, gEq (nI w) (nI k) = some (.bl (w == k)) := fun k => natEqD w k
  have q0 : (dSetF 2 (dCall 3 F__law_draw (dConsF (dName 1) (dConsF (dC (.int 110)) (dConsF (dC (.int 8)) (dNil)))))) [.sh (nats sz), .sh (.int x), .un, .un, .un, .un] = .nx [.sh (nats sz), .sh (.int x), .sh (nI w), .un, .un, .un] := by
    have e1 : F__law_draw [.sh (.int x), .sh (.int 110), .sh (.int 8)] = .ok (.sh (nI w), [.sh (.int x), .sh (.int 110), .sh (.int 8)]) := e1
    generalize nats sz = z
    generalize nI w = ww at e1 ⊢
    simp [e1]
  have cond : ∀ (k : Nat) (kd : D) (e : kd = nI k) (st : List DL.Slot), st[2]? = some (.sh (nI w)) → dBinT true gEq (dName 2) (dC kd) st = .ok (w == k, st) := fun k kd e st hst => by
    subst e
    have g := eqs k
    generalize (w == k) = b at g ⊢
    generalize nI k = kk at g ⊢
    generalize nI w = ww at g hst
    simp [-gEq, hst, g]
  by_cases c0 : w = 0
  · have c := cond 0 _ rfl [.sh (nats sz), .sh (.int x), .sh (nI w), .un, .un, .un] rfl
    rw [show (w == 0) = true by simpa using c0] at c
    refine ⟨_, .tup (sz.map nI), fnG_rt (ρ' := [.sh (nats sz), .sh (.int x), .sh (nI w), .un, .un, .un]) (dSeq_nx q0 (dSeq_rt ((dIf_t48 c).trans ?_))) rfl (by decide) rfl, .inl rfl, size_kind rfl⟩
    unfold nats
    generalize sz.map nI = z
    generalize nI w = ww
    simp
  have n0 := cond 0 _ rfl [.sh (nats sz), .sh (.int x), .sh (nI w), .un, .un, .un] rfl
  rw [show (w == 0) = false by simpa using c0] at n0
  by_cases c1 : w = 1
  · have c := cond 1 _ rfl [.sh (nats sz), .sh (.int x), .sh (nI w), .un, .un, .un] rfl
    rw [show (w == 1) = true by simpa using c1] at c
    have gs : DL.gSub (.int 25) (nI sz.length) = some (nI (25 - sz.length)) := by
      show some (D.int ((25 : Int) - (sz.length : Int))) = some (D.int ((25 - sz.length : Nat) : Int))
      congr 2
      omega
    have lc : (dLc true (dRng1 (dBin true gSub (dC (.int 25)) (dBl gLen (dConsP true (dName 0) (dNil))))) (tgN 5) (dYes) (dC (.int 2)) [5]) [.sh (nats sz), .sh (.int x), .sh (nI w), .un, .un, .un] = .ok (.own ((List.range (25 - sz.length)).map fun _ => D.int 2), [.sh (nats sz), .sh (.int x), .sh (nI w), .un, .un, .un]) := by
      refine dLc_mapS (List.range (25 - sz.length)) nI _ (fz := true) (rngN_ok (25 - sz.length) (by omega) (by
        generalize nI (25 - sz.length) = m at gs ⊢
        generalize nI sz.length = n at gl gs
        generalize nats sz = z at gl ⊢
        generalize nI w = ww
        simp [-gLen, -DL.gSub, gl, gs])) rfl rfl rfl (small_line (by rw [List.length_range]; omega)) (fun i hi => rfl)
    have ct := catG (f1 := dName 0) (ρ := [.sh (nats sz), .sh (.int x), .sh (nI w), .un, .un, .un]) (s1 := .sh (nats sz)) (xs := sz.map nI) rfl lc (.inl rfl) (.inr rfl) (by rw [List.length_map, List.length_map, List.length_range]; omega)
    refine ⟨.own (sz.map nI ++ (List.range (25 - sz.length)).map fun _ => D.int 2), .lst (sz.map nI ++ (List.range (25 - sz.length)).map fun _ => D.int 2), fnG_rt (ρ' := [.sh (nats sz), .sh (.int x), .sh (nI w), .un, .un, .un]) (dSeq_nx q0 (dSeq_nx (dIf_no n0) (dSeq_rt ((dIf_t48 c).trans ?_)))) rfl (by decide) rfl, .inr ⟨_, rfl, rfl⟩, size_long ?_⟩
    · unfold dRet
      rw [ct]
      rfl
    · rw [List.length_append, List.length_map, List.length_map, List.length_range]; omega
  have n1 := cond 1 _ rfl [.sh (nats sz), .sh (.int x), .sh (nI w), .un, .un, .un] rfl
  rw [show (w == 1) = false by simpa using c1] at n1
  by_cases c2 : w = 2
  · have c := cond 2 _ rfl [.sh (nats sz), .sh (.int x), .sh (nI w), .un, .un, .un] rfl
    rw [show (w == 2) = true by simpa using c2] at c
    obtain ⟨hj, e2⟩ := e_draw hx (k := 125) (l := 6) (by omega) (by omega) (by omega)
    have e2 : F__law_draw [.sh (.int x), .sh (.int 125), .sh (.int 6)] = .ok (.sh (nI (drw x 125 6)), [.sh (.int x), .sh (.int 125), .sh (.int 6)]) := e2
    generalize drw x 125 6 = j at hj e2
    obtain ⟨v, ix, hv⟩ : ∃ v, L2.atI [D.non, .str "22", .int 5, .bl true, .tup [], .exc "NotSmall"] (j : Int) = some v ∧ v.isT "list" = false := by
      rcases (show j = 0 ∨ j = 1 ∨ j = 2 ∨ j = 3 ∨ j = 4 ∨ j = 5 by omega) with rfl | rfl | rfl | rfl | rfl | rfl
      · exact ⟨_, L2.atI_nat rfl, rfl⟩
      · exact ⟨_, L2.atI_nat rfl, rfl⟩
      · exact ⟨_, L2.atI_nat rfl, rfl⟩
      · exact ⟨_, L2.atI_nat rfl, rfl⟩
      · exact ⟨_, L2.atI_nat rfl, rfl⟩
      · exact ⟨_, L2.atI_nat rfl, exc_kind (by decide) _⟩
    refine ⟨_, v, fnG_rt (ρ' := [.sh (nats sz), .sh (.int x), .sh (nI w), .un, .un, .un]) (dSeq_nx q0 (dSeq_nx (dIf_no n0) (dSeq_nx (dIf_no n1) (dSeq_rt ((dIf_t48 c).trans ?_))))) rfl (by decide) rfl, .inl rfl, size_kind hv⟩
    generalize nats sz = z
    generalize nI w = ww
    simp [kIx, e2, ix]
  have n2 := cond 2 _ rfl [.sh (nats sz), .sh (.int x), .sh (nI w), .un, .un, .un] rfl
  rw [show (w == 2) = false by simpa using c2] at n2
  obtain ⟨hj, e2⟩ := e_draw hx (k := 125) (l := 9) (by omega) (by omega) (by omega)
  have e2 : F__law_draw [.sh (.int x), .sh (.int 125), .sh (.int 9)] = .ok (.sh (nI (drw x 125 9)), [.sh (.int x), .sh (.int 125), .sh (.int 9)]) := e2
  generalize drw x 125 9 = j at hj e2
  have p30 : gPow (.int 10) (.int 30) = some (.int (10 ^ 30)) := gPow_ok (by decide) (by decide) (by decide)
  obtain ⟨v, ix, hv⟩ : ∃ v, L2.atI [D.int 1, .int 7, .bl true, .non, .int 0, .int (-2), .str "2", .lst [.int 2], .int (10 ^ 30)] (j : Int) = some v ∧ sizeB v = false := by
    rcases (show j = 0 ∨ j = 1 ∨ j = 2 ∨ j = 3 ∨ j = 4 ∨ j = 5 ∨ j = 6 ∨ j = 7 ∨ j = 8 by omega) with rfl | rfl | rfl | rfl | rfl | rfl | rfl | rfl | rfl
    · exact ⟨_, L2.atI_nat rfl, by decide⟩
    · exact ⟨_, L2.atI_nat rfl, by decide⟩
    · exact ⟨_, L2.atI_nat rfl, rfl⟩
    · exact ⟨_, L2.atI_nat rfl, rfl⟩
    · exact ⟨_, L2.atI_nat rfl, by decide⟩
    · exact ⟨_, L2.atI_nat rfl, by decide⟩
    · exact ⟨_, L2.atI_nat rfl, rfl⟩
    · exact ⟨_, L2.atI_nat rfl, rfl⟩
    · exact ⟨_, L2.atI_nat rfl, by decide⟩
  obtain ⟨hat, e3⟩ := e_draw hx (k := 126) (l := sz.length + 1) (by omega) (by omega) (by omega)
  have e3 : F__law_draw [.sh (.int x), .sh (.int 126), .sh (nI (sz.length + 1))] = .ok (.sh (nI (drw x 126 (sz.length + 1))), [.sh (.int x), .sh (.int 126), .sh (nI (sz.length + 1))]) := e3
  generalize drw x 126 (sz.length + 1) = at_ at hat e3
  have q4 : (dSetF 3 (dIx true (dLst (dConsF (dC (.int 1)) (dConsF (dC (.int 7)) (dConsF (dC (.bl true)) (dConsF (dC .non) (dConsF (dC (.int 0)) (dConsF (dUn gNeg (dC (.int 2))) (dConsF (dC (.str "2")) (dConsF (dLst (dConsF (dC (.int 2)) (dNil))) (dConsF (dBin true gPow (dC (.int 10)) (dC (.int 30))) (dNil))))))))))) (dCall 3 F__law_draw (dConsF (dName 1) (dConsF (dC (.int 125)) (dConsF (dC (.int 9)) (dNil))))))) [.sh (nats sz), .sh (.int x), .sh (nI w), .un, .un, .un] = .nx [.sh (nats sz), .sh (.int x), .sh (nI w), .sh v, .un, .un] := by
    generalize nats sz = z
    generalize nI w = ww
    generalize ((10 : Int) ^ 30) = big at p30 ix
    simp [kIx, e2, ix, p30]
  have q5 : (dSetF 4 (dCall 3 F__law_draw (dConsF (dName 1) (dConsF (dC (.int 126)) (dConsF (dBin true gAdd (dBl gLen (dConsP true (dName 0) (dNil))) (dC (.int 1))) (dNil)))))) [.sh (nats sz), .sh (.int x), .sh (nI w), .sh v, .un, .un] = .nx [.sh (nats sz), .sh (.int x), .sh (nI w), .sh v, .sh (nI at_), .un] := by
    have ga : gAdd (nI sz.length) (.int 1) = some (nI (sz.length + 1)) := rfl
    generalize nI (sz.length + 1) = n1 at ga e3
    generalize nI sz.length = n at gl ga
    generalize nats sz = z at gl ⊢
    generalize nI w = ww
    generalize nI at_ = aa at e3 ⊢
    simp [-gLen, -gAdd, gl, ga, e3]
  have lM : (sz.map nI).length = sz.length := List.length_map ..
  have ww5 : gLt (nI w) (.int 5) = some (.bl (decide (w < 5))) := by
    have : decide ((w : Int) < 5) = decide (w < 5) := by
      rw [Bool.eq_iff_iff, decide_eq_true_iff, decide_eq_true_iff]
      omega
    rw [← this]
    simp
  have c5 : dBinT true gLt (dName 2) (dC (.int 5)) [.sh (nats sz), .sh (.int x), .sh (nI w), .sh v, .sh (nI at_), .un] = .ok (decide (w < 5), [.sh (nats sz), .sh (.int x), .sh (nI w), .sh v, .sh (nI at_), .un]) := by
    generalize decide (w < 5) = b at ww5 ⊢
    generalize nI w = ww at ww5 ⊢
    generalize nats sz = z
    simp [-gLt, ww5]
  have s1 := slG1 (ρ := [.sh (nats sz), .sh (.int x), .sh (nI w), .sh v, .sh (nI at_), .un]) (i := 0) (R := sz.map nI) (f := dName 4) (k := at_) rfl rfl
  have o : dLst (dConsF (dName 3) (dNil)) [.sh (nats sz), .sh (.int x), .sh (nI w), .sh v, .sh (nI at_), .un] = .ok (.own [v], [.sh (nats sz), .sh (.int x), .sh (nI w), .sh v, .sh (nI at_), .un]) := by
    generalize nats sz = z
    generalize nI w = ww
    generalize nI at_ = aa
    simp
  have lt := List.length_take_le at_ (sz.map nI)
  have k1 := catG s1 o (.inr rfl) (.inr rfl) (by simp; omega)
  by_cases c : w < 5
  · rw [decide_eq_true c] at c5
    have s2 := slG2 (ρ := [.sh (nats sz), .sh (.int x), .sh (nI w), .sh v, .sh (nI at_), .un]) (i := 0) (R := sz.map nI) (f := dName 4) (k := at_) rfl rfl
    have k2 := catG k1 s2 (.inr rfl) (.inr rfl) (by rw [List.length_append, List.length_singleton, List.length_drop]; omega)
    refine ⟨.own ((sz.map nI).take at_ ++ [v] ++ (sz.map nI).drop at_), .lst ((sz.map nI).take at_ ++ [v] ++ (sz.map nI).drop at_), fnG_rt (ρ' := [.sh (nats sz), .sh (.int x), .sh (nI w), .sh v, .sh (nI at_), .un]) (dSeq_nx q0 (dSeq_nx (dIf_no n0) (dSeq_nx (dIf_no n1) (dSeq_nx (dIf_no n2) (dSeq_nx q4 (dSeq_nx q5 (dSeq_rt ((dIf_t48 c5).trans ?_)))))))) rfl (by decide) rfl, .inr ⟨_, rfl, rfl⟩, size_part ?_ (x := v) ?_ hv⟩
    · unfold dRet
      rw [k2]
      rfl
    · rw [List.length_append, List.length_append, List.length_singleton, List.length_drop]; omega
    · simp
  · rw [decide_eq_false c] at c5
    have p1 : dBin true gAdd (dName 4) (dC (.int 1)) [.sh (nats sz), .sh (.int x), .sh (nI w), .sh v, .sh (nI at_), .un] = .ok (.sh (nI (at_ + 1)), [.sh (nats sz), .sh (.int x), .sh (nI w), .sh v, .sh (nI at_), .un]) := by
      have ga : gAdd (nI at_) (.int 1) = some (nI (at_ + 1)) := rfl
      generalize nats sz = z
      generalize nI w = ww
      simp [-gAdd, ga]
    have s2 := slG2 (ρ := [.sh (nats sz), .sh (.int x), .sh (nI w), .sh v, .sh (nI at_), .un]) (i := 0) (R := sz.map nI) rfl p1
    have k2 := catG k1 s2 (.inr rfl) (.inr rfl) (by rw [List.length_append, List.length_singleton, List.length_drop]; omega)
    refine ⟨.own ((sz.map nI).take at_ ++ [v] ++ (sz.map nI).drop (at_ + 1)), .lst ((sz.map nI).take at_ ++ [v] ++ (sz.map nI).drop (at_ + 1)), fnG_rt (ρ' := [.sh (nats sz), .sh (.int x), .sh (nI w), .sh v, .sh (nI at_), .un]) (dSeq_nx q0 (dSeq_nx (dIf_no n0) (dSeq_nx (dIf_no n1) (dSeq_nx (dIf_no n2) (dSeq_nx q4 (dSeq_nx q5 (dSeq_nx (dIf_no c5) ?_))))))) rfl (by decide) rfl, .inr ⟨_, rfl, rfl⟩, size_part ?_ (x := v) ?_ hv⟩
    · unfold dRet
      rw [k2]
      rfl
    · rw [List.length_append, List.length_append, List.length_singleton, List.length_drop]; omega
    · simp
/-! a wrong condition -/
theorem vlen0 {s : Nat} : ∀ (vs : List Nat) (lo : Nat), (∀ v ∈ vs, lo ≤ v ∧ v < s) → vs.Pairwise (· < ·) → vs = [] ∨ vs.length + lo ≤ s
  | [], _, _, _ => .inl rfl
  | v :: vs, lo, h, hp => by
    obtain ⟨h1, h2⟩ := List.pairwise_cons.mp hp
    have hv := h v List.mem_cons_self
    rcases vlen0 vs (v + 1) (fun x hx => ⟨h1 x hx, (h x (List.mem_cons_of_mem _ hx)).2⟩) h2 with e | e
    · rw [e]; exact .inr (by simp; omega)
    · exact .inr (by rw [List.length_cons]; omega)
theorem vlen {vs : List Nat} {s : Nat} (hb : ∀ v ∈ vs, v < s) (hp : vs.Pairwise (· < ·)) (hs : s ≤ 6) : vs.length ≤ 6 := by
  rcases vlen0 vs 0 (fun v hv => ⟨by omega, hb v hv⟩) hp with e | e
  · rw [e]; simp
  · omega
theorem menu_bad {sz : List Nat} (hs : SzOk sz) {c : Nat × List Nat} (hc : CondOk sz c) : ∀ v ∈ ([.tup [nI c.1, .tup (c.2.map nI ++ [nI (sz.getD c.1 0)])], .tup [nI c.1, .lst (c.2.map nI)], .tup [nI c.1, tN c.2, tN c.2], .tup [.bl false, tN c.2], .tup [nI c.1, .tup [.int 1, .int 0]], .tup [nI c.1, .tup [.int 0, .int 0]], .tup [nI c.1, .tup [.int 0, .bl true]], .tup [nI c.1, .tup [.int (-1), .int 0]], .tup [.int (-1), tN c.2], .tup [nI c.1, .non], .tup [nI c.1, .int 0], .tup [nI c.1], .tup [], .lst [nI c.1, tN c.2], nI c.1, .str "0", .non, .tup [.str (toString (c.1 : Int)), tN c.2], .tup [.tup [nI c.1], tN c.2]] : List D), BadI sz v := by
  obtain ⟨h1, h2, h3, h4⟩ := hc
  have ss := hs.2 (sz.getD c.1 0) (atMem h1)
  intro v hv
  simp only [List.mem_cons, List.not_mem_nil, or_false] at hv
  rcases hv with rfl | rfl | rfl | rfl | rfl | rfl | rfl | rfl | rfl | rfl | rfl | rfl | rfl | rfl | rfl | rfl | rfl | rfl | rfl
  · exact con_vals h1 (val_part (by rw [List.length_append, List.length_map, List.length_singleton]; have := vlen h2 h3 ss.2; omega) (y := nI (sz.getD c.1 0)) (by simp) (by unfold belowB; exact decide_eq_false fun z => by omega))
  · exact con_vals h1 (val_kind rfl)
  · exact con_len (by simp)
  · exact con_field rfl
  · exact con_vals h1 (val_pair (u := 1) (v := 0) (by omega) (by omega) (by omega))
  · exact con_vals h1 (val_pair (u := 0) (v := 0) (by omega) (by omega) (by omega))
  · exact con_vals h1 (val_part (by simp) (y := .bl true) (by simp) rfl)
  · exact con_vals h1 (val_part (by simp) (y := .int (-1)) (by simp) (by unfold belowB; exact decide_eq_false fun z => by omega))
  · exact con_field (by unfold belowB; exact decide_eq_false fun z => by omega)
  · exact con_vals h1 (val_kind rfl)
  · exact con_vals h1 (val_kind rfl)
  · exact con_len (by simp)
  · exact con_len (by simp)
  · exact con_kind rfl
  · exact con_kind rfl
  · exact con_kind rfl
  · exact con_kind rfl
  · exact con_field rfl
  · exact con_field rfl
theorem e_law_bad_condition {sz : List Nat} (hs : SzOk sz) {c : Nat × List Nat} (hc : CondOk sz c) {w : Nat} (hw : w < 19) : ∃ v, F__law_bad_condition [.sh (nats sz), .sh (nI c.1), .sh (tN c.2), .sh (nI w)] = .ok (.sh v, [.sh (nats sz), .sh (nI c.1), .sh (tN c.2), .sh (nI w)]) ∧ BadI sz v := by
  have hn := hs.1
  have mb := menu_bad hs hc
  have at1 := at_nat (xs := sz) hc.1
  have cl := vlen hc.2.1 hc.2.2.1 (hs.2 (sz.getD c.1 0) (atMem hc.1)).2
  have gs : gStr [nI c.1] = some (.str (toString (c.1 : Int))) := by
    refine @if_pos _ (_) ?_ _ _ _
    have h1 := hc.1
    have : ((c.1 : Int)).natAbs < 2 ^ 1920 := Nat.lt_of_lt_of_le (show ((c.1 : Int)).natAbs < 2 ^ 5 by omega) (Nat.pow_le_pow_right (by omega) (by omega))
    by_cases z : ((c.1 : Int)).natAbs = 0
    · rw [z]; decide
    · exact (Nat.log2_lt z).mpr this
  have gi : gInt [nI w] = some (nI w) := rfl
  have gm : gMod (nI w) (nI 19) = some (nI (w % 19)) := gMod_nat (by omega)
  have w19 : w % 19 = w := Nat.mod_eq_of_lt hw
  rw [w19] at gm
  have hM : ([.tup [nI c.1, .tup (c.2.map nI ++ [nI (sz.getD c.1 0)])], .tup [nI c.1, .lst (c.2.map nI)], .tup [nI c.1, tN c.2, tN c.2], .tup [.bl false, tN c.2], .tup [nI c.1, .tup [.int 1, .int 0]], .tup [nI c.1, .tup [.int 0, .int 0]], .tup [nI c.1, .tup [.int 0, .bl true]], .tup [nI c.1, .tup [.int (-1), .int 0]], .tup [.int (-1), tN c.2], .tup [nI c.1, .non], .tup [nI c.1, .int 0], .tup [nI c.1], .tup [], .lst [nI c.1, tN c.2], nI c.1, .str "0", .non, .tup [.str (toString (c.1 : Int)), tN c.2], .tup [.tup [nI c.1], tN c.2]] : List D).length = 19 := rfl
  obtain ⟨v, hv⟩ : ∃ v, ([.tup [nI c.1, .tup (c.2.map nI ++ [nI (sz.getD c.1 0)])], .tup [nI c.1, .lst (c.2.map nI)], .tup [nI c.1, tN c.2, tN c.2], .tup [.bl false, tN c.2], .tup [nI c.1, .tup [.int 1, .int 0]], .tup [nI c.1, .tup [.int 0, .int 0]], .tup [nI c.1, .tup [.int 0, .bl true]], .tup [nI c.1, .tup [.int (-1), .int 0]], .tup [.int (-1), tN c.2], .tup [nI c.1, .non], .tup [nI c.1, .int 0], .tup [nI c.1], .tup [], .lst [nI c.1, tN c.2], nI c.1, .str "0", .non, .tup [.str (toString (c.1 : Int)), tN c.2], .tup [.tup [nI c.1], tN c.2]] : List D)[w]? = some v := ⟨_, List.getElem?_eq_getElem (by rw [hM]; exact hw)⟩
  have ix := L2.atI_nat (j := w) hv
  have gl : gLen [.lst [.tup [nI c.1, .tup (c.2.map nI ++ [nI (sz.getD c.1 0)])], .tup [nI c.1, .lst (c.2.map nI)], .tup [nI c.1, tN c.2, tN c.2], .tup [.bl false, tN c.2], .tup [nI c.1, .tup [.int 1, .int 0]], .tup [nI c.1, .tup [.int 0, .int 0]], .tup [nI c.1, .tup [.int 0, .bl true]], .tup [nI c.1, .tup [.int (-1), .int 0]], .tup [.int (-1), tN c.2], .tup [nI c.1, .non], .tup [nI c.1, .int 0], .tup [nI c.1], .tup [], .lst [nI c.1, tN c.2], nI c.1, .str "0", .non, .tup [.str (toString (c.1 : Int)), tN c.2], .tup [.tup [nI c.1], tN c.2]]] = some (nI 19) := rfl
  refine ⟨v, ?_, mb v (List.mem_of_getElem? hv)⟩
  have w1 : tN c.2 = .tup (c.2.map nI) := rfl
  have q1 : (dSetF 4 (dLst (dConsF (dTup (dConsF (dName 1) (dConsF (dBinU true (dName 2) (dTup (dConsF (dIx true (dName 0) (dName 1)) (dNil)))) (dNil)))) (dConsF (dTup (dConsF (dName 1) (dConsF (dBlL Slot.elems (dName 2)) (dNil)))) (dConsF (dTup (dConsF (dName 1) (dConsF (dName 2) (dConsF (dName 2) (dNil))))) (dConsF (dTup (dConsF (dC (.bl false)) (dConsF (dName 2) (dNil)))) (dNil))))))) [.sh (nats sz), .sh (nI c.1), .sh (tN c.2), .sh (nI w), .un] = .nx [.sh (nats sz), .sh (nI c.1), .sh (tN c.2), .sh (nI w), .sh (.lst [.tup [nI c.1, .tup (c.2.map nI ++ [nI (sz.getD c.1 0)])], .tup [nI c.1, .lst (c.2.map nI)], .tup [nI c.1, tN c.2, tN c.2], .tup [.bl false, tN c.2]])] := by
    rw [w1]
    have l2 : (c.2.map nI).length + 1 ≤ sizeLine := by rw [List.length_map, sizeLine_eq]; omega
    unfold nats
    generalize nI (sz.getD c.1 0) = s0 at at1 ⊢
    generalize c.2.map nI = vs at l2 ⊢
    generalize sz.map nI = z at at1 ⊢
    generalize nI w = ww
    simp [kIx, at1, l2]
  have q2 : (dSetF 4 (dBinL true catL (dName 4) (dLst (dConsF (dTup (dConsF (dName 1) (dConsF (dTup (dConsF (dC (.int 1)) (dConsF (dC (.int 0)) (dNil)))) (dNil)))) (dConsF (dTup (dConsF (dName 1) (dConsF (dTup (dConsF (dC (.int 0)) (dConsF (dC (.int 0)) (dNil)))) (dNil)))) (dConsF (dTup (dConsF (dName 1) (dConsF (dTup (dConsF (dC (.int 0)) (dConsF (dC (.bl true)) (dNil)))) (dNil)))) (dConsF (dTup (dConsF (dName 1) (dConsF (dTup (dConsF (dUn gNeg (dC (.int 1))) (dConsF (dC (.int 0)) (dNil)))) (dNil)))) (dConsF (dTup (dConsF (dUn gNeg (dC (.int 1))) (dConsF (dName 2) (dNil)))) (dConsF (dTup (dConsF (dName 1) (dConsF (dC .non) (dNil)))) (dNil)))))))))) [.sh (nats sz), .sh (nI c.1), .sh (tN c.2), .sh (nI w), .sh (.lst [.tup [nI c.1, .tup (c.2.map nI ++ [nI (sz.getD c.1 0)])], .tup [nI c.1, .lst (c.2.map nI)], .tup [nI c.1, tN c.2, tN c.2], .tup [.bl false, tN c.2]])] = .nx [.sh (nats sz), .sh (nI c.1), .sh (tN c.2), .sh (nI w), .sh (.lst [.tup [nI c.1, .tup (c.2.map nI ++ [nI (sz.getD c.1 0)])], .tup [nI c.1, .lst (c.2.map nI)], .tup [nI c.1, tN c.2, tN c.2], .tup [.bl false, tN c.2], .tup [nI c.1, .tup [.int 1, .int 0]], .tup [nI c.1, .tup [.int 0, .int 0]], .tup [nI c.1, .tup [.int 0, .bl true]], .tup [nI c.1, .tup [.int (-1), .int 0]], .tup [.int (-1), tN c.2], .tup [nI c.1, .non]])] := by
    have lz : 10 ≤ sizeLine := by rw [sizeLine_eq]; omega
    generalize c.2.map nI ++ [nI (sz.getD c.1 0)] = y
    generalize c.2.map nI = vs
    generalize nats sz = z
    generalize nI c.1 = f
    generalize nI w = ww
    simp [lz]
  have q3 : (dSetF 4 (dBinL true catL (dName 4) (dLst (dConsF (dTup (dConsF (dName 1) (dConsF (dC (.int 0)) (dNil)))) (dConsF (dTup (dConsF (dName 1) (dNil))) (dConsF (dTup (dNil)) (dConsF (dLst (dConsF (dName 1) (dConsF (dName 2) (dNil)))) (dConsF (dName 1) (dConsF (dC (.str "0")) (dConsF (dC .non) (dNil))))))))))) [.sh (nats sz), .sh (nI c.1), .sh (tN c.2), .sh (nI w), .sh (.lst [.tup [nI c.1, .tup (c.2.map nI ++ [nI (sz.getD c.1 0)])], .tup [nI c.1, .lst (c.2.map nI)], .tup [nI c.1, tN c.2, tN c.2], .tup [.bl false, tN c.2], .tup [nI c.1, .tup [.int 1, .int 0]], .tup [nI c.1, .tup [.int 0, .int 0]], .tup [nI c.1, .tup [.int 0, .bl true]], .tup [nI c.1, .tup [.int (-1), .int 0]], .tup [.int (-1), tN c.2], .tup [nI c.1, .non]])] = .nx [.sh (nats sz), .sh (nI c.1), .sh (tN c.2), .sh (nI w), .sh (.lst [.tup [nI c.1, .tup (c.2.map nI ++ [nI (sz.getD c.1 0)])], .tup [nI c.1, .lst (c.2.map nI)], .tup [nI c.1, tN c.2, tN c.2], .tup [.bl false, tN c.2], .tup [nI c.1, .tup [.int 1, .int 0]], .tup [nI c.1, .tup [.int 0, .int 0]], .tup [nI c.1, .tup [.int 0, .bl true]], .tup [nI c.1, .tup [.int (-1), .int 0]], .tup [.int (-1), tN c.2], .tup [nI c.1, .non], .tup [nI c.1, .int 0], .tup [nI c.1], .tup [], .lst [nI c.1, tN c.2], nI c.1, .str "0", .non])] := by
    have lz : 17 ≤ sizeLine := by rw [sizeLine_eq]; omega
    generalize c.2.map nI ++ [nI (sz.getD c.1 0)] = y
    generalize c.2.map nI = vs
    generalize nats sz = z
    generalize nI c.1 = f
    generalize nI w = ww
    simp [lz]
  have q4 : (dSetF 4 (dBinL true catL (dName 4) (dLst (dConsF (dTup (dConsF (dBl gStr (dConsP true (dName 1) (dNil))) (dConsF (dName 2) (dNil)))) (dConsF (dTup (dConsF (dTup (dConsF (dName 1) (dNil))) (dConsF (dName 2) (dNil)))) (dNil)))))) [.sh (nats sz), .sh (nI c.1), .sh (tN c.2), .sh (nI w), .sh (.lst [.tup [nI c.1, .tup (c.2.map nI ++ [nI (sz.getD c.1 0)])], .tup [nI c.1, .lst (c.2.map nI)], .tup [nI c.1, tN c.2, tN c.2], .tup [.bl false, tN c.2], .tup [nI c.1, .tup [.int 1, .int 0]], .tup [nI c.1, .tup [.int 0, .int 0]], .tup [nI c.1, .tup [.int 0, .bl true]], .tup [nI c.1, .tup [.int (-1), .int 0]], .tup [.int (-1), tN c.2], .tup [nI c.1, .non], .tup [nI c.1, .int 0], .tup [nI c.1], .tup [], .lst [nI c.1, tN c.2], nI c.1, .str "0", .non])] = .nx [.sh (nats sz), .sh (nI c.1), .sh (tN c.2), .sh (nI w), .sh (.lst [.tup [nI c.1, .tup (c.2.map nI ++ [nI (sz.getD c.1 0)])], .tup [nI c.1, .lst (c.2.map nI)], .tup [nI c.1, tN c.2, tN c.2], .tup [.bl false, tN c.2], .tup [nI c.1, .tup [.int 1, .int 0]], .tup [nI c.1, .tup [.int 0, .int 0]], .tup [nI c.1, .tup [.int 0, .bl true]], .tup [nI c.1, .tup [.int (-1), .int 0]], .tup [.int (-1), tN c.2], .tup [nI c.1, .non], .tup [nI c.1, .int 0], .tup [nI c.1], .tup [], .lst [nI c.1, tN c.2], nI c.1, .str "0", .non, .tup [.str (toString (c.1 : Int)), tN c.2], .tup [.tup [nI c.1], tN c.2]])] := by
    have lz : 19 ≤ sizeLine := by rw [sizeLine_eq]; omega
    generalize D.str (toString (c.1 : Int)) = sd at gs ⊢
    generalize c.2.map nI ++ [nI (sz.getD c.1 0)] = y
    generalize c.2.map nI = vs
    generalize nats sz = z
    generalize nI c.1 = f at gs ⊢
    generalize nI w = ww
    simp [-gStr, gs, lz]
  refine fnG_rt (ρ' := [.sh (nats sz), .sh (nI c.1), .sh (tN c.2), .sh (nI w), .sh (.lst [.tup [nI c.1, .tup (c.2.map nI ++ [nI (sz.getD c.1 0)])], .tup [nI c.1, .lst (c.2.map nI)], .tup [nI c.1, tN c.2, tN c.2], .tup [.bl false, tN c.2], .tup [nI c.1, .tup [.int 1, .int 0]], .tup [nI c.1, .tup [.int 0, .int 0]], .tup [nI c.1, .tup [.int 0, .bl true]], .tup [nI c.1, .tup [.int (-1), .int 0]], .tup [.int (-1), tN c.2], .tup [nI c.1, .non], .tup [nI c.1, .int 0], .tup [nI c.1], .tup [], .lst [nI c.1, tN c.2], nI c.1, .str "0", .non, .tup [.str (toString (c.1 : Int)), tN c.2], .tup [.tup [nI c.1], tN c.2]])]) (dSeq_nx q1 (dSeq_nx q2 (dSeq_nx q3 (dSeq_nx q4 ?_)))) rfl (by decide) rfl
  show dRet _ [.sh (nats sz), .sh (nI c.1), .sh (tN c.2), .sh (nI w), .sh (.lst [.tup [nI c.1, .tup (c.2.map nI ++ [nI (sz.getD c.1 0)])], .tup [nI c.1, .lst (c.2.map nI)], .tup [nI c.1, tN c.2, tN c.2], .tup [.bl false, tN c.2], .tup [nI c.1, .tup [.int 1, .int 0]], .tup [nI c.1, .tup [.int 0, .int 0]], .tup [nI c.1, .tup [.int 0, .bl true]], .tup [nI c.1, .tup [.int (-1), .int 0]], .tup [.int (-1), tN c.2], .tup [nI c.1, .non], .tup [nI c.1, .int 0], .tup [nI c.1], .tup [], .lst [nI c.1, tN c.2], nI c.1, .str "0", .non, .tup [.str (toString (c.1 : Int)), tN c.2], .tup [.tup [nI c.1], tN c.2]])] = Out.rt (.sh v) [.sh (nats sz), .sh (nI c.1), .sh (tN c.2), .sh (nI w), .sh (.lst [.tup [nI c.1, .tup (c.2.map nI ++ [nI (sz.getD c.1 0)])], .tup [nI c.1, .lst (c.2.map nI)], .tup [nI c.1, tN c.2, tN c.2], .tup [.bl false, tN c.2], .tup [nI c.1, .tup [.int 1, .int 0]], .tup [nI c.1, .tup [.int 0, .int 0]], .tup [nI c.1, .tup [.int 0, .bl true]], .tup [nI c.1, .tup [.int (-1), .int 0]], .tup [.int (-1), tN c.2], .tup [nI c.1, .non], .tup [nI c.1, .int 0], .tup [nI c.1], .tup [], .lst [nI c.1, tN c.2], nI c.1, .str "0", .non, .tup [.str (toString (c.1 : Int)), tN c.2], .tup [.tup [nI c.1], tN c.2]])]
  generalize ([.tup [nI c.1, .tup (c.2.map nI ++ [nI (sz.getD c.1 0)])], .tup [nI c.1, .lst (c.2.map nI)], .tup [nI c.1, tN c.2, tN c.2], .tup [.bl false, tN c.2], .tup [nI c.1, .tup [.int 1, .int 0]], .tup [nI c.1, .tup [.int 0, .int 0]], .tup [nI c.1, .tup [.int 0, .bl true]], .tup [nI c.1, .tup [.int (-1), .int 0]], .tup [.int (-1), tN c.2], .tup [nI c.1, .non], .tup [nI c.1, .int 0], .tup [nI c.1], .tup [], .lst [nI c.1, tN c.2], nI c.1, .str "0", .non, .tup [.str (toString (c.1 : Int)), tN c.2], .tup [.tup [nI c.1], tN c.2]] : List D) = M at ix gl ⊢
  generalize tN c.2 = vs
  generalize nats sz = z
  generalize nI c.1 = f
  generalize nI 19 = n19 at gl gm
  simp [-gLen, -gMod, -gInt, kIx, ix, gl, gi, gm]
end LW
namespace LW
open PySem PySem.Spec PyProof.Rows L2 DL
theorem slT1 {ρ : List Slot} {R : List D} {i : Nat} {f : DEn} {k : Nat} (h2 : ρ[i]? = some (.sh (.tup R))) (hf : f ρ = .ok (.sh (nI k), ρ)) : dSl true (dName i) (dNoP) (dPart f) ρ = .ok (.sh (.tup (R.take k)), ρ) := by
  have c := cut_takeK R k
  simp [h2, hf, c]
theorem slT2 {ρ : List Slot} {R : List D} {i : Nat} {f : DEn} {k : Nat} (h2 : ρ[i]? = some (.sh (.tup R))) (hf : f ρ = .ok (.sh (nI k), ρ)) : dSl true (dName i) (dPart f) (dNoP) ρ = .ok (.sh (.tup (R.drop k)), ρ) := by
  have c := cut_dropK R k
  simp [h2, hf, c]
theorem catT {f1 f2 : DEn} {ρ : List Slot} {xs ys : List D} (h1 : f1 ρ = .ok (.sh (.tup xs), ρ)) (h2 : f2 ρ = .ok (.sh (.tup ys), ρ)) (l : xs.length + ys.length ≤ 50000) : dBinU true f1 f2 ρ = .ok (.sh (.tup (xs ++ ys)), ρ) := by
  have l2 : xs.length + ys.length ≤ sizeLine := by rw [sizeLine_eq]; omega
  simp [h1, h2, l2]
theorem conds_nil (cs : List (Nat × List Nat)) : gEq (condsD cs) (.tup []) = some (.bl cs.isEmpty) := by
  have f : (condsD cs).fit 60 = true := fits_map condD 59 (fun c => by
    show fits [nI c.1, tN c.2] 58 = true
    have f2 : fits (c.2.map nI) 57 = true := fits_nats c.2 57
    simp [fits, D.fit, f2]) cs
  unfold gEq
  rw [if_pos ⟨f, rfl⟩]
  cases cs with
  | nil => rfl
  | cons c cs => rfl
theorem asc_lt {sz : List Nat} {cs : List (Nat × List Nat)} (hc : CondsOk sz cs) {i j : Nat} (hij : i < j) (hj : j < cs.length) : (cs.getD i (0, [])).1 < (cs.getD j (0, [])).1 := by
  have q := asc_getD hc.asc (i := i) (j := j) hij (by rw [List.length_map]; exact hj)
  rw [getD_map _ cs i (0, []) 0 (by omega), getD_map _ cs j (0, []) 0 hj] at q
  exact q
theorem at_cond {cs : List (Nat × List Nat)} {j : Nat} (hj : j < cs.length) : L2.atI (cs.map condD) (j : Int) = some (condD (cs.getD j (0, []))) := L2.atI_nat (by
  rw [List.getElem?_map, List.getD_eq_getElem?_getD, List.getElem?_eq_getElem hj]; rfl)
theorem gEq_w (w k : Nat) (kd : D) (e : kd = nI k) {st : List DL.Slot} (hst : st[3]? = some (.sh (nI w))) : dBinT true gEq (dName 3) (dC kd) st = .ok (w == k, st) := by
  subst e
  have g := natEqD w k
  generalize (w == k) = b at g ⊢
  generalize nI k = kk at g ⊢
  generalize nI w = ww at g hst
  simp [-gEq, hst, g]
theorem e_law_bad {x : Int} (hx : CellOk x) {sz : List Nat} (hs : SzOk sz) {cs : List (Nat × List Nat)} (hc : CondsOk sz cs) : ∃ (s : DL.Slot) (v : D), F__law_bad [.sh (nats sz), .sh (condsD cs), .sh (.int x)] = .ok (s, [.sh (nats sz), .sh (condsD cs), .sh (.int x)]) ∧ Fzd s v ∧ BadK sz v := by
  have hn := hs.1
  have few := hc.few
  have lM : (cs.map condD).length = cs.length := List.length_map ..
  obtain ⟨hw, e1⟩ := e_draw hx (k := 81) (l := 12) (by omega) (by omega) (by omega)
  have e1 : F__law_draw [.sh (.int x), .sh (.int 81), .sh (.int 12)] = .ok (.sh (nI (drw x 81 12)), [.sh (.int x), .sh (.int 81), .sh (.int 12)]) := e1
  generalize drw x 81 12 = w at hw e1
  have q0 : (dSetF 3 (dCall 3 F__law_draw (dConsF (dName 2) (dConsF (dC (.int 81)) (dConsF (dC (.int 12)) (dNil)))))) [.sh (nats sz), .sh (condsD cs), .sh (.int x), .un, .un, .un] = .nx [.sh (nats sz), .sh (condsD cs), .sh (.int x), .sh (nI w), .un, .un] := by
    generalize nats sz = z
    generalize condsD cs = u
    generalize nI w = ww at e1 ⊢
    simp [e1]
  have okAll : ∀ y ∈ cs.map condD, ∃ c, CondOk sz c ∧ y = condD c := fun y hy => by
    obtain ⟨c, h, rfl⟩ := List.mem_map.mp hy
    exact ⟨c, hc.ok c h, rfl⟩
  have cond := fun (k : Nat) (kd : D) (e : kd = nI k) => gEq_w w k kd e (st := [.sh (nats sz), .sh (condsD cs), .sh (.int x), .sh (nI w), .un, .un]) rfl
  by_cases c0 : w = 0
  · have c := cond 0 _ rfl
    rw [show (w == 0) = true by simpa using c0] at c
    have o : dTup (dConsF (dTup (dConsF (dBl gLen (dConsP true (dName 0) (dNil))) (dConsF (dTup (dNil)) (dNil)))) (dNil)) [.sh (nats sz), .sh (condsD cs), .sh (.int x), .sh (nI w), .un, .un] = .ok (.sh (.tup [.tup [nI sz.length, .tup []]]), [.sh (nats sz), .sh (condsD cs), .sh (.int x), .sh (nI w), .un, .un]) := by
      have gl := lenN sz
      generalize nI sz.length = n at gl ⊢
      generalize nats sz = z at gl ⊢
      generalize condsD cs = u
      generalize nI w = ww
      simp [-gLen, gl]
    have k := catT (f1 := dName 1) (ρ := [.sh (nats sz), .sh (condsD cs), .sh (.int x), .sh (nI w), .un, .un]) (xs := cs.map condD) rfl o (by simp; omega)
    refine ⟨.sh (.tup (cs.map condD ++ [.tup [nI sz.length, .tup []]])), _, fnG_rt (ρ' := [.sh (nats sz), .sh (condsD cs), .sh (.int x), .sh (nI w), .un, .un]) (dSeq_nx q0 (dSeq_rt ((dIf_t48 c).trans ?_))) rfl (by decide) rfl, .inl rfl, cs_part (x := .tup [nI sz.length, .tup []]) (by rw [List.length_append, lM]; simp; omega) (by simp) (con_field (by unfold belowB; exact decide_eq_false fun z => by omega)) (fun y hy hne => ?_) (by omega)⟩
    · unfold dRet
      rw [k]
      rfl
    · rcases List.mem_append.mp hy with h | h
      · exact okAll y h
      · exact (hne (List.mem_singleton.mp h)).elim
  have n0 := cond 0 _ rfl
  rw [show (w == 0) = false by simpa using c0] at n0
  by_cases c1 : w = 1
  · have c := cond 1 _ rfl
    rw [show (w == 1) = true by simpa using c1] at c
    obtain ⟨hj, e2⟩ := e_draw hx (k := 82) (l := 6) (by omega) (by omega) (by omega)
    have e2 : F__law_draw [.sh (.int x), .sh (.int 82), .sh (.int 6)] = .ok (.sh (nI (drw x 82 6)), [.sh (.int x), .sh (.int 82), .sh (.int 6)]) := e2
    generalize drw x 82 6 = j at hj e2
    have one : ∀ v : D, BadI sz v → BadK sz (.tup [v]) := fun v h => cs_part (x := v) (by simp) (by simp) h (fun y hy hne => (hne (List.mem_singleton.mp hy)).elim) (by omega)
    obtain ⟨v, ix, hv⟩ : ∃ v, L2.atI [D.non, .int 0, .str "0", .tup [.int 0], .exc "NotSmall", .tup [.tup []]] (j : Int) = some v ∧ BadK sz v := by
      rcases (show j = 0 ∨ j = 1 ∨ j = 2 ∨ j = 3 ∨ j = 4 ∨ j = 5 by omega) with rfl | rfl | rfl | rfl | rfl | rfl
      · exact ⟨_, L2.atI_nat rfl, cs_kind rfl⟩
      · exact ⟨_, L2.atI_nat rfl, cs_kind rfl⟩
      · exact ⟨_, L2.atI_nat rfl, cs_kind rfl⟩
      · exact ⟨_, L2.atI_nat rfl, one _ (con_kind rfl)⟩
      · exact ⟨_, L2.atI_nat rfl, cs_kind (exc_kind (by decide) _)⟩
      · exact ⟨_, L2.atI_nat rfl, one _ (con_len (by simp))⟩
    refine ⟨.sh v, v, fnG_rt (ρ' := [.sh (nats sz), .sh (condsD cs), .sh (.int x), .sh (nI w), .un, .un]) (dSeq_nx q0 (dSeq_nx (dIf_no n0) (dSeq_rt ((dIf_t48 c).trans ?_)))) rfl (by decide) rfl, .inl rfl, hv⟩
    generalize nats sz = z
    generalize condsD cs = u
    generalize nI w = ww
    simp [kIx, e2, ix]
  have n1 := cond 1 _ rfl
  rw [show (w == 1) = false by simpa using c1] at n1
  have c3 : (dOrT (dBinT true gEq (dName 3) (dC (.int 2))) (dBinT true gEq (dName 1) (dTup (dNil)))) [.sh (nats sz), .sh (condsD cs), .sh (.int x), .sh (nI w), .un, .un] = .ok ((w == 2) || cs.isEmpty, [.sh (nats sz), .sh (condsD cs), .sh (.int x), .sh (nI w), .un, .un]) := by
    have g := natEqD w 2
    have g : gEq (nI w) (.int 2) = some (.bl (w == 2)) := g
    have g2 := conds_nil cs
    generalize (w == 2) = b at g ⊢
    generalize cs.isEmpty = b2 at g2 ⊢
    generalize nats sz = z
    generalize condsD cs = u at g2 ⊢
    generalize nI w = ww at g ⊢
    cases b <;> simp [-gEq, g, g2]
  cases h3 : ((w == 2) || cs.isEmpty) with
  | true =>
    rw [h3] at c3
    refine ⟨.own (cs.map condD), .lst (cs.map condD), fnG_rt (ρ' := [.sh (nats sz), .sh (condsD cs), .sh (.int x), .sh (nI w), .un, .un]) (dSeq_nx q0 (dSeq_nx (dIf_no n0) (dSeq_nx (dIf_no n1) (dSeq_rt ((dIf_t48 c3).trans ?_))))) rfl (by decide) rfl, .inr ⟨_, rfl, rfl⟩, cs_kind rfl⟩
    have w1 : condsD cs = .tup (cs.map condD) := rfl
    rw [w1]
    generalize cs.map condD = M
    generalize nats sz = z
    generalize nI w = ww
    simp
  | false =>
  rw [h3] at c3
  have pos : 0 < cs.length := by
    cases hcs : cs with
    | nil => rw [hcs] at h3; simp at h3
    | cons a b => simp
  have gl : gLen [condsD cs] = some (nI cs.length) := by
    show some (D.int _) = _
    rw [List.length_map]
  by_cases c4 : w = 3
  · have c := cond 3 _ rfl
    rw [show (w == 3) = true by simpa using c4] at c
    obtain ⟨hj, e2⟩ := e_draw hx (k := 82) (l := cs.length) (by omega) pos (by omega)
    have e2 : F__law_draw [.sh (.int x), .sh (.int 82), .sh (nI cs.length)] = .ok (.sh (nI (drw x 82 cs.length)), [.sh (.int x), .sh (.int 82), .sh (nI cs.length)]) := e2
    generalize drw x 82 cs.length = j at hj e2
    have ix := at_cond hj
    have o : dTup (dConsF (dIx true (dName 1) (dCall 3 F__law_draw (dConsF (dName 2) (dConsF (dC (.int 82)) (dConsF (dBl gLen (dConsP true (dName 1) (dNil))) (dNil)))))) (dNil)) [.sh (nats sz), .sh (condsD cs), .sh (.int x), .sh (nI w), .un, .un] = .ok (.sh (.tup [condD (cs.getD j (0, []))]), [.sh (nats sz), .sh (condsD cs), .sh (.int x), .sh (nI w), .un, .un]) := by
      generalize condD (cs.getD j (0, [])) = cj at ix ⊢
      have w1 : condsD cs = .tup (cs.map condD) := rfl
      rw [w1] at gl ⊢
      generalize nI cs.length = n at gl e2
      generalize cs.map condD = M at gl ix ⊢
      generalize nats sz = z
      generalize nI w = ww
      simp [-gLen, kIx, gl, e2, ix]
    have k := catT (f1 := dName 1) (ρ := [.sh (nats sz), .sh (condsD cs), .sh (.int x), .sh (nI w), .un, .un]) (xs := cs.map condD) rfl o (by simp; omega)
    have w2 : D.tup (cs.map condD ++ [condD (cs.getD j (0, []))]) = condsD (cs ++ [cs.getD j (0, [])]) := by
      show _ = D.tup ((cs ++ [cs.getD j (0, [])]).map condD)
      rw [List.map_append]; rfl
    rw [w2] at k
    refine ⟨.sh (condsD (cs ++ [cs.getD j (0, [])])), _, fnG_rt (ρ' := [.sh (nats sz), .sh (condsD cs), .sh (.int x), .sh (nI w), .un, .un]) (dSeq_nx q0 (dSeq_nx (dIf_no n0) (dSeq_nx (dIf_no n1) (dSeq_nx (dIf_no c3) (dSeq_rt ((dIf_t48 c).trans ?_)))))) rfl (by decide) rfl, .inl rfl, cs_asc (fun y hy => ?_) (by rw [List.length_append]; simp; omega) (by omega) (i := cs.length - 1) (by rw [List.length_append]; simp; omega) ?_⟩
    · unfold dRet
      rw [k]
      rfl
    · rcases List.mem_append.mp hy with h | h
      · exact hc.ok y h
      · rw [List.mem_singleton.mp h]; exact hc.ok _ (atMem hj)
    · have a1 : (cs ++ [cs.getD j (0, [])]).getD (cs.length - 1) (0, []) = cs.getD (cs.length - 1) (0, []) := by
        rw [List.getD_eq_getElem?_getD, List.getElem?_append_left (by omega), ← List.getD_eq_getElem?_getD]
      have a2 : (cs ++ [cs.getD j (0, [])]).getD (cs.length - 1 + 1) (0, []) = cs.getD j (0, []) := by
        rw [show cs.length - 1 + 1 = cs.length by omega, List.getD_eq_getElem?_getD, List.getElem?_append_right (Nat.le_refl _), Nat.sub_self]; rfl
      rw [a1, a2]
      rcases Nat.lt_or_eq_of_le (show j ≤ cs.length - 1 by omega) with q | q
      · have := asc_lt hc q (by omega); omega
      · rw [q]; omega
  have n4 := cond 3 _ rfl
  rw [show (w == 3) = false by simpa using c4] at n4
  have c5 : (dAndT (dBinT true gEq (dName 3) (dC (.int 4))) (dBinT true gGt (dBl gLen (dConsP true (dName 1) (dNil))) (dC (.int 1)))) [.sh (nats sz), .sh (condsD cs), .sh (.int x), .sh (nI w), .un, .un] = .ok ((w == 4) && decide (1 < cs.length), [.sh (nats sz), .sh (condsD cs), .sh (.int x), .sh (nI w), .un, .un]) := by
    have g : gEq (nI w) (.int 4) = some (.bl (w == 4)) := natEqD w 4
    have gg : gGt (nI cs.length) (.int 1) = some (.bl (decide (1 < cs.length))) := by
      have : decide ((1 : Int) < (cs.length : Int)) = decide (1 < cs.length) := by
        rw [Bool.eq_iff_iff, decide_eq_true_iff, decide_eq_true_iff]
        omega
      rw [← this]
      simp
    generalize (w == 4) = b at g ⊢
    generalize decide (1 < cs.length) = b2 at gg ⊢
    generalize nI cs.length = n at gl gg
    generalize nats sz = z
    generalize condsD cs = u at gl ⊢
    generalize nI w = ww at g ⊢
    cases b <;> simp [-gEq, -gLen, -gGt, g, gl, gg]
  cases h5 : ((w == 4) && decide (1 < cs.length)) with
  | true =>
    rw [h5] at c5
    have l1 : 1 < cs.length := by
      rw [Bool.and_eq_true] at h5
      exact of_decide_eq_true h5.2
    obtain ⟨hj, e2⟩ := e_draw hx (k := 82) (l := cs.length - 1) (by omega) (by omega) (by omega)
    have e2 : F__law_draw [.sh (.int x), .sh (.int 82), .sh (nI (cs.length - 1))] = .ok (.sh (nI (drw x 82 (cs.length - 1))), [.sh (.int x), .sh (.int 82), .sh (nI (cs.length - 1))]) := e2
    generalize drw x 82 (cs.length - 1) = j at hj e2
    have gs : DL.gSub (nI cs.length) (.int 1) = some (nI (cs.length - 1)) := by
      show some (D.int ((cs.length : Int) - 1)) = some (D.int ((cs.length - 1 : Nat) : Int))
      congr 2
      omega
    have q5 : (dSetF 4 (dCall 3 F__law_draw (dConsF (dName 2) (dConsF (dC (.int 82)) (dConsF (dBin true gSub (dBl gLen (dConsP true (dName 1) (dNil))) (dC (.int 1))) (dNil)))))) [.sh (nats sz), .sh (condsD cs), .sh (.int x), .sh (nI w), .un, .un] = .nx [.sh (nats sz), .sh (condsD cs), .sh (.int x), .sh (nI w), .sh (nI j), .un] := by
      generalize nI (cs.length - 1) = n1 at gs e2
      generalize nI cs.length = n at gl gs
      generalize condsD cs = u at gl ⊢
      generalize nats sz = z
      generalize nI w = ww
      simp [-gLen, -DL.gSub, gl, gs, e2]
    have ix0 := at_cond (cs := cs) (j := j) (by omega)
    have ix1 := at_cond (cs := cs) (j := j + 1) (by omega)
    have ga : gAdd (nI j) (.int 1) = some (nI (j + 1)) := rfl
    have ga2 : gAdd (nI j) (.int 2) = some (nI (j + 2)) := rfl
    have o : dTup (dConsF (dIx true (dName 1) (dBin true gAdd (dName 4) (dC (.int 1)))) (dConsF (dIx true (dName 1) (dName 4)) (dNil))) [.sh (nats sz), .sh (condsD cs), .sh (.int x), .sh (nI w), .sh (nI j), .un] = .ok (.sh (.tup [condD (cs.getD (j + 1) (0, [])), condD (cs.getD j (0, []))]), [.sh (nats sz), .sh (condsD cs), .sh (.int x), .sh (nI w), .sh (nI j), .un]) := by
      generalize condD (cs.getD j (0, [])) = cj at ix0 ⊢
      generalize condD (cs.getD (j + 1) (0, [])) = cj1 at ix1 ⊢
      have w1 : condsD cs = .tup (cs.map condD) := rfl
      rw [w1]
      generalize cs.map condD = M at ix0 ix1 ⊢
      generalize j + 1 = j1 at ga ix1
      generalize nats sz = z
      generalize nI w = ww
      simp [-gAdd, kIx, ga, ix0, ix1]
    have p2 : dBin true gAdd (dName 4) (dC (.int 2)) [.sh (nats sz), .sh (condsD cs), .sh (.int x), .sh (nI w), .sh (nI j), .un] = .ok (.sh (nI (j + 2)), [.sh (nats sz), .sh (condsD cs), .sh (.int x), .sh (nI w), .sh (nI j), .un]) := by
      generalize condsD cs = u
      generalize nats sz = z
      generalize nI w = ww
      simp [-gAdd, ga2]
    have lt := List.length_take_le j (cs.map condD)
    have k1 := catT (slT1 (i := 1) (R := cs.map condD) (f := dName 4) (k := j) (ρ := [.sh (nats sz), .sh (condsD cs), .sh (.int x), .sh (nI w), .sh (nI j), .un]) rfl rfl) o (by simp; omega)
    have k2 := catT k1 (slT2 (i := 1) (R := cs.map condD) rfl p2) (by rw [List.length_append, List.length_drop]; simp; omega)
    have w2 : D.tup ((cs.map condD).take j ++ [condD (cs.getD (j + 1) (0, [])), condD (cs.getD j (0, []))] ++ (cs.map condD).drop (j + 2)) = condsD (cs.take j ++ [cs.getD (j + 1) (0, []), cs.getD j (0, [])] ++ cs.drop (j + 2)) := by
      show _ = D.tup ((cs.take j ++ [cs.getD (j + 1) (0, []), cs.getD j (0, [])] ++ cs.drop (j + 2)).map condD)
      rw [List.map_append, List.map_append, List.map_take, List.map_drop]; rfl
    rw [w2] at k2
    have lt2 : (cs.take j).length = j := by rw [List.length_take]; omega
    refine ⟨.sh (condsD (cs.take j ++ [cs.getD (j + 1) (0, []), cs.getD j (0, [])] ++ cs.drop (j + 2))), _, fnG_rt (ρ' := [.sh (nats sz), .sh (condsD cs), .sh (.int x), .sh (nI w), .sh (nI j), .un]) (dSeq_nx q0 (dSeq_nx (dIf_no n0) (dSeq_nx (dIf_no n1) (dSeq_nx (dIf_no c3) (dSeq_nx (dIf_no n4) (dSeq_rt ((dIf_t48 c5).trans (dSeq_nx q5 ?_)))))))) rfl (by decide) rfl, .inl rfl, cs_asc (fun y hy => ?_) (by rw [List.length_append, List.length_append, List.length_drop]; simp; omega) (by omega) (i := j) (by rw [List.length_append, List.length_append, List.length_drop, lt2]; simp; omega) ?_⟩
    · unfold dRet
      rw [k2]
      rfl
    · rcases List.mem_append.mp hy with h | h
      · rcases List.mem_append.mp h with h | h
        · exact hc.ok y (List.mem_of_mem_take h)
        · simp only [List.mem_cons, List.not_mem_nil, or_false] at h
          rcases h with rfl | rfl
          · exact hc.ok _ (atMem (by omega))
          · exact hc.ok _ (atMem (by omega))
      · exact hc.ok y (List.mem_of_mem_drop h)
    · have a1 : (cs.take j ++ [cs.getD (j + 1) (0, []), cs.getD j (0, [])] ++ cs.drop (j + 2)).getD j (0, []) = cs.getD (j + 1) (0, []) := by
        rw [List.append_assoc, List.getD_eq_getElem?_getD, List.getElem?_append_right (by omega), lt2, Nat.sub_self]; rfl
      have a2 : (cs.take j ++ [cs.getD (j + 1) (0, []), cs.getD j (0, [])] ++ cs.drop (j + 2)).getD (j + 1) (0, []) = cs.getD j (0, []) := by
        rw [List.append_assoc, List.getD_eq_getElem?_getD, List.getElem?_append_right (by omega), lt2, Nat.add_sub_cancel_left]; rfl
      rw [a1, a2]
      have := asc_lt hc (i := j) (j := j + 1) (by omega) (by omega)
      omega
  | false =>
    rw [h5] at c5
    obtain ⟨hj, e2⟩ := e_draw hx (k := 82) (l := cs.length) (by omega) pos (by omega)
    have e2 : F__law_draw [.sh (.int x), .sh (.int 82), .sh (nI cs.length)] = .ok (.sh (nI (drw x 82 cs.length)), [.sh (.int x), .sh (.int 82), .sh (nI cs.length)]) := e2
    generalize drw x 82 cs.length = j at hj e2
    obtain ⟨hv, e3⟩ := e_draw hx (k := 83) (l := 19) (by omega) (by omega) (by omega)
    have e3 : F__law_draw [.sh (.int x), .sh (.int 83), .sh (.int 19)] = .ok (.sh (nI (drw x 83 19)), [.sh (.int x), .sh (.int 83), .sh (.int 19)]) := e3
    generalize drw x 83 19 = wd at hv e3
    have okj : CondOk sz (cs.getD j (0, [])) := hc.ok _ (atMem hj)
    obtain ⟨v, e4, bv⟩ := e_law_bad_condition hs okj hv
    have ix := at_cond hj
    have q6 : (dSetF 4 (dCall 3 F__law_draw (dConsF (dName 2) (dConsF (dC (.int 82)) (dConsF (dBl gLen (dConsP true (dName 1) (dNil))) (dNil)))))) [.sh (nats sz), .sh (condsD cs), .sh (.int x), .sh (nI w), .un, .un] = .nx [.sh (nats sz), .sh (condsD cs), .sh (.int x), .sh (nI w), .sh (nI j), .un] := by
      generalize nI cs.length = n at gl e2
      generalize condsD cs = u at gl ⊢
      generalize nats sz = z
      generalize nI w = ww
      simp [-gLen, gl, e2]
    have q7 : (dSetF 5 (dCall 4 F__law_bad_condition (dConsF (dName 0) (dConsF (dIx true (dIx true (dName 1) (dName 4)) (dC (.int 0))) (dConsF (dIx true (dIx true (dName 1) (dName 4)) (dC (.int 1))) (dConsF (dCall 3 F__law_draw (dConsF (dName 2) (dConsF (dC (.int 83)) (dConsF (dC (.int 19)) (dNil))))) (dNil))))))) [.sh (nats sz), .sh (condsD cs), .sh (.int x), .sh (nI w), .sh (nI j), .un] = .nx [.sh (nats sz), .sh (condsD cs), .sh (.int x), .sh (nI w), .sh (nI j), .sh v] := by
      obtain ⟨x0, x1⟩ := tup_val (nI (cs.getD j (0, [])).1) (tN (cs.getD j (0, [])).2)
      have ix : L2.atI (cs.map condD) (j : Int) = some (.tup [nI (cs.getD j (0, [])).1, tN (cs.getD j (0, [])).2]) := ix
      have w1 : condsD cs = .tup (cs.map condD) := rfl
      rw [w1]
      generalize hL : [nI (cs.getD j (0, [])).1, tN (cs.getD j (0, [])).2] = L at x0 x1 ix
      generalize nI (cs.getD j (0, [])).1 = f at x0 e4
      generalize tN (cs.getD j (0, [])).2 = y at x1 e4
      clear hL
      generalize cs.map condD = M at ix ⊢
      generalize nats sz = z at e4 ⊢
      generalize nI w = ww
      simp [kIx, ix, x0, x1, e3, e4]
    have o : dTup (dConsF (dName 5) (dNil)) [.sh (nats sz), .sh (condsD cs), .sh (.int x), .sh (nI w), .sh (nI j), .sh v] = .ok (.sh (.tup [v]), [.sh (nats sz), .sh (condsD cs), .sh (.int x), .sh (nI w), .sh (nI j), .sh v]) := by
      generalize condsD cs = u
      generalize nats sz = z
      generalize nI w = ww
      simp
    have p1 : dBin true gAdd (dName 4) (dC (.int 1)) [.sh (nats sz), .sh (condsD cs), .sh (.int x), .sh (nI w), .sh (nI j), .sh v] = .ok (.sh (nI (j + 1)), [.sh (nats sz), .sh (condsD cs), .sh (.int x), .sh (nI w), .sh (nI j), .sh v]) := by
      have ga : gAdd (nI j) (.int 1) = some (nI (j + 1)) := rfl
      generalize condsD cs = u
      generalize nats sz = z
      generalize nI w = ww
      simp [-gAdd, ga]
    have lt := List.length_take_le j (cs.map condD)
    have k1 := catT (slT1 (i := 1) (R := cs.map condD) (f := dName 4) (k := j) (ρ := [.sh (nats sz), .sh (condsD cs), .sh (.int x), .sh (nI w), .sh (nI j), .sh v]) rfl rfl) o (by simp; omega)
    have k2 := catT k1 (slT2 (i := 1) (R := cs.map condD) rfl p1) (by rw [List.length_append, List.length_drop]; simp; omega)
    refine ⟨.sh (.tup ((cs.map condD).take j ++ [v] ++ (cs.map condD).drop (j + 1))), _, fnG_rt (ρ' := [.sh (nats sz), .sh (condsD cs), .sh (.int x), .sh (nI w), .sh (nI j), .sh v]) (dSeq_nx q0 (dSeq_nx (dIf_no n0) (dSeq_nx (dIf_no n1) (dSeq_nx (dIf_no c3) (dSeq_nx (dIf_no n4) (dSeq_nx (dIf_no c5) (dSeq_nx q6 (dSeq_nx q7 ?_)))))))) rfl (by decide) rfl, .inl rfl, cs_part (x := v) (by rw [List.length_append, List.length_append, List.length_drop]; simp; omega) (by simp) bv (fun y hy hne => ?_) (by omega)⟩
    · unfold dRet
      rw [k2]
      rfl
    · rcases List.mem_append.mp hy with h | h
      · rcases List.mem_append.mp h with h | h
        · exact okAll y (List.mem_of_mem_take h)
        · exact (hne (List.mem_singleton.mp h)).elim
      · exact okAll y (List.mem_of_mem_drop h)
end LW
namespace LW
open PySem PySem.Spec PyProof.Rows L2 DL
theorem cell_ok {ns : List Int} (hb : ∀ z ∈ ns, z.natAbs < 2 ^ 1048577) (k : Nat) : CellOk (ns.getD k 0) := by
  unfold CellOk
  rw [List.getD_eq_getElem?_getD]
  cases h : ns[k]? with
  | none => show (0 : Int).natAbs < 2 ^ 1048577; exact Nat.two_pow_pos _
  | some z => exact hb z (List.mem_of_getElem? h)
theorem cut_mem48 {ns : List Int} {lo hi : Option Int} {x : Int} (h : x ∈ DL.cut ns lo hi) : x ∈ ns := by
  unfold DL.cut at h
  exact List.mem_of_mem_drop (List.mem_of_mem_take h)
theorem setF3 {i : Nat} {G : DFn} {a b c v : D} {s : DL.Slot} {fa : DLn} {ρ : List Slot} (hf : fa ρ = .ok ([a, b, c], ρ)) (e : G [.sh a, .sh b, .sh c] = .ok (s, [.sh a, .sh b, .sh c])) (hz : Fzd s v) : dSetF i (dCall 3 G fa) ρ = .nx (ρ.set i (.sh v)) := by
  rcases hz with rfl | ⟨xs, rfl, rfl⟩ <;> simp [hf, e]
theorem setF2 {i : Nat} {G : DFn} {a b v : D} {s : DL.Slot} {fa : DLn} {ρ : List Slot} (hf : fa ρ = .ok ([a, b], ρ)) (e : G [.sh a, .sh b] = .ok (s, [.sh a, .sh b])) (hz : Fzd s v) : dSetF i (dCall 2 G fa) ρ = .nx (ρ.set i (.sh v)) := by
  rcases hz with rfl | ⟨xs, rfl, rfl⟩ <;> simp [hf, e]
theorem e_law_integer (k : Int) : F__law_integer [.sh (.int k)] = .ok (.sh (.bl true), [.sh (.int k)]) := by
  refine fnG_rt (ρ' := [.sh (.int k)]) ?_ rfl (by decide) rfl
  show dRet _ [.sh (.int k)] = _
  simp
theorem ref_ne {ρ : List Slot} {fa : DLn} {z v : D} {w u : Str} (hf : fa ρ = .ok ([z, v], ρ)) (e : F__law_refused [.sh z, .sh v] = .ok (.sh (.str w), [.sh z, .sh v])) (hw : (w != u) = false) (oa : PyData.strOk w = true) (ob : PyData.strOk u = true) : dBinT true gNe (dCall 2 F__law_refused fa) (dC (.str u)) ρ = .ok (false, ρ) := by
  refine strN (a := w) ?_ hw oa ob
  generalize D.str w = s at e ⊢
  simp [hf, e]
section
variable {ns : List Int} {x0 x : Int} {most : Nat} {sz lg : List Nat} {a6 a7 a8 a9 a10 a11 a12 a13 : DL.Slot} {cs : List (Nat × List Nat)}
theorem due_lc (hs : SzOk sz) (hp : prdM 0 sz ≤ 1024) (hc : CondsOk sz cs) : (dBl gLen (dConsP true (dLc true (dSeqI (dName 4)) (tgN 14) (dTst (dBl gAll (dConsP true (dLc true (dSeqI (dName 7)) (tgTup (tgCons (tgN 16) (tgCons (tgN 17) (tgNil)))) (dYes) (dBin true gIn (dIx true (dName 14) (dName 16)) (dName 17)) [16, 17]) (dNil)))) (dName 14) [14]) (dNil))) [.sh (.scr ns), .sh (.int x0), .sh (nI most), .sh (nats sz), .sh (.lst ((casesL sz).map nats)), .sh (nats lg), .sh (.int x), .sh (condsD cs), a8, a9, a10, a11, a12, a13, .un, .un, .un, .un] = .ok (.sh (nI ((casesL sz).filter fun r => isFit r cs).length), [.sh (.scr ns), .sh (.int x0), .sh (nI most), .sh (nats sz), .sh (.lst ((casesL sz).map nats)), .sh (nats lg), .sh (.int x), .sh (condsD cs), a8, a9, a10, a11, a12, a13, .un, .un, .un, .un]) := by
  have few := hc.few
  have lc : (dLc true (dSeqI (dName 4)) (tgN 14) (dTst (dBl gAll (dConsP true (dLc true (dSeqI (dName 7)) (tgTup (tgCons (tgN 16) (tgCons (tgN 17) (tgNil)))) (dYes) (dBin true gIn (dIx true (dName 14) (dName 16)) (dName 17)) [16, 17]) (dNil)))) (dName 14) [14]) [.sh (.scr ns), .sh (.int x0), .sh (nI most), .sh (nats sz), .sh (.lst ((casesL sz).map nats)), .sh (nats lg), .sh (.int x), .sh (condsD cs), a8, a9, a10, a11, a12, a13, .un, .un, .un, .un] = .ok (.own (((casesL sz).filter fun r => isFit r cs).map nats), [.sh (.scr ns), .sh (.int x0), .sh (nI most), .sh (nats sz), .sh (.lst ((casesL sz).map nats)), .sh (nats lg), .sh (.int x), .sh (condsD cs), a8, a9, a10, a11, a12, a13, .un, .un, .un, .un]) := by
    refine dLc_eqS (casesL sz) nats _ nats (fz := true) (dSeqI_at rfl) rfl rfl rfl (small_line (by rw [casesL_len]; omega)) (fun r hr => ?_) (fun r hr _ => rfl)
    have rr := casesL_row r hr
    have li : (dLc true (dSeqI (dName 7)) (tgTup (tgCons (tgN 16) (tgCons (tgN 17) (tgNil)))) (dYes) (dBin true gIn (dIx true (dName 14) (dName 16)) (dName 17)) [16, 17]) [.sh (.scr ns), .sh (.int x0), .sh (nI most), .sh (nats sz), .sh (.lst ((casesL sz).map nats)), .sh (nats lg), .sh (.int x), .sh (condsD cs), a8, a9, a10, a11, a12, a13, .sh (nats r), .un, .un, .un] = .ok (.own ((cs.filter fun _ => true).map fun c => D.bl (c.2.contains (r.getD c.1 0))), [.sh (.scr ns), .sh (.int x0), .sh (nI most), .sh (nats sz), .sh (.lst ((casesL sz).map nats)), .sh (nats lg), .sh (.int x), .sh (condsD cs), a8, a9, a10, a11, a12, a13, .sh (nats r), .un, .un, .un]) :=
      dLcG_eq (fz := true) cs condD (fun _ => true) (fun c => D.bl (c.2.contains (r.getD c.1 0))) (fun c => [.sh (.scr ns), .sh (.int x0), .sh (nI most), .sh (nats sz), .sh (.lst ((casesL sz).map nats)), .sh (nats lg), .sh (.int x), .sh (condsD cs), a8, a9, a10, a11, a12, a13, .sh (nats r), .un, .sh (nI c.1), .sh (tN c.2)]) rfl rfl rfl rfl (small_line (by omega)) rfl rfl (fun c hc => rfl) (fun c hc => rfl) (fun c hc => rfl) (fun c hc => rfl) (fun c hcc _ => by
        have q := hc.ok c hcc
        have a := at_nat (xs := r) (i := c.1) (by rw [← rr.length]; exact q.1)
        have g := gIn_tN (r.getD c.1 0) c.2
        refine ⟨.sh (.bl (c.2.contains (r.getD c.1 0))), ?_, rfl⟩
        generalize r.getD c.1 0 = y at a g ⊢
        generalize c.2.contains y = bb at g ⊢
        generalize tN c.2 = tt at g ⊢
        generalize condsD cs = cd
        generalize (casesL sz).map nats = CC
        generalize nI most = mm
        generalize nats lg = ll
        generalize nats sz = z
        unfold nats
        generalize r.map nI = R at a ⊢
        simp [-gIn, kIx, a, g])
    rw [filter_all (fun _ _ => rfl)] at li
    have g := gAll_of (fun c : Nat × List Nat => c.2.contains (r.getD c.1 0)) cs
    have g : gAll _ = some (.bl (isFit r cs)) := g
    show dTst _ [.sh (.scr ns), .sh (.int x0), .sh (nI most), .sh (nats sz), .sh (.lst ((casesL sz).map nats)), .sh (nats lg), .sh (.int x), .sh (condsD cs), a8, a9, a10, a11, a12, a13, .sh (nats r), .un, .un, .un] = .ok (_, [.sh (.scr ns), .sh (.int x0), .sh (nI most), .sh (nats sz), .sh (.lst ((casesL sz).map nats)), .sh (nats lg), .sh (.int x), .sh (condsD cs), a8, a9, a10, a11, a12, a13, .sh (nats r), .un, .un, .un])
    generalize isFit r cs = bb at g ⊢
    generalize (cs.map fun c => D.bl (c.2.contains (r.getD c.1 0))) = us at li g
    generalize condsD cs = cd at li ⊢
    generalize (casesL sz).map nats = CC at li ⊢
    generalize nI most = mm at li ⊢
    generalize nats lg = ll at li ⊢
    generalize nats sz = z at li ⊢
    generalize nats r = R at li ⊢
    simp [li, g]
  have gl : gLen [.lst (((casesL sz).filter fun r => isFit r cs).map nats)] = some (nI ((casesL sz).filter fun r => isFit r cs).length) := by
    show some (D.int _) = _
    rw [List.length_map]
  generalize nI ((casesL sz).filter fun r => isFit r cs).length = n at gl ⊢
  generalize ((casesL sz).filter fun r => isFit r cs).map nats = W at lc gl
  generalize condsD cs = cd at lc ⊢
  generalize (casesL sz).map nats = CC at lc ⊢
  generalize nI most = mm at lc ⊢
  generalize nats lg = ll at lc ⊢
  generalize nats sz = z at lc ⊢
  simp [-gLen, lc, gl]
noncomputable def k48B : DSn := (dSeq (dSetF 7 (dCall 2 F__law_conditions (dConsF (dName 3) (dConsF (dName 6) (dNil)))))
    (dSeq (dSetF 8 (dBl gLen (dConsP true (dLc true (dSeqI (dName 4)) (tgN 14) (dTst (dBl gAll (dConsP true (dLc true (dSeqI (dName 7)) (tgTup (tgCons (tgN 16) (tgCons (tgN 17) (tgNil)))) (dYes) (dBin true gIn (dIx true (dName 14) (dName 16)) (dName 17)) [16, 17]) (dNil)))) (dName 14) [14]) (dNil))))
    (dSeq (dSetF 9 (dBlL Slot.elems (dName 3)))
    (dSeq (dSetF 10 (dCall 2 F_fitting (dConsF (dName 9) (dConsF (dName 7) (dNil)))))
    (dSeq (dIf (dOrT (dNotT (dTst (dCall 1 F__law_integer (dConsF (dName 10) (dNil))))) (dOrT (dBinT true gNe (dName 10) (dName 8)) (dBinT true gNe (dName 9) (dName 3)))) (dRet (dC (.bl false))) (dSkip))
    (dSeq (dSetF 11 (dCall 3 F__law_bad (dConsF (dName 3) (dConsF (dName 7) (dConsF (dName 6) (dNil))))))
    (dSeq (dIf (dOrT (dBinT true gNe (dCall 2 F__law_refused (dConsF (dName 3) (dConsF (dName 11) (dNil)))) (dC (.str "conditions"))) (dBinT true gNe (dCall 2 F__law_refused (dConsF (dName 5) (dConsF (dName 7) (dNil)))) (dC (.str "small")))) (dRet (dC (.bl false))) (dSkip))
    (dSeq (dSetF 12 (dCall 2 F__law_bad_sizes (dConsF (dName 3) (dConsF (dName 6) (dNil)))))
    (dSeq (dFor (dSeqI (dLst (dConsF (dTup (dNil)) (dConsF (dName 7) (dConsF (dName 11) (dNil)))))) (tgN 13) (dIf (dBinT true gNe (dCall 2 F__law_refused (dConsF (dName 12) (dConsF (dName 13) (dNil)))) (dC (.str "sizes"))) (dRet (dC (.bl false))) (dSkip)))
    (dSeq (dSetF 11 (dCall 3 F__law_bad (dConsF (dName 5) (dConsF (dName 7) (dConsF (dName 6) (dNil))))))
    (dIf (dBinT true gNe (dCall 2 F__law_refused (dConsF (dName 5) (dConsF (dName 11) (dNil)))) (dC (.str "conditions"))) (dRet (dC (.bl false))) (dSkip))))))))))))
theorem k48_body (hx : CellOk x) (hs : SzOk sz) (hl : sz.length ≤ 10) (hp : prdM 0 sz ≤ 1024) (hg : SzOk lg) (hgp : 1024 < prdM 0 lg) (hup : ∀ cs, CondsOk sz cs → CondsOk lg cs) (a7 a8 a9 a10 a11 a12 a13 : DL.Slot) : ∃ t7 t8 t9 t10 t11 t12 t13 : DL.Slot, k48B [.sh (.scr ns), .sh (.int x0), .sh (nI most), .sh (nats sz), .sh (.lst ((casesL sz).map nats)), .sh (nats lg), .sh (.int x), a7, a8, a9, a10, a11, a12, a13, .un, .un, .un, .un] = .nx [.sh (.scr ns), .sh (.int x0), .sh (nI most), .sh (nats sz), .sh (.lst ((casesL sz).map nats)), .sh (nats lg), .sh (.int x), t7, t8, t9, t10, t11, t12, t13, .un, .un, .un, .un] := by
  obtain ⟨cs, hc, e7⟩ := e_law_conditions hx hs
  have hcl := hup cs hc
  obtain ⟨s1, v1, eb1, fz1, bk1⟩ := e_law_bad hx hs hc
  obtain ⟨s3, v3, eb3, fz3, bk3⟩ := e_law_bad hx hg hcl
  obtain ⟨s2, v2, eb2, fz2, bk2⟩ := e_law_bad_sizes hx hs (by omega)
  have ef := e_fitting hs hp hc
  have r1 := refused_of (fitting_conds hs bk1) (w := "conditions") (.inr (.inl ⟨rfl, rfl⟩))
  have r2 := refused_of (fitting_small hg hcl hgp) (w := "small") (.inr (.inr ⟨rfl, rfl⟩))
  have r3 := refused_of (fitting_conds hg bk3) (w := "conditions") (.inr (.inl ⟨rfl, rfl⟩))
  have rs : ∀ u : D, F__law_refused [.sh v2, .sh u] = .ok (.sh (.str "sizes"), [.sh v2, .sh u]) := fun u => refused_of (fitting_sizes bk2) (.inl ⟨rfl, rfl⟩)
  have q0 : (dSetF 7 (dCall 2 F__law_conditions (dConsF (dName 3) (dConsF (dName 6) (dNil))))) [.sh (.scr ns), .sh (.int x0), .sh (nI most), .sh (nats sz), .sh (.lst ((casesL sz).map nats)), .sh (nats lg), .sh (.int x), a7, a8, a9, a10, a11, a12, a13, .un, .un, .un, .un] = .nx [.sh (.scr ns), .sh (.int x0), .sh (nI most), .sh (nats sz), .sh (.lst ((casesL sz).map nats)), .sh (nats lg), .sh (.int x), .sh (condsD cs), a8, a9, a10, a11, a12, a13, .un, .un, .un, .un] := by
    generalize condsD cs = cd at e7 ⊢
    generalize (casesL sz).map nats = CC
    generalize nI most = mm
    generalize nats lg = ll
    generalize nats sz = z at e7 ⊢
    simp [e7]
  have q1 : (dSetF 8 (dBl gLen (dConsP true (dLc true (dSeqI (dName 4)) (tgN 14) (dTst (dBl gAll (dConsP true (dLc true (dSeqI (dName 7)) (tgTup (tgCons (tgN 16) (tgCons (tgN 17) (tgNil)))) (dYes) (dBin true gIn (dIx true (dName 14) (dName 16)) (dName 17)) [16, 17]) (dNil)))) (dName 14) [14]) (dNil)))) [.sh (.scr ns), .sh (.int x0), .sh (nI most), .sh (nats sz), .sh (.lst ((casesL sz).map nats)), .sh (nats lg), .sh (.int x), .sh (condsD cs), a8, a9, a10, a11, a12, a13, .un, .un, .un, .un] = .nx [.sh (.scr ns), .sh (.int x0), .sh (nI most), .sh (nats sz), .sh (.lst ((casesL sz).map nats)), .sh (nats lg), .sh (.int x), .sh (condsD cs), .sh (nI ((casesL sz).filter fun r => isFit r cs).length), a9, a10, a11, a12, a13, .un, .un, .un, .un] := setF_sh (due_lc hs hp hc)
  have q2 : (dSetF 9 (dBlL Slot.elems (dName 3))) [.sh (.scr ns), .sh (.int x0), .sh (nI most), .sh (nats sz), .sh (.lst ((casesL sz).map nats)), .sh (nats lg), .sh (.int x), .sh (condsD cs), .sh (nI ((casesL sz).filter fun r => isFit r cs).length), a9, a10, a11, a12, a13, .un, .un, .un, .un] = .nx [.sh (.scr ns), .sh (.int x0), .sh (nI most), .sh (nats sz), .sh (.lst ((casesL sz).map nats)), .sh (nats lg), .sh (.int x), .sh (condsD cs), .sh (nI ((casesL sz).filter fun r => isFit r cs).length), .sh (nats sz), a10, a11, a12, a13, .un, .un, .un, .un] := by
    have w : nats sz = .lst (sz.map nI) := rfl
    generalize nI ((casesL sz).filter fun r => isFit r cs).length = n
    rw [w]
    generalize condsD cs = cd
    generalize (casesL sz).map nats = CC
    generalize nI most = mm
    generalize nats lg = ll
    generalize sz.map nI = z
    simp
  have q3 : (dSetF 10 (dCall 2 F_fitting (dConsF (dName 9) (dConsF (dName 7) (dNil))))) [.sh (.scr ns), .sh (.int x0), .sh (nI most), .sh (nats sz), .sh (.lst ((casesL sz).map nats)), .sh (nats lg), .sh (.int x), .sh (condsD cs), .sh (nI ((casesL sz).filter fun r => isFit r cs).length), .sh (nats sz), a10, a11, a12, a13, .un, .un, .un, .un] = .nx [.sh (.scr ns), .sh (.int x0), .sh (nI most), .sh (nats sz), .sh (.lst ((casesL sz).map nats)), .sh (nats lg), .sh (.int x), .sh (condsD cs), .sh (nI ((casesL sz).filter fun r => isFit r cs).length), .sh (nats sz), .sh (nI ((casesL sz).filter fun r => isFit r cs).length), a11, a12, a13, .un, .un, .un, .un] := by
    generalize nI ((casesL sz).filter fun r => isFit r cs).length = n at ef ⊢
    generalize condsD cs = cd at ef ⊢
    generalize (casesL sz).map nats = CC
    generalize nI most = mm
    generalize nats lg = ll
    generalize nats sz = z at ef ⊢
    simp [ef]
  have c4 : (dOrT (dNotT (dTst (dCall 1 F__law_integer (dConsF (dName 10) (dNil))))) (dOrT (dBinT true gNe (dName 10) (dName 8)) (dBinT true gNe (dName 9) (dName 3)))) [.sh (.scr ns), .sh (.int x0), .sh (nI most), .sh (nats sz), .sh (.lst ((casesL sz).map nats)), .sh (nats lg), .sh (.int x), .sh (condsD cs), .sh (nI ((casesL sz).filter fun r => isFit r cs).length), .sh (nats sz), .sh (nI ((casesL sz).filter fun r => isFit r cs).length), a11, a12, a13, .un, .un, .un, .un] = .ok (false, [.sh (.scr ns), .sh (.int x0), .sh (nI most), .sh (nats sz), .sh (.lst ((casesL sz).map nats)), .sh (nats lg), .sh (.int x), .sh (condsD cs), .sh (nI ((casesL sz).filter fun r => isFit r cs).length), .sh (nats sz), .sh (nI ((casesL sz).filter fun r => isFit r cs).length), a11, a12, a13, .un, .un, .un, .un]) := by
    have ei := e_law_integer (((casesL sz).filter fun r => isFit r cs).length : Nat)
    have ei : F__law_integer [.sh (nI ((casesL sz).filter fun r => isFit r cs).length)] = _ := ei
    have n1 := natNeD ((casesL sz).filter fun r => isFit r cs).length ((casesL sz).filter fun r => isFit r cs).length
    rw [show (((casesL sz).filter fun r => isFit r cs).length != ((casesL sz).filter fun r => isFit r cs).length) = false by simp] at n1
    have n2 : gNe (nats sz) (nats sz) = some (.bl false) := gNe_same (fit_nats _) ((deq_nats _ _).mpr rfl)
    generalize nI ((casesL sz).filter fun r => isFit r cs).length = n at ei n1 ⊢
    generalize condsD cs = cd
    generalize (casesL sz).map nats = CC
    generalize nI most = mm
    generalize nats lg = ll
    generalize nats sz = z at n2 ⊢
    simp [-gNe, ei, n1, n2]
  have q5 : (dSetF 11 (dCall 3 F__law_bad (dConsF (dName 3) (dConsF (dName 7) (dConsF (dName 6) (dNil)))))) [.sh (.scr ns), .sh (.int x0), .sh (nI most), .sh (nats sz), .sh (.lst ((casesL sz).map nats)), .sh (nats lg), .sh (.int x), .sh (condsD cs), .sh (nI ((casesL sz).filter fun r => isFit r cs).length), .sh (nats sz), .sh (nI ((casesL sz).filter fun r => isFit r cs).length), a11, a12, a13, .un, .un, .un, .un] = .nx [.sh (.scr ns), .sh (.int x0), .sh (nI most), .sh (nats sz), .sh (.lst ((casesL sz).map nats)), .sh (nats lg), .sh (.int x), .sh (condsD cs), .sh (nI ((casesL sz).filter fun r => isFit r cs).length), .sh (nats sz), .sh (nI ((casesL sz).filter fun r => isFit r cs).length), .sh v1, a12, a13, .un, .un, .un, .un] := setF3 (by
    generalize nI ((casesL sz).filter fun r => isFit r cs).length = n
    generalize condsD cs = cd
    generalize (casesL sz).map nats = CC
    generalize nI most = mm
    generalize nats lg = ll
    generalize nats sz = z
    simp) eb1 fz1
  have ag : ∀ (i j : Nat) (z v : D) (st : List Slot), st[i]? = some (.sh z) → st[j]? = some (.sh v) → dConsF (dName i) (dConsF (dName j) (dNil)) st = .ok ([z, v], st) := fun i j z v st h1 h2 => by simp [h1, h2]
  have c6 : (dOrT (dBinT true gNe (dCall 2 F__law_refused (dConsF (dName 3) (dConsF (dName 11) (dNil)))) (dC (.str "conditions"))) (dBinT true gNe (dCall 2 F__law_refused (dConsF (dName 5) (dConsF (dName 7) (dNil)))) (dC (.str "small")))) [.sh (.scr ns), .sh (.int x0), .sh (nI most), .sh (nats sz), .sh (.lst ((casesL sz).map nats)), .sh (nats lg), .sh (.int x), .sh (condsD cs), .sh (nI ((casesL sz).filter fun r => isFit r cs).length), .sh (nats sz), .sh (nI ((casesL sz).filter fun r => isFit r cs).length), .sh v1, a12, a13, .un, .un, .un, .un] = .ok (false, [.sh (.scr ns), .sh (.int x0), .sh (nI most), .sh (nats sz), .sh (.lst ((casesL sz).map nats)), .sh (nats lg), .sh (.int x), .sh (condsD cs), .sh (nI ((casesL sz).filter fun r => isFit r cs).length), .sh (nats sz), .sh (nI ((casesL sz).filter fun r => isFit r cs).length), .sh v1, a12, a13, .un, .un, .un, .un]) := by
    have b1 := ref_ne (ρ := [.sh (.scr ns), .sh (.int x0), .sh (nI most), .sh (nats sz), .sh (.lst ((casesL sz).map nats)), .sh (nats lg), .sh (.int x), .sh (condsD cs), .sh (nI ((casesL sz).filter fun r => isFit r cs).length), .sh (nats sz), .sh (nI ((casesL sz).filter fun r => isFit r cs).length), .sh v1, a12, a13, .un, .un, .un, .un]) (ag 3 11 (nats sz) v1 _ rfl rfl) r1 (u := "conditions") (by decide +kernel) (by decide +kernel) (by decide +kernel)
    have b2 := ref_ne (ρ := [.sh (.scr ns), .sh (.int x0), .sh (nI most), .sh (nats sz), .sh (.lst ((casesL sz).map nats)), .sh (nats lg), .sh (.int x), .sh (condsD cs), .sh (nI ((casesL sz).filter fun r => isFit r cs).length), .sh (nats sz), .sh (nI ((casesL sz).filter fun r => isFit r cs).length), .sh v1, a12, a13, .un, .un, .un, .un]) (ag 5 7 (nats lg) (condsD cs) _ rfl rfl) r2 (u := "small") (by decide +kernel) (by decide +kernel) (by decide +kernel)
    unfold dOrT
    rw [b1]
    exact b2
  have q7 : (dSetF 12 (dCall 2 F__law_bad_sizes (dConsF (dName 3) (dConsF (dName 6) (dNil))))) [.sh (.scr ns), .sh (.int x0), .sh (nI most), .sh (nats sz), .sh (.lst ((casesL sz).map nats)), .sh (nats lg), .sh (.int x), .sh (condsD cs), .sh (nI ((casesL sz).filter fun r => isFit r cs).length), .sh (nats sz), .sh (nI ((casesL sz).filter fun r => isFit r cs).length), .sh v1, a12, a13, .un, .un, .un, .un] = .nx [.sh (.scr ns), .sh (.int x0), .sh (nI most), .sh (nats sz), .sh (.lst ((casesL sz).map nats)), .sh (nats lg), .sh (.int x), .sh (condsD cs), .sh (nI ((casesL sz).filter fun r => isFit r cs).length), .sh (nats sz), .sh (nI ((casesL sz).filter fun r => isFit r cs).length), .sh v1, .sh v2, a13, .un, .un, .un, .un] := setF2 (by
    generalize nI ((casesL sz).filter fun r => isFit r cs).length = n
    generalize condsD cs = cd
    generalize (casesL sz).map nats = CC
    generalize nI most = mm
    generalize nats lg = ll
    generalize nats sz = z
    simp) eb2 fz2
  obtain ⟨ρ', e8, s13, rfl⟩ := dFor_inv (it := (dSeqI (dLst (dConsF (dTup (dNil)) (dConsF (dName 7) (dConsF (dName 11) (dNil))))))) (g := tgN 13) (body := (dIf (dBinT true gNe (dCall 2 F__law_refused (dConsF (dName 12) (dConsF (dName 13) (dNil)))) (dC (.str "sizes"))) (dRet (dC (.bl false))) (dSkip))) (ρ := [.sh (.scr ns), .sh (.int x0), .sh (nI most), .sh (nats sz), .sh (.lst ((casesL sz).map nats)), .sh (nats lg), .sh (.int x), .sh (condsD cs), .sh (nI ((casesL sz).filter fun r => isFit r cs).length), .sh (nats sz), .sh (nI ((casesL sz).filter fun r => isFit r cs).length), .sh v1, .sh v2, a13, .un, .un, .un, .un]) (ρ1 := [.sh (.scr ns), .sh (.int x0), .sh (nI most), .sh (nats sz), .sh (.lst ((casesL sz).map nats)), .sh (nats lg), .sh (.int x), .sh (condsD cs), .sh (nI ((casesL sz).filter fun r => isFit r cs).length), .sh (nats sz), .sh (nI ((casesL sz).filter fun r => isFit r cs).length), .sh v1, .sh v2, a13, .un, .un, .un, .un]) [.tup [], condsD cs, v1] (fun x => x)
    (fun pre ρ => ∃ s13 : DL.Slot, ρ = [.sh (.scr ns), .sh (.int x0), .sh (nI most), .sh (nats sz), .sh (.lst ((casesL sz).map nats)), .sh (nats lg), .sh (.int x), .sh (condsD cs), .sh (nI ((casesL sz).filter fun r => isFit r cs).length), .sh (nats sz), .sh (nI ((casesL sz).filter fun r => isFit r cs).length), .sh v1, .sh v2, s13, .un, .un, .un, .un]) (by
      show _ = Res.ok ((true, [.tup [], condsD cs, v1]), _)
      generalize nI ((casesL sz).filter fun r => isFit r cs).length = n
      generalize condsD cs = cd
      generalize (casesL sz).map nats = CC
      generalize nI most = mm
      generalize nats lg = ll
      generalize nats sz = z
      simp) (List.map_id' _).symm ⟨_, rfl⟩ (fun pre u post ρ e hρ => by
      obtain ⟨s13, rfl⟩ := hρ
      exact ⟨[.sh (.scr ns), .sh (.int x0), .sh (nI most), .sh (nats sz), .sh (.lst ((casesL sz).map nats)), .sh (nats lg), .sh (.int x), .sh (condsD cs), .sh (nI ((casesL sz).filter fun r => isFit r cs).length), .sh (nats sz), .sh (nI ((casesL sz).filter fun r => isFit r cs).length), .sh v1, .sh v2, .sh u, .un, .un, .un, .un], [.sh (.scr ns), .sh (.int x0), .sh (nI most), .sh (nats sz), .sh (.lst ((casesL sz).map nats)), .sh (nats lg), .sh (.int x), .sh (condsD cs), .sh (nI ((casesL sz).filter fun r => isFit r cs).length), .sh (nats sz), .sh (nI ((casesL sz).filter fun r => isFit r cs).length), .sh v1, .sh v2, .sh u, .un, .un, .un, .un], rfl, .inl (dIf_no (ref_ne (ρ := [.sh (.scr ns), .sh (.int x0), .sh (nI most), .sh (nats sz), .sh (.lst ((casesL sz).map nats)), .sh (nats lg), .sh (.int x), .sh (condsD cs), .sh (nI ((casesL sz).filter fun r => isFit r cs).length), .sh (nats sz), .sh (nI ((casesL sz).filter fun r => isFit r cs).length), .sh v1, .sh v2, .sh u, .un, .un, .un, .un]) (ag 12 13 v2 u _ rfl rfl) (rs u) (u := "sizes") (by decide +kernel) (by decide +kernel) (by decide +kernel))), .sh u, rfl⟩)
  have q9 : (dSetF 11 (dCall 3 F__law_bad (dConsF (dName 5) (dConsF (dName 7) (dConsF (dName 6) (dNil)))))) [.sh (.scr ns), .sh (.int x0), .sh (nI most), .sh (nats sz), .sh (.lst ((casesL sz).map nats)), .sh (nats lg), .sh (.int x), .sh (condsD cs), .sh (nI ((casesL sz).filter fun r => isFit r cs).length), .sh (nats sz), .sh (nI ((casesL sz).filter fun r => isFit r cs).length), .sh v1, .sh v2, s13, .un, .un, .un, .un] = .nx [.sh (.scr ns), .sh (.int x0), .sh (nI most), .sh (nats sz), .sh (.lst ((casesL sz).map nats)), .sh (nats lg), .sh (.int x), .sh (condsD cs), .sh (nI ((casesL sz).filter fun r => isFit r cs).length), .sh (nats sz), .sh (nI ((casesL sz).filter fun r => isFit r cs).length), .sh v3, .sh v2, s13, .un, .un, .un, .un] := setF3 (by
    generalize nI ((casesL sz).filter fun r => isFit r cs).length = n
    generalize condsD cs = cd
    generalize (casesL sz).map nats = CC
    generalize nI most = mm
    generalize nats lg = ll
    generalize nats sz = z
    simp) eb3 fz3
  have c10 : (dBinT true gNe (dCall 2 F__law_refused (dConsF (dName 5) (dConsF (dName 11) (dNil)))) (dC (.str "conditions"))) [.sh (.scr ns), .sh (.int x0), .sh (nI most), .sh (nats sz), .sh (.lst ((casesL sz).map nats)), .sh (nats lg), .sh (.int x), .sh (condsD cs), .sh (nI ((casesL sz).filter fun r => isFit r cs).length), .sh (nats sz), .sh (nI ((casesL sz).filter fun r => isFit r cs).length), .sh v3, .sh v2, s13, .un, .un, .un, .un] = .ok (false, [.sh (.scr ns), .sh (.int x0), .sh (nI most), .sh (nats sz), .sh (.lst ((casesL sz).map nats)), .sh (nats lg), .sh (.int x), .sh (condsD cs), .sh (nI ((casesL sz).filter fun r => isFit r cs).length), .sh (nats sz), .sh (nI ((casesL sz).filter fun r => isFit r cs).length), .sh v3, .sh v2, s13, .un, .un, .un, .un]) := ref_ne (ρ := [.sh (.scr ns), .sh (.int x0), .sh (nI most), .sh (nats sz), .sh (.lst ((casesL sz).map nats)), .sh (nats lg), .sh (.int x), .sh (condsD cs), .sh (nI ((casesL sz).filter fun r => isFit r cs).length), .sh (nats sz), .sh (nI ((casesL sz).filter fun r => isFit r cs).length), .sh v3, .sh v2, s13, .un, .un, .un, .un]) (ag 5 11 (nats lg) v3 _ rfl rfl) r3 (u := "conditions") (by decide +kernel) (by decide +kernel) (by decide +kernel)
  exact ⟨_, _, _, _, _, _, s13, dSeq_nx q0 (dSeq_nx q1 (dSeq_nx q2 (dSeq_nx q3 (dSeq_nx (dIf_no c4) (dSeq_nx q5 (dSeq_nx (dIf_no c6) (dSeq_nx q7 (dSeq_nx e8 (dSeq_nx q9 (dIf_no c10))))))))))⟩
end
theorem large_up {sz tl : List Nat} {cs : List (Nat × List Nat)} (h : CondsOk sz cs) : CondsOk (sz ++ tl) cs := ⟨fun c hc => by
  obtain ⟨h1, h2, h3, h4⟩ := h.ok c hc
  refine ⟨by rw [List.length_append]; omega, fun v hv => ?_, h3, h4⟩
  have e : (sz ++ tl).getD c.1 0 = sz.getD c.1 0 := by
    rw [List.getD_eq_getElem?_getD, List.getElem?_append_left h1, ← List.getD_eq_getElem?_getD]
  rw [e]
  exact h2 v hv, h.asc, h.few⟩
theorem large_prd {sz tl : List Nat} (hs : SzOk (sz ++ [6, 6, 6, 5] ++ tl)) : 1024 < prdM 0 (sz ++ [6, 6, 6, 5] ++ tl) := by
  have h1 := prdM_take (m := 0) hs.2 (pre := sz ++ [6, 6, 6, 5]) (post := tl) rfl
  have h2 : prdM 0 (sz ++ [6, 6, 6, 5]) = prdM 0 sz * 6 * 6 * 6 * 5 := by
    have e : sz ++ [6, 6, 6, 5] = (((sz ++ [6]) ++ [6]) ++ [6]) ++ [5] := by simp
    rw [e, prdM_snoc, prdM_snoc, prdM_snoc, prdM_snoc]
  have h3 := prdM_pos (m := 0) (sz := sz) (fun s h => hs.2 s (by simp [h]))
  omega
theorem law_true : LawTrueB F_law := by
  intro ns hns hb
  have hx := cell_ok hb 0
  have ec := e_law_cell ns 0
  generalize ns.getD 0 0 = x0 at hx ec
  have ec : F__law_cell [.sh (.scr ns), .sh (.int 0)] = .ok (.sh (.int x0), [.sh (.scr ns), .sh (.int 0)]) := ec
  have q0 : (dSetF 1 (dCall 2 F__law_cell (dConsF (dName 0) (dConsF (dC (.int 0)) (dNil))))) [.sh (.scr ns), .un, .un, .un, .un, .un, .un, .un, .un, .un, .un, .un, .un, .un, .un, .un, .un, .un] = .nx [.sh (.scr ns), .sh (.int x0), .un, .un, .un, .un, .un, .un, .un, .un, .un, .un, .un, .un, .un, .un, .un, .un] := by simp [ec]
  obtain ⟨h8, e8⟩ := e_draw hx (k := 20) (l := 8) (by omega) (by omega) (by omega)
  have e8 : F__law_draw [.sh (.int x0), .sh (.int 20), .sh (.int 8)] = .ok (.sh (nI (drw x0 20 8)), [.sh (.int x0), .sh (.int 20), .sh (.int 8)]) := e8
  generalize drw x0 20 8 = j at h8 e8
  obtain ⟨most, m1, m2, q2⟩ : ∃ most : Nat, 1 ≤ most ∧ most ≤ 1024 ∧ (dIf (dBinT true gEq (dCall 3 F__law_draw (dConsF (dName 1) (dConsF (dC (.int 20)) (dConsF (dC (.int 8)) (dNil))))) (dC (.int 5))) (dSetF 2 (dC (.int 1024))) (dSkip)) [.sh (.scr ns), .sh (.int x0), .sh (.int 64), .un, .un, .un, .un, .un, .un, .un, .un, .un, .un, .un, .un, .un, .un, .un] = .nx [.sh (.scr ns), .sh (.int x0), .sh (nI most), .un, .un, .un, .un, .un, .un, .un, .un, .un, .un, .un, .un, .un, .un, .un] := by
    have g : gEq (nI j) (.int 5) = some (.bl (j == 5)) := natEqD j 5
    cases hj : (j == 5) with
    | true => rw [hj] at g; exact ⟨1024, by omega, by omega, by simp [-gEq, e8, g]⟩
    | false => rw [hj] at g; exact ⟨64, by omega, by omega, by simp [-gEq, e8, g]⟩
  obtain ⟨sz, hl, h26, hpm, es⟩ := e_law_sizes hx (more := 0) (most := most) (by omega) m1 (by omega)
  have hs : SzOk sz := ⟨by omega, h26⟩
  have hp : prdM 0 sz ≤ 1024 := by omega
  have es : F__law_sizes [.sh (.int x0), .sh (.int 0), .sh (nI most)] = .ok (.own (sz.map nI), [.sh (.int x0), .sh (.int 0), .sh (nI most)]) := es
  have q3 : (dSetF 3 (dCall 3 F__law_sizes (dConsF (dName 1) (dConsF (dC (.int 0)) (dConsF (dName 2) (dNil)))))) [.sh (.scr ns), .sh (.int x0), .sh (nI most), .un, .un, .un, .un, .un, .un, .un, .un, .un, .un, .un, .un, .un, .un, .un] = .nx [.sh (.scr ns), .sh (.int x0), .sh (nI most), .sh (nats sz), .un, .un, .un, .un, .un, .un, .un, .un, .un, .un, .un, .un, .un, .un] := by
    refine setF_ow (xs := sz.map nI) (ρ1 := [.sh (.scr ns), .sh (.int x0), .sh (nI most), .un, .un, .un, .un, .un, .un, .un, .un, .un, .un, .un, .un, .un, .un, .un]) ?_ rfl
    generalize nI most = mm at es ⊢
    generalize sz.map nI = z at es ⊢
    simp [es]
  have ecs := e_law_cases hs hp
  have q4 : (dSetF 4 (dCall 1 F__law_cases (dConsF (dName 3) (dNil)))) [.sh (.scr ns), .sh (.int x0), .sh (nI most), .sh (nats sz), .un, .un, .un, .un, .un, .un, .un, .un, .un, .un, .un, .un, .un, .un] = .nx [.sh (.scr ns), .sh (.int x0), .sh (nI most), .sh (nats sz), .sh (.lst ((casesL sz).map nats)), .un, .un, .un, .un, .un, .un, .un, .un, .un, .un, .un, .un, .un] := by
    generalize (casesL sz).map nats = CC at ecs ⊢
    generalize nI most = mm
    generalize nats sz = z at ecs ⊢
    simp [ecs]
  obtain ⟨h84, e84⟩ := e_draw hx (k := 84) (l := 2) (by omega) (by omega) (by omega)
  have e84 : F__law_draw [.sh (.int x0), .sh (.int 84), .sh (.int 2)] = .ok (.sh (nI (drw x0 84 2)), [.sh (.int x0), .sh (.int 84), .sh (.int 2)]) := e84
  generalize drw x0 84 2 = j2 at h84 e84
  obtain ⟨tl, htl, ht6, q5⟩ : ∃ tl : List Nat, tl.length ≤ 20 - sz.length ∧ (∀ s ∈ tl, s = 6) ∧ (dSetF 5 (dBinL true catL (dBinL true catL (dName 3) (dLst (dConsF (dC (.int 6)) (dConsF (dC (.int 6)) (dConsF (dC (.int 6)) (dConsF (dC (.int 5)) (dNil))))))) (dIx true (dLst (dConsF (dLst (dNil)) (dConsF (dLc true (dRng1 (dBin true gSub (dC (.int 20)) (dBl gLen (dConsP true (dName 3) (dNil))))) (tgN 15) (dYes) (dC (.int 6)) [15]) (dNil)))) (dCall 3 F__law_draw (dConsF (dName 1) (dConsF (dC (.int 84)) (dConsF (dC (.int 2)) (dNil)))))))) [.sh (.scr ns), .sh (.int x0), .sh (nI most), .sh (nats sz), .sh (.lst ((casesL sz).map nats)), .un, .un, .un, .un, .un, .un, .un, .un, .un, .un, .un, .un, .un] = .nx [.sh (.scr ns), .sh (.int x0), .sh (nI most), .sh (nats sz), .sh (.lst ((casesL sz).map nats)), .sh (nats (sz ++ [6, 6, 6, 5] ++ tl)), .un, .un, .un, .un, .un, .un, .un, .un, .un, .un, .un, .un] := by
    have gl := lenN sz
    have gs : DL.gSub (.int 20) (nI sz.length) = some (nI (20 - sz.length)) := by
      show some (D.int ((20 : Int) - (sz.length : Int))) = some (D.int ((20 - sz.length : Nat) : Int))
      congr 2
      omega
    have lc : (dLc true (dRng1 (dBin true gSub (dC (.int 20)) (dBl gLen (dConsP true (dName 3) (dNil))))) (tgN 15) (dYes) (dC (.int 6)) [15]) [.sh (.scr ns), .sh (.int x0), .sh (nI most), .sh (nats sz), .sh (.lst ((casesL sz).map nats)), .un, .un, .un, .un, .un, .un, .un, .un, .un, .un, .un, .un, .un] = .ok (.own ((List.range (20 - sz.length)).map fun _ => D.int 6), [.sh (.scr ns), .sh (.int x0), .sh (nI most), .sh (nats sz), .sh (.lst ((casesL sz).map nats)), .un, .un, .un, .un, .un, .un, .un, .un, .un, .un, .un, .un, .un]) := by
      refine dLc_mapS (List.range (20 - sz.length)) nI _ (fz := true) (rngN_ok (20 - sz.length) (by omega) (by
        generalize nI (20 - sz.length) = m at gs ⊢
        generalize nI sz.length = n at gl gs
        generalize (casesL sz).map nats = CC
        generalize nI most = mm
        generalize nats sz = z at gl ⊢
        simp [-gLen, -DL.gSub, gl, gs])) rfl rfl rfl (small_line (by rw [List.length_range]; omega)) (fun i hi => rfl)
    have wr : ((List.range (20 - sz.length)).map fun _ => D.int 6) = (List.replicate (20 - sz.length) 6).map nI := by
      rw [List.map_replicate, List.map_const', List.length_range]
      rfl
    rw [wr] at lc
    have two : L2.atI [D.lst [], .lst ((List.replicate (20 - sz.length) 6).map nI)] (j2 : Int) = some (.lst ((if j2 = 0 then [] else List.replicate (20 - sz.length) 6).map nI)) := by
      rcases (show j2 = 0 ∨ j2 = 1 by omega) with rfl | rfl
      · exact L2.atI_nat rfl
      · exact L2.atI_nat rfl
    have g1 := catG (f1 := dName 3) (f2 := dLst (dConsF (dC (.int 6)) (dConsF (dC (.int 6)) (dConsF (dC (.int 6)) (dConsF (dC (.int 5)) (dNil)))))) (ρ := [.sh (.scr ns), .sh (.int x0), .sh (nI most), .sh (nats sz), .sh (.lst ((casesL sz).map nats)), .un, .un, .un, .un, .un, .un, .un, .un, .un, .un, .un, .un, .un]) (ρ1 := [.sh (.scr ns), .sh (.int x0), .sh (nI most), .sh (nats sz), .sh (.lst ((casesL sz).map nats)), .un, .un, .un, .un, .un, .un, .un, .un, .un, .un, .un, .un, .un]) (ρ2 := [.sh (.scr ns), .sh (.int x0), .sh (nI most), .sh (nats sz), .sh (.lst ((casesL sz).map nats)), .un, .un, .un, .un, .un, .un, .un, .un, .un, .un, .un, .un, .un]) (s1 := .sh (nats sz)) (s2 := .own [.int 6, .int 6, .int 6, .int 5]) (xs := sz.map nI) (ys := [.int 6, .int 6, .int 6, .int 5]) rfl (by
      generalize (casesL sz).map nats = CC
      generalize nI most = mm
      generalize nats sz = z
      simp) (.inl rfl) (.inr rfl) (by simp; omega)
    have g2 : (dIx true (dLst (dConsF (dLst (dNil)) (dConsF (dLc true (dRng1 (dBin true gSub (dC (.int 20)) (dBl gLen (dConsP true (dName 3) (dNil))))) (tgN 15) (dYes) (dC (.int 6)) [15]) (dNil)))) (dCall 3 F__law_draw (dConsF (dName 1) (dConsF (dC (.int 84)) (dConsF (dC (.int 2)) (dNil)))))) [.sh (.scr ns), .sh (.int x0), .sh (nI most), .sh (nats sz), .sh (.lst ((casesL sz).map nats)), .un, .un, .un, .un, .un, .un, .un, .un, .un, .un, .un, .un, .un] = .ok (.sh (.lst ((if j2 = 0 then [] else List.replicate (20 - sz.length) 6).map nI)), [.sh (.scr ns), .sh (.int x0), .sh (nI most), .sh (nats sz), .sh (.lst ((casesL sz).map nats)), .un, .un, .un, .un, .un, .un, .un, .un, .un, .un, .un, .un, .un]) := by
      generalize (dLc true (dRng1 (dBin true gSub (dC (.int 20)) (dBl gLen (dConsP true (dName 3) (dNil))))) (tgN 15) (dYes) (dC (.int 6)) [15]) = f at lc ⊢
      generalize (List.replicate (20 - sz.length) 6).map nI = R at lc two
      generalize (if j2 = 0 then [] else List.replicate (20 - sz.length) 6).map nI = R2 at two ⊢
      generalize (casesL sz).map nats = CC at lc ⊢
      generalize nI most = mm at lc ⊢
      generalize nats sz = z at lc ⊢
      simp [kIx, lc, e84, two]
    have lr : (if j2 = 0 then [] else List.replicate (20 - sz.length) 6).length ≤ 20 - sz.length := by split <;> simp
    have g3 := catG g1 g2 (.inr rfl) (.inl rfl) (by rw [List.length_append, List.length_map, List.length_map]; simp; omega)
    refine ⟨if j2 = 0 then [] else List.replicate (20 - sz.length) 6, lr, fun s h => ?_, ?_⟩
    · split at h
      · cases h
      · exact (List.mem_replicate.mp h).2
    · refine (setF_own g3).trans ?_
      have w : nats (sz ++ [6, 6, 6, 5] ++ if j2 = 0 then [] else List.replicate (20 - sz.length) 6) = .lst (sz.map nI ++ [.int 6, .int 6, .int 6, .int 5] ++ (if j2 = 0 then [] else List.replicate (20 - sz.length) 6).map nI) := by
        unfold nats
        rw [List.map_append, List.map_append]; rfl
      rw [w]; rfl
  have hg : SzOk (sz ++ [6, 6, 6, 5] ++ tl) := by
    refine ⟨by rw [List.length_append, List.length_append]; simp; omega, fun s h => ?_⟩
    rcases List.mem_append.mp h with h | h
    · rcases List.mem_append.mp h with h | h
      · exact h26 s h
      · simp only [List.mem_cons, List.not_mem_nil, or_false] at h
        omega
    · rw [ht6 s h]; omega
  have hgp := large_prd hg
  have hup : ∀ cs, CondsOk sz cs → CondsOk (sz ++ [6, 6, 6, 5] ++ tl) cs := fun cs h => by rw [List.append_assoc]; exact large_up h
  generalize sz ++ [6, 6, 6, 5] ++ tl = lg at hg hgp hup q5
  obtain ⟨xs, hxs, hit⟩ : ∃ xs : List Int, (∀ x ∈ xs, CellOk x) ∧ dSeqI (dSl true (dName 0) (dPart (dC (.int 1))) (dPart (dBin true gAdd (dC (.int 2)) (dBl gMin (dConsP true (dC (.int 12)) (dConsP true (dBin true gFdiv (dC (.int 512)) (dBl gLen (dConsP true (dName 4) (dNil)))) (dNil))))))) [.sh (.scr ns), .sh (.int x0), .sh (nI most), .sh (nats sz), .sh (.lst ((casesL sz).map nats)), .sh (nats lg), .un, .un, .un, .un, .un, .un, .un, .un, .un, .un, .un, .un] = .ok ((true, xs.map D.int), [.sh (.scr ns), .sh (.int x0), .sh (nI most), .sh (nats sz), .sh (.lst ((casesL sz).map nats)), .sh (nats lg), .un, .un, .un, .un, .un, .un, .un, .un, .un, .un, .un, .un]) := by
    have gl : gLen [.lst ((casesL sz).map nats)] = some (nI (casesL sz).length) := by show some (D.int _) = _; rw [List.length_map]
    have cl : 0 < (casesL sz).length := by rw [casesL_len]; exact prdM_pos h26
    have gf : gFdiv (.int 512) (nI (casesL sz).length) = some (nI (512 / (casesL sz).length)) := by
      rw [gFdiv_ok (by omega) (by rw [casesL_len]; omega)]
      rfl
    obtain ⟨K, hK⟩ : ∃ K : Int, (dBin true gAdd (dC (.int 2)) (dBl gMin (dConsP true (dC (.int 12)) (dConsP true (dBin true gFdiv (dC (.int 512)) (dBl gLen (dConsP true (dName 4) (dNil)))) (dNil))))) [.sh (.scr ns), .sh (.int x0), .sh (nI most), .sh (nats sz), .sh (.lst ((casesL sz).map nats)), .sh (nats lg), .un, .un, .un, .un, .un, .un, .un, .un, .un, .un, .un, .un] = .ok (.sh (.int K), [.sh (.scr ns), .sh (.int x0), .sh (nI most), .sh (nats sz), .sh (.lst ((casesL sz).map nats)), .sh (nats lg), .un, .un, .un, .un, .un, .un, .un, .un, .un, .un, .un, .un]) := by
      refine ⟨2 + (if ((512 / (casesL sz).length : Nat) : Int) < 12 then ((512 / (casesL sz).length : Nat) : Int) else 12), ?_⟩
      have gm : gMin [.int 12, nI (512 / (casesL sz).length)] = some (.int (if ((512 / (casesL sz).length : Nat) : Int) < 12 then ((512 / (casesL sz).length : Nat) : Int) else 12)) := rfl
      generalize (if ((512 / (casesL sz).length : Nat) : Int) < 12 then ((512 / (casesL sz).length : Nat) : Int) else 12) = M at gm ⊢
      generalize nI (512 / (casesL sz).length) = q at gf gm
      generalize nI (casesL sz).length = n at gl gf
      generalize (casesL sz).map nats = CC at gl ⊢
      generalize nI most = mm
      generalize nats lg = ll
      generalize nats sz = z
      simp [-gLen, -gMin, -gFdiv, gl, gf, gm]
    refine ⟨DL.cut ns (some 1) (some K), fun x h => hb x (cut_mem48 h), ?_⟩
    generalize (dBin true gAdd (dC (.int 2)) (dBl gMin (dConsP true (dC (.int 12)) (dConsP true (dBin true gFdiv (dC (.int 512)) (dBl gLen (dConsP true (dName 4) (dNil)))) (dNil))))) = f at hK ⊢
    generalize (casesL sz).map nats = CC at hK ⊢
    generalize nI most = mm at hK ⊢
    generalize nats lg = ll at hK ⊢
    generalize nats sz = z at hK ⊢
    simp [hK]
  obtain ⟨ρ', e, a6, a7, a8, a9, a10, a11, a12, a13, rfl⟩ := dFor_inv (g := tgN 6) (body := k48B) xs D.int
    (fun pre ρ => ∃ a6 a7 a8 a9 a10 a11 a12 a13 : DL.Slot, ρ = [.sh (.scr ns), .sh (.int x0), .sh (nI most), .sh (nats sz), .sh (.lst ((casesL sz).map nats)), .sh (nats lg), a6, a7, a8, a9, a10, a11, a12, a13, .un, .un, .un, .un]) hit rfl ⟨_, _, _, _, _, _, _, _, rfl⟩ (fun pre x post ρ e hρ => by
      obtain ⟨a6, a7, a8, a9, a10, a11, a12, a13, rfl⟩ := hρ
      obtain ⟨t7, t8, t9, t10, t11, t12, t13, e⟩ := k48_body (ns := ns) (x0 := x0) (most := most) (hxs x (by rw [e]; simp)) hs hl hp hg hgp hup a7 a8 a9 a10 a11 a12 a13
      exact ⟨_, _, rfl, .inl e, _, _, _, _, _, _, _, _, rfl⟩)
  have ef := e_fitting hs hp (cs := []) ⟨fun c h => (by cases h), List.Pairwise.nil, by simp⟩
  have cnt : ((casesL sz).filter fun r => isFit r []) = casesL sz := List.filter_eq_self.mpr fun _ _ => rfl
  rw [cnt] at ef
  have ef : F_fitting [.sh (nats sz), .sh (.tup [])] = .ok (.sh (nI (casesL sz).length), [.sh (nats sz), .sh (.tup [])]) := ef
  have gl : gLen [.lst ((casesL sz).map nats)] = some (nI (casesL sz).length) := by show some (D.int _) = _; rw [List.length_map]
  have ge := natEqD (casesL sz).length (casesL sz).length
  rw [beq_self_eq_true] at ge
  refine ⟨_, fnG_rt (N := 18) (n := 1) (ss := [.sh (.scr ns)]) (ρ' := [.sh (.scr ns), .sh (.int x0), .sh (nI most), .sh (nats sz), .sh (.lst ((casesL sz).map nats)), .sh (nats lg), a6, a7, a8, a9, a10, a11, a12, a13, .un, .un, .un, .un]) (dSeq_nx q0 (dSeq_nx (ρ1 := [.sh (.scr ns), .sh (.int x0), .sh (.int 64), .un, .un, .un, .un, .un, .un, .un, .un, .un, .un, .un, .un, .un, .un, .un]) rfl (dSeq_nx q2 (dSeq_nx q3 (dSeq_nx q4 (dSeq_nx q5 (dSeq_nx e ?_))))))) rfl (by decide) rfl⟩
  have w : nats sz = .lst (sz.map nI) := rfl
  rw [w] at ef ⊢
  generalize nI (casesL sz).length = n at ef gl ge
  generalize (casesL sz).map nats = CC at gl ⊢
  generalize nI most = mm
  generalize nats lg = ll
  generalize sz.map nI = z at ef ⊢
  simp [-gLen, -gEq, pick, ef, gl, ge]
end LW
namespace LW
open PySem PySem.Spec PyProof.Rows L2 DL
theorem all_mk {P : Program} {w : World} {K : PySem.W.Frag} {h : Heap} {mg : Str → Option Value} {fa : Addr} (X : K.In h) (G : h.Ns mainGlobals mg) (hfa : mg "law" = some (.ref fa))
    {oc0 kV0 dc0 pm0 cd0 ct0 : Value} {od0 an0 : Option Addr} {sl0 : Array (Option Value)} {f0 : Addr} (a0 : PySem.W.nsIn K mainGlobals "is_whole" = some (some (.ref f0))) (l0 : K.lookup f0 = some ⟨oc0, od0, .func (PySem.W.fnOf "is_whole" "is_whole" (defArgs s_is_whole) (defBody s_is_whole) (defScope s_is_whole) .none kV0 dc0 pm0 an0 cd0 ct0), sl0⟩) (c0 : PySem.W.codeIn K cd0 "is_whole" = true) (k0 : PySem.W.keepIn K (.ref f0) = true)
    {oc1 kV1 dc1 pm1 cd1 ct1 : Value} {od1 an1 : Option Addr} {sl1 : Array (Option Value)} {f1 : Addr} (a1 : PySem.W.nsIn K mainGlobals "is_below" = some (some (.ref f1))) (l1 : K.lookup f1 = some ⟨oc1, od1, .func (PySem.W.fnOf "is_below" "is_below" (defArgs s_is_below) (defBody s_is_below) (defScope s_is_below) .none kV1 dc1 pm1 an1 cd1 ct1), sl1⟩) (c1 : PySem.W.codeIn K cd1 "is_below" = true) (k1 : PySem.W.keepIn K (.ref f1) = true)
    {oc2 kV2 dc2 pm2 cd2 ct2 : Value} {od2 an2 : Option Addr} {sl2 : Array (Option Value)} {f2 : Addr} (a2 : PySem.W.nsIn K mainGlobals "is_sizes" = some (some (.ref f2))) (l2 : K.lookup f2 = some ⟨oc2, od2, .func (PySem.W.fnOf "is_sizes" "is_sizes" (defArgs s_is_sizes) (defBody s_is_sizes) (defScope s_is_sizes) .none kV2 dc2 pm2 an2 cd2 ct2), sl2⟩) (c2 : PySem.W.codeIn K cd2 "is_sizes" = true) (k2 : PySem.W.keepIn K (.ref f2) = true)
    {oc3 kV3 dc3 pm3 cd3 ct3 : Value} {od3 an3 : Option Addr} {sl3 : Array (Option Value)} {f3 : Addr} (a3 : PySem.W.nsIn K mainGlobals "need_sizes" = some (some (.ref f3))) (l3 : K.lookup f3 = some ⟨oc3, od3, .func (PySem.W.fnOf "need_sizes" "need_sizes" (defArgs s_need_sizes) (defBody s_need_sizes) (defScope s_need_sizes) .none kV3 dc3 pm3 an3 cd3 ct3), sl3⟩) (c3 : PySem.W.codeIn K cd3 "need_sizes" = true) (k3 : PySem.W.keepIn K (.ref f3) = true)
    {oc4 kV4 dc4 pm4 cd4 ct4 : Value} {od4 an4 : Option Addr} {sl4 : Array (Option Value)} {f4 : Addr} (a4 : PySem.W.nsIn K mainGlobals "product" = some (some (.ref f4))) (l4 : K.lookup f4 = some ⟨oc4, od4, .func (PySem.W.fnOf "product" "product" (defArgs s_product) (defBody s_product) (defScope s_product) .none kV4 dc4 pm4 an4 cd4 ct4), sl4⟩) (c4 : PySem.W.codeIn K cd4 "product" = true) (k4 : PySem.W.keepIn K (.ref f4) = true)
    {oc5 kV5 dc5 pm5 cd5 ct5 : Value} {od5 an5 : Option Addr} {sl5 : Array (Option Value)} {f5 : Addr} (a5 : PySem.W.nsIn K mainGlobals "need_small" = some (some (.ref f5))) (l5 : K.lookup f5 = some ⟨oc5, od5, .func (PySem.W.fnOf "need_small" "need_small" (defArgs s_need_small) (defBody s_need_small) (defScope s_need_small) .none kV5 dc5 pm5 an5 cd5 ct5), sl5⟩) (c5 : PySem.W.codeIn K cd5 "need_small" = true) (k5 : PySem.W.keepIn K (.ref f5) = true)
    {oc6 kV6 dc6 pm6 cd6 ct6 : Value} {od6 an6 : Option Addr} {sl6 : Array (Option Value)} {f6 : Addr} (a6 : PySem.W.nsIn K mainGlobals "cases_of" = some (some (.ref f6))) (l6 : K.lookup f6 = some ⟨oc6, od6, .func (PySem.W.fnOf "cases_of" "cases_of" (defArgs s_cases_of) (defBody s_cases_of) (defScope s_cases_of) .none kV6 dc6 pm6 an6 cd6 ct6), sl6⟩) (c6 : PySem.W.codeIn K cd6 "cases_of" = true) (k6 : PySem.W.keepIn K (.ref f6) = true)
    {oc7 kV7 dc7 pm7 cd7 ct7 : Value} {od7 an7 : Option Addr} {sl7 : Array (Option Value)} {f7 : Addr} (a7 : PySem.W.nsIn K mainGlobals "all_cases" = some (some (.ref f7))) (l7 : K.lookup f7 = some ⟨oc7, od7, .func (PySem.W.fnOf "all_cases" "all_cases" (defArgs s_all_cases) (defBody s_all_cases) (defScope s_all_cases) .none kV7 dc7 pm7 an7 cd7 ct7), sl7⟩) (c7 : PySem.W.codeIn K cd7 "all_cases" = true) (k7 : PySem.W.keepIn K (.ref f7) = true)
    {oc8 kV8 dc8 pm8 cd8 ct8 : Value} {od8 an8 : Option Addr} {sl8 : Array (Option Value)} {f8 : Addr} (a8 : PySem.W.nsIn K mainGlobals "is_values" = some (some (.ref f8))) (l8 : K.lookup f8 = some ⟨oc8, od8, .func (PySem.W.fnOf "is_values" "is_values" (defArgs s_is_values) (defBody s_is_values) (defScope s_is_values) .none kV8 dc8 pm8 an8 cd8 ct8), sl8⟩) (c8 : PySem.W.codeIn K cd8 "is_values" = true) (k8 : PySem.W.keepIn K (.ref f8) = true)
    {oc9 kV9 dc9 pm9 cd9 ct9 : Value} {od9 an9 : Option Addr} {sl9 : Array (Option Value)} {f9 : Addr} (a9 : PySem.W.nsIn K mainGlobals "is_condition" = some (some (.ref f9))) (l9 : K.lookup f9 = some ⟨oc9, od9, .func (PySem.W.fnOf "is_condition" "is_condition" (defArgs s_is_condition) (defBody s_is_condition) (defScope s_is_condition) .none kV9 dc9 pm9 an9 cd9 ct9), sl9⟩) (c9 : PySem.W.codeIn K cd9 "is_condition" = true) (k9 : PySem.W.keepIn K (.ref f9) = true)
    {oc10 kV10 dc10 pm10 cd10 ct10 : Value} {od10 an10 : Option Addr} {sl10 : Array (Option Value)} {f10 : Addr} (a10 : PySem.W.nsIn K mainGlobals "is_conditions" = some (some (.ref f10))) (l10 : K.lookup f10 = some ⟨oc10, od10, .func (PySem.W.fnOf "is_conditions" "is_conditions" (defArgs s_is_conditions) (defBody s_is_conditions) (defScope s_is_conditions) .none kV10 dc10 pm10 an10 cd10 ct10), sl10⟩) (c10 : PySem.W.codeIn K cd10 "is_conditions" = true) (k10 : PySem.W.keepIn K (.ref f10) = true)
    {oc11 kV11 dc11 pm11 cd11 ct11 : Value} {od11 an11 : Option Addr} {sl11 : Array (Option Value)} {f11 : Addr} (a11 : PySem.W.nsIn K mainGlobals "is_fitting" = some (some (.ref f11))) (l11 : K.lookup f11 = some ⟨oc11, od11, .func (PySem.W.fnOf "is_fitting" "is_fitting" (defArgs s_is_fitting) (defBody s_is_fitting) (defScope s_is_fitting) .none kV11 dc11 pm11 an11 cd11 ct11), sl11⟩) (c11 : PySem.W.codeIn K cd11 "is_fitting" = true) (k11 : PySem.W.keepIn K (.ref f11) = true)
    {oc12 kV12 dc12 pm12 cd12 ct12 : Value} {od12 an12 : Option Addr} {sl12 : Array (Option Value)} {f12 : Addr} (a12 : PySem.W.nsIn K mainGlobals "need_conditions" = some (some (.ref f12))) (l12 : K.lookup f12 = some ⟨oc12, od12, .func (PySem.W.fnOf "need_conditions" "need_conditions" (defArgs s_need_conditions) (defBody s_need_conditions) (defScope s_need_conditions) .none kV12 dc12 pm12 an12 cd12 ct12), sl12⟩) (c12 : PySem.W.codeIn K cd12 "need_conditions" = true) (k12 : PySem.W.keepIn K (.ref f12) = true)
    {oc13 kV13 dc13 pm13 cd13 ct13 : Value} {od13 an13 : Option Addr} {sl13 : Array (Option Value)} {f13 : Addr} (a13 : PySem.W.nsIn K mainGlobals "fitting" = some (some (.ref f13))) (l13 : K.lookup f13 = some ⟨oc13, od13, .func (PySem.W.fnOf "fitting" "fitting" (defArgs s_fitting) (defBody s_fitting) (defScope s_fitting) .none kV13 dc13 pm13 an13 cd13 ct13), sl13⟩) (c13 : PySem.W.codeIn K cd13 "fitting" = true) (k13 : PySem.W.keepIn K (.ref f13) = true)
    {oc14 kV14 dc14 pm14 cd14 ct14 : Value} {od14 an14 : Option Addr} {sl14 : Array (Option Value)} {f14 : Addr} (a14 : PySem.W.nsIn K mainGlobals "_law_cell" = some (some (.ref f14))) (l14 : K.lookup f14 = some ⟨oc14, od14, .func (PySem.W.fnOf "_law_cell" "_law_cell" (defArgs s__law_cell) (defBody s__law_cell) (defScope s__law_cell) .none kV14 dc14 pm14 an14 cd14 ct14), sl14⟩) (c14 : PySem.W.codeIn K cd14 "_law_cell" = true) (k14 : PySem.W.keepIn K (.ref f14) = true)
    {oc15 kV15 dc15 pm15 cd15 ct15 : Value} {od15 an15 : Option Addr} {sl15 : Array (Option Value)} {f15 : Addr} (a15 : PySem.W.nsIn K mainGlobals "_law_draw" = some (some (.ref f15))) (l15 : K.lookup f15 = some ⟨oc15, od15, .func (PySem.W.fnOf "_law_draw" "_law_draw" (defArgs s__law_draw) (defBody s__law_draw) (defScope s__law_draw) .none kV15 dc15 pm15 an15 cd15 ct15), sl15⟩) (c15 : PySem.W.codeIn K cd15 "_law_draw" = true) (k15 : PySem.W.keepIn K (.ref f15) = true)
    {oc16 kV16 dc16 pm16 cd16 ct16 : Value} {od16 an16 : Option Addr} {sl16 : Array (Option Value)} {f16 : Addr} (a16 : PySem.W.nsIn K mainGlobals "_law_sizes" = some (some (.ref f16))) (l16 : K.lookup f16 = some ⟨oc16, od16, .func (PySem.W.fnOf "_law_sizes" "_law_sizes" (defArgs s__law_sizes) (defBody s__law_sizes) (defScope s__law_sizes) .none kV16 dc16 pm16 an16 cd16 ct16), sl16⟩) (c16 : PySem.W.codeIn K cd16 "_law_sizes" = true) (k16 : PySem.W.keepIn K (.ref f16) = true)
    {oc17 kV17 dc17 pm17 cd17 ct17 : Value} {od17 an17 : Option Addr} {sl17 : Array (Option Value)} {f17 : Addr} (a17 : PySem.W.nsIn K mainGlobals "_law_cases" = some (some (.ref f17))) (l17 : K.lookup f17 = some ⟨oc17, od17, .func (PySem.W.fnOf "_law_cases" "_law_cases" (defArgs s__law_cases) (defBody s__law_cases) (defScope s__law_cases) .none kV17 dc17 pm17 an17 cd17 ct17), sl17⟩) (c17 : PySem.W.codeIn K cd17 "_law_cases" = true) (k17 : PySem.W.keepIn K (.ref f17) = true)
    {oc18 kV18 dc18 pm18 cd18 ct18 : Value} {od18 an18 : Option Addr} {sl18 : Array (Option Value)} {f18 : Addr} (a18 : PySem.W.nsIn K mainGlobals "_law_values" = some (some (.ref f18))) (l18 : K.lookup f18 = some ⟨oc18, od18, .func (PySem.W.fnOf "_law_values" "_law_values" (defArgs s__law_values) (defBody s__law_values) (defScope s__law_values) .none kV18 dc18 pm18 an18 cd18 ct18), sl18⟩) (c18 : PySem.W.codeIn K cd18 "_law_values" = true) (k18 : PySem.W.keepIn K (.ref f18) = true)
    {oc19 kV19 dc19 pm19 cd19 ct19 : Value} {od19 an19 : Option Addr} {sl19 : Array (Option Value)} {f19 : Addr} (a19 : PySem.W.nsIn K mainGlobals "_law_conditions" = some (some (.ref f19))) (l19 : K.lookup f19 = some ⟨oc19, od19, .func (PySem.W.fnOf "_law_conditions" "_law_conditions" (defArgs s__law_conditions) (defBody s__law_conditions) (defScope s__law_conditions) .none kV19 dc19 pm19 an19 cd19 ct19), sl19⟩) (c19 : PySem.W.codeIn K cd19 "_law_conditions" = true) (k19 : PySem.W.keepIn K (.ref f19) = true)
    {oc20 kV20 dc20 pm20 cd20 ct20 : Value} {od20 an20 : Option Addr} {sl20 : Array (Option Value)} {f20 : Addr} (a20 : PySem.W.nsIn K mainGlobals "_law_integer" = some (some (.ref f20))) (l20 : K.lookup f20 = some ⟨oc20, od20, .func (PySem.W.fnOf "_law_integer" "_law_integer" (defArgs s__law_integer) (defBody s__law_integer) (defScope s__law_integer) .none kV20 dc20 pm20 an20 cd20 ct20), sl20⟩) (c20 : PySem.W.codeIn K cd20 "_law_integer" = true) (k20 : PySem.W.keepIn K (.ref f20) = true)
    {oc21 kV21 dc21 pm21 cd21 ct21 : Value} {od21 an21 : Option Addr} {sl21 : Array (Option Value)} {f21 : Addr} (a21 : PySem.W.nsIn K mainGlobals "_law_bad_sizes" = some (some (.ref f21))) (l21 : K.lookup f21 = some ⟨oc21, od21, .func (PySem.W.fnOf "_law_bad_sizes" "_law_bad_sizes" (defArgs s__law_bad_sizes) (defBody s__law_bad_sizes) (defScope s__law_bad_sizes) .none kV21 dc21 pm21 an21 cd21 ct21), sl21⟩) (c21 : PySem.W.codeIn K cd21 "_law_bad_sizes" = true) (k21 : PySem.W.keepIn K (.ref f21) = true)
    {oc22 kV22 dc22 pm22 cd22 ct22 : Value} {od22 an22 : Option Addr} {sl22 : Array (Option Value)} {f22 : Addr} (a22 : PySem.W.nsIn K mainGlobals "_law_bad_condition" = some (some (.ref f22))) (l22 : K.lookup f22 = some ⟨oc22, od22, .func (PySem.W.fnOf "_law_bad_condition" "_law_bad_condition" (defArgs s__law_bad_condition) (defBody s__law_bad_condition) (defScope s__law_bad_condition) .none kV22 dc22 pm22 an22 cd22 ct22), sl22⟩) (c22 : PySem.W.codeIn K cd22 "_law_bad_condition" = true) (k22 : PySem.W.keepIn K (.ref f22) = true)
    {oc23 kV23 dc23 pm23 cd23 ct23 : Value} {od23 an23 : Option Addr} {sl23 : Array (Option Value)} {f23 : Addr} (a23 : PySem.W.nsIn K mainGlobals "_law_bad" = some (some (.ref f23))) (l23 : K.lookup f23 = some ⟨oc23, od23, .func (PySem.W.fnOf "_law_bad" "_law_bad" (defArgs s__law_bad) (defBody s__law_bad) (defScope s__law_bad) .none kV23 dc23 pm23 an23 cd23 ct23), sl23⟩) (c23 : PySem.W.codeIn K cd23 "_law_bad" = true) (k23 : PySem.W.keepIn K (.ref f23) = true)
    {oc24 kV24 dc24 pm24 cd24 ct24 : Value} {od24 an24 : Option Addr} {sl24 : Array (Option Value)} {f24 : Addr} (a24 : PySem.W.nsIn K mainGlobals "_law_refused" = some (some (.ref f24))) (l24 : K.lookup f24 = some ⟨oc24, od24, .func (PySem.W.fnOf "_law_refused" "_law_refused" (defArgs s__law_refused) (defBody s__law_refused) (defScope s__law_refused) .none kV24 dc24 pm24 an24 cd24 ct24), sl24⟩) (c24 : PySem.W.codeIn K cd24 "_law_refused" = true) (k24 : PySem.W.keepIn K (.ref f24) = true)
    {oc25 kV25 dc25 pm25 cd25 ct25 : Value} {od25 an25 : Option Addr} {sl25 : Array (Option Value)} {f25 : Addr} (a25 : PySem.W.nsIn K mainGlobals "law" = some (some (.ref f25))) (l25 : K.lookup f25 = some ⟨oc25, od25, .func (PySem.W.fnOf "law" "law" (defArgs s_law) (defBody s_law) (defScope s_law) .none kV25 dc25 pm25 an25 cd25 ct25), sl25⟩) (c25 : PySem.W.codeIn K cd25 "law" = true) (k25 : PySem.W.keepIn K (.ref f25) = true)
    (z_isinstance : PySem.W.nsIn K mainGlobals "isinstance" = some none)
    (z_int : PySem.W.nsIn K mainGlobals "int" = some none)
    (z_bool : PySem.W.nsIn K mainGlobals "bool" = some none)
    (z_all : PySem.W.nsIn K mainGlobals "all" = some none)
    (z_list : PySem.W.nsIn K mainGlobals "list" = some none)
    (z_len : PySem.W.nsIn K mainGlobals "len" = some none)
    (z_zip : PySem.W.nsIn K mainGlobals "zip" = some none)
    (z_range : PySem.W.nsIn K mainGlobals "range" = some none)
    (z_tuple : PySem.W.nsIn K mainGlobals "tuple" = some none)
    (z_str : PySem.W.nsIn K mainGlobals "str" = some none)
    (z_min : PySem.W.nsIn K mainGlobals "min" = some none)
    {t_MOST_VALUES : Tok} (g_MOST_VALUES : PySem.W.nsIn K mainGlobals "MOST_VALUES" = some (some (.int (6) t_MOST_VALUES)))
    {t_MOST_FIELDS : Tok} (g_MOST_FIELDS : PySem.W.nsIn K mainGlobals "MOST_FIELDS" = some (some (.int (24) t_MOST_FIELDS)))
    {t_SMALL : Tok} (g_SMALL : PySem.W.nsIn K mainGlobals "SMALL" = some (some (.int (1024) t_SMALL)))
    {C_InvalidSizes : Addr} (e_InvalidSizes : PySem.W.nsIn K mainGlobals "InvalidSizes" = some (some (.ref C_InvalidSizes))) (x_InvalidSizes : PySem.W.excIn K C_InvalidSizes [.type "ValueError", .type "Exception", .type "BaseException", .type "object"] "ValueError.__new__" = true) (ke_InvalidSizes : PySem.W.keepIn K (.ref C_InvalidSizes) = true) (b_InvalidSizes : PySem.W.subIn K (.ref C_InvalidSizes) (.type "BaseException") = some true) (t_InvalidSizes : PySem.W.typeIn K (.ref C_InvalidSizes) = some (.type "type"))
    {C_NotSmall : Addr} (e_NotSmall : PySem.W.nsIn K mainGlobals "NotSmall" = some (some (.ref C_NotSmall))) (x_NotSmall : PySem.W.excIn K C_NotSmall [.type "ValueError", .type "Exception", .type "BaseException", .type "object"] "ValueError.__new__" = true) (ke_NotSmall : PySem.W.keepIn K (.ref C_NotSmall) = true) (b_NotSmall : PySem.W.subIn K (.ref C_NotSmall) (.type "BaseException") = some true) (t_NotSmall : PySem.W.typeIn K (.ref C_NotSmall) = some (.type "type"))
    {C_InvalidConditions : Addr} (e_InvalidConditions : PySem.W.nsIn K mainGlobals "InvalidConditions" = some (some (.ref C_InvalidConditions))) (x_InvalidConditions : PySem.W.excIn K C_InvalidConditions [.type "ValueError", .type "Exception", .type "BaseException", .type "object"] "ValueError.__new__" = true) (ke_InvalidConditions : PySem.W.keepIn K (.ref C_InvalidConditions) = true) (b_InvalidConditions : PySem.W.subIn K (.ref C_InvalidConditions) (.type "BaseException") = some true) (t_InvalidConditions : PySem.W.typeIn K (.ref C_InvalidConditions) = some (.type "type"))
    (xcn : PySem.W.specialIn K (.builtin "object.__class__") "__get__" = some (some (.builtin "getset_descriptor.__get__"))) (xct : PySem.W.takesIn K (.builtin "object.__class__") = some true)
    (xg_NotSmall : PySem.W.findIn K (.ref C_NotSmall) "__getattribute__" = some (some (.builtin "BaseException.__getattribute__"))) (xk_NotSmall : PySem.W.findIn K (.ref C_NotSmall) "__getattr__" = some none) (xd_NotSmall : PySem.W.hasDictIn K C_NotSmall = true) (xa_NotSmall : PySem.W.findIn K (.ref C_NotSmall) "__class__" = some (some (.builtin "object.__class__"))) (xm_NotSmall : PySem.W.mroIn K C_NotSmall (.type "object") = some true) (xn1_NotSmall : PySem.W.subIn K (.ref C_NotSmall) (.type "NoneType") = some false) (xn2_NotSmall : PySem.W.subIn K (.ref C_NotSmall) (.type "bool") = some false) (xn3_NotSmall : PySem.W.subIn K (.ref C_NotSmall) (.type "int") = some false) (xn4_NotSmall : PySem.W.subIn K (.ref C_NotSmall) (.type "str") = some false) (xn5_NotSmall : PySem.W.subIn K (.ref C_NotSmall) (.type "list") = some false) (xn6_NotSmall : PySem.W.subIn K (.ref C_NotSmall) (.type "tuple") = some false) (xn7_NotSmall : PySem.W.subIn K (.ref C_NotSmall) (.type "dict") = some false)
    (sb_InvalidConditions_InvalidSizes : PySem.W.subIn K (.ref C_InvalidConditions) (.ref C_InvalidSizes) = some false)
    (sb_NotSmall_InvalidSizes : PySem.W.subIn K (.ref C_NotSmall) (.ref C_InvalidSizes) = some false)
    (sb_NotSmall_InvalidConditions : PySem.W.subIn K (.ref C_NotSmall) (.ref C_InvalidConditions) = some false)
    (ok : LawTrueB F_law) : ∃ fd : FuncData, (∀ (s : Shared) (v : Value), BindsTo s fd ⟨[v], []⟩ [("script", v)]) ∧ ∀ base : Heap, K.In base → base.Ns mainGlobals mg → FnOk P w K mg base (L2.CX P w) 9 fa fd ["script"] (lawSpB K) := by
  have e := hfa.symm.trans (PySem.W.mg_of X G a25)
  cases e
  have T : Txt K mg := ⟨trivial, PySem.W.mg_none_of X G z_isinstance, PySem.W.mg_none_of X G z_int, PySem.W.mg_none_of X G z_bool, PySem.W.mg_none_of X G z_all, PySem.W.mg_none_of X G z_list, PySem.W.mg_none_of X G z_len, PySem.W.mg_none_of X G z_zip, PySem.W.mg_none_of X G z_range, PySem.W.mg_none_of X G z_tuple, PySem.W.mg_none_of X G z_str, PySem.W.mg_none_of X G z_min, ⟨_, PySem.W.mg_of X G g_MOST_VALUES⟩, ⟨_, PySem.W.mg_of X G g_MOST_FIELDS⟩, ⟨_, PySem.W.mg_of X G g_SMALL⟩, exf_mk (PySem.W.mg_of X G e_InvalidSizes) x_InvalidSizes ke_InvalidSizes b_InvalidSizes t_InvalidSizes, exf_mk (PySem.W.mg_of X G e_NotSmall) x_NotSmall ke_NotSmall b_NotSmall t_NotSmall, exf_mk (PySem.W.mg_of X G e_InvalidConditions) x_InvalidConditions ke_InvalidConditions b_InvalidConditions t_InvalidConditions, ⟨⟨_, PySem.W.mg_of X G e_NotSmall, exX_mk e_NotSmall xg_NotSmall xk_NotSmall b_NotSmall xd_NotSmall xa_NotSmall xcn xct xm_NotSmall xn1_NotSmall xn2_NotSmall xn3_NotSmall xn4_NotSmall xn5_NotSmall xn6_NotSmall xn7_NotSmall⟩⟩, ⟨(by rw [exv_of (PySem.W.mg_of X G e_InvalidConditions), exv_of (PySem.W.mg_of X G e_InvalidSizes)]; exact sb_InvalidConditions_InvalidSizes), (by rw [exv_of (PySem.W.mg_of X G e_NotSmall), exv_of (PySem.W.mg_of X G e_InvalidSizes)]; exact sb_NotSmall_InvalidSizes), (by rw [exv_of (PySem.W.mg_of X G e_NotSmall), exv_of (PySem.W.mg_of X G e_InvalidConditions)]; exact sb_NotSmall_InvalidConditions)⟩⟩
  have F0 := fun_mk (st := s_is_whole) l0 c0 k0
  have b0 := F0.binds (ps := ["value"]) fun _ _ _ _ _ _ us hl => match us, hl with | [_], _ => rfl
  have F1 := fun_mk (st := s_is_below) l1 c1 k1
  have b1 := F1.binds (ps := ["value", "bound"]) fun _ _ _ _ _ _ us hl => match us, hl with | [_, _], _ => rfl
  have F2 := fun_mk (st := s_is_sizes) l2 c2 k2
  have b2 := F2.binds (ps := ["value"]) fun _ _ _ _ _ _ us hl => match us, hl with | [_], _ => rfl
  have F3 := fun_mk (st := s_need_sizes) l3 c3 k3
  have b3 := F3.binds (ps := ["sizes"]) fun _ _ _ _ _ _ us hl => match us, hl with | [_], _ => rfl
  have F4 := fun_mk (st := s_product) l4 c4 k4
  have b4 := F4.binds (ps := ["sizes"]) fun _ _ _ _ _ _ us hl => match us, hl with | [_], _ => rfl
  have F5 := fun_mk (st := s_need_small) l5 c5 k5
  have b5 := F5.binds (ps := ["sizes"]) fun _ _ _ _ _ _ us hl => match us, hl with | [_], _ => rfl
  have F6 := fun_mk (st := s_cases_of) l6 c6 k6
  have b6 := F6.binds (ps := ["sizes", "half"]) fun _ _ _ _ _ _ us hl => match us, hl with | [_, _], _ => rfl
  have F7 := fun_mk (st := s_all_cases) l7 c7 k7
  have b7 := F7.binds (ps := ["sizes"]) fun _ _ _ _ _ _ us hl => match us, hl with | [_], _ => rfl
  have F8 := fun_mk (st := s_is_values) l8 c8 k8
  have b8 := F8.binds (ps := ["size", "value"]) fun _ _ _ _ _ _ us hl => match us, hl with | [_, _], _ => rfl
  have F9 := fun_mk (st := s_is_condition) l9 c9 k9
  have b9 := F9.binds (ps := ["sizes", "value"]) fun _ _ _ _ _ _ us hl => match us, hl with | [_, _], _ => rfl
  have F10 := fun_mk (st := s_is_conditions) l10 c10 k10
  have b10 := F10.binds (ps := ["sizes", "value"]) fun _ _ _ _ _ _ us hl => match us, hl with | [_, _], _ => rfl
  have F11 := fun_mk (st := s_is_fitting) l11 c11 k11
  have b11 := F11.binds (ps := ["conditions", "case"]) fun _ _ _ _ _ _ us hl => match us, hl with | [_, _], _ => rfl
  have F12 := fun_mk (st := s_need_conditions) l12 c12 k12
  have b12 := F12.binds (ps := ["sizes", "conditions"]) fun _ _ _ _ _ _ us hl => match us, hl with | [_, _], _ => rfl
  have F13 := fun_mk (st := s_fitting) l13 c13 k13
  have b13 := F13.binds (ps := ["sizes", "conditions"]) fun _ _ _ _ _ _ us hl => match us, hl with | [_, _], _ => rfl
  have F14 := fun_mk (st := s__law_cell) l14 c14 k14
  have b14 := F14.binds (ps := ["script", "k"]) fun _ _ _ _ _ _ us hl => match us, hl with | [_, _], _ => rfl
  have F15 := fun_mk (st := s__law_draw) l15 c15 k15
  have b15 := F15.binds (ps := ["cell", "k", "limit"]) fun _ _ _ _ _ _ us hl => match us, hl with | [_, _, _], _ => rfl
  have F16 := fun_mk (st := s__law_sizes) l16 c16 k16
  have b16 := F16.binds (ps := ["cell", "more", "most"]) fun _ _ _ _ _ _ us hl => match us, hl with | [_, _, _], _ => rfl
  have F17 := fun_mk (st := s__law_cases) l17 c17 k17
  have b17 := F17.binds (ps := ["sheet"]) fun _ _ _ _ _ _ us hl => match us, hl with | [_], _ => rfl
  have F18 := fun_mk (st := s__law_values) l18 c18 k18
  have b18 := F18.binds (ps := ["cell", "k", "size"]) fun _ _ _ _ _ _ us hl => match us, hl with | [_, _, _], _ => rfl
  have F19 := fun_mk (st := s__law_conditions) l19 c19 k19
  have b19 := F19.binds (ps := ["sheet", "cell"]) fun _ _ _ _ _ _ us hl => match us, hl with | [_, _], _ => rfl
  have F20 := fun_mk (st := s__law_integer) l20 c20 k20
  have b20 := F20.binds (ps := ["found"]) fun _ _ _ _ _ _ us hl => match us, hl with | [_], _ => rfl
  have F21 := fun_mk (st := s__law_bad_sizes) l21 c21 k21
  have b21 := F21.binds (ps := ["sheet", "cell"]) fun _ _ _ _ _ _ us hl => match us, hl with | [_, _], _ => rfl
  have F22 := fun_mk (st := s__law_bad_condition) l22 c22 k22
  have b22 := F22.binds (ps := ["sheet", "field", "values", "word"]) fun _ _ _ _ _ _ us hl => match us, hl with | [_, _, _, _], _ => rfl
  have F23 := fun_mk (st := s__law_bad) l23 c23 k23
  have b23 := F23.binds (ps := ["sheet", "pairs", "cell"]) fun _ _ _ _ _ _ us hl => match us, hl with | [_, _, _], _ => rfl
  have F24 := fun_mk (st := s__law_refused) l24 c24 k24
  have b24 := F24.binds (ps := ["sheet", "pairs"]) fun _ _ _ _ _ _ us hl => match us, hl with | [_, _], _ => rfl
  have F25 := fun_mk (st := s_law) l25 c25 k25
  have b25 := F25.binds (ps := ["script"]) fun _ _ _ _ _ _ us hl => match us, hl with | [_], _ => rfl
  refine ⟨PySem.W.fnOf "law" "law" (defArgs s_law) (defBody s_law) (defScope s_law) .none kV25 dc25 pm25 an25 cd25 ct25, fun s v => .of_eq rfl, fun base _ _ => ?_⟩
  have h_is_whole := d_is_whole (P := P) (w := w) (base := base) F0 (PySem.W.mg_of X G a0) b0 T
  have h_is_below := d_is_below (P := P) (w := w) (base := base) F1 (PySem.W.mg_of X G a1) b1 T h_is_whole
  have h_is_sizes := d_is_sizes (P := P) (w := w) (base := base) F2 (PySem.W.mg_of X G a2) b2 T h_is_below
  have h_need_sizes := d_need_sizes (P := P) (w := w) (base := base) F3 (PySem.W.mg_of X G a3) b3 T h_is_sizes
  have h_product := d_product (P := P) (w := w) (base := base) F4 (PySem.W.mg_of X G a4) b4 T
  have h_need_small := d_need_small (P := P) (w := w) (base := base) F5 (PySem.W.mg_of X G a5) b5 T h_product
  have h_cases_of := d_cases_of (P := P) (w := w) (base := base) F6 (PySem.W.mg_of X G a6) b6 T
  have h_all_cases := d_all_cases (P := P) (w := w) (base := base) F7 (PySem.W.mg_of X G a7) b7 T h_cases_of
  have h_is_values := d_is_values (P := P) (w := w) (base := base) F8 (PySem.W.mg_of X G a8) b8 T h_is_below
  have h_is_condition := d_is_condition (P := P) (w := w) (base := base) F9 (PySem.W.mg_of X G a9) b9 T h_is_values h_is_below
  have h_is_conditions := d_is_conditions (P := P) (w := w) (base := base) F10 (PySem.W.mg_of X G a10) b10 T h_is_condition
  have h_is_fitting := d_is_fitting (P := P) (w := w) (base := base) F11 (PySem.W.mg_of X G a11) b11 T
  have h_need_conditions := d_need_conditions (P := P) (w := w) (base := base) F12 (PySem.W.mg_of X G a12) b12 T h_is_conditions
  have h_fitting := d_fitting (P := P) (w := w) (base := base) F13 (PySem.W.mg_of X G a13) b13 T h_all_cases h_is_fitting h_need_small h_need_conditions h_need_sizes
  have hk_fitting_0 := DfnK.of (ks := ["conditions", "sizes"]) (perm := [1, 0]) h_fitting F13 (PySem.W.mg_of X G a13) fun _ _ _ _ _ _ ws hl => match ws, hl with | [_, _], _ => rfl
  have h__law_cell := d__law_cell (P := P) (w := w) (base := base) F14 (PySem.W.mg_of X G a14) b14 T
  have h__law_draw := d__law_draw (P := P) (w := w) (base := base) F15 (PySem.W.mg_of X G a15) b15 T
  have h__law_sizes := d__law_sizes (P := P) (w := w) (base := base) F16 (PySem.W.mg_of X G a16) b16 T h__law_draw
  have h__law_cases := d__law_cases (P := P) (w := w) (base := base) F17 (PySem.W.mg_of X G a17) b17 T
  have h__law_values := d__law_values (P := P) (w := w) (base := base) F18 (PySem.W.mg_of X G a18) b18 T h__law_draw
  have h__law_conditions := d__law_conditions (P := P) (w := w) (base := base) F19 (PySem.W.mg_of X G a19) b19 T h__law_draw h__law_values
  have h__law_integer := d__law_integer (P := P) (w := w) (base := base) F20 (PySem.W.mg_of X G a20) b20 T
  have h__law_bad_sizes := d__law_bad_sizes (P := P) (w := w) (base := base) F21 (PySem.W.mg_of X G a21) b21 T h__law_draw
  have h__law_bad_condition := d__law_bad_condition (P := P) (w := w) (base := base) F22 (PySem.W.mg_of X G a22) b22 T
  have h__law_bad := d__law_bad (P := P) (w := w) (base := base) F23 (PySem.W.mg_of X G a23) b23 T h__law_bad_condition h__law_draw
  have h__law_refused := d__law_refused (P := P) (w := w) (base := base) F24 (PySem.W.mg_of X G a24) b24 T h_fitting
  exact law_endB (d_law (P := P) (w := w) (base := base) F25 T h_fitting h__law_refused h__law_bad h__law_bad_sizes h__law_integer h__law_conditions h__law_draw h__law_cases h__law_sizes h__law_cell hk_fitting_0) ok
end LW
open PySem PySem.W PyProof.Rows
theorem PySem.Challenge.cw_leastreasons_k48_fitting_holds : PySem.Challenge.rw_leastreasons_k48_fitting.Holds := by
  w_on; o_law; k_head; (case hw => w_witness2)
  k_fill
  refine DL.law_walkB (k := 9) (l := PySem.Challenge.rw_leastreasons_k48_fitting) rfl rfl ⟨rfl, by decide, by decide⟩ (fun w h Y => PySem.W.kIn_of Y) ?F
  case F =>
    intro w mg fa h KX G hmg
    refine' LW.all_mk KX G hmg ?a0 ?l0 ?c0 ?k0 ?a1 ?l1 ?c1 ?k1 ?a2 ?l2 ?c2 ?k2 ?a3 ?l3 ?c3 ?k3 ?a4 ?l4 ?c4 ?k4 ?a5 ?l5 ?c5 ?k5 ?a6 ?l6 ?c6 ?k6 ?a7 ?l7 ?c7 ?k7 ?a8 ?l8 ?c8 ?k8 ?a9 ?l9 ?c9 ?k9 ?a10 ?l10 ?c10 ?k10 ?a11 ?l11 ?c11 ?k11 ?a12 ?l12 ?c12 ?k12 ?a13 ?l13 ?c13 ?k13 ?a14 ?l14 ?c14 ?k14 ?a15 ?l15 ?c15 ?k15 ?a16 ?l16 ?c16 ?k16 ?a17 ?l17 ?c17 ?k17 ?a18 ?l18 ?c18 ?k18 ?a19 ?l19 ?c19 ?k19 ?a20 ?l20 ?c20 ?k20 ?a21 ?l21 ?c21 ?k21 ?a22 ?l22 ?c22 ?k22 ?a23 ?l23 ?c23 ?k23 ?a24 ?l24 ?c24 ?k24 ?a25 ?l25 ?c25 ?k25 ?z_isinstance ?z_int ?z_bool ?z_all ?z_list ?z_len ?z_zip ?z_range ?z_tuple ?z_str ?z_min ?g_MOST_VALUES ?g_MOST_FIELDS ?g_SMALL ?e_InvalidSizes ?x_InvalidSizes ?ke_InvalidSizes ?b_InvalidSizes ?t_InvalidSizes ?e_NotSmall ?x_NotSmall ?ke_NotSmall ?b_NotSmall ?t_NotSmall ?e_InvalidConditions ?x_InvalidConditions ?ke_InvalidConditions ?b_InvalidConditions ?t_InvalidConditions ?xcn ?xct ?xg_NotSmall ?xk_NotSmall ?xd_NotSmall ?xa_NotSmall ?xm_NotSmall ?xn1_NotSmall ?xn2_NotSmall ?xn3_NotSmall ?xn4_NotSmall ?xn5_NotSmall ?xn6_NotSmall ?xn7_NotSmall ?sb_InvalidConditions_InvalidSizes ?sb_NotSmall_InvalidSizes ?sb_NotSmall_InvalidConditions LW.law_true
    (case a0 => k_is)
    (case l0 => k_is)
    (case c0 => k_is)
    (case k0 => k_is)
    (case a1 => k_is)
    (case l1 => k_is)
    (case c1 => k_is)
    (case k1 => k_is)
    (case a2 => k_is)
    (case l2 => k_is)
    (case c2 => k_is)
    (case k2 => k_is)
    (case a3 => k_is)
    (case l3 => k_is)
    (case c3 => k_is)
    (case k3 => k_is)
    (case a4 => k_is)
    (case l4 => k_is)
    (case c4 => k_is)
    (case k4 => k_is)
    (case a5 => k_is)
    (case l5 => k_is)
    (case c5 => k_is)
    (case k5 => k_is)
    (case a6 => k_is)
    (case l6 => k_is)
    (case c6 => k_is)
    (case k6 => k_is)
    (case a7 => k_is)
    (case l7 => k_is)
    (case c7 => k_is)
    (case k7 => k_is)
    (case a8 => k_is)
    (case l8 => k_is)
    (case c8 => k_is)
    (case k8 => k_is)
    (case a9 => k_is)
    (case l9 => k_is)
    (case c9 => k_is)
    (case k9 => k_is)
    (case a10 => k_is)
    (case l10 => k_is)
    (case c10 => k_is)
    (case k10 => k_is)
    (case a11 => k_is)
    (case l11 => k_is)
    (case c11 => k_is)
    (case k11 => k_is)
    (case a12 => k_is)
    (case l12 => k_is)
    (case c12 => k_is)
    (case k12 => k_is)
    (case a13 => k_is)
    (case l13 => k_is)
    (case c13 => k_is)
    (case k13 => k_is)
    (case a14 => k_is)
    (case l14 => k_is)
    (case c14 => k_is)
    (case k14 => k_is)
    (case a15 => k_is)
    (case l15 => k_is)
    (case c15 => k_is)
    (case k15 => k_is)
    (case a16 => k_is)
    (case l16 => k_is)
    (case c16 => k_is)
    (case k16 => k_is)
    (case a17 => k_is)
    (case l17 => k_is)
    (case c17 => k_is)
    (case k17 => k_is)
    (case a18 => k_is)
    (case l18 => k_is)
    (case c18 => k_is)
    (case k18 => k_is)
    (case a19 => k_is)
    (case l19 => k_is)
    (case c19 => k_is)
    (case k19 => k_is)
    (case a20 => k_is)
    (case l20 => k_is)
    (case c20 => k_is)
    (case k20 => k_is)
    (case a21 => k_is)
    (case l21 => k_is)
    (case c21 => k_is)
    (case k21 => k_is)
    (case a22 => k_is)
    (case l22 => k_is)
    (case c22 => k_is)
    (case k22 => k_is)
    (case a23 => k_is)
    (case l23 => k_is)
    (case c23 => k_is)
    (case k23 => k_is)
    (case a24 => k_is)
    (case l24 => k_is)
    (case c24 => k_is)
    (case k24 => k_is)
    (case a25 => k_is)
    (case l25 => k_is)
    (case c25 => k_is)
    (case k25 => k_is)
    (case z_isinstance => k_is)
    (case z_int => k_is)
    (case z_bool => k_is)
    (case z_all => k_is)
    (case z_list => k_is)
    (case z_len => k_is)
    (case z_zip => k_is)
    (case z_range => k_is)
    (case z_tuple => k_is)
    (case z_str => k_is)
    (case z_min => k_is)
    (case g_MOST_VALUES => k_is)
    (case g_MOST_FIELDS => k_is)
    (case g_SMALL => k_is)
    (case e_InvalidSizes => k_is)
    (case x_InvalidSizes => k_exc)
    (case ke_InvalidSizes => k_is)
    (case b_InvalidSizes => k_is)
    (case t_InvalidSizes => k_is)
    (case e_NotSmall => k_is)
    (case x_NotSmall => k_exc)
    (case ke_NotSmall => k_is)
    (case b_NotSmall => k_is)
    (case t_NotSmall => k_is)
    (case e_InvalidConditions => k_is)
    (case x_InvalidConditions => k_exc)
    (case ke_InvalidConditions => k_is)
    (case b_InvalidConditions => k_is)
    (case t_InvalidConditions => k_is)
    (case xcn => k_is)
    (case xct => k_is)
    (case xg_NotSmall => k_is)
    (case xk_NotSmall => k_is)
    (case xd_NotSmall => k_is)
    (case xa_NotSmall => k_is)
    (case xm_NotSmall => k_is)
    (case xn1_NotSmall => k_is)
    (case xn2_NotSmall => k_is)
    (case xn3_NotSmall => k_is)
    (case xn4_NotSmall => k_is)
    (case xn5_NotSmall => k_is)
    (case xn6_NotSmall => k_is)
    (case xn7_NotSmall => k_is)
    (case sb_InvalidConditions_InvalidSizes => k_is)
    (case sb_NotSmall_InvalidSizes => k_is)
    (case sb_NotSmall_InvalidConditions => k_is)
