import PyProof.Rows.All
import Wide.All
import OpenK.AllK
import Wide.FinOn
import HandS.ForMost
import HandS.More
import KE.SortData
import HandS.TupAny
import HandS.TupLe
import HandS.Deep
import HandS.IsInst
import HandS.Zip
import HandS.TupMul
import PyProof.ReprRoads
import HandS.Small
import HandS.TupSets
import HandS.Style
import HandS.Rev
import HandS.WideBits
import PySem.Challenge.RW_anymarks_k01_where_sayings_hold
set_option Elab.async false
set_option linter.all false
set_option maxRecDepth 100000
set_option maxHeartbeats 8000000
/-! Ev0: data without addresses (Dt), owned objects (Ob), how values stand for them, the steps of a heap. -/
namespace AM
open PySem PySem.Spec PyProof.Rows L2

/-- plain data: what never changes -/
abbrev Dt := PyData
/-- what a slot may hold: plain data, or a list, a dict of its own -/
inductive Ob where
  | d (x : Dt) | lst (xs : List Ob) | dct (ks : List Key) (xs : List Ob)
instance : Inhabited Dt := ⟨.none⟩
instance : Inhabited Ob := ⟨.d .none⟩

mutual
/-- the value v stands for the data; T: what is never written any more -/
def Rp (K : PySem.W.Frag) (T : Hp) : Dt → V → Prop
  | .none, v => v = .non
  | .bool b, v => v = .bl b
  | .int i, v => v = .int i
  | .str x, v => v = .str x
  | .tuple ds, v => ∃ a vs, v = .ref a ∧ SqT K T a vs ∧ Rps K T ds vs
  | .list ds, v => ∃ a vs, v = .ref a ∧ SqL K T a vs ∧ Rps K T ds vs
  | .dict _, _ => False
def Rps (K : PySem.W.Frag) (T : Hp) : List Dt → List V → Prop
  | [], vs => vs = []
  | d :: ds, vs => ∃ v r, vs = v :: r ∧ Rp K T d v ∧ Rps K T ds r
end
mutual
/-- the value v stands for the object; f: the addresses it owns -/
def RO (K : PySem.W.Frag) (T H : Hp) : Ob → V → List Addr → Prop
  | .d x, v, f => f = [] ∧ Rp K T x v
  | .lst xs, v, f => ∃ a vs g, v = .ref a ∧ f = a :: g ∧ H a = some (.lst vs) ∧ ROs K T H xs vs g
  | .dct ks xs, v, f => ∃ a vs g, v = .ref a ∧ f = a :: g ∧ ks.length = vs.length ∧ ks.Nodup ∧ H a = some (.dK (ks.zip vs)) ∧ ROs K T H xs vs g
def ROs (K : PySem.W.Frag) (T H : Hp) : List Ob → List V → List Addr → Prop
  | [], vs, f => vs = [] ∧ f = []
  | x :: xs, vs, f => ∃ v r g h, vs = v :: r ∧ f = g ++ h ∧ RO K T H x v g ∧ ROs K T H xs r h
end

theorem same_T {K : PySem.W.Frag} {T T' : Hp} {a : Addr} {xs : List V} (e : Same T T') (h : SqT K T a xs) : SqT K T' a xs := by
  rcases h with (h | ⟨o, h⟩) | h
  · exact .inl (.inl (e _ _ h))
  · exact .inl (.inr ⟨o, e _ _ h⟩)
  · exact .inr h

mutual
theorem Rp.mono {K : PySem.W.Frag} {T T' : Hp} (e : Same T T') : ∀ {d : Dt} {v : V}, Rp K T d v → Rp K T' d v
  | .none, _, h => h
  | .bool _, _, h => h
  | .int _, _, h => h
  | .str _, _, h => h
  | .dict _, _, h => h
  | .tuple ds, _, ⟨a, vs, e1, e2, e3⟩ => ⟨a, vs, e1, same_T e e2, Rps.mono e e3⟩
  | .list ds, _, ⟨a, vs, e1, e2, e3⟩ => ⟨a, vs, e1, e.seq e2, Rps.mono e e3⟩
theorem Rps.mono {K : PySem.W.Frag} {T T' : Hp} (e : Same T T') : ∀ {ds : List Dt} {vs : List V}, Rps K T ds vs → Rps K T' ds vs
  | [], _, h => h
  | d :: ds, _, ⟨v, r, e1, e2, e3⟩ => ⟨v, r, e1, Rp.mono e e2, Rps.mono e e3⟩
end
theorem Rps.len {K : PySem.W.Frag} {T : Hp} : ∀ {ds : List Dt} {vs : List V}, Rps K T ds vs → vs.length = ds.length
  | [], _, h => by rw [show _ = [] from h]; rfl
  | d :: ds, _, ⟨v, r, e1, _, e3⟩ => by rw [e1, List.length_cons, List.length_cons, Rps.len e3]
theorem Rps.get {K : PySem.W.Frag} {T : Hp} : ∀ {ds : List Dt} {vs : List V} {i : Nat} {d : Dt}, Rps K T ds vs → ds[i]? = some d → ∃ v, vs[i]? = some v ∧ Rp K T d v
  | [], _, _, _, _, e => by simp at e
  | d :: ds, _, 0, _, ⟨v, r, e1, e2, _⟩, e => by
    obtain rfl : d = _ := by simpa using e
    exact ⟨v, by rw [e1]; rfl, e2⟩
  | d :: ds, _, i + 1, _, ⟨v, r, e1, _, e3⟩, e => by
    obtain ⟨w, h1, h2⟩ := Rps.get (i := i) e3 (by simpa using e)
    exact ⟨w, by rw [e1]; simpa using h1, h2⟩
theorem Rps.app {K : PySem.W.Frag} {T : Hp} : ∀ {ds : List Dt} {vs : List V} {es : List Dt} {us : List V}, Rps K T ds vs → Rps K T es us → Rps K T (ds ++ es) (vs ++ us)
  | [], _, _, _, h, g => by rw [show _ = [] from h]; exact g
  | d :: ds, _, _, _, ⟨v, r, e1, e2, e3⟩, g => by rw [e1]; exact ⟨v, r ++ _, rfl, e2, Rps.app e3 g⟩
theorem Rps.one {K : PySem.W.Frag} {T : Hp} {d : Dt} {v : V} (h : Rp K T d v) : Rps K T [d] [v] := ⟨v, [], rfl, h, rfl⟩

mutual
theorem RO.mono {K : PySem.W.Frag} {T T' H H' : Hp} (e : Same T T') : ∀ {o : Ob} {v : V} {f : List Addr}, RO K T H o v f → (∀ a ∈ f, ∀ u, H a = some u → H' a = some u) → RO K T' H' o v f
  | .d x, _, _, ⟨e1, e2⟩, _ => ⟨e1, Rp.mono e e2⟩
  | .lst xs, _, _, ⟨a, vs, g, e1, e2, e3, e4⟩, k => ⟨a, vs, g, e1, e2, k a (by rw [e2]; exact List.mem_cons_self) _ e3, ROs.mono e e4 fun b hb => k b (by rw [e2]; exact List.mem_cons_of_mem _ hb)⟩
  | .dct ks xs, _, _, ⟨a, vs, g, e1, e2, e0, en, e3, e4⟩, k => ⟨a, vs, g, e1, e2, e0, en, k a (by rw [e2]; exact List.mem_cons_self) _ e3, ROs.mono e e4 fun b hb => k b (by rw [e2]; exact List.mem_cons_of_mem _ hb)⟩
theorem ROs.mono {K : PySem.W.Frag} {T T' H H' : Hp} (e : Same T T') : ∀ {os : List Ob} {vs : List V} {f : List Addr}, ROs K T H os vs f → (∀ a ∈ f, ∀ u, H a = some u → H' a = some u) → ROs K T' H' os vs f
  | [], _, _, h, _ => h
  | x :: xs, _, _, ⟨v, r, g, h, e1, e2, e3, e4⟩, k => ⟨v, r, g, h, e1, e2, RO.mono e e3 fun b hb => k b (by rw [e2]; exact List.mem_append_left _ hb), ROs.mono e e4 fun b hb => k b (by rw [e2]; exact List.mem_append_right _ hb)⟩
end
mutual
theorem RO.there {K : PySem.W.Frag} {T H : Hp} : ∀ {o : Ob} {v : V} {f : List Addr}, RO K T H o v f → ∀ a ∈ f, ∃ u, H a = some u ∧ ((∃ xs, u = .lst xs) ∨ ∃ kvs, u = .dK kvs)
  | .d x, _, _, ⟨e1, e2⟩, a, ha => by rw [e1] at ha; cases ha
  | .lst xs, _, _, ⟨b, vs, g, e1, e2, e3, e4⟩, a, ha => by
    rw [e2] at ha
    rcases List.mem_cons.mp ha with e | ha
    · rw [e]; exact ⟨_, e3, .inl ⟨_, rfl⟩⟩
    · exact ROs.there e4 a ha
  | .dct ks xs, _, _, ⟨b, vs, g, e1, e2, e0, en, e3, e4⟩, a, ha => by
    rw [e2] at ha
    rcases List.mem_cons.mp ha with e | ha
    · rw [e]; exact ⟨_, e3, .inr ⟨_, rfl⟩⟩
    · exact ROs.there e4 a ha
theorem ROs.there {K : PySem.W.Frag} {T H : Hp} : ∀ {os : List Ob} {vs : List V} {f : List Addr}, ROs K T H os vs f → ∀ a ∈ f, ∃ u, H a = some u ∧ ((∃ xs, u = .lst xs) ∨ ∃ kvs, u = .dK kvs)
  | [], _, _, ⟨_, e⟩, a, ha => by rw [e] at ha; cases ha
  | x :: xs, _, _, ⟨v, r, g, h, e1, e2, e3, e4⟩, a, ha => by
    rw [e2] at ha
    rcases List.mem_append.mp ha with ha | ha
    · exact RO.there e3 a ha
    · exact ROs.there e4 a ha
end
theorem ROs.len {K : PySem.W.Frag} {T H : Hp} : ∀ {os : List Ob} {vs : List V} {f : List Addr}, ROs K T H os vs f → vs.length = os.length
  | [], _, _, ⟨h, _⟩ => by rw [h]; rfl
  | d :: ds, _, _, ⟨v, r, _, _, e1, _, _, e3⟩ => by rw [e1, List.length_cons, List.length_cons, ROs.len e3]
theorem ROs.app {K : PySem.W.Frag} {T H : Hp} : ∀ {os ps : List Ob} {vs us : List V} {f g : List Addr}, ROs K T H os vs f → ROs K T H ps us g → ROs K T H (os ++ ps) (vs ++ us) (f ++ g)
  | [], _, _, _, _, _, ⟨h1, h2⟩, h => by rw [h1, h2]; exact h
  | x :: xs, _, _, _, _, _, ⟨v, r, g, h, e1, e2, e3, e4⟩, k => by rw [e1, e2]; exact ⟨v, _, g, _, rfl, List.append_assoc _ _ _, e3, ROs.app e4 k⟩
theorem ROs.one {K : PySem.W.Frag} {T H : Hp} {o : Ob} {v : V} {f : List Addr} (h : RO K T H o v f) : ROs K T H [o] [v] f := ⟨v, [], f, [], rfl, (List.append_nil _).symm, h, rfl, rfl⟩
/-- plain items -/
theorem ROs.plain {K : PySem.W.Frag} {T H : Hp} : ∀ {ds : List Dt} {vs : List V}, Rps K T ds vs → ROs K T H (ds.map Ob.d) vs []
  | [], _, h => ⟨h, rfl⟩
  | d :: ds, _, ⟨v, r, e1, e2, e3⟩ => ⟨v, r, [], [], e1, rfl, ⟨rfl, e2⟩, ROs.plain e3⟩
theorem ROs.of_plain {K : PySem.W.Frag} {T H : Hp} : ∀ {ds : List Dt} {vs : List V} {f : List Addr}, ROs K T H (ds.map Ob.d) vs f → f = [] ∧ Rps K T ds vs
  | [], _, _, ⟨h1, h2⟩ => ⟨h2, h1⟩
  | d :: ds, _, _, ⟨v, r, g, h, e1, e2, ⟨e3, e4⟩, e5⟩ => by
    obtain ⟨q1, q2⟩ := ROs.of_plain e5
    exact ⟨by rw [e2, e3, q1]; rfl, v, r, e1, e4, q2⟩

mutual
theorem Rp.dp {K : PySem.W.Frag} {T H : Hp} (e : Same T H) : ∀ {d : Dt} {v : V}, Rp K T d v → Dp K H v d
  | .none, _, h => by rw [show _ = V.non from h]; exact .non
  | .bool _, _, h => by rw [show _ = V.bl _ from h]; exact .bl _
  | .int _, _, h => by rw [show _ = V.int _ from h]; exact .int _
  | .str _, _, h => by rw [show _ = V.str _ from h]; exact .str _
  | .dict _, _, h => h.elim
  | .tuple ds, _, ⟨a, vs, e1, e2, e3⟩ => by rw [e1]; exact .tup (same_T e e2) (Rps.dp e e3)
  | .list ds, _, ⟨a, vs, e1, e2, e3⟩ => by rw [e1]; exact .lst (e.seq e2) (Rps.dp e e3)
theorem Rps.dp {K : PySem.W.Frag} {T H : Hp} (e : Same T H) : ∀ {ds : List Dt} {vs : List V}, Rps K T ds vs → DpAll K H vs ds
  | [], _, h => by rw [show _ = [] from h]; exact .nil
  | d :: ds, _, ⟨v, r, e1, e2, e3⟩ => by rw [e1]; exact .cons (Rp.dp e e2) (Rps.dp e e3)
end

/-! ### freezing: from now on never written -/
mutual
def frz : Ob → Option Dt
  | .d x => some x
  | .lst xs => (frzs xs).map PyData.list
  | .dct _ _ => none
def frzs : List Ob → Option (List Dt)
  | [] => some []
  | x :: xs => match frz x, frzs xs with
    | some d, some ds => some (d :: ds)
    | _, _ => none
end
theorem frzs_plain : ∀ ds : List Dt, frzs (ds.map Ob.d) = some ds
  | [] => rfl
  | d :: ds => by
    show (match frz (.d d), frzs (ds.map Ob.d) with | some d, some ds => some (d :: ds) | _, _ => none) = _
    rw [frzs_plain ds]
    rfl
/-- T, and the objects of H at f -/
def ovr (T H : Hp) (f : List Addr) : Hp := fun a => if a ∈ f then H a else T a
theorem ovr_in {T H : Hp} {f : List Addr} {a : Addr} (h : a ∈ f) : ovr T H f a = H a := if_pos h
theorem ovr_out {T H : Hp} {f : List Addr} {a : Addr} (h : a ∉ f) : ovr T H f a = T a := if_neg h
mutual
theorem RO.frz {K : PySem.W.Frag} {T H T' : Hp} (e : Same T T') : ∀ {o : Ob} {v : V} {f : List Addr} {d : Dt}, RO K T H o v f → AM.frz o = some d → (∀ a ∈ f, ∀ u, H a = some u → T' a = some u) → Rp K T' d v
  | .d x, _, _, _, ⟨_, e2⟩, h, _ => by
    cases h
    exact Rp.mono e e2
  | .lst xs, _, _, d, ⟨a, vs, g, e1, e2, e3, e4⟩, h, k => by
    have h : (frzs xs).map PyData.list = some d := h
    obtain ⟨ds, h1, rfl⟩ := Option.map_eq_some_iff.mp h
    exact ⟨a, vs, e1, SqL.of (k a (by rw [e2]; exact List.mem_cons_self) _ e3), ROs.frz e e4 h1 fun b hb => k b (by rw [e2]; exact List.mem_cons_of_mem _ hb)⟩
  | .dct _ _, _, _, _, _, h, _ => by cases h
theorem ROs.frz {K : PySem.W.Frag} {T H T' : Hp} (e : Same T T') : ∀ {os : List Ob} {vs : List V} {f : List Addr} {ds : List Dt}, ROs K T H os vs f → frzs os = some ds → (∀ a ∈ f, ∀ u, H a = some u → T' a = some u) → Rps K T' ds vs
  | [], _, _, _, ⟨h1, _⟩, h, _ => by
    cases h
    exact h1
  | x :: xs, _, _, ds, ⟨v, r, g, h, e1, e2, e3, e4⟩, q, k => by
    have q : (match AM.frz x, frzs xs with | some d, some ds => some (d :: ds) | _, _ => none) = some ds := q
    cases h1 : AM.frz x with
    | none => rw [h1] at q; cases q
    | some d =>
      cases h2 : frzs xs with
      | none => rw [h1, h2] at q; cases q
      | some ds' =>
        rw [h1, h2] at q
        cases q
        exact ⟨v, r, e1, RO.frz e e3 h1 fun b hb => k b (by rw [e2]; exact List.mem_append_left _ hb), ROs.frz e e4 h2 fun b hb => k b (by rw [e2]; exact List.mem_append_right _ hb)⟩
end

/-! ### steps of the heap -/
abbrev Own := Addr → Prop
/-- from (T, H), owning P, to (T', H'), owning P' -/
structure Stp (T H : Hp) (P : Own) (T' H' : Hp) (P' : Own) : Prop where
  same : Same T T'
  frame : ∀ a o, H a = some o → ¬ P a → H' a = some o
  fresh : ∀ a, P' a → P a ∨ H a = none
  tnew : ∀ a, T' a ≠ none → T a ≠ none ∨ P a ∨ H a = none
theorem Stp.refl {T H : Hp} {P : Own} : Stp T H P T H P := ⟨Same.refl T, fun _ _ e _ => e, fun _ h => .inl h, fun _ h => .inl h⟩
theorem Stp.back {T H T' H' : Hp} {P P' : Own} (s : Stp T H P T' H' P') {a : Addr} (h : H' a = none) : H a = none ∨ P a := by
  cases q : H a with
  | none => exact .inl rfl
  | some o =>
    by_cases hp : P a
    · exact .inr hp
    · rw [s.frame a o q hp] at h
      cases h
theorem Stp.trans {T H T1 H1 T2 H2 : Hp} {P P1 R R2 : Own} (s : Stp T H P T1 H1 P1) (t : Stp T1 H1 R T2 H2 R2) (hR : ∀ a, R a → P1 a) : Stp T H P T2 H2 (fun a => R2 a ∨ P1 a) := by
  refine ⟨s.same.trans t.same, fun a o e hp => t.frame a o (s.frame a o e hp) fun hr => ?_, fun a h => ?_, fun a h => ?_⟩
  · rcases s.fresh a (hR a hr) with h | h
    · exact hp h
    · rw [h] at e; cases e
  · rcases h with h | h
    · rcases t.fresh a h with h | h
      · exact s.fresh a (hR a h)
      · exact (s.back h).symm
    · exact s.fresh a h
  · rcases t.tnew a h with h | h | h
    · exact s.tnew a h
    · exact .inr (s.fresh a (hR a h))
    · exact .inr (s.back h).symm
theorem Stp.weak {T H T' H' : Hp} {P P' R R' : Own} (s : Stp T H P T' H' P') (h : ∀ a, P a → R a) (h' : ∀ a, R' a → P' a) : Stp T H R T' H' R' :=
  ⟨s.same, fun a o e n => s.frame a o e fun q => n (h a q), fun a q => (s.fresh a (h' a q)).imp (h a) id, fun a q => (s.tnew a q).imp id fun z => z.imp (h a) id⟩
theorem Stp.post {T H T' H' : Hp} {P P' R' : Own} (s : Stp T H P T' H' P') (h' : ∀ a, R' a → P' a) : Stp T H P T' H' R' := s.weak (fun _ h => h) h'

/-! ### a def's state -/
abbrev Env := List (Option Ob)
abbrev Foot := Nat → List Addr
def InF (F : Foot) : Own := fun a => ∃ i, a ∈ F i
/-- slots by their objects; pn: slots that stay as they are (parameters that the caller goes on with) -/
structure Good (K : PySem.W.Frag) (pn : List (Nat × V)) (T H : Hp) (σ : L2.St) (ρ : AM.Env) (F : Foot) : Prop where
  len : ρ.length = σ.length
  slot : ∀ i o, ρ[i]? = some (some o) → ∃ v, σ[i]? = some (some v) ∧ RO K T H o v (F i)
  none_ : ∀ i, (∀ o, ρ[i]? ≠ some (some o)) → F i = []
  nd : ∀ i, (F i).Nodup
  apart : ∀ i j a, a ∈ F i → a ∈ F j → i = j
  tn : ∀ a, InF F a → T a = none
  same : Same T H
  pins : ∀ p ∈ pn, σ[p.1]? = some (some p.2)
/-- an object at hand, apart from the slots -/
structure Tmp (K : PySem.W.Frag) (T H : Hp) (F : Foot) (o : Ob) (v : V) (f : List Addr) : Prop where
  ro : RO K T H o v f
  nd : f.Nodup
  tn : ∀ a ∈ f, T a = none
  off : ∀ a ∈ f, ¬ InF F a
theorem Tmp.plain {K : PySem.W.Frag} {T H : Hp} {F : Foot} {d : Dt} {v : V} (h : Rp K T d v) : Tmp K T H F (.d d) v [] := ⟨⟨rfl, h⟩, .nil, fun _ h => (by cases h), fun _ h => (by cases h)⟩
/-- an object at hand stays while others work -/
theorem Tmp.stay {K : PySem.W.Frag} {T H T' H' : Hp} {F F' : Foot} {o : Ob} {v : V} {f : List Addr} {P' : Own} (t : Tmp K T H F o v f) (s : Stp T H (InF F) T' H' P') (h : ∀ a, InF F' a → P' a) : Tmp K T' H' F' o v f := by
  refine ⟨RO.mono s.same t.ro fun a ha u e => s.frame a u e (t.off a ha), t.nd, fun a ha => ?_, fun a ha hn => ?_⟩
  · cases q : T' a with
    | none => rfl
    | some u =>
      rcases s.tnew a (by rw [q]; simp) with z | z | z
      · exact absurd (t.tn a ha) z
      · exact absurd z (t.off a ha)
      · obtain ⟨w, e, _⟩ := RO.there t.ro a ha
        rw [e] at z; cases z
  · rcases s.fresh a (h a hn) with z | z
    · exact t.off a ha z
    · obtain ⟨w, e, _⟩ := RO.there t.ro a ha
      rw [e] at z; cases z
theorem Rp.up {K : PySem.W.Frag} {T H T' H' : Hp} {P P' : Own} {d : Dt} {v : V} (t : Rp K T d v) (s : Stp T H P T' H' P') : Rp K T' d v := Rp.mono s.same t
end AM
/-! Ev1: a small language of terms for the bodies of defs, and what its terms come to, over plain data. -/
namespace AM
open PySem PySem.Spec PyProof.Rows L2

/-- an answer, an error of the package, or nothing that is promised -/
inductive Res (α : Type) where
  | ok (a : α) | exc (c : Nat) (ds : List Dt) | bad
def Res.bind {α β : Type} : Res α → (α → Res β) → Res β
  | .ok a, k => k a
  | .exc c ds, _ => .exc c ds
  | .bad, _ => .bad
def Res.nox {α : Type} : Res α → Res α
  | .exc _ _ => .bad
  | r => r
def Res.of {α : Type} : Option α → Res α
  | some a => .ok a
  | none => .bad

inductive Bop where
  | add | sub | mul | fdiv | mod | pow | shl | shr | band | bor | bxor
inductive Cop where
  | eq | ne | lt | le | gt | ge | isN | notN | inn | nin
inductive Ty where
  | int | bool | tuple | str
inductive Bi where
  | len | tuple | list | listRng | sorted | sset | repr | int | sum | max | min
/-! targets -/
mutual
inductive Tg where
  | name (i : Nat) | tup (ts : Tgs)
inductive Tgs where
  | nil | cons (t : Tg) (ts : Tgs)
end
mutual
inductive Ex where
  | var (i : Nat) | cst (d : Dt)
  | tup (es : Exs) | lst (es : Exs) | dct (ks : List Key) (es : Exs)
  | bin (op : Bop) (a b : Ex) | rep (a b : Ex) | catp (i : Nat) (b : Ex) | neg (a : Ex) | not (a : Ex)
  | cmp (op : Cop) (a b : Ex) | cmp2 (p q : Cop) (a b c : Ex)
  | and (a b : Ex) | or (a b : Ex) | ife (c a b : Ex)
  | call (f : Nat) (es : Exs) | io (i : Nat)
  | bi (b : Bi) (a : Ex) | lenp (i : Nat) | isi (t : Ty) (a : Ex)
  | item (i : Nat) (e : Ex) | item2 (i : Nat) (e1 e2 : Ex) | sub (a e : Ex) | slc (a : Ex) (lo hi : Oe)
  | comp (own : List Nat) (tg : Tg) (it : It) (cs : Exs) (e : Ex)
  | pop (i : Nat) | tab (kvs : List (Str × Dt)) (e : Ex) | idx (a e : Ex) | mx (big : Bool) (a b : Ex)
inductive Exs where
  | nil | cons (e : Ex) (es : Exs)
inductive Oe where
  | none | some (e : Ex)
inductive It where
  | seq (e : Ex) | rng (a : Ex) | rng2 (a b : Ex) | zip (a b : Ex) | enum (a : Ex) | rev (a : Ex)
end
mutual
inductive Sm where
  | asg (i : Nat) (e : Ex) | asgT (ts : Tgs) (e : Ex) | par (is : List Nat) (es : Exs)
  | aug (i : Nat) (op : Bop) (e : Ex) | setI (i : Nat) (e1 e2 : Ex) | set2 (i : Nat) (e0 e1 e2 : Ex)
  | augI (i : Nat) (e1 : Ex) (op : Bop) (e2 : Ex) | aug2 (i : Nat) (e0 e1 : Ex) (op : Bop) (e2 : Ex)
  | app (i : Nat) (e : Ex) | ext (i : Nat) (e : Ex) | expr (e : Ex) | ret (e : Ex)
  | ife (c : Ex) (a b : Sms) | for_ (tg : Tg) (it : It) (b : Sms) | while_ (c : Ex) (b : Sms)
  | brk | cont | pass | raise (c : Nat) (es : Exs) | setRet (i : Nat) (e a : Ex)
inductive Sms where
  | nil | cons (s : Sm) (r : Sms)
end

/-! ### operators on plain data -/
def pInts : List Dt → Option (List Int)
  | [] => some []
  | .int i :: r => (pInts r).map (i :: ·)
  | _ :: _ => none
/-- a list of one's own, of plain items -/
def Ob.ls (ds : List Dt) : Ob := .lst (ds.map Ob.d)
def binD : Bop → Dt → Dt → Option Ob
  | .add, .int i, .int j => some (.d (.int (i + j)))
  | .sub, .int i, .int j => some (.d (.int (i - j)))
  | .mul, .int i, .int j => if (-(2 ^ 64) < i ∧ i < 2 ^ 64) ∨ (-(2 ^ 64) < j ∧ j < 2 ^ 64) then some (.d (.int (i * j))) else none
  | .fdiv, .int i, .int j => if j ≠ 0 ∧ j.natAbs < 1073741824 then some (.d (.int (i.fdiv j))) else none
  | .mod, .int i, .int j => if j ≠ 0 then some (.d (.int (i.fmod j))) else none
  | .pow, .int i, .int j => if 0 ≤ j ∧ j ≤ 1000000 ∧ i.natAbs < 2 ^ 64 then some (.d (.int (i ^ j.toNat))) else none
  | .shl, .int i, .int j => if 0 ≤ j ∧ j ≤ 1000000 ∧ i.natAbs < 2 ^ 64 then some (.d (.int (i * 2 ^ j.toNat))) else none
  | .shr, .int i, .int j => if 0 ≤ j then some (.d (.int (i / 2 ^ j.toNat))) else none
  | .band, .int i, .int j => some (.d (.int (Builtin.bitAnd i j)))
  | .bor, .int i, .int j => some (.d (.int (Builtin.bitOr i j)))
  | .bxor, .int i, .int j => some (.d (.int (Builtin.bitXor i j)))
  | .add, .tuple xs, .tuple ys => if xs.length + ys.length ≤ sizeLine then some (.d (.tuple (xs ++ ys))) else none
  | .add, .list xs, .list ys => if xs.length + ys.length ≤ sizeLine then some (Ob.ls (xs ++ ys)) else none
  | .mul, .tuple xs, .int k => if 1 ≤ xs.length ∧ xs.length ≤ 1000 ∧ 2 ≤ k ∧ k ≤ 1000 then some (.d (.tuple (List.replicate k.toNat xs).flatten)) else none
  | _, _, _ => none
/-- two things, ordered -/
inductive Rel where
  | lt | le | gt | ge
def relI : Rel → Int → Int → Bool
  | .lt, i, j => decide (i < j)
  | .le, i, j => decide (i ≤ j)
  | .gt, i, j => decide (j < i)
  | .ge, i, j => decide (j ≤ i)
def relN (r : Rel) (n m : Nat) : Bool := relI r n m
mutual
def relD (r : Rel) : Dt → Dt → Option Bool
  | .int i, .int j => some (relI r i j)
  | .tuple xs, .tuple ys => relDs r xs ys
  | _, _ => none
def relDs (r : Rel) : List Dt → List Dt → Option Bool
  | [], ys => some (relN r 0 ys.length)
  | x :: xs, [] => some (relN r (xs.length + 1) 0)
  | x :: xs, y :: ys => match relDs r xs ys with
    | some t => if PyData.eqv x y = true then some t else relD r x y
    | none => none
end
def relQ (r : Rel) (x y : Dt) : Option Bool := if SeqAt.shaped x = true ∧ SeqAt.shaped y = true then relD r x y else none
def eqS (x y : Dt) : Option Bool := if SeqAt.shaped x = true ∧ SeqAt.shaped y = true then some (PyData.eqv x y) else none
def eqD : Dt → Dt → Option Bool
  | .str a, .str b => some (a == b)
  | x, y => eqS x y
def inD (x : Dt) (ys : List Dt) : Option Bool := if SeqAt.shaped x = true ∧ SeqAt.shaped (.list ys) = true then some (ys.any fun y => PyData.eqv y x) else none
def isNo : Dt → Bool
  | .none => true
  | _ => false
def cmpD : Cop → Dt → Dt → Option Bool
  | .eq, x, y => eqD x y
  | .ne, x, y => (eqD x y).map not
  | .lt, x, y => relQ .lt x y
  | .le, x, y => relQ .le x y
  | .gt, x, y => relQ .gt x y
  | .ge, x, y => relQ .ge x y
  | .isN, x, .none => some (isNo x)
  | .notN, x, .none => some (!isNo x)
  | .inn, x, .tuple ys => inD x ys
  | .inn, x, .list ys => inD x ys
  | .nin, x, .tuple ys => (inD x ys).map not
  | .nin, x, .list ys => (inD x ys).map not
  | _, _, _ => none
def isiD : Ty → Dt → Bool
  | .int, .int _ => true
  | .int, .bool _ => true
  | .bool, .bool _ => true
  | .tuple, .tuple _ => true
  | .str, .str _ => true
  | _, _ => false
def lenD : Dt → Option Nat
  | .tuple xs => some xs.length
  | .list xs => some xs.length
  | _ => none
def subD : Dt → Dt → Option Dt
  | .tuple xs, .int i => atI xs i
  | .list xs, .int i => atI xs i
  | _, _ => none
/-- what is sorted: ints, or tuples of ints -/
def isI : Dt → Bool
  | .int _ => true
  | _ => false
def tupI : Dt → Bool
  | .tuple (x :: r) => (x :: r).all isI
  | _ => false
def sortable (xs : List Dt) : Bool := xs.all isI || xs.all tupI
def sortD (xs : List Dt) : Option (List Dt) := if sortable xs = true then some (xs.mergeSort (PySem.W.dataLe false id)) else none
/-- the members of a set, each once -/
def dedD : List Dt → List Dt
  | [] => []
  | x :: r => if (dedD r).any (fun y => PyData.eqv y x) = true then dedD r else x :: dedD r
def setD (xs : List Dt) : Option (List Dt) := if (xs.all isI = true ∧ xs.length ≤ 1000) ∨ (xs.all tupI = true ∧ xs.length ≤ 76) then some (dedD xs) else none
def rngD (lo : Int) (n : Nat) : List Dt := (List.range n).map fun (i : Nat) => PyData.int (lo + (i : Int))
def shw (d : Dt) : Option Str := if d.shown.length ≤ sizeLine ∧ d.showable = true ∧ d.depth ≤ 64 ∧ d.hasDict = false then some d.shown else none
def maxI : List Int → Option Int
  | [] => none
  | n :: r => some (r.foldl max n)
def minI : List Int → Option Int
  | [] => none
  | n :: r => some (r.foldl min n)
def biD : Bi → Dt → Option Ob
  | .sum, .list xs => (pInts xs).map fun ns => .d (.int ns.sum)
  | .max, .list xs => ((pInts xs).bind maxI).map fun n => .d (.int n)
  | .min, .list xs => ((pInts xs).bind minI).map fun n => .d (.int n)
  | .len, x => (lenD x).map fun n => .d (.int n)
  | .tuple, .list xs => some (.d (.tuple xs))
  | .tuple, .tuple xs => some (.d (.tuple xs))
  | .list, .list xs => some (Ob.ls xs)
  | .list, .tuple xs => some (Ob.ls xs)
  | .sorted, .list xs => (sortD xs).map Ob.ls
  | .sset, .list xs => ((setD xs).bind sortD).map Ob.ls
  | .sset, .tuple xs => ((setD xs).bind sortD).map Ob.ls
  | .repr, .tuple xs => (shw (.tuple xs)).map fun t => .d (.str t)
  | .repr, .list xs => (shw (.list xs)).map fun t => .d (.str t)
  | .int, .int i => some (.d (.int i))
  | _, _ => none
def cutD (xs : List Dt) (lo hi : Option Int) : List Dt := (xs.drop (HT.sIx xs.length 0 lo)).take (HT.sIx xs.length xs.length hi - HT.sIx xs.length 0 lo)
def slcD (x : Dt) (lo hi : Option Int) : Option Ob := match x with
  | .tuple xs => some (.d (.tuple (cutD xs lo hi)))
  | .list xs => some (Ob.ls (cutD xs lo hi))
  | _ => none

/-! ### slots -/
def get (ρ : Env) (i : Nat) : Option Ob := match ρ[i]? with
  | some (some o) => some o
  | _ => none
def st (pn : List Nat) (i : Nat) (o : Ob) (ρ : Env) : Option Env := if pn.contains i = true then none else if i < ρ.length then some (ρ.set i (some o)) else none
/-- a slot's content as plain data from now on -/
def use (ρ : Env) (i : Nat) : Option (Dt × Env) := match get ρ i with
  | some (.d x) => some (x, ρ)
  | some o => (frz o).map fun x => (x, ρ.set i (some (.d x)))
  | none => none
def plains : List Ob → Option (List Dt)
  | [] => some []
  | .d x :: r => (plains r).map (x :: ·)
  | _ :: _ => none
def peek (ρ : Env) (i : Nat) : Option Dt := match get ρ i with
  | some (.d x) => some x
  | some (.lst os) => (plains os).map PyData.list
  | _ => none
mutual
def bindT (pn : List Nat) : Tg → Dt → Env → Option Env
  | .name i, d, ρ => st pn i (.d d) ρ
  | .tup ts, .tuple ds, ρ => bindTs pn ts ds ρ
  | .tup _, _, _ => none
def bindTs (pn : List Nat) : Tgs → List Dt → Env → Option Env
  | .nil, [], ρ => some ρ
  | .cons t ts, d :: ds, ρ => (bindT pn t d ρ).bind (bindTs pn ts ds)
  | _, _, _ => none
end
mutual
def tgIn (own : List Nat) : Tg → Bool
  | .name i => own.contains i
  | .tup ts => tgsIn own ts
def tgsIn (own : List Nat) : Tgs → Bool
  | .nil => true
  | .cons t ts => tgIn own t && tgsIn own ts
end
def wipeE (own : List Nat) (ρ : Env) : Env := match own with
  | [] => ρ
  | i :: r => (wipeE r ρ).set i none
def backE (own : List Nat) (ρ0 ρ : Env) : Env := match own with
  | [] => ρ
  | i :: r => (backE r ρ0 ρ).set i ((ρ0[i]?).getD none)
/-- slots that a block may have for its own -/
def ownOk (pn own : List Nat) (ρ : Env) : Bool := own.all fun i => !pn.contains i && match ρ[i]? with
  | some none => true
  | some (some (.d _)) => true
  | _ => false
inductive Arg where
  | val (d : Dt) | io (i : Nat)
def fill (ρ : Env) : List Arg → Option (List Ob)
  | [] => some []
  | .val d :: r => (fill ρ r).map (.d d :: ·)
  | .io i :: r => match get ρ i, fill ρ r with
    | some o, some os => some (o :: os)
    | _, _ => none
def ioOf : List Arg → List Nat
  | [] => []
  | .val _ :: r => ioOf r
  | .io i :: r => i :: ioOf r
def putBack (l : List (Nat × Ob)) : Nat → List Arg → Env → Option Env
  | _, [], ρ => some ρ
  | p, .val _ :: r, ρ => putBack l (p + 1) r ρ
  | p, .io i :: r, ρ => match l.lookup p with
    | some o => putBack l (p + 1) r (ρ.set i (some o))
    | none => none
/-- terms whose answer is a number or a text, and change nothing -/
def atom : Dt → Bool
  | .int _ => true
  | .str _ => true
  | _ => false
def smp (ρ : Env) : Ex → Option Dt
  | .var i => match get ρ i with
    | some (.d x) => if atom x = true then some x else none
    | _ => none
  | .cst d => if atom d = true then some d else none
  | .bin op a b => match smp ρ a, smp ρ b with
    | some (.int i), some (.int j) => match binD op (.int i) (.int j) with
      | some (.d (.int k)) => some (.int k)
      | _ => none
    | _, _ => none
  | .neg a => match smp ρ a with
    | some (.int i) => some (.int (-i))
    | _ => none
  | _ => none
def keyOf : Dt → Option Key
  | .int i => some (.inl i)
  | .str x => some (.inr x)
  | _ => none
def dGet : List Key → List Ob → Key → Option Ob
  | k :: ks, o :: os, x => if k = x then some o else dGet ks os x
  | _, _, _ => none
def dSet : List Key → List Ob → Key → Ob → List Ob
  | k :: ks, o :: os, x, u => if k = x then u :: os else o :: dSet ks os x u
  | _, os, _, _ => os
/-- x[k] of a slot's object -/
def itemO (o : Ob) (k : Dt) : Option Ob := match o, k with
  | .d x, k => (subD x k).map Ob.d
  | .lst os, .int i => atI os i
  | .dct ks os, k => (keyOf k).bind (dGet ks os)
  | _, _ => none
def setO (o : Ob) (k : Dt) (u : Ob) : Option Ob := match o, k with
  | .lst os, .int i => (ixN os.length i).map fun j => .lst (os.set j u)
  | .dct ks os, k => (keyOf k).bind fun x => if os.length < 1000 then (if (ks.any fun k => decide (k = x)) = true then some (.dct ks (dSet ks os x u)) else some (.dct (ks ++ [x]) (os ++ [u]))) else none
  | _, _ => none

/-! ### what terms come to -/
structure Fns where
  run : Nat → List Ob → Res (Ob × List (Nat × Ob))
/-- an expression's answer as plain data -/
def Res.toD (r : Res (Ob × Env)) : Res (Dt × Env) := r.bind fun p => (Res.of (frz p.1)).bind fun d => .ok (d, p.2)
def Res.toB (r : Res (Ob × Env)) : Res (Bool × Env) := r.bind fun p => match p.1 with
  | .d (.bool b) => .ok (b, p.2)
  | _ => .bad
/-- the turns of a list comprehension -/
def compL (bnd : Dt → Env → Option Env) (c : Env → Res (Bool × Env)) (e : Env → Res (Ob × Env)) : List Dt → Env → Res (List Ob × Env)
  | [], ρ => .ok ([], ρ)
  | d :: r, ρ => (Res.of (bnd d ρ)).bind fun ρ1 => (c ρ1).bind fun q => if q.1 = true then (e q.2).bind fun p => (compL bnd c e r p.2).bind fun t => .ok (p.1 :: t.1, t.2) else compL bnd c e r q.2
def wInt (r : Res (Dt × Env)) (k : Int → Env → Res (List Dt × Env)) : Res (List Dt × Env) := r.bind fun p => match p.1 with
  | .int i => k i p.2
  | _ => .bad
def rngOk (i : Int) : Bool := decide (-(2 ^ 62) ≤ i ∧ i < 2 ^ 62)
def seqOf : Dt → Option (List Dt)
  | .tuple xs => some xs
  | .list xs => some xs
  | _ => none
/-- a table's value at a text -/
def tabD (kvs : List (Str × Dt)) : Dt → Option Dt
  | .str z => kvs.lookup z
  | _ => none
def isInt (k : Int) : Dt → Bool
  | .int n => n == k
  | _ => false
/-- where an int stands first among ints -/
def idxD (x y : Dt) : Option Dt := (seqOf x).bind fun ds => match y with
  | .int k => if ds.all isI = true then (ds.findIdx? (isInt k)).map fun n => PyData.int (n : Int) else none
  | _ => none
def mxD (big : Bool) : Dt → Dt → Option Dt
  | .int i, .int j => some (.int (if big = true then (if j > i then j else i) else (if j < i then j else i)))
  | _, _ => none
/-- the items with their numbers -/
def enumD : Int → List Dt → List Dt
  | _, [] => []
  | i, d :: ds => .tuple [.int i, d] :: enumD (i + 1) ds
mutual
def ev (R : Fns) (pn : List Nat) : Ex → Env → Res (Ob × Env)
  | .var i, ρ => (Res.of (use ρ i)).bind fun p => .ok (.d p.1, p.2)
  | .cst d, ρ => .ok (.d d, ρ)
  | .tup es, ρ => (evD R pn es ρ).bind fun p => if p.1.length ≤ sizeLine then .ok (.d (.tuple p.1), p.2) else .bad
  | .lst es, ρ => (evs R pn es ρ).bind fun p => if p.1.length ≤ sizeLine then .ok (.lst p.1, p.2) else .bad
  | .dct ks es, ρ => (evs R pn es ρ).bind fun p => if p.1.length = ks.length ∧ ks.length ≤ 15 ∧ ks.Nodup then .ok (.dct ks p.1, p.2) else .bad
  | .bin op a b, ρ => (ev R pn a ρ).toD.bind fun p => (ev R pn b p.2).toD.bind fun q => (Res.of (binD op p.1 q.1)).bind fun o => .ok (o, q.2)
  | .rep a b, ρ => (ev R pn a ρ).bind fun p => (ev R pn b p.2).toD.bind fun q => match p.1, q.1 with
    | .lst os, .int k => (Res.of (plains os)).bind fun ds => if -(2 ^ 63) ≤ k ∧ k < 2 ^ 63 ∧ ds.length * k.toNat ≤ sizeLine then .ok (Ob.ls (List.replicate k.toNat ds).flatten, q.2) else .bad
    | _, _ => .bad
  | .catp i b, ρ => (Res.of (peek ρ i)).bind fun _ => (ev R pn b ρ).toD.bind fun q => (Res.of (peek q.2 i)).bind fun x => (Res.of (binD .add x q.1)).bind fun o => .ok (o, q.2)
  | .neg a, ρ => (ev R pn a ρ).toD.bind fun p => match p.1 with
    | .int i => .ok (.d (.int (-i)), p.2)
    | _ => .bad
  | .not a, ρ => (ev R pn a ρ).toB.bind fun p => .ok (.d (.bool (!p.1)), p.2)
  | .cmp op a b, ρ => (ev R pn a ρ).toD.bind fun p => (ev R pn b p.2).toD.bind fun q => (Res.of (cmpD op p.1 q.1)).bind fun k => .ok (.d (.bool k), q.2)
  | .cmp2 op1 op2 a b c, ρ => (ev R pn a ρ).toD.bind fun p => (ev R pn b p.2).toD.bind fun q => (Res.of (cmpD op1 p.1 q.1)).bind fun k => if k = true then
      (ev R pn c q.2).toD.bind fun r => (Res.of (cmpD op2 q.1 r.1)).bind fun m => .ok (.d (.bool m), r.2) else .ok (.d (.bool false), q.2)
  | .and a b, ρ => (ev R pn a ρ).toB.bind fun p => if p.1 = true then ev R pn b p.2 else .ok (.d (.bool false), p.2)
  | .or a b, ρ => (ev R pn a ρ).toB.bind fun p => if p.1 = true then .ok (.d (.bool true), p.2) else ev R pn b p.2
  | .ife c a b, ρ => (ev R pn c ρ).toB.bind fun p => if p.1 = true then ev R pn a p.2 else ev R pn b p.2
  | .call f es, ρ => (evA R pn es ρ).bind fun p => if (ioOf p.1).Nodup then (Res.of (fill p.2 p.1)).bind fun os => (R.run f os).bind fun r =>
      (Res.of (putBack r.2 0 p.1 p.2)).bind fun ρ2 => .ok (r.1, ρ2) else .bad
  | .io _, _ => .bad
  | .bi b a, ρ => (ev R pn a ρ).toD.bind fun p => (Res.of (biD b p.1)).bind fun o => .ok (o, p.2)
  | .lenp i, ρ => (Res.of (get ρ i)).bind fun o => match o with
    | .d x => (Res.of (lenD x)).bind fun n => .ok (.d (.int n), ρ)
    | .lst os => .ok (.d (.int os.length), ρ)
    | _ => .bad
  | .isi t a, ρ => (ev R pn a ρ).toD.bind fun p => .ok (.d (.bool (isiD t p.1)), p.2)
  | .item i e, ρ => (Res.of (get ρ i)).bind fun _ => (ev R pn e ρ).toD.bind fun p => (Res.of ((get p.2 i).bind fun o => itemO o p.1)).bind fun o => match o with
    | .d x => .ok (.d x, p.2)
    | _ => .bad
  | .item2 i e1 e2, ρ => (Res.of (smp ρ e1)).bind fun k1 => (Res.of (smp ρ e2)).bind fun k2 => (Res.of ((get ρ i).bind fun o => (itemO o k1).bind fun o => itemO o k2)).bind fun o => match o with
    | .d x => .ok (.d x, ρ)
    | _ => .bad
  | .sub a e, ρ => (ev R pn a ρ).toD.bind fun p => (ev R pn e p.2).toD.bind fun q => (Res.of (subD p.1 q.1)).bind fun x => .ok (.d x, q.2)
  | .slc a lo hi, ρ => (ev R pn a ρ).toD.bind fun p => (evO R pn lo p.2).bind fun q => (evO R pn hi q.2).bind fun r => (Res.of (slcD p.1 q.1 r.1)).bind fun o => .ok (o, r.2)
  | .comp own tg it cs e, ρ => (evI R pn it ρ).bind fun p => if ownOk pn own p.2 = true ∧ tgIn own tg = true then
      (compL (fun d r => bindT pn tg d (wipeE own r)) (evC R pn cs) (ev R pn e) p.1 (wipeE own p.2)).nox.bind fun q => if q.1.length ≤ sizeLine then .ok (.lst q.1, backE own p.2 q.2) else .bad else .bad
  | .pop i, ρ => (Res.of (get ρ i)).bind fun o => match o with
    | .lst os => match os.getLast? with
      | some u => .ok (u, ρ.set i (some (.lst os.dropLast)))
      | none => .bad
    | _ => .bad
  | .tab kvs e, ρ => (ev R pn e ρ).toD.bind fun p => (Res.of (tabD kvs p.1)).bind fun d => .ok (.d d, p.2)
  | .idx a e, ρ => (ev R pn a ρ).toD.bind fun p => (ev R pn e p.2).toD.bind fun q => (Res.of (idxD p.1 q.1)).bind fun d => .ok (.d d, q.2)
  | .mx big a b, ρ => (ev R pn a ρ).toD.bind fun p => (ev R pn b p.2).toD.bind fun q => (Res.of (mxD big p.1 q.1)).bind fun d => .ok (.d d, q.2)
def evs (R : Fns) (pn : List Nat) : Exs → Env → Res (List Ob × Env)
  | .nil, ρ => .ok ([], ρ)
  | .cons e es, ρ => (ev R pn e ρ).bind fun p => (evs R pn es p.2).bind fun q => .ok (p.1 :: q.1, q.2)
def evD (R : Fns) (pn : List Nat) : Exs → Env → Res (List Dt × Env)
  | .nil, ρ => .ok ([], ρ)
  | .cons e es, ρ => (ev R pn e ρ).toD.bind fun p => (evD R pn es p.2).bind fun q => .ok (p.1 :: q.1, q.2)
def evA (R : Fns) (pn : List Nat) : Exs → Env → Res (List Arg × Env)
  | .nil, ρ => .ok ([], ρ)
  | .cons (.io i) es, ρ => (Res.of (get ρ i)).bind fun _ => (evA R pn es ρ).bind fun q => .ok (.io i :: q.1, q.2)
  | .cons e es, ρ => (ev R pn e ρ).toD.bind fun p => (evA R pn es p.2).bind fun q => .ok (.val p.1 :: q.1, q.2)
/-- tests of a comprehension: at most one -/
def evC (R : Fns) (pn : List Nat) : Exs → Env → Res (Bool × Env)
  | .nil, ρ => .ok (true, ρ)
  | .cons e .nil, ρ => (ev R pn e ρ).toB
  | .cons _ (.cons _ _), _ => .bad
def evO (R : Fns) (pn : List Nat) : Oe → Env → Res (Option Int × Env)
  | .none, ρ => .ok (none, ρ)
  | .some e, ρ => (ev R pn e ρ).toD.bind fun p => match p.1 with
    | .int i => .ok (some i, p.2)
    | _ => .bad
def evI (R : Fns) (pn : List Nat) : It → Env → Res (List Dt × Env)
  | .seq e, ρ => (ev R pn e ρ).toD.bind fun p => (Res.of (seqOf p.1)).bind fun ds => .ok (ds, p.2)
  | .rng a, ρ => wInt (ev R pn a ρ).toD fun j ρ1 => if rngOk j = true then .ok (rngD 0 j.toNat, ρ1) else .bad
  | .rng2 a b, ρ => wInt (ev R pn a ρ).toD fun i ρ1 => wInt (ev R pn b ρ1).toD fun j ρ2 => if rngOk i = true ∧ rngOk j = true then .ok (rngD i (j - i).toNat, ρ2) else .bad
  | .zip a b, ρ => (ev R pn a ρ).toD.bind fun p => (ev R pn b p.2).toD.bind fun q => match p.1, q.1 with
    | .list xs, .list ys => .ok ((xs.zip ys).map fun z => .tuple [z.1, z.2], q.2)
    | .tuple xs, .tuple ys => .ok ((xs.zip ys).map fun z => .tuple [z.1, z.2], q.2)
    | _, _ => .bad
  | .enum a, ρ => (ev R pn a ρ).toD.bind fun p => match p.1 with
    | .list xs => .ok (enumD 0 xs, p.2)
    | _ => .bad
  | .rev a, ρ => (ev R pn a ρ).toD.bind fun p => (Res.of (seqOf p.1)).bind fun ds => .ok (ds.reverse, p.2)
end

/-- how a block ends -/
inductive Fl where
  | nx (ρ : Env) | rt (o : Ob) (ρ : Env) | bk (ρ : Env) | ct (ρ : Env)
def forL (bnd : Dt → Env → Option Env) (b : Env → Res Fl) : List Dt → Env → Res Fl
  | [], ρ => .ok (.nx ρ)
  | d :: r, ρ => (Res.of (bnd d ρ)).bind fun ρ1 => (b ρ1).bind fun f => match f with
    | .nx ρ2 => forL bnd b r ρ2
    | .ct ρ2 => forL bnd b r ρ2
    | .bk ρ2 => .ok (.nx ρ2)
    | .rt o ρ2 => .ok (.rt o ρ2)
def whlL (c : Env → Res (Bool × Env)) (b : Env → Res Fl) : Nat → Env → Res Fl
  | 0, _ => .bad
  | n + 1, ρ => (c ρ).bind fun q => if q.1 = true then (b q.2).bind fun f => match f with
    | .nx ρ2 => whlL c b n ρ2
    | .ct ρ2 => whlL c b n ρ2
    | .bk ρ2 => .ok (.nx ρ2)
    | .rt o ρ2 => .ok (.rt o ρ2) else .ok (.nx q.2)
def stAll (pn : List Nat) : List Nat → List Ob → Env → Option Env
  | [], [], ρ => some ρ
  | i :: is, o :: os, ρ => (st pn i o ρ).bind (stAll pn is os)
  | _, _, _ => none
def toNx (r : Option Env) : Res Fl := (Res.of r).bind fun ρ => .ok (.nx ρ)
mutual
def ex (R : Fns) (L : Nat) (pn : List Nat) : Sm → Env → Res Fl
  | .asg i e, ρ => (ev R pn e ρ).bind fun p => toNx (st pn i p.1 p.2)
  | .asgT ts e, ρ => (ev R pn e ρ).toD.bind fun p => toNx (bindT pn (.tup ts) p.1 p.2)
  | .par is es, ρ => (evs R pn es ρ).bind fun p => if is.Nodup then toNx (stAll pn is p.1 p.2) else .bad
  | .aug i op e, ρ => (Res.of (get ρ i)).bind fun o => match o with
    | .d (.int x) => (ev R pn e ρ).toD.bind fun p => (Res.of (binD op (.int x) p.1)).bind fun u => match u with
      | .d (.int y) => toNx (st pn i (.d (.int y)) p.2)
      | _ => .bad
    | _ => .bad
  | .setI i e1 e2, ρ => (ev R pn e2 ρ).bind fun p => (Res.of (get p.2 i)).bind fun _ => (ev R pn e1 p.2).toD.bind fun q => (Res.of ((get q.2 i).bind fun o => setO o q.1 p.1)).bind fun o => .ok (.nx (q.2.set i (some o)))
  | .set2 i e0 e1 e2, ρ => (ev R pn e2 ρ).bind fun p => (Res.of (smp p.2 e0)).bind fun k0 => (Res.of (smp p.2 e1)).bind fun k1 =>
      (Res.of ((get p.2 i).bind fun o => (itemO o k0).bind fun o1 => (setO o1 k1 p.1).bind fun o2 => setO o k0 o2)).bind fun o => .ok (.nx (p.2.set i (some o)))
  | .augI i e1 op e2, ρ => (Res.of (smp ρ e1)).bind fun k => (Res.of (smp ρ e2)).bind fun y => (Res.of ((get ρ i).bind fun o => (itemO o k).bind fun o1 => match o1 with
      | .d x => (binD op x y).bind fun u => match x, u with
        | .int _, .d (.int z) => setO o k (.d (.int z))
        | _, _ => none
      | _ => none)).bind fun o => .ok (.nx (ρ.set i (some o)))
  | .aug2 i e0 e1 op e2, ρ => (Res.of (smp ρ e0)).bind fun k0 => (Res.of (smp ρ e1)).bind fun k1 => (Res.of (smp ρ e2)).bind fun y =>
      (Res.of ((get ρ i).bind fun o => (itemO o k0).bind fun o0 => (itemO o0 k1).bind fun o1 => match o1 with
      | .d x => (binD op x y).bind fun u => match x, u with
        | .int _, .d (.int z) => (setO o0 k1 (.d (.int z))).bind fun o2 => setO o k0 o2
        | _, _ => none
      | _ => none)).bind fun o => .ok (.nx (ρ.set i (some o)))
  | .app i e, ρ => (Res.of (get ρ i)).bind fun o => match o with
    | .lst _ => (ev R pn e ρ).bind fun p => (Res.of (get p.2 i)).bind fun u => match u with
      | .lst os => if os.length < sizeLine then .ok (.nx (p.2.set i (some (.lst (os ++ [p.1]))))) else .bad
      | _ => .bad
    | _ => .bad
  | .ext i e, ρ => (Res.of (get ρ i)).bind fun o => match o with
    | .lst _ => (ev R pn e ρ).bind fun p => (Res.of (get p.2 i)).bind fun u => match u, p.1 with
      | .lst os, .lst xs => if os.length + xs.length ≤ sizeLine then .ok (.nx (p.2.set i (some (.lst (os ++ xs))))) else .bad
      | _, _ => .bad
    | _ => .bad
  | .expr e, ρ => (ev R pn e ρ).bind fun p => .ok (.nx p.2)
  | .ret e, ρ => (ev R pn e ρ).bind fun p => .ok (.rt p.1 p.2)
  | .ife c a b, ρ => (ev R pn c ρ).toB.bind fun p => if p.1 = true then exs R L pn a p.2 else exs R L pn b p.2
  | .for_ tg it b, ρ => (evI R pn it ρ).bind fun p => forL (bindT pn tg) (exs R L pn b) p.1 p.2
  | .while_ c b, ρ => whlL (fun r => (ev R pn c r).toB) (exs R L pn b) L ρ
  | .brk, ρ => .ok (.bk ρ)
  | .cont, ρ => .ok (.ct ρ)
  | .pass, ρ => .ok (.nx ρ)
  | .raise c es, ρ => (evD R pn es ρ).bind fun p => .exc c p.1
  | .setRet i e a, ρ => (ev R pn e ρ).toD.bind fun p => (Res.of (biD .sset p.1)).bind fun o => (Res.of (frz o)).bind fun z => match z with
    | .list zs => if pn.contains i = true ∨ p.2.length ≤ i then .bad else (ev R pn a (p.2.set i none)).toD.bind fun q => .ok (.rt (.d (.tuple [q.1, .tuple zs])) q.2)
    | _ => .bad
def exs (R : Fns) (L : Nat) (pn : List Nat) : Sms → Env → Res Fl
  | .nil, ρ => .ok (.nx ρ)
  | .cons s r, ρ => (ex R L pn s ρ).bind fun f => match f with
    | .nx ρ1 => exs R L pn r ρ1
    | f => .ok f
end

/-- a def: its slots, its parameters, those that the caller goes on with -/
structure Df where
  n : Nat
  np : Nat
  io : List Nat
  body : Sms
def outs (io : List Nat) (ρ : Env) : Option (List (Nat × Ob)) := match io with
  | [] => some []
  | i :: r => match get ρ i, outs r ρ with
    | some o, some l => some ((i, o) :: l)
    | _, _ => none
def runBody (R : Fns) (L : Nat) (f : Df) (os : List Ob) : Res (Ob × List (Nat × Ob)) :=
  if os.length = f.np ∧ f.np ≤ f.n then (exs R L f.io f.body (os.map some ++ List.replicate (f.n - f.np) none)).bind fun e => match e with
    | .rt o ρ => (Res.of (outs f.io ρ)).bind fun l => .ok (o, l)
    | .nx ρ => (Res.of (outs f.io ρ)).bind fun l => .ok (.d .none, l)
    | _ => .bad
  else .bad
/-- the defs of a text, n calls deep at most, each while at most L turns -/
def run (tbl : List Df) (L : Nat) : Nat → Fns
  | 0 => ⟨fun _ _ => .bad⟩
  | n + 1 => ⟨fun f os => match tbl[f]? with
    | some df => runBody (run tbl L n) L df os
    | none => .bad⟩
end AM
/-! Ev2: how the terms' answers are those of the model: the frame of the proofs. -/
namespace AM
open PySem PySem.Spec PyProof.Rows L2

theorem Rp.there {K : PySem.W.Frag} {T : Hp} {d : Dt} {v : V} (_ : Rp K T d v) : True := trivial
/-- what a proof over a body holds fixed: the written part, the slots that stay, what may be raised -/
structure Gm where
  K : PySem.W.Frag
  pv : List (Nat × V)
  XQ : Nat → List Dt → Hp → Hp → Foot → Prop
  up : ∀ {c ds T H F T1 H1 F1}, XQ c ds T H F → Stp T H (InF F) T1 H1 (InF F1) → XQ c ds T1 H1 F1
abbrev Gm.pn (G : Gm) : List Nat := G.pv.map (·.1)
abbrev Gd (G : Gm) := Good G.K G.pv
def Out {α : Type} (G : Gm) (T H : Hp) (F : Foot) (r : Res α) (k : α → Prop) : Prop := match r with
  | .ok a => k a
  | .exc c ds => G.XQ c ds T H F
  | .bad => False
section
variable {α β : Type} {G : Gm} {T H T1 H1 T2 H2 : Hp} {F F1 F2 : Foot} {P P' : α → Prop} {R : β → Prop}
theorem Out.mk {a : α} (h : P a) : Out G T H F (.ok a) P := h
theorem Out.bind {r : Res α} {k : α → Res β} (h : Out G T H F (r.bind k) R) : Out G T H F r fun a => Out G T H F (k a) R := by
  cases r with
  | ok a => exact h
  | exc c ds => exact h
  | bad => exact h
theorem Out.of {o : Option α} (h : Out G T H F (Res.of o) P) : ∃ a, o = some a ∧ P a := by
  cases o with
  | none => exact h.elim
  | some a => exact ⟨a, rfl, h⟩
theorem Out.ofb {o : Option α} {k : α → Res β} (h : Out G T H F ((Res.of o).bind k) R) : ∃ a, o = some a ∧ Out G T H F (k a) R := h.bind.of
theorem Out.imp {r : Res α} (h : Out G T H F r P) (i : ∀ a, P a → P' a) : Out G T H F r P' := by
  cases r with
  | ok a => exact i a h
  | exc c ds => exact h
  | bad => exact h
theorem Out.go {r : Res α} (h : Out G T H F r P) (s : Stp T H (InF F) T1 H1 (InF F1)) (i : ∀ a, P a → P' a) : Out G T1 H1 F1 r P' := by
  cases r with
  | ok a => exact i a h
  | exc c ds => exact G.up h s
  | bad => exact h
end
theorem Stp.F {T H T1 H1 T2 H2 : Hp} {F F1 F2 : Foot} {R : Own} {f : List Addr} (s : Stp T H (InF F) T1 H1 (fun a => InF F1 a ∨ R a)) (t : Stp T1 H1 (InF F1) T2 H2 (fun a => InF F2 a ∨ a ∈ f)) :
    Stp T H (InF F) T2 H2 (fun a => InF F2 a ∨ a ∈ f) := (s.trans t fun a h => .inl h).post fun a h => .inl h
theorem Stp.own {T H T1 H1 : Hp} {F F1 : Foot} {R : Own} (s : Stp T H (InF F) T1 H1 (fun a => InF F1 a ∨ R a)) : Stp T H (InF F) T1 H1 (InF F1) := s.post fun _ h => .inl h

/-- an object may be handed on -/
def After (G : Gm) (σ : L2.St) (T H : Hp) (F : Foot) (Q : VK) (p : Ob × Env) : Prop :=
  ∀ (T' H' : Hp) (F' : Foot) (v : V) (f : List Addr), Gd G T' H' σ p.2 F' → Tmp G.K T' H' F' p.1 v f → Stp T H (InF F) T' H' (fun a => InF F' a ∨ a ∈ f) → Q v H'
/-- plain data may be handed on -/
def AftD (G : Gm) (σ : L2.St) (T H : Hp) (F : Foot) (Q : VK) (p : Dt × Env) : Prop :=
  ∀ (T' H' : Hp) (F' : Foot) (v : V), Gd G T' H' σ p.2 F' → Rp G.K T' p.1 v → Stp T H (InF F) T' H' (InF F') → Q v H'
def AftB (G : Gm) (σ : L2.St) (T H : Hp) (F : Foot) (Q : Bool → Hp → Prop) (p : Bool × Env) : Prop :=
  ∀ (T' H' : Hp) (F' : Foot), Gd G T' H' σ p.2 F' → Stp T H (InF F) T' H' (InF F') → Q p.1 H'
/-- readings -/
def rd (G : Gm) (c : Env → Res (Ob × Env)) : TE := fun σ H Q => ∃ (T : Hp) (ρ : Env) (F : Foot), Gd G T H σ ρ F ∧ Out G T H F (c ρ) (After G σ T H F Q)
def rdD (G : Gm) (c : Env → Res (Dt × Env)) : TE := fun σ H Q => ∃ (T : Hp) (ρ : Env) (F : Foot), Gd G T H σ ρ F ∧ Out G T H F (c ρ) (AftD G σ T H F Q)
def rdT (G : Gm) (c : Env → Res (Bool × Env)) : TT := fun σ H Q => ∃ (T : Hp) (ρ : Env) (F : Foot), Gd G T H σ ρ F ∧ Out G T H F (c ρ) (AftB G σ T H F Q)

/-- a new object, or none, beside all that stood -/
structure Grow (T H T' H' : Hp) : Prop where
  ts : Same T T'
  hs : Same H H'
  th : Same T' H'
  tn : ∀ a, T' a ≠ none → T a ≠ none ∨ H a = none
theorem Grow.refl {T H : Hp} (h : Same T H) : Grow T H T H := ⟨Same.refl T, Same.refl H, h, fun _ q => .inl q⟩
theorem Grow.frozen {T H : Hp} {p : Addr} {o : HO} (h : Same T H) (hp : H p = none) : Grow T H (upd T p o) (upd H p o) := by
  have hT : T p = none := h.free hp
  refine ⟨fun b u e => ?_, fun b u e => ?_, fun b u e => ?_, fun a q => ?_⟩
  · rw [upd_ne (ne_of_none e hT)]; exact e
  · rw [upd_ne (ne_of_none e hp)]; exact e
  · by_cases hb : b = p
    · subst hb; rw [upd_same] at e ⊢; exact e
    · rw [upd_ne hb] at e ⊢; exact h b u e
  · by_cases ha : a = p
    · subst ha; exact .inr hp
    · rw [upd_ne ha] at q; exact .inl q
theorem Grow.owned {T H : Hp} {p : Addr} {o : HO} (h : Same T H) (hp : H p = none) : Grow T H T (upd H p o) := by
  refine ⟨Same.refl T, fun b u e => ?_, fun b u e => ?_, fun a q => .inl q⟩
  · rw [upd_ne (ne_of_none e hp)]; exact e
  · rw [upd_ne (ne_of_none (h b u e) hp)]; exact h b u e
theorem Good.grow {K : PySem.W.Frag} {pv : List (Nat × V)} {T H T' H' : Hp} {σ : L2.St} {ρ : Env} {F : Foot} (g : Good K pv T H σ ρ F) (w : Grow T H T' H') : Good K pv T' H' σ ρ F := by
  refine ⟨g.len, fun i o e => ?_, g.none_, g.nd, g.apart, fun a ha => ?_, w.th, g.pins⟩
  · obtain ⟨v, e1, r⟩ := g.slot i o e
    exact ⟨v, e1, RO.mono w.ts r fun a _ u q => w.hs a u q⟩
  · cases q : T' a with
    | none => rfl
    | some u =>
      rcases w.tn a (by rw [q]; simp) with z | z
      · exact absurd (g.tn a ha) z
      · obtain ⟨i, hi⟩ := ha
        have : ∃ o, ρ[i]? = some (some o) := by
          refine Classical.byContradiction fun n => ?_
          have := g.none_ i fun o e => n ⟨o, e⟩
          rw [this] at hi
          cases hi
        obtain ⟨o, e⟩ := this
        obtain ⟨v, _, r⟩ := g.slot i o e
        obtain ⟨u', e', _⟩ := RO.there r a hi
        rw [e'] at z; cases z
theorem Good.in_there {K : PySem.W.Frag} {pv : List (Nat × V)} {T H : Hp} {σ : L2.St} {ρ : Env} {F : Foot} (g : Good K pv T H σ ρ F) {a : Addr} (ha : InF F a) : H a ≠ none := by
  obtain ⟨i, hi⟩ := ha
  have : ∃ o, ρ[i]? = some (some o) := by
    refine Classical.byContradiction fun n => ?_
    have := g.none_ i fun o e => n ⟨o, e⟩
    rw [this] at hi
    cases hi
  obtain ⟨o, e⟩ := this
  obtain ⟨v, _, r⟩ := g.slot i o e
  obtain ⟨u', e', _⟩ := RO.there r a hi
  rw [e']; simp
theorem Grow.stp {T H T' H' : Hp} {F : Foot} {f : List Addr} (w : Grow T H T' H') (hf : ∀ a ∈ f, H a = none) : Stp T H (InF F) T' H' (fun a => InF F a ∨ a ∈ f) :=
  ⟨w.ts, fun a o e _ => w.hs a o e, fun a h => h.imp id (hf a), fun a q => (w.tn a q).imp id .inr⟩
/-- what an operation on values is to hand on: an object all of whose addresses are new -/
def Mk (K : PySem.W.Frag) (T H : Hp) (o : Ob) (Q : VK) : Prop := ∀ (T' H' : Hp) (v : V) (f : List Addr), Grow T H T' H' → RO K T' H' o v f → f.Nodup → (∀ a ∈ f, H a = none ∧ T' a = none) → Q v H'
/-- after an operation on values -/
theorem After.mk {G : Gm} {σ : L2.St} {T H T1 H1 : Hp} {F F1 : Foot} {Q : VK} {o : Ob} {ρ : Env} (h : After G σ T H F Q (o, ρ)) (g : Gd G T1 H1 σ ρ F1) (s : Stp T H (InF F) T1 H1 (InF F1)) : Mk G.K T1 H1 o Q := by
  intro T' H' v f w r nd hf
  refine h T' H' F1 v f (g.grow w) ⟨r, nd, fun a ha => (hf a ha).2, fun a ha hn => g.in_there hn (hf a ha).1⟩ ?_
  exact (s.trans (w.stp (F := F1) fun a ha => (hf a ha).1) fun a h => h).post fun a h => .inl h
theorem Mk.pure {K : PySem.W.Frag} {T H : Hp} {d : Dt} {Q : VK} {v : V} (h : Mk K T H (.d d) Q) (th : Same T H) (r : Rp K T d v) : Q v H := h T H v [] (Grow.refl th) ⟨rfl, r⟩ .nil fun _ z => nomatch z
theorem Mk.tup {K : PySem.W.Frag} {T H : Hp} {ds : List Dt} {vs : List V} {Q : VK} {p : Addr} (h : Mk K T H (.d (.tuple ds)) Q) (th : Same T H) (r : Rps K T ds vs) (hp : H p = none) : Q (.ref p) (upd H p (.tup vs)) :=
  h _ _ _ [] (Grow.frozen th hp) ⟨rfl, p, vs, rfl, SqT.of upd_same, Rps.mono (Grow.frozen (o := .tup vs) th hp).ts r⟩ .nil fun _ z => nomatch z
theorem Mk.lst {K : PySem.W.Frag} {T H : Hp} {os : List Ob} {vs : List V} {Q : VK} {p : Addr} {f : List Addr} (h : Mk K T H (.lst os) Q) (th : Same T H) (r : ROs K T H os vs f) (nd : f.Nodup) (hf : f = []) (hp : H p = none) : Q (.ref p) (upd H p (.lst vs)) := by
  subst hf
  refine h _ _ _ [p] (Grow.owned (o := .lst vs) th hp) ⟨p, vs, [], rfl, rfl, upd_same, ROs.mono (Same.refl T) r fun a ha => nomatch ha⟩ (by simp) fun a ha => ?_
  have e : a = p := by simpa using ha
  subst e
  exact ⟨hp, th.free hp⟩
theorem Mk.ls {K : PySem.W.Frag} {T H : Hp} {ds : List Dt} {vs : List V} {Q : VK} {p : Addr} (h : Mk K T H (Ob.ls ds) Q) (th : Same T H) (r : Rps K T ds vs) (hp : H p = none) : Q (.ref p) (upd H p (.lst vs)) :=
  Mk.lst h th (ROs.plain r) .nil rfl hp

/-! ### from an object to plain data -/
theorem freeze {K : PySem.W.Frag} {pv : List (Nat × V)} {T H : Hp} {σ : L2.St} {ρ : Env} {F : Foot} {o : Ob} {v : V} {f : List Addr} {d : Dt} (g : Good K pv T H σ ρ F) (t : Tmp K T H F o v f) (e : frz o = some d) :
    ∃ T', Good K pv T' H σ ρ F ∧ Rp K T' d v ∧ Same T T' ∧ Same T' H ∧ ∀ a, T' a ≠ none → T a ≠ none ∨ a ∈ f := by
  have ts : Same T (ovr T H f) := fun b u q => by
    by_cases hb : b ∈ f
    · rw [t.tn b hb] at q; cases q
    · rw [ovr_out hb]; exact q
  have th : Same (ovr T H f) H := fun b u q => by
    by_cases hb : b ∈ f
    · rw [ovr_in hb] at q; exact q
    · rw [ovr_out hb] at q; exact g.same b u q
  have tn : ∀ a, ovr T H f a ≠ none → T a ≠ none ∨ a ∈ f := fun a q => by
    by_cases hb : a ∈ f
    · exact .inr hb
    · rw [ovr_out hb] at q; exact .inl q
  refine ⟨ovr T H f, ⟨g.len, fun i u q => ?_, g.none_, g.nd, g.apart, fun a ha => ?_, th, g.pins⟩, RO.frz ts t.ro e fun a ha u q => by rw [ovr_in ha]; exact q, ts, th, tn⟩
  · obtain ⟨w, e1, r⟩ := g.slot i u q
    exact ⟨w, e1, RO.mono ts r fun a _ u q => q⟩
  · rw [ovr_out fun z => t.off a z ha]
    exact g.tn a ha
section
variable {X : Cx} {G : Gm} {e : Expr} {c : Env → Res (Ob × Env)}
theorem rdD_rd {σ : L2.St} {H : Hp} {Q : VK} (h : rdD G (fun ρ => (c ρ).toD) σ H Q) : rd G c σ H Q := by
  obtain ⟨T, ρ, F, g, h⟩ := h
  refine ⟨T, ρ, F, g, ?_⟩
  refine Out.imp (Out.bind h) fun p hp => ?_
  obtain ⟨d, e1, hp⟩ := hp.ofb
  intro T' H' F' v f g' t s
  obtain ⟨T2, g2, r2, ts, th, tn⟩ := freeze g' t e1
  refine hp T2 H' F' v g2 r2 ⟨s.same.trans ts, s.frame, fun a ha => s.fresh a (.inl ha), fun a q => ?_⟩
  rcases tn a q with z | z
  · exact s.tnew a z
  · exact .inr (s.fresh a (.inr z))
theorem _root_.L2.PE.toD (h : PE X e (rd G c)) : PE X e (rdD G fun ρ => (c ρ).toD) := ⟨fun pins s σ H Q I q => h.run pins s σ H Q I (rdD_rd q)⟩
theorem rdT_rd {σ : L2.St} {H : Hp} {Q : Bool → Hp → Prop} (h : rdT G (fun ρ => (c ρ).toB) σ H Q) : rd G c σ H fun x H1 => ∃ k, x = .bl k ∧ Q k H1 := by
  obtain ⟨T, ρ, F, g, h⟩ := h
  refine ⟨T, ρ, F, g, ?_⟩
  refine Out.imp (Out.bind h) fun p hp => ?_
  obtain ⟨o, ρ'⟩ := p
  intro T' H' F' v f g' t s
  cases o with
  | d x =>
    cases x with
    | bool b =>
      obtain ⟨rfl, r⟩ := t.ro
      exact ⟨b, r, hp T' H' F' g' s.own⟩
    | _ => exact hp.elim
  | _ => exact hp.elim
/-- a test by its value -/
theorem _root_.L2.PT.ofE (h : PE X e (rd G c)) (he : ∀ whole, isTrue e X.env whole = (do let v ← whole; standAt e.pos; holding [v] (truthy v))) : PT X e (rdT G fun ρ => (c ρ).toB) :=
  ⟨fun pins s σ H Q I q => (pt_val h he).run pins s σ H Q I (rdT_rd q)⟩
theorem _root_.L2.PE.of {t t' : TE} (h : PE X e t) (i : ∀ σ H Q, t' σ H Q → t σ H Q) : PE X e t' := ⟨fun pins s σ H Q I q => h.run pins s σ H Q I (i σ H Q q)⟩
theorem _root_.L2.PT.of {t t' : TT} (h : PT X e t) (i : ∀ σ H Q, t' σ H Q → t σ H Q) : PT X e t' := ⟨fun pins s σ H Q I q => h.run pins s σ H Q I (i σ H Q q)⟩
end
end AM
/-! Ev3: operators, comparisons, built-in functions, by values. -/
namespace AM
open PySem PySem.Spec PyProof.Rows L2

theorem plains_eq : ∀ {os : List Ob} {ds : List Dt}, plains os = some ds → os = ds.map Ob.d
  | [], ds, h => by
    cases h
    rfl
  | .d x :: r, ds, h => by
    have h : (plains r).map (x :: ·) = some ds := h
    obtain ⟨ys, e, rfl⟩ := Option.map_eq_some_iff.mp h
    rw [plains_eq e]
    rfl
  | .lst _ :: _, _, h => by cases h
  | .dct _ _ :: _, _, h => by cases h
section
variable {X : Cx}
/-- xs + ys of any lists -/
def rCatL (K : PySem.W.Frag) : R2 := fun x y H Q => ∃ l b xs zs, x = .ref l ∧ y = .ref b ∧ SqL K H l xs ∧ SqL K H b zs ∧ xs.length + zs.length ≤ sizeLine ∧ ∀ p, H p = none → Q (.ref p) (upd H p (.lst (xs ++ zs)))
theorem op_catL : OpR X (binaryOp .Add) (rCatL X.K) := by
  intro pins s σ H x y v u Q I rx ry h
  obtain ⟨l, b, xs, zs, rfl, rfl, hA, hB, hz, q⟩ := h
  cases rx
  cases ry
  obtain ⟨i1, r1, ⟨⟨c1, d1, da1, s1⟩, n1, e1, k1, _, w1⟩, _⟩ := I.list hA
  obtain ⟨i2, r2, ⟨⟨c2, d2, da2, s2⟩, n2, e2, k2, _, w2⟩, _⟩ := I.list hB
  simp only at k1 w1 k2 w2
  subst k1 w1 k2 w2
  have hs : i1.toArray.size + i2.toArray.size ≤ sizeLine := by
    have a1 := r1.length
    have a2 := r2.length
    rw [List.size_toArray, List.size_toArray]
    omega
  have ea : i1.toArray ++ i2.toArray = (i1 ++ i2).toArray := by simp
  refine concat_meets ⟨_, e1, rfl⟩ ⟨_, e2, rfl⟩ noFill_list_add seq_list_add PySem.F.slot_list_add PySem.F.entry_list_add (PySem.F.args_list_add_2 _ _) (list_addW l b i1.toArray i2.toArray n1 n2 d1 d2 s1 s2 hs) ⟨e1, e2, ?_⟩
  rw [ea]
  exact ⟨.ref _, _, I.lnew (t' := s.toks) (r1.append r2) (by rw [List.length_append]; omega), rfl, q _ I.fresh⟩

/-! ### two-place operators -/
def rBin (K : PySem.W.Frag) (op : Bop) : R2 := fun x y H Q => ∃ T d e o, Same T H ∧ Rp K T d x ∧ Rp K T e y ∧ binD op d e = some o ∧ Mk K T H o Q
def opOf : Bop → Operator
  | .add => .Add | .sub => .Sub | .mul => .Mult | .fdiv => .FloorDiv | .mod => .Mod | .pow => .Pow
  | .shl => .LShift | .shr => .RShift | .band => .BitAnd | .bor => .BitOr | .bxor => .BitXor
theorem Rps.rep {K : PySem.W.Frag} {T : Hp} {ds : List Dt} {vs : List V} (h : Rps K T ds vs) : ∀ n : Nat, Rps K T (List.replicate n ds).flatten (List.replicate n vs).flatten
  | 0 => rfl
  | n + 1 => by
    rw [List.replicate_succ, List.replicate_succ, List.flatten_cons, List.flatten_cons]
    exact h.app (Rps.rep h n)
theorem int_of {K : PySem.W.Frag} {T : Hp} {i : Int} {v : V} (h : Rp K T (.int i) v) : v = .int i := h
theorem bin_ints {op : Bop} {r : R2} {P : Int → Int → Prop} {g : Int → Int → Int} (ho : OpR X (binaryOp (opOf op)) r) (hr : ∀ i j H Q, P i j → Q (.int (g i j)) H → r (.int i) (.int j) H Q)
    {pins : List (Addr × Obj)} {s : Shared} {σ : L2.St} {H T : Hp} {x y : V} {v u : Value} {Q : VK} (I : Inv X pins σ H s) (rx : RelV x v) (ry : RelV y u) (th : Same T H) {i j : Int} (hx : Rp X.K T (.int i) x) (hy : Rp X.K T (.int j) y) (p : P i j)
    (m : Mk X.K T H (.d (.int (g i j))) Q) : wpAny (model X.prog X.w) X.A (binaryOp (opOf op) v u) (EP X pins σ Q) X.xe s := by
  rw [int_of hx] at rx
  rw [int_of hy] at ry
  exact ho pins s σ H _ _ v u Q I rx ry (hr i j H Q p (m.pure th rfl))
theorem op_bin (op : Bop) : OpR X (binaryOp (opOf op)) (rBin X.K op) := by
  intro pins s σ H x y v u Q I rx ry h
  obtain ⟨T, d, e, o, th, hd, he, eo, m⟩ := h
  have ite_some : ∀ {c : Prop} [Decidable c] {a b : Ob}, (if c then some a else none) = some b → c ∧ a = b := fun {c} _ {a b} z => by
    by_cases hc : c
    · rw [if_pos hc] at z; exact ⟨hc, Option.some.inj z⟩
    · rw [if_neg hc] at z; cases z
  cases d with
  | int i =>
    cases e with
    | int j =>
      cases op with
      | add => cases eo; exact bin_ints (op := .add) (P := fun _ _ => True) op_add (fun i j H Q _ q => ⟨i, j, rfl, rfl, q⟩) I rx ry th hd he trivial m
      | sub => cases eo; exact bin_ints (op := .sub) (P := fun _ _ => True) op_sub (fun i j H Q _ q => ⟨i, j, rfl, rfl, q⟩) I rx ry th hd he trivial m
      | mul => obtain ⟨c, rfl⟩ := ite_some eo; exact bin_ints (op := .mul) (P := CMul) op_mul (fun i j H Q c q => ⟨i, j, rfl, rfl, c, q⟩) I rx ry th hd he c m
      | fdiv => obtain ⟨c, rfl⟩ := ite_some eo; exact bin_ints (op := .fdiv) (P := CDivN) op_fdivN (fun i j H Q c q => ⟨i, j, rfl, rfl, c, q⟩) I rx ry th hd he c m
      | mod => obtain ⟨c, rfl⟩ := ite_some eo; exact bin_ints (op := .mod) (P := fun _ j => j ≠ 0) op_modN (fun i j H Q c q => ⟨i, j, rfl, rfl, c, q⟩) I rx ry th hd he c m
      | pow => obtain ⟨c, rfl⟩ := ite_some eo; exact bin_ints (op := .pow) (P := CPow) op_pow (fun i j H Q c q => ⟨i, j, rfl, rfl, c, q⟩) I rx ry th hd he c m
      | shl => obtain ⟨c, rfl⟩ := ite_some eo; exact bin_ints (op := .shl) (P := CPow) op_shl (fun i j H Q c q => ⟨i, j, rfl, rfl, c, q⟩) I rx ry th hd he c m
      | shr => obtain ⟨c, rfl⟩ := ite_some eo; exact bin_ints (op := .shr) (P := fun _ j => 0 ≤ j) op_shr (fun i j H Q c q => ⟨i, j, rfl, rfl, c, q⟩) I rx ry th hd he c m
      | band => cases eo; exact bin_ints (op := .band) (P := fun _ _ => True) op_and (fun i j H Q _ q => ⟨i, j, rfl, rfl, q⟩) I rx ry th hd he trivial m
      | bor => cases eo; exact bin_ints (op := .bor) (P := fun _ _ => True) op_or (fun i j H Q _ q => ⟨i, j, rfl, rfl, q⟩) I rx ry th hd he trivial m
      | bxor => cases eo; exact bin_ints (op := .bxor) (P := fun _ _ => True) op_xor (fun i j H Q _ q => ⟨i, j, rfl, rfl, q⟩) I rx ry th hd he trivial m
    | _ => cases op <;> cases eo
  | tuple xs =>
    cases e with
    | tuple ys =>
      cases op with
      | add =>
        obtain ⟨c, rfl⟩ := ite_some eo
        obtain ⟨a, vs, rfl, sa, ra⟩ := hd
        obtain ⟨b, us, rfl, sb, rb⟩ := he
        have l1 := ra.len
        have l2 := rb.len
        refine op_catA pins s σ H _ _ v u Q I rx ry ⟨a, b, vs, us, rfl, rfl, same_T th sa, same_T th sb, by omega, fun z => ?_, fun z z2 => ?_, fun z z2 p hp => ?_⟩
        · subst z
          have : xs = [] := List.eq_nil_of_length_eq_zero (by simpa using l1.symm)
          subst this
          exact m.pure th ⟨b, us, rfl, sb, rb⟩
        · subst z2
          have : ys = [] := List.eq_nil_of_length_eq_zero (by simpa using l2.symm)
          subst this
          rw [List.append_nil] at m
          exact m.pure th ⟨a, vs, rfl, sa, ra⟩
        · exact m.tup th (ra.app rb) hp
      | _ => cases eo
    | int k =>
      cases op with
      | mul =>
        obtain ⟨c, rfl⟩ := ite_some eo
        obtain ⟨a, vs, rfl, sa, ra⟩ := hd
        rw [int_of he] at ry
        have l1 := ra.len
        exact op_repT pins s σ H _ _ v u Q I rx ry ⟨a, k, vs, rfl, rfl, same_T th sa, fun z => by rw [z] at l1; simp at l1; omega, c.2.2.1, c.2.2.2, by omega, fun p hp => m.tup th (ra.rep k.toNat) hp⟩
      | _ => cases eo
    | _ => cases op <;> cases eo
  | list xs =>
    cases e with
    | list ys =>
      cases op with
      | add =>
        obtain ⟨c, rfl⟩ := ite_some eo
        obtain ⟨a, vs, rfl, sa, ra⟩ := hd
        obtain ⟨b, us, rfl, sb, rb⟩ := he
        have l1 := ra.len
        have l2 := rb.len
        exact op_catL pins s σ H _ _ v u Q I rx ry ⟨a, b, vs, us, rfl, rfl, th.seq sa, th.seq sb, by omega, fun p hp => m.ls th (ra.app rb) hp⟩
      | _ => cases eo
    | _ => cases op <;> cases eo
  | _ => cases e <;> cases op <;> cases eo

/-! ### comparisons -/
def rCmp (K : PySem.W.Frag) (op : Cop) : R2 := fun x y H Q => ∃ T d e k, Same T H ∧ Rp K T d x ∧ Rp K T e y ∧ cmpD op d e = some k ∧ Q (.bl k) H
def copOf : Cop → CmpOp
  | .eq => .Eq | .ne => .NotEq | .lt => .Lt | .le => .LtE | .gt => .Gt | .ge => .GtE | .isN => .Is | .notN => .IsNot | .inn => .In | .nin => .NotIn
def relOf : Rel → CmpOp
  | .lt => .Lt | .le => .LtE | .gt => .Gt | .ge => .GtE
theorem rc_int {A : Around} {s : Shared} (r : Rel) (i j : Int) (t u : Tok) : _root_.Ob.RcOp (relOf r) A s (.int i t) (.int j u) (relI r i j) := by
  cases r with
  | lt => exact _root_.Ob.RcOp.lt_int i j t u
  | le => exact _root_.Ob.RcOp.le_int i j t u
  | gt => exact _root_.Ob.RcOp.gt_int i j t u
  | ge => exact _root_.Ob.RcOp.ge_int i j t u
theorem rc_tuples {A : Around} {s : Shared} (r : Rel) {l b : Addr} {i1 i2 : Array Value} {e q : Nat → Bool} (hl : s.heap.IsTuple l i1) (hb : s.heap.IsTuple b i2) (hu : A.units < cLine)
    (he : ∀ j (h1 : j < i1.size) (h2 : j < i2.size), SeqAt.EqAt A.in1 s i1[j] i2[j] (e j))
    (hq : ∀ j (h1 : j < i1.size) (h2 : j < i2.size), e j = false → _root_.Ob.RcOp (relOf r) A.in1 s i1[j] i2[j] (q j)) :
    _root_.Ob.RcOp (relOf r) A s (.ref l) (.ref b) (_root_.Ob.lexAt e q (relN r i1.size i2.size) 0 (min i1.size i2.size)) := by
  have c : ∀ n m : Nat, relN .lt n m = decide (n < m) ∧ relN .le n m = decide (n ≤ m) ∧ relN .gt n m = decide (m < n) ∧ relN .ge n m = decide (m ≤ n) := fun n m => by
    refine ⟨?_, ?_, ?_, ?_⟩ <;> (show decide _ = decide _; apply decide_eq_decide.mpr; omega)
  cases r with
  | lt => rw [(c _ _).1]; exact _root_.Ob.RcOp.tuples_lt hl hb hu he hq
  | le => rw [(c _ _).2.1]; exact _root_.Ob.RcOp.tuples_le hl hb hu he hq
  | gt => rw [(c _ _).2.2.1]; exact _root_.Ob.RcOp.tuples_gt hl hb hu he hq
  | ge => rw [(c _ _).2.2.2]; exact _root_.Ob.RcOp.tuples_ge hl hb hu he hq

theorem lexAt_shift (e q : Nat → Bool) (z : Bool) : ∀ (k i : Nat), _root_.Ob.lexAt e q z (i + 1) k = _root_.Ob.lexAt (fun j => e (j + 1)) (fun j => q (j + 1)) z i k
  | 0, _ => rfl
  | k + 1, i => by
    rw [_root_.Ob.lexAt_succ, _root_.Ob.lexAt_succ, lexAt_shift e q z k (i + 1)]
abbrev atE (xs ys : List Dt) : Nat → Bool := fun j => PyData.eqv (xs.getD j .none) (ys.getD j .none)
abbrev atQ (r : Rel) (xs ys : List Dt) : Nat → Bool := fun j => (relD r (xs.getD j .none) (ys.getD j .none)).getD false
theorem relN_succ (r : Rel) (n m : Nat) : relN r (n + 1) (m + 1) = relN r n m := by
  cases r <;> (show decide _ = decide _; apply decide_eq_decide.mpr; omega)
theorem relDs_lex {r : Rel} : ∀ {xs ys : List Dt} {k : Bool}, relDs r xs ys = some k → _root_.Ob.lexAt (atE xs ys) (atQ r xs ys) (relN r xs.length ys.length) 0 (min xs.length ys.length) = k
  | [], ys, k, h => by
    have h : some (relN r 0 ys.length) = some k := by simpa [relDs] using h
    rw [List.length_nil, Nat.zero_min]
    exact Option.some.inj h
  | x :: xs, [], k, h => by
    have h : some (relN r (xs.length + 1) 0) = some k := by simpa [relDs] using h
    rw [List.length_nil, Nat.min_zero]
    exact Option.some.inj h
  | x :: xs, y :: ys, k, h => by
    rw [relDs] at h
    cases e : relDs r xs ys with
    | none => rw [e] at h; cases h
    | some t =>
      rw [e] at h
      have ih := relDs_lex e
      rw [List.length_cons, List.length_cons, relN_succ, Nat.succ_min_succ, _root_.Ob.lexAt_succ, lexAt_shift]
      have h : (if PyData.eqv x y = true then some t else relD r x y) = some k := h
      show (if PyData.eqv x y = true then _ else (relD r x y).getD false) = k
      by_cases q : PyData.eqv x y = true
      · rw [if_pos q] at h ⊢
        cases h
        exact ih
      · rw [if_neg q] at h ⊢
        rw [h]
        rfl
theorem relDs_all {r : Rel} : ∀ {xs ys : List Dt} {k : Bool}, relDs r xs ys = some k → ∀ (j : Nat) (x y : Dt), xs[j]? = some x → ys[j]? = some y → PyData.eqv x y = false → ∃ b, relD r x y = some b
  | [], ys, k, h, j, x, y, h1, _, _ => by simp at h1
  | x :: xs, [], k, h, j, _, _, _, h2, _ => by simp at h2
  | x :: xs, y :: ys, k, h, j, x', y', h1, h2, hq => by
    rw [relDs] at h
    cases e : relDs r xs ys with
    | none => rw [e] at h; cases h
    | some t =>
      rw [e] at h
      cases j with
      | zero =>
        obtain rfl : x = x' := by simpa using h1
        obtain rfl : y = y' := by simpa using h2
        have h : (if PyData.eqv x y = true then some t else relD r x y) = some k := h
        rw [if_neg (by rw [hq]; exact Bool.false_ne_true)] at h
        exact ⟨k, h⟩
      | succ j => exact relDs_all e j x' y' (by simpa using h1) (by simpa using h2) hq
theorem readsAll_at {h : Heap} : ∀ {us : List Value} {ds : List PyData} {as : List Addr} (j : Nat) (u : Value), ReadsAll h us ds as → us[j]? = some u → ∃ d bs, ds[j]? = some d ∧ Reads h u d bs
  | _, _, _, _, _, .nil, e => by simp at e
  | _, _, _, 0, u, .cons (d := d) r _, e => by
    rw [List.getElem?_cons_zero] at e
    cases e
    exact ⟨d, _, rfl, r⟩
  | _, _, _, j + 1, u, .cons _ t, e => by
    obtain ⟨d, bs, h1, h2⟩ := readsAll_at j u t (by simpa using e)
    exact ⟨d, bs, by simpa using h1, h2⟩
theorem canLay_at : ∀ {ds : List PyData} {j : Nat} {d : PyData}, PyData.canLayAll0 ds = true → ds[j]? = some d → d.canLay0 = true
  | [], _, _, _, e => by simp at e
  | x :: r, 0, d, h, e => by
    have e' : x = d := by simpa using e
    subst e'
    exact (Bool.and_eq_true_iff.mp (by simpa [PyData.canLayAll0] using h)).1
  | x :: r, j + 1, d, h, e => canLay_at (ds := r) (j := j) (by
    have h2 : (x.canLay0 && PyData.canLayAll0 r) = true := by simpa [PyData.canLayAll0] using h
    exact (Bool.and_eq_true_iff.mp h2).2) (by simpa using e)
theorem depth_at : ∀ {ds : List PyData} {j : Nat} {d : PyData}, ds[j]? = some d → d.depth ≤ PyData.depthAll ds
  | [], _, _, e => by simp at e
  | x :: r, 0, d, e => by
    have e' : x = d := by simpa using e
    subst e'
    simp only [PyData.depthAll]
    omega
  | x :: r, j + 1, d, e => by
    have := depth_at (ds := r) (j := j) (d := d) (by simpa using e)
    simp only [PyData.depthAll]
    omega
theorem rel_ok (r : Rel) : ∀ (n : Nat) (d e : Dt) (A : Around) (s : Shared) (a b : Value) (as bs : List Addr) (k : Bool), d.depth ≤ n → Reads s.heap a d as → Reads s.heap b e bs → d.canLay0 = true → e.canLay0 = true → A.units + d.depth < cLine → relD r d e = some k →
    _root_.Ob.RcOp (relOf r) A s a b k
  | n, .int i, .int j, A, s, a, b, as, bs, k, _, ra, rb, _, _, _, h => by
    rw [relD] at h
    cases h
    cases ra
    cases rb
    exact rc_int r _ _ _ _
  | n, .tuple xs, .tuple ys, A, s, a, b, as, bs, k, hn, ra, rb, ca, cb, hu, h => by
    rw [relD] at h
    cases ra with
    | @tuple _ oa va na _ _ ha hca hda hra =>
      cases rb with
      | @tuple _ ob vb nb _ _ hb hcb hdb hrb =>
        have l1 := SeqAt.ReadsAll.length xs _ _ hra
        have l2 := SeqAt.ReadsAll.length ys _ _ hrb
        have z1 : va.size = xs.length := by simpa using l1
        have z2 : vb.size = ys.length := by simpa using l2
        have cax : PyData.canLayAll0 xs = true := by simpa [PyData.canLay0] using ca
        have cay : PyData.canLayAll0 ys = true := by simpa [PyData.canLay0] using cb
        have hd : PyData.depthAll xs + 1 = PyData.depth (.tuple xs) := by simp only [PyData.depth] <;> omega
        have := rc_tuples (A := A) (s := s) r (e := atE xs ys) (q := atQ r xs ys) (i1 := va) (i2 := vb) ⟨_, ha, hca, _, hda⟩ ⟨_, hb, hcb, _, hdb⟩ (by omega) (fun j h1 h2 => ?_) (fun j h1 h2 hj => ?_)
        · rw [z1, z2, relDs_lex h] at this
          exact this
        · obtain ⟨x, cs, e1, r1⟩ := readsAll_at j va[j] hra (by simp [h1])
          obtain ⟨y, cs', e2, r2⟩ := readsAll_at j vb[j] hrb (by simp [h2])
          have q1 := depth_at e1
          have g1 : xs.getD j .none = x := by rw [List.getD_eq_getElem?_getD, e1]; rfl
          have g2 : ys.getD j .none = y := by rw [List.getD_eq_getElem?_getD, e2]; rfl
          show SeqAt.EqAt A.in1 s va[j] vb[j] (PyData.eqv (xs.getD j .none) (ys.getD j .none))
          rw [g1, g2]
          refine SeqAt.eqAt_reads x y A.in1 s _ _ _ _ r1 r2 (canLay_at cax e1) (canLay_at cay e2) ?_
          have : min x.depth y.depth ≤ x.depth := Nat.min_le_left _ _
          show A.units + 1 + min x.depth y.depth < cLine
          omega
        · obtain ⟨x, cs, e1, r1⟩ := readsAll_at j va[j] hra (by simp [h1])
          obtain ⟨y, cs', e2, r2⟩ := readsAll_at j vb[j] hrb (by simp [h2])
          have q1 := depth_at e1
          have g1 : xs.getD j .none = x := by rw [List.getD_eq_getElem?_getD, e1]; rfl
          have g2 : ys.getD j .none = y := by rw [List.getD_eq_getElem?_getD, e2]; rfl
          have hj : PyData.eqv (xs.getD j .none) (ys.getD j .none) = false := hj
          rw [g1, g2] at hj
          obtain ⟨b', hb'⟩ := relDs_all h j x y e1 e2 hj
          show _root_.Ob.RcOp (relOf r) A.in1 s va[j] vb[j] ((relD r (xs.getD j .none) (ys.getD j .none)).getD false)
          rw [g1, g2, hb']
          cases n with
          | zero => omega
          | succ n => exact rel_ok r n x y A.in1 s _ _ _ _ b' (by omega) r1 r2 (canLay_at cax e1) (canLay_at cay e2) (by show A.units + 1 + x.depth < cLine; omega) hb'
  | _, .int _, .none, _, _, _, _, _, _, _, _, _, _, _, _, _, h => by simp [relD] at h
  | _, .int _, .bool _, _, _, _, _, _, _, _, _, _, _, _, _, _, h => by simp [relD] at h
  | _, .int _, .str _, _, _, _, _, _, _, _, _, _, _, _, _, _, h => by simp [relD] at h
  | _, .int _, .list _, _, _, _, _, _, _, _, _, _, _, _, _, _, h => by simp [relD] at h
  | _, .int _, .tuple _, _, _, _, _, _, _, _, _, _, _, _, _, _, h => by simp [relD] at h
  | _, .int _, .dict _, _, _, _, _, _, _, _, _, _, _, _, _, _, h => by simp [relD] at h
  | _, .tuple _, .none, _, _, _, _, _, _, _, _, _, _, _, _, _, h => by simp [relD] at h
  | _, .tuple _, .bool _, _, _, _, _, _, _, _, _, _, _, _, _, _, h => by simp [relD] at h
  | _, .tuple _, .str _, _, _, _, _, _, _, _, _, _, _, _, _, _, h => by simp [relD] at h
  | _, .tuple _, .list _, _, _, _, _, _, _, _, _, _, _, _, _, _, h => by simp [relD] at h
  | _, .tuple _, .int _, _, _, _, _, _, _, _, _, _, _, _, _, _, h => by simp [relD] at h
  | _, .tuple _, .dict _, _, _, _, _, _, _, _, _, _, _, _, _, _, h => by simp [relD] at h
  | _, .none, _, _, _, _, _, _, _, _, _, _, _, _, _, _, h => by simp [relD] at h
  | _, .bool _, _, _, _, _, _, _, _, _, _, _, _, _, _, _, h => by simp [relD] at h
  | _, .str _, _, _, _, _, _, _, _, _, _, _, _, _, _, _, h => by simp [relD] at h
  | _, .list _, _, _, _, _, _, _, _, _, _, _, _, _, _, _, h => by simp [relD] at h
  | _, .dict _, _, _, _, _, _, _, _, _, _, _, _, _, _, _, h => by simp [relD] at h
end
end AM
/-! Ev4: comparisons, built-in functions, places of sequences, by values. -/
namespace AM
open PySem PySem.Spec PyProof.Rows L2
section
variable {X : Cx}
theorem op_rel {r : Rel} (hu : X.A.units + 66 < cLine) : OpR X (compareOp (relOf r)) (fun x y H Q => ∃ T d e k, Same T H ∧ Rp X.K T d x ∧ Rp X.K T e y ∧ relQ r d e = some k ∧ Q (.bl k) H) := by
  intro pins s σ H x y v u Q I rx ry h
  obtain ⟨T, d, e, k, th, hd, he, eq, q⟩ := h
  unfold relQ at eq
  by_cases c : SeqAt.shaped d = true ∧ SeqAt.shaped e = true
  · rw [if_pos c] at eq
    obtain ⟨as, r1⟩ := Dp.reads I d x v (hd.dp th) rx
    obtain ⟨bs, r2⟩ := Dp.reads I e y u (he.dp th) ry
    have hd64 := SeqAt.depth_of_shaped c.1
    have z := rel_ok r d.depth d e X.A s v u as bs k (Nat.le_refl _) r1 r2 (SeqAt.canLay_of_shaped c.1) (SeqAt.canLay_of_shaped c.2) (by omega) eq X.prog X.w X.xe (EP X pins σ Q) ⟨.bl k, H, I, rfl, q⟩
    cases r <;> exact z
  · rw [if_neg c] at eq; cases eq
theorem eqS_some {d e : Dt} {k : Bool} (h : eqS d e = some k) : SeqAt.shaped d = true ∧ SeqAt.shaped e = true ∧ PyData.eqv d e = k := by
  unfold eqS at h
  by_cases c : SeqAt.shaped d = true ∧ SeqAt.shaped e = true
  · rw [if_pos c] at h
    exact ⟨c.1, c.2, Option.some.inj h⟩
  · rw [if_neg c] at h; cases h
theorem eqD_some {d e : Dt} {k : Bool} (h : eqD d e = some k) : (∃ a b, d = .str a ∧ e = .str b ∧ (a == b) = k) ∨ (SeqAt.shaped d = true ∧ SeqAt.shaped e = true ∧ PyData.eqv d e = k) := by
  unfold eqD at h
  split at h
  · exact .inl ⟨_, _, rfl, rfl, Option.some.inj h⟩
  · exact .inr (eqS_some h)
theorem inD_some {d : Dt} {es : List Dt} {k : Bool} (h : inD d es = some k) : SeqAt.shaped d = true ∧ SeqAt.shaped (.list es) = true ∧ (es.any fun y => PyData.eqv y d) = k := by
  unfold inD at h
  by_cases c : SeqAt.shaped d = true ∧ SeqAt.shaped (.list es) = true
  · rw [if_pos c] at h
    exact ⟨c.1, c.2, Option.some.inj h⟩
  · rw [if_neg c] at h; cases h
theorem non_iff {K : PySem.W.Frag} {T : Hp} {d : Dt} {v : V} (h : Rp K T d v) : decide (v = .non) = isNo d := by
  cases d with
  | none => rw [show v = V.non from h]; rfl
  | bool b => rw [show v = V.bl b from h]; rfl
  | int i => rw [show v = V.int i from h]; rfl
  | str x => rw [show v = V.str x from h]; rfl
  | tuple ds => obtain ⟨a, vs, rfl, _⟩ := h; rfl
  | list ds => obtain ⟨a, vs, rfl, _⟩ := h; rfl
  | dict _ => exact h.elim
theorem op_cmp (op : Cop) (hu : X.A.units + 130 < cLine) : OpR X (compareOp (copOf op)) (rCmp X.K op) := by
  intro pins s σ H x y v u Q I rx ry h
  obtain ⟨T, d, e, k, th, hd, he, ek, q⟩ := h
  have inn : ∀ {xs : List Dt}, inD d xs = some k → (e = .tuple xs ∨ e = .list xs) → wpAny (model X.prog X.w) X.A (compareOp .In v u) (EP X pins σ Q) X.xe s := fun {xs} h hx => by
    obtain ⟨h1, h2, h3⟩ := inD_some h
    obtain ⟨as, r1⟩ := Dp.reads I d x v (hd.dp th) rx
    obtain ⟨bs, r2⟩ := Dp.reads I e y u (he.dp th) ry
    have c2 : PyData.canLayAll0 xs = true := by simpa [PyData.canLay0] using SeqAt.canLay_of_shaped h2
    have d1 := SeqAt.depth_of_shaped h1
    have m : min (PyData.depthAll xs) d.depth ≤ d.depth := Nat.min_le_right _ _
    have fin : EP X pins σ Q (.bool (xs.any fun y => PyData.eqv y d)) s := ⟨.bl _, H, I, rfl, by rw [h3]; exact q⟩
    rcases hx with rfl | rfl
    · exact SeqAt.in_tuple_reads r2 r1 c2 (SeqAt.canLay_of_shaped h1) (by omega) fin
    · exact SeqAt.in_list_reads r2 r1 c2 (SeqAt.canLay_of_shaped h1) (by omega) fin
  have nin : ∀ {xs : List Dt}, (inD d xs).map not = some k → (e = .tuple xs ∨ e = .list xs) → wpAny (model X.prog X.w) X.A (compareOp .NotIn v u) (EP X pins σ Q) X.xe s := fun {xs} h hx => by
    obtain ⟨m, h, hk⟩ := Option.map_eq_some_iff.mp h
    obtain ⟨h1, h2, h3⟩ := inD_some h
    obtain ⟨as, r1⟩ := Dp.reads I d x v (hd.dp th) rx
    obtain ⟨bs, r2⟩ := Dp.reads I e y u (he.dp th) ry
    have c2 : PyData.canLayAll0 xs = true := by simpa [PyData.canLay0] using SeqAt.canLay_of_shaped h2
    have d1 := SeqAt.depth_of_shaped h1
    have mm : min (PyData.depthAll xs) d.depth ≤ d.depth := Nat.min_le_right _ _
    have fin : EP X pins σ Q (.bool (!xs.any fun y => PyData.eqv y d)) s := ⟨.bl _, H, I, rfl, by rw [h3, hk]; exact q⟩
    rcases hx with rfl | rfl
    · exact SeqAt.notIn_tuple_reads r2 r1 c2 (SeqAt.canLay_of_shaped h1) (by omega) fin
    · exact SeqAt.notIn_list_reads r2 r1 c2 (SeqAt.canLay_of_shaped h1) (by omega) fin
  cases op with
  | eq =>
    rcases eqD_some ek with ⟨a, b, rfl, rfl, h3⟩ | ⟨h1, h2, h3⟩
    · rw [show x = V.str a from hd] at rx
      rw [show y = V.str b from he] at ry
      exact op_eq pins s σ H _ _ v u Q I rx ry ⟨rfl, by rw [dec_str, h3]; exact q⟩
    exact op_eqD (by omega) pins s σ H x y v u Q I rx ry ⟨d, e, hd.dp th, he.dp th, h1, h2, by rw [h3]; exact q⟩
  | ne =>
    obtain ⟨m, h, hk⟩ := Option.map_eq_some_iff.mp ek
    rcases eqD_some h with ⟨a, b, rfl, rfl, h3⟩ | ⟨h1, h2, h3⟩
    · rw [show x = V.str a from hd] at rx
      rw [show y = V.str b from he] at ry
      exact op_ne pins s σ H _ _ v u Q I rx ry ⟨rfl, by rw [dec_str, h3, hk]; exact q⟩
    exact op_neD (by omega) pins s σ H x y v u Q I rx ry ⟨d, e, hd.dp th, he.dp th, h1, h2, by rw [h3, hk]; exact q⟩
  | lt => exact op_rel (r := .lt) (by omega) pins s σ H x y v u Q I rx ry ⟨T, d, e, k, th, hd, he, ek, q⟩
  | le => exact op_rel (r := .le) (by omega) pins s σ H x y v u Q I rx ry ⟨T, d, e, k, th, hd, he, ek, q⟩
  | gt => exact op_rel (r := .gt) (by omega) pins s σ H x y v u Q I rx ry ⟨T, d, e, k, th, hd, he, ek, q⟩
  | ge => exact op_rel (r := .ge) (by omega) pins s σ H x y v u Q I rx ry ⟨T, d, e, k, th, hd, he, ek, q⟩
  | isN =>
    cases e with
    | none =>
      cases ek
      exact op_isN pins s σ H x y v u Q I rx ry ⟨he, by rw [non_iff hd]; exact q⟩
    | _ => cases ek
  | notN =>
    cases e with
    | none =>
      cases ek
      exact op_notN pins s σ H x y v u Q I rx ry ⟨he, by rw [non_iff hd]; exact q⟩
    | _ => cases ek
  | inn =>
    cases e with
    | tuple xs => exact inn ek (.inl rfl)
    | list xs => exact inn ek (.inr rfl)
    | _ => cases ek
  | nin =>
    cases e with
    | tuple xs => exact nin ek (.inl rfl)
    | list xs => exact nin ek (.inr rfl)
    | _ => cases ek

/-! ### isinstance -/
def tyName : Ty → String
  | .int => "int" | .bool => "bool" | .tuple => "tuple" | .str => "str"
def dtName : Dt → String
  | .none => "NoneType" | .bool _ => "bool" | .int _ => "int" | .str _ => "str" | .tuple _ => "tuple" | .list _ => "list" | .dict _ => "dict"
theorem isi_kit (K : PySem.W.Frag) (t : Ty) (d : Dt) (h : ∀ x, d ≠ .dict x) : PySem.W.kitOne K (.type (dtName d)) (.type (tyName t)) = some (isiD t d) := by
  refine kit_ty ?_
  cases d with
  | dict x => exact absurd rfl (h x)
  | none =>
    cases t with
    | int => exact (by decide +kernel : kitB "NoneType" "int" = some false)
    | bool => exact (by decide +kernel : kitB "NoneType" "bool" = some false)
    | tuple => exact (by decide +kernel : kitB "NoneType" "tuple" = some false)
    | str => exact (by decide +kernel : kitB "NoneType" "str" = some false)
  | bool b =>
    cases t with
    | int => exact (by decide +kernel : kitB "bool" "int" = some true)
    | bool => exact (by decide +kernel : kitB "bool" "bool" = some true)
    | tuple => exact (by decide +kernel : kitB "bool" "tuple" = some false)
    | str => exact (by decide +kernel : kitB "bool" "str" = some false)
  | int b =>
    cases t with
    | int => exact (by decide +kernel : kitB "int" "int" = some true)
    | bool => exact (by decide +kernel : kitB "int" "bool" = some false)
    | tuple => exact (by decide +kernel : kitB "int" "tuple" = some false)
    | str => exact (by decide +kernel : kitB "int" "str" = some false)
  | str b =>
    cases t with
    | int => exact (by decide +kernel : kitB "str" "int" = some false)
    | bool => exact (by decide +kernel : kitB "str" "bool" = some false)
    | tuple => exact (by decide +kernel : kitB "str" "tuple" = some false)
    | str => exact (by decide +kernel : kitB "str" "str" = some true)
  | tuple b =>
    cases t with
    | int => exact (by decide +kernel : kitB "tuple" "int" = some false)
    | bool => exact (by decide +kernel : kitB "tuple" "bool" = some false)
    | tuple => exact (by decide +kernel : kitB "tuple" "tuple" = some true)
    | str => exact (by decide +kernel : kitB "tuple" "str" = some false)
  | list b =>
    cases t with
    | int => exact (by decide +kernel : kitB "list" "int" = some false)
    | bool => exact (by decide +kernel : kitB "list" "bool" = some false)
    | tuple => exact (by decide +kernel : kitB "list" "tuple" = some false)
    | str => exact (by decide +kernel : kitB "list" "str" = some false)
theorem Rp.tyx {K : PySem.W.Frag} {T H : Hp} (th : Same T H) : ∀ {d : Dt} {v : V}, Rp K T d v → TyX K H v (.type (dtName d))
  | .none, _, h => by rw [show _ = V.non from h]; exact .base .non
  | .bool b, _, h => by rw [show _ = V.bl b from h]; exact .base (.bl b)
  | .int i, _, h => by rw [show _ = V.int i from h]; exact .base (.int i)
  | .str x, _, h => by rw [show _ = V.str x from h]; exact .base (.str x)
  | .dict _, _, h => h.elim
  | .tuple ds, _, ⟨a, vs, e, r, _⟩ => by
    rw [e]
    rcases same_T th r with (q | ⟨o, q⟩) | ⟨o, its, n, q, c, _⟩
    · exact .base (.tup q)
    · exact .fTuple q
    · exact .kTuple q c
  | .list ds, _, ⟨a, vs, e, r, _⟩ => by
    rw [e]
    rcases th.seq r with (q | ⟨o, q⟩) | ⟨o, its, n, q, c, _⟩
    · exact .base (.lst q)
    · exact .base (.frz q)
    · exact .kList q c
theorem Rp.nodict {K : PySem.W.Frag} {T : Hp} {d : Dt} {v : V} (h : Rp K T d v) : ∀ x, d ≠ .dict x := fun x e => by
  subst e
  exact h
theorem isi_ok {T H : Hp} {d : Dt} {v : V} {t : Ty} {Q : VK} (th : Same T H) (h : Rp X.K T d v) (q : Q (.bl (isiD t d)) H) : rIsi X.K [v, .ty (tyName t)] H Q :=
  ⟨v, .ty (tyName t), _, _, _, rfl, .ty _, h.tyx th, isi_kit X.K t d h.nodict, q⟩

/-! ### places -/
theorem atI_rp {K : PySem.W.Frag} {T : Hp} {ds : List Dt} {vs : List V} {i : Int} {x : Dt} (h : Rps K T ds vs) (e : atI ds i = some x) : ∃ v, atI vs i = some v ∧ Rp K T x v := by
  have l := h.len
  unfold atI at e ⊢
  rw [l]
  cases q : ixN ds.length i with
  | none => rw [q] at e; cases e
  | some j =>
    rw [q] at e
    exact h.get e
def rSub (K : PySem.W.Frag) : R2 := fun x y H Q => ∃ T d e z, Same T H ∧ Rp K T d x ∧ Rp K T e y ∧ subD d e = some z ∧ ∀ v, Rp K T z v → Q v H
theorem ix_sub : IxR X (rSub X.K) := by
  intro value slice pins s σ H x y v u Q I rx ry h hs
  obtain ⟨T, d, e, z, th, hd, he, ez, q⟩ := h
  cases d with
  | tuple xs =>
    cases e with
    | int i =>
      obtain ⟨a, vs, rfl, sa, ra⟩ := hd
      obtain ⟨w, e1, e2⟩ := atI_rp ra ez
      exact ix_tup value slice pins s σ H _ _ v u Q I rx ry ⟨a, vs, i, w, rfl, int_of he, same_T th sa, e1, q w e2⟩ hs
    | _ => cases ez
  | list xs =>
    cases e with
    | int i =>
      obtain ⟨a, vs, rfl, sa, ra⟩ := hd
      obtain ⟨w, e1, e2⟩ := atI_rp ra ez
      exact ix_list value slice pins s σ H _ _ v u Q I rx ry ⟨a, vs, i, w, rfl, int_of he, th.seq sa, e1, q w e2⟩ hs
    | _ => cases ez
  | _ => cases e <;> cases ez
/-! ### slices -/
def rSlc (K : PySem.W.Frag) : V → Option Int → Option Int → Hp → VK → Prop := fun x lo hi H Q => ∃ T d o, Same T H ∧ Rp K T d x ∧ slcD d lo hi = some o ∧ Mk K T H o Q
theorem Rps.cut {K : PySem.W.Frag} {T : Hp} : ∀ {ds : List Dt} {vs : List V} (n m : Nat), Rps K T ds vs → Rps K T ((ds.drop n).take m) ((vs.drop n).take m)
  | [], _, n, m, h => by
    rw [show _ = [] from h]
    simp
    rfl
  | d :: ds, _, 0, 0, ⟨v, r, e1, e2, e3⟩ => by
    simp
    rfl
  | d :: ds, _, 0, m + 1, ⟨v, r, e1, e2, e3⟩ => by
    rw [e1]
    have := Rps.cut 0 m e3
    rw [List.drop_zero, List.drop_zero] at this
    rw [List.drop_zero, List.drop_zero, List.take_succ_cons, List.take_succ_cons]
    exact ⟨v, _, rfl, e2, this⟩
  | d :: ds, _, n + 1, m, ⟨v, r, e1, e2, e3⟩ => by
    rw [e1, List.drop_succ_cons, List.drop_succ_cons]
    exact Rps.cut n m e3
theorem sl_slc : SlR X (rSlc X.K) := by
  intro pins s σ H x v vl vu lo hi sl Q I rx hs pl pu h
  obtain ⟨T, d, o, th, hd, eo, m⟩ := h
  cases d with
  | tuple xs =>
    cases eo
    obtain ⟨a, vs, rfl, sa, ra⟩ := hd
    have l := ra.len
    have rc : Rps X.K T (cutD xs lo hi) (cutV vs lo hi) := by
      unfold cutD cutV
      rw [l]
      exact ra.cut _ _
    refine sl_tupA pins s σ H _ v vl vu lo hi sl Q I rx hs pl pu ⟨a, vs, rfl, same_T th sa, fun c => ?_, fun _ p hp => m.tup th rc hp⟩
    have e : cutD xs lo hi = xs := by
      unfold cutD
      rw [← l, c.1, c.2, List.drop_zero, l, Nat.sub_zero, List.take_length]
    rw [e] at m
    exact m.pure th ⟨a, vs, rfl, sa, ra⟩
  | list xs =>
    cases eo
    obtain ⟨a, vs, rfl, sa, ra⟩ := hd
    have l := ra.len
    have rc : Rps X.K T (cutD xs lo hi) (cutV vs lo hi) := by
      unfold cutD cutV
      rw [l]
      exact ra.cut _ _
    exact sl_list pins s σ H _ v vl vu lo hi sl Q I rx hs pl pu ⟨a, vs, rfl, th.seq sa, fun p hp => m.ls th rc hp⟩
  | _ => cases eo
/-! ### built-in functions of one argument -/
def rBi (K : PySem.W.Frag) (b : Bi) : List V → Hp → VK → Prop := fun xs H Q => ∃ T d o x, xs = [x] ∧ Same T H ∧ Rp K T d x ∧ biD b d = some o ∧ Mk K T H o Q
theorem call_len_bi : CallR X (.builtin "len") (rBi X.K .len) := by
  intro pins s σ H xs us Q I r h
  obtain ⟨T, d, o, x, rfl, th, hd, eo, m⟩ := h
  have eo : (lenD d).map (fun n => Ob.d (.int n)) = some o := eo
  obtain ⟨n, e, rfl⟩ := Option.map_eq_some_iff.mp eo
  cases d with
  | tuple ds =>
    cases e
    obtain ⟨a, vs, rfl, sa, ra⟩ := hd
    refine call_len_seq pins s σ H _ us Q I r ⟨a, vs, rfl, .inr (same_T th sa), ?_⟩
    rw [ra.len]
    exact m.pure th rfl
  | list ds =>
    cases e
    obtain ⟨a, vs, rfl, sa, ra⟩ := hd
    refine call_len_seq pins s σ H _ us Q I r ⟨a, vs, rfl, .inl (th.seq sa), ?_⟩
    rw [ra.len]
    exact m.pure th rfl
  | _ => cases e
theorem call_tuple_bi : CallR X (.type "tuple") (rBi X.K .tuple) := by
  intro pins s σ H xs us Q I r h
  obtain ⟨T, d, o, x, rfl, th, hd, eo, m⟩ := h
  cases d with
  | tuple ds =>
    cases eo
    obtain ⟨a, vs, rfl, sa, ra⟩ := hd
    exact call_tuple_of pins s σ H _ us Q I r ⟨a, vs, rfl, .inr ⟨same_T th sa, m.pure th ⟨a, vs, rfl, sa, ra⟩⟩⟩
  | list ds =>
    cases eo
    obtain ⟨a, vs, rfl, sa, ra⟩ := hd
    exact call_tuple_of pins s σ H _ us Q I r ⟨a, vs, rfl, .inl ⟨th.seq sa, fun p hp => m.tup th ra hp⟩⟩
  | _ => cases eo
theorem call_list_bi : CallR X (.type "list") (rBi X.K .list) := by
  intro pins s σ H xs us Q I r h
  obtain ⟨T, d, o, x, rfl, th, hd, eo, m⟩ := h
  cases d with
  | tuple ds =>
    cases eo
    obtain ⟨a, vs, rfl, sa, ra⟩ := hd
    exact call_list_of pins s σ H _ us Q I r ⟨a, vs, rfl, .inr (same_T th sa), fun p hp => m.ls th ra hp⟩
  | list ds =>
    cases eo
    obtain ⟨a, vs, rfl, sa, ra⟩ := hd
    exact call_list_of pins s σ H _ us Q I r ⟨a, vs, rfl, .inl (th.seq sa), fun p hp => m.ls th ra hp⟩
  | _ => cases eo
theorem call_int_bi : CallR X (.type "int") (rBi X.K .int) := by
  intro pins s σ H xs us Q I r h
  obtain ⟨T, d, o, x, rfl, th, hd, eo, m⟩ := h
  cases d with
  | int i =>
    cases eo
    have e : x = .int i := hd
    subst e
    exact call_int1 pins s σ H _ us Q I r (.inl ⟨i, rfl, m.pure th rfl⟩)
  | _ => cases eo
end
end AM
/-! Ev5: slots read, stored, frozen, written; expressions. -/
namespace AM
open PySem PySem.Spec PyProof.Rows L2

def upF (F : Foot) (i : Nat) (f : List Addr) : Foot := fun j => if j = i then f else F j
theorem upF_same {F : Foot} {i : Nat} {f : List Addr} : upF F i f i = f := if_pos rfl
theorem upF_ne {F : Foot} {i j : Nat} {f : List Addr} (h : j ≠ i) : upF F i f j = F j := if_neg h
theorem in_upF {F : Foot} {i : Nat} {f : List Addr} {a : Addr} (h : InF (upF F i f) a) : InF F a ∨ a ∈ f := by
  obtain ⟨j, hj⟩ := h
  by_cases e : j = i
  · subst e; rw [upF_same] at hj; exact .inr hj
  · rw [upF_ne e] at hj; exact .inl ⟨j, hj⟩
theorem get_some {ρ : Env} {i : Nat} {o : Ob} (h : get ρ i = some o) : ρ[i]? = some (some o) := by
  unfold get at h
  split at h
  · rename_i o' e
    cases h
    exact e
  · cases h
theorem get_of {ρ : Env} {i : Nat} {o : Ob} (h : ρ[i]? = some (some o)) : get ρ i = some o := by
  unfold get
  rw [h]
section
variable {K : PySem.W.Frag} {pv : List (Nat × V)} {T H T' H' : Hp} {σ : L2.St} {ρ : Env} {F : Foot} {i : Nat} {o o' : Ob} {v : V} {f : List Addr}
/-- storing an object at hand -/
theorem Good.store (g : Good K pv T H σ ρ F) (t : Tmp K T H F o v f) (hi : i < ρ.length) (hp : ∀ p ∈ pv, p.1 ≠ i) : Good K pv T H (σ.set i (some v)) (ρ.set i (some o)) (upF F i f) := by
  have hl := g.len
  refine ⟨by rw [List.length_set, List.length_set]; exact hl, fun j u e => ?_, fun j n => ?_, fun j => ?_, fun j k a hj hk => ?_, fun a ha => ?_, g.same, fun p hq => ?_⟩
  · by_cases hj : j = i
    · subst hj
      rw [List.getElem?_set_self hi] at e
      cases e
      refine ⟨v, by rw [List.getElem?_set_self (by omega)], ?_⟩
      rw [upF_same]
      exact t.ro
    · rw [List.getElem?_set_ne (Ne.symm hj)] at e
      rw [List.getElem?_set_ne (Ne.symm hj), upF_ne hj]
      exact g.slot j u e
  · by_cases hj : j = i
    · subst hj
      exact absurd (by rw [List.getElem?_set_self hi]) (n o)
    · rw [upF_ne hj]
      exact g.none_ j fun u e => n u (by rw [List.getElem?_set_ne (Ne.symm hj)]; exact e)
  · by_cases hj : j = i
    · subst hj; rw [upF_same]; exact t.nd
    · rw [upF_ne hj]; exact g.nd j
  · by_cases h1 : j = i
    · subst h1
      rw [upF_same] at hj
      by_cases h2 : k = j
      · exact h2.symm
      · rw [upF_ne h2] at hk
        exact absurd ⟨k, hk⟩ (t.off a hj)
    · rw [upF_ne h1] at hj
      by_cases h2 : k = i
      · subst h2
        rw [upF_same] at hk
        exact absurd ⟨j, hj⟩ (t.off a hk)
      · rw [upF_ne h2] at hk
        exact g.apart j k a hj hk
  · rcases in_upF ha with h | h
    · exact g.tn a h
    · exact t.tn a h
  · rw [List.getElem?_set_ne (Ne.symm (hp p hq))]
    exact g.pins p hq
/-- a slot's object has changed in the heap -/
theorem Good.write (g : Good K pv T H σ ρ F) (e0 : ρ[i]? = some (some o)) (ev : σ[i]? = some (some v)) (r : RO K T H' o' v f) (nd : f.Nodup) (tn : ∀ a ∈ f, T a = none) (ap : ∀ a ∈ f, a ∈ F i ∨ H a = none)
    (hk : ∀ a u, a ∉ F i → H a = some u → H' a = some u) (th : Same T H') : Good K pv T H' σ (ρ.set i (some o')) (upF F i f) := by
  have hl := g.len
  have hi : i < ρ.length := (List.getElem?_eq_some_iff.mp e0).1
  have off : ∀ a ∈ f, ∀ j, j ≠ i → a ∉ F j := fun a ha j hj q => by
    rcases ap a ha with z | z
    · exact hj (g.apart j i a q z)
    · exact g.in_there ⟨j, q⟩ z
  refine ⟨by rw [List.length_set]; exact hl, fun j u e => ?_, fun j n => ?_, fun j => ?_, fun j k a hj hk => ?_, fun a ha => ?_, th, g.pins⟩
  · by_cases hj : j = i
    · subst hj
      rw [List.getElem?_set_self hi] at e
      cases e
      rw [upF_same]
      exact ⟨v, ev, r⟩
    · rw [List.getElem?_set_ne (Ne.symm hj)] at e
      rw [upF_ne hj]
      obtain ⟨w, e1, r1⟩ := g.slot j u e
      exact ⟨w, e1, RO.mono (Same.refl T) r1 fun a ha u q => hk a u (fun z => hj (g.apart j i a ha z)) q⟩
  · by_cases hj : j = i
    · subst hj
      exact absurd (by rw [List.getElem?_set_self hi]) (n o')
    · rw [upF_ne hj]
      exact g.none_ j fun u e => n u (by rw [List.getElem?_set_ne (Ne.symm hj)]; exact e)
  · by_cases hj : j = i
    · subst hj; rw [upF_same]; exact nd
    · rw [upF_ne hj]; exact g.nd j
  · by_cases h1 : j = i
    · subst h1
      rw [upF_same] at hj
      by_cases h2 : k = j
      · exact h2.symm
      · rw [upF_ne h2] at hk
        exact absurd hk (off a hj k h2)
    · rw [upF_ne h1] at hj
      by_cases h2 : k = i
      · subst h2
        rw [upF_same] at hk
        exact absurd hj (off a hk j h1)
      · rw [upF_ne h2] at hk
        exact g.apart j k a hj hk
  · rcases in_upF ha with h | h
    · exact g.tn a h
    · exact tn a h
/-- a slot's content is plain data from now on -/
theorem Good.use {x : Dt} {ρ' : Env} (g : Good K pv T H σ ρ F) (e : use ρ i = some (x, ρ')) :
    ∃ T' F' v, Good K pv T' H σ ρ' F' ∧ σ[i]? = some (some v) ∧ Rp K T' x v ∧ Stp T H (InF F) T' H (InF F') := by
  unfold AM.use at e
  cases q : get ρ i with
  | none => rw [q] at e; cases e
  | some o =>
    rw [q] at e
    have e0 := get_some q
    obtain ⟨v, ev, r⟩ := g.slot i o e0
    have fz : ∀ y, frz o = some y → (∀ z, o ≠ .d z) → some (y, ρ.set i (some (.d y))) = some (x, ρ') → ∃ T' F' v, Good K pv T' H σ ρ' F' ∧ σ[i]? = some (some v) ∧ Rp K T' x v ∧ Stp T H (InF F) T' H (InF F') := fun y fy _ ee => by
      cases ee
      have ts : Same T (ovr T H (F i)) := fun b u q => by
        by_cases hb : b ∈ F i
        · rw [g.tn b ⟨i, hb⟩] at q; cases q
        · rw [ovr_out hb]; exact q
      have th : Same (ovr T H (F i)) H := fun b u q => by
        by_cases hb : b ∈ F i
        · rw [ovr_in hb] at q; exact q
        · rw [ovr_out hb] at q; exact g.same b u q
      have rp : Rp K (ovr T H (F i)) x v := RO.frz ts r fy fun a ha u q => by rw [ovr_in ha]; exact q
      have hi : i < ρ.length := (List.getElem?_eq_some_iff.mp e0).1
      refine ⟨ovr T H (F i), upF F i [], v, ⟨by rw [List.length_set]; exact g.len, fun j u e => ?_, fun j n => ?_, fun j => ?_, fun j k a hj hk => ?_, fun a ha => ?_, th, g.pins⟩, ev, rp, ⟨ts, fun a o e _ => e, fun a ha => ?_, fun a ha => ?_⟩⟩
      · by_cases hj : j = i
        · subst hj
          rw [List.getElem?_set_self hi] at e
          cases e
          exact ⟨v, ev, upF_same, rp⟩
        · rw [List.getElem?_set_ne (Ne.symm hj)] at e
          rw [upF_ne hj]
          obtain ⟨w, e1, r1⟩ := g.slot j u e
          exact ⟨w, e1, RO.mono ts r1 fun a _ u q => q⟩
      · by_cases hj : j = i
        · subst hj; exact upF_same
        · rw [upF_ne hj]
          exact g.none_ j fun u e => n u (by rw [List.getElem?_set_ne (Ne.symm hj)]; exact e)
      · by_cases hj : j = i
        · subst hj; rw [upF_same]; exact .nil
        · rw [upF_ne hj]; exact g.nd j
      · by_cases h1 : j = i
        · subst h1; rw [upF_same] at hj; cases hj
        · by_cases h2 : k = i
          · subst h2; rw [upF_same] at hk; cases hk
          · rw [upF_ne h1] at hj
            rw [upF_ne h2] at hk
            exact g.apart j k a hj hk
      · obtain ⟨j, hj⟩ := ha
        by_cases h1 : j = i
        · subst h1; rw [upF_same] at hj; cases hj
        · rw [upF_ne h1] at hj
          rw [ovr_out fun z => h1 (g.apart j i a hj z)]
          exact g.tn a ⟨j, hj⟩
      · rcases in_upF ha with h | h
        · exact .inl h
        · cases h
      · by_cases hb : a ∈ F i
        · exact .inr (.inl ⟨i, hb⟩)
        · rw [ovr_out hb] at ha; exact .inl ha
    cases o with
    | d y =>
      cases e
      obtain ⟨e1, r⟩ := r
      exact ⟨T, F, v, g, ev, r, .refl⟩
    | lst os =>
      obtain ⟨y, e1, e2⟩ := Option.map_eq_some_iff.mp (show (frz (.lst os)).map (fun x => (x, ρ.set i (some (.d x)))) = some (x, ρ') from e)
      exact fz y e1 (fun z => by simp) (by rw [e2])
    | dct ks os =>
      obtain ⟨y, e1, e2⟩ := Option.map_eq_some_iff.mp (show (frz (.dct ks os)).map (fun x => (x, ρ.set i (some (.d x)))) = some (x, ρ') from e)
      exact fz y e1 (fun z => by simp) (by rw [e2])
end

/-! ### what a body stands in -/
structure Gx where
  pv : List (Nat × V)
  XQ : Nat → List Dt → Hp → Hp → Foot → Prop
  up : ∀ {c ds T H F T1 H1 F1}, XQ c ds T H F → Stp T H (InF F) T1 H1 (InF F1) → XQ c ds T1 H1 F1
abbrev Gx.at (g : Gx) (K : PySem.W.Frag) : Gm := ⟨K, g.pv, g.XQ, g.up⟩
abbrev Gx.pn (g : Gx) : List Nat := g.pv.map (·.1)
abbrev Gx.nox (g : Gx) : Gx := ⟨g.pv, fun _ _ _ _ _ => False, fun h _ => h⟩
/-- what a def promises, by what its term comes to -/
def spF (K : PySem.W.Frag) (R : Fns) (f np : Nat) : Sp := fun vs H Q _ => vs.length = np ∧ ∃ (T : Hp) (os : List Ob) (P : Foot), Good K [] T H (vs.map some) (os.map some) P ∧
  match R.run f os with
  | .ok p => ∀ (T' H' : Hp) (v : V) (f' : List Addr) (fo : Foot), Same T' H' → RO K T' H' p.1 v f' → f'.Nodup → (∀ q o, p.2.lookup q = some o → ∃ w, vs[q]? = some w ∧ RO K T' H' o w (fo q)) →
      (∀ q, (fo q).Nodup) → (∀ q r a, a ∈ fo q → a ∈ fo r → q = r) → (∀ a ∈ f', ¬ InF fo a) → (∀ a, a ∈ f' ∨ InF fo a → T' a = none) → Stp T H (InF P) T' H' (fun a => a ∈ f' ∨ InF fo a) → Q v H'
  | _ => False
/-- a def keeps its promise wherever nothing is being shown as a text -/
structure FnG (P : Program) (w : World) (K : PySem.W.Frag) (mg : Str → Option Value) (base : Heap) (CX : CXT) (k : Nat) (f : Addr) (fd : FuncData) (ps : List Str) (sp : Sp) : Prop where
  len : ∀ vs H Q E, sp vs H Q E → vs.length = ps.length
  run : ∀ (A : Around) (outer : List PySem.Env) (s : Shared) (H : Hp) (args : Args) (us : List Value) (vs : List V) (Q : VK) (E : XK), A.guards = some [] → Room k A → Env0 P w K mg base A outer s H →
    BindsTo s fd args (ps.zip us) → Vals vs us → sp vs H Q E → codeAny (model P w) A (.call (.ref f) args) (CR CX outer P w H s Q E) s
theorem FnG.mono {P : Program} {w : World} {K : PySem.W.Frag} {mg : Str → Option Value} {base : Heap} {CX : CXT} {j k : Nat} {f : Addr} {fd : FuncData} {ps : List Str} {sp : Sp} (F : FnG P w K mg base CX j f fd ps sp) (h : j ≤ k) :
    FnG P w K mg base CX k f fd ps sp := ⟨F.len, fun A outer s H args us vs Q E hg hr => F.run A outer s H args us vs Q E hg (hr.mono h)⟩
section
variable {X : Cx} {CX : CXT} {k : Nat} {f : Addr} {fd : FuncData} {ps : List Str} {sp : Sp} {E : XK} {x : Str} {p pos : Pos} {e : Expr} {es : List Expr} {t : TA}
theorem run_g {pins : List (Addr × Obj)} {σ : L2.St} {H : Hp} {s : Shared} {Q : VK} {us : List Value} {vs : List V} (F : FnG X.prog X.w X.K X.mg X.base CX k f fd ps sp) (hr : Room k X.A) (gu : X.A.guards = some []) (hb : Binds X.K fd ps []) (hx : Passes CX X E)
    (I : Inv X pins σ H s) (r : Vals vs us) (h : sp vs H Q E) : wpAny (model X.prog X.w) X.A (call (.ref f) us) (EP X pins σ Q) X.xe s := by
  have hl : (us ++ ([] : List Value)).length = ps.length := by
    rw [List.append_nil, ← r.length]
    exact F.len _ _ _ _ h
  have bt := hb s us I.kIn hl
  rw [List.append_nil] at bt
  have go := F.run X.A X.stack s H ⟨us, []⟩ us vs Q E gu hr I.env0 bt r h
  refine wpAny_call (codeAny_mono go fun res s' hq => ?_)
  match res, hq with
  | .error e, hq => exact hx pins σ H s e s' I hq
  | .ok (.ret u), hq => exact I.after hq
  | .ok .next, hq => exact hq.elim
  | .ok .brk, hq => exact hq.elim
  | .ok .cont, hq => exact hq.elim
theorem pe_callG (F : FnG X.prog X.w X.K X.mg X.base CX k f fd ps sp) (hr : Room k X.A) (gu : X.A.guards = some []) (hg : Gl X x) (hm : X.mg x = some (.ref f)) (hk : PySem.W.keepIn X.K (.ref f) = true) (hb : Binds X.K fd ps []) (hx : Passes CX X E)
    (ha : PA X (e :: es) t) (hdb : (x == ("__debug__" : Str)) = false) (he : starEach (e :: es) X.env = (false, eval e X.env) :: starEach es X.env) (hpl : (backTo pos (starEach es X.env)).any (·.1) = false) :
    PE X (.Call (.Name x p) (e :: es) [] pos) (fun σ H Q => t σ H fun vs H1 => sp vs H1 Q E) := by
  refine ⟨fun pins s σ H Q I h => wpAny_Call_Name_kw (ld_glob I hg hm ?_ hdb)⟩
  refine PySem.W.callWith_K (h₀ := X.base) I.ok.mod.kin hk (thn (ha.run pos pins s σ H _ I h) fun us s1 ⟨vs, H1, I1, r, q⟩ => ?_) he hpl
  exact ⟨I1.kIn, run_g F hr gu hb hx I1 r q⟩
theorem pe_callG0 (F : FnG X.prog X.w X.K X.mg X.base CX k f fd ps sp) (hr : Room k X.A) (gu : X.A.guards = some []) (hg : Gl X x) (hm : X.mg x = some (.ref f)) (hk : PySem.W.keepIn X.K (.ref f) = true) (hb : Binds X.K fd ps []) (hx : Passes CX X E)
    (hdb : (x == ("__debug__" : Str)) = false) : PE X (.Call (.Name x p) [] [] pos) (fun σ H Q => sp [] H Q E) := by
  refine ⟨fun pins s σ H Q I h => wpAny_Call_Name_kw (ld_glob I hg hm ?_ hdb)⟩
  exact PySem.W.callWith_K0 I.kIn hk (run_g (us := []) F hr gu hb hx I .nil h)
end
/-- the def number f may be called as x -/
structure Called (X : Cx) (R : Fns) (f : Nat) (x : Str) : Prop where
  ex : ∃ (a : Addr) (fd : FuncData) (ps : List Str) (np k : Nat), FnG X.prog X.w X.K X.mg X.base CX0 k a fd ps (spF X.K R f np) ∧ Room k X.A ∧ X.mg x = some (.ref a) ∧ PySem.W.keepIn X.K (.ref a) = true ∧ Binds X.K fd ps [] ∧ ps.length = np ∧ ∀ os p, R.run f os = .ok p → os.length = np
/-- names of the module's top: those it leaves to the built-in ones, those of plain data, those of tables with texts as keys -/
structure Frs where
  ns : List Str
  gl : List (Str × Dt)
  tb : List (Str × List (Str × Dt))
def Frs.has (F : Frs) (x : Str) : Prop := x ∈ F.ns
instance : Membership Str Frs := ⟨fun F x => F.has x⟩
/-- a value of the top is this data, whatever the heap -/
def Tops (K : PySem.W.Frag) (d : Dt) (u : Value) : Prop := ∃ v, RelV v u ∧ ∀ T : Hp, Rp K T d v
structure FrOk (K : PySem.W.Frag) (w : World) (mg : Str → Option Value) (F : Frs) : Prop where
  free : ∀ x ∈ F, mg x = none
  glob : ∀ p ∈ F.gl, ∃ u, mg p.1 = some u ∧ Tops K p.2 u
  tab : ∀ p ∈ F.tb, ∃ d es n, mg p.1 = some (.ref d) ∧ KDict K w d es n ∧ ∀ q ∈ p.2, ∃ u, PySem.W.nsIn K d q.1 = some (some u) ∧ Tops K q.2 u
/-- a block's scope, and the names whose cells are made at its entry -/
structure Bs where
  sc : Scope
  fn : Str → Bool
/-- a body of a def, or a block in it, with its names N, its scope sc; fs: the defs it may call, fr: the built-in names it may use -/
structure At (R : Fns) (fs : List (Nat × Str)) (fr : Frs) (N : List Str) (sc : Bs) (X : Cx) : Prop where
  nd : X.N.Nodup
  hN : X.N = N
  hsc : X.env.scope = sc.sc
  calm : X.calm = true
  room : X.A.units + 140 < cLine
  gu : X.A.guards = some []
  fnok : ∀ x, sc.fn x = true → X.fn x = true
  po : PassesOwn (model X.prog X.w) X.A X.env X.xe
  fro : FrOk X.K X.w X.mg fr
  call : ∀ p ∈ fs, Called X R p.1 p.2
theorem At.free {R : Fns} {fs : List (Nat × Str)} {fr : Frs} {N : List Str} {sc : Bs} {X : Cx} (A : At R fs fr N sc X) : ∀ x ∈ fr, X.mg x = none := A.fro.free
/-- the expression comes to what the term says -/
def CE (R : Fns) (fs : List (Nat × Str)) (fr : Frs) (N : List Str) (sc : Bs) (g : Gx) (e : Expr) (c : Env → Res (Ob × Env)) : Prop := ∀ X : Cx, At R fs fr N sc X → PE X e (rd (g.at X.K) c)
def CT (R : Fns) (fs : List (Nat × Str)) (fr : Frs) (N : List Str) (sc : Bs) (g : Gx) (e : Expr) (c : Env → Res (Bool × Env)) : Prop := ∀ X : Cx, At R fs fr N sc X → PT X e (rdT (g.at X.K) c)

section
variable {R : Fns} {fs : List (Nat × Str)} {fr : Frs} {N : List Str} {sc : Bs} {g : Gx} {a b c e : Expr} {xa xb xc xe : Ex} {pos p1 p2 p3 : Pos} {i : Nat} {x : Str}
theorem ce_var (hN : N[i]? = some x) (hv : Vis sc.sc x) (hd : (x == ("__debug__" : Str)) = false := by decide) (hcd : (x == ("__classdict__" : Str)) = false := by decide) : CE R fs fr N sc g (.Name x pos) (ev R g.pn (.var i)) := fun X A => by
  refine (pe_var (by rw [A.hN]; exact hN) (by rw [A.hsc]; exact hv) hd hcd).of fun σ H Q h => ?_
  obtain ⟨T, ρ, F, gd, h⟩ := h
  rw [ev] at h
  obtain ⟨p, e1, h⟩ := h.ofb
  obtain ⟨T', F', v, g', ev', r, s⟩ := gd.use e1
  exact ⟨v, ev', h T' H F' v [] g' (.plain r) (s.post fun a h => h.elim id fun z => nomatch z)⟩
theorem After.pure {G : Gm} {σ : L2.St} {T H : Hp} {F : Foot} {Q : VK} {d : Dt} {ρ : Env} {v : V} (h : After G σ T H F Q (.d d, ρ)) (g : Gd G T H σ ρ F) (r : Rp G.K T d v) : Q v H :=
  h T H F v [] g (.plain r) (Stp.refl.post fun a h => h.elim id fun z => nomatch z)
theorem ce_cst {d : Dt} {v : V} (h : ∀ X : Cx, PE X e (tC v)) (r : ∀ K T, Rp K T d v) : CE R fs fr N sc g e (ev R g.pn (.cst d)) := fun X A => by
  refine (h X).of fun σ H Q q => ?_
  obtain ⟨T, ρ, F, gd, q⟩ := q
  exact After.pure (show After _ σ T H F Q (.d d, ρ) from q) gd (r _ _)
theorem ce_int {k : Int} {j : Nat} : CE R fs fr N sc g (.Constant (.int k) j pos) (ev R g.pn (.cst (.int k))) := ce_cst (fun _ => pe_int) fun _ _ => rfl
theorem ce_bool {k : Bool} {j : Nat} : CE R fs fr N sc g (.Constant (.bool k) j pos) (ev R g.pn (.cst (.bool k))) := ce_cst (fun _ => pe_bl) fun _ _ => rfl
theorem ce_str {k : Str} {j : Nat} : CE R fs fr N sc g (.Constant (.str k) j pos) (ev R g.pn (.cst (.str k))) := ce_cst (fun _ => pe_str) fun _ _ => rfl
theorem ce_none {j : Nat} : CE R fs fr N sc g (.Constant .none j pos) (ev R g.pn (.cst .none)) := ce_cst (fun _ => pe_non) fun _ _ => rfl
/-- two operands as plain data, one behind the other -/
theorem two {G : Gm} {σ : L2.St} {H : Hp} {f1 f2 : Env → Res (Ob × Env)} {T : Hp} {ρ : Env} {F : Foot} {P : V → V → Hp → Prop} {k : Dt → Dt → Env → Prop} (gd : Gd G T H σ ρ F)
    (h : Out G T H F (f1 ρ).toD fun p => Out G T H F (f2 p.2).toD fun q => k p.1 q.1 q.2)
    (hk : ∀ (d1 d2 : Dt) (ρ2 : Env) (T2 H2 : Hp) (F2 : Foot) (v1 v2 : V), Gd G T2 H2 σ ρ2 F2 → Rp G.K T2 d1 v1 → Rp G.K T2 d2 v2 → Stp T H (InF F) T2 H2 (InF F2) → k d1 d2 ρ2 → P v1 v2 H2) :
    rdD G (fun ρ => (f1 ρ).toD) σ H fun v1 H1 => rdD G (fun ρ => (f2 ρ).toD) σ H1 fun v2 H2 => P v1 v2 H2 := by
  refine ⟨T, ρ, F, gd, h.imp fun p hp => ?_⟩
  intro T1 H1 F1 v1 g1 r1 s1
  refine ⟨T1, p.2, F1, g1, hp.go s1 fun q hq => ?_⟩
  intro T2 H2 F2 v2 g2 r2 s2
  exact hk p.1 q.1 q.2 T2 H2 F2 v1 v2 g2 (r1.up s2) r2 ((s1.trans s2 fun _ h => h).post fun _ h => .inl h) hq
theorem ce_bin {op : Bop} (ha : CE R fs fr N sc g a (ev R g.pn xa)) (hb : CE R fs fr N sc g b (ev R g.pn xb)) : CE R fs fr N sc g (.BinOp a (opOf op) b pos) (ev R g.pn (.bin op xa xb)) := fun X A => by
  refine (pe_op (op_bin op) (ha X A).toD (hb X A).toD).of fun σ H Q h => ?_
  obtain ⟨T, ρ, F, gd, h⟩ := h
  rw [ev] at h
  have h := h.bind.imp fun p hp => hp.bind
  refine two (k := fun d1 d2 ρ2 => Out (g.at X.K) T H F ((Res.of (binD op d1 d2)).bind fun o => .ok (o, ρ2)) (After (g.at X.K) σ T H F Q)) gd h fun d1 d2 ρ2 T2 H2 F2 v1 v2 g2 r1 r2 s hk => ?_
  obtain ⟨o, eo, hk⟩ := hk.ofb
  exact ⟨T2, d1, d2, o, g2.same, r1, r2, eo, After.mk hk g2 s⟩
theorem ce_cmp {op : Cop} (ha : CE R fs fr N sc g a (ev R g.pn xa)) (hb : CE R fs fr N sc g b (ev R g.pn xb)) (hm : behindInMarks (copOf op) b = false) : CE R fs fr N sc g (.Compare a [copOf op] [b] pos) (ev R g.pn (.cmp op xa xb)) := fun X A => by
  refine (pe_cmpR (op_cmp op (by have := A.room; omega)) (ha X A).toD (hb X A).toD hm).of fun σ H Q h => ?_
  obtain ⟨T, ρ, F, gd, h⟩ := h
  rw [ev] at h
  have h := h.bind.imp fun p hp => hp.bind
  refine two (k := fun d1 d2 ρ2 => Out (g.at X.K) T H F ((Res.of (cmpD op d1 d2)).bind fun k => .ok (Ob.d (.bool k), ρ2)) (After (g.at X.K) σ T H F Q)) gd h fun d1 d2 ρ2 T2 H2 F2 v1 v2 g2 r1 r2 s hk => ?_
  obtain ⟨o, eo, hk⟩ := hk.ofb
  exact ⟨T2, d1, d2, o, g2.same, r1, r2, eo, (After.mk hk g2 s).pure g2.same rfl⟩
theorem ce_cmp2 {op op' : Cop} (ha : CE R fs fr N sc g a (ev R g.pn xa)) (hb : CE R fs fr N sc g b (ev R g.pn xb)) (hc : CE R fs fr N sc g c (ev R g.pn xc)) (hm : lastMarks [copOf op, copOf op'] [b, c] = false) :
    CE R fs fr N sc g (.Compare a [copOf op, copOf op'] [b, c] pos) (ev R g.pn (.cmp2 op op' xa xb xc)) := fun X A => by
  refine (pe_chain (op_cmp op (by have := A.room; omega)) (op_cmp op' (by have := A.room; omega)) (ha X A).toD (hb X A).toD (hc X A).toD hm).of fun σ H Q h => ?_
  obtain ⟨T, ρ, F, gd, h⟩ := h
  rw [ev] at h
  have h := h.bind.imp fun p hp => hp.bind
  refine two (k := fun d1 d2 ρ2 => Out (g.at X.K) T H F ((Res.of (cmpD op d1 d2)).bind fun k => if k = true then
      (ev R g.pn xc ρ2).toD.bind fun r => (Res.of (cmpD op' d2 r.1)).bind fun m => .ok (Ob.d (.bool m), r.2) else .ok (Ob.d (.bool false), ρ2)) (After (g.at X.K) σ T H F Q)) gd h fun d1 d2 ρ2 T2 H2 F2 v1 v2 g2 r1 r2 s hk => ?_
  obtain ⟨k, eo, hk⟩ := hk.ofb
  refine ⟨T2, d1, d2, k, g2.same, r1, r2, eo, k, rfl, ?_⟩
  cases k with
  | true =>
    rw [if_pos rfl]
    rw [if_pos rfl] at hk
    refine ⟨T2, ρ2, F2, g2, (hk.bind).go s fun q hq => ?_⟩
    intro T3 H3 F3 v3 g3 r3 s3
    obtain ⟨m, em, hq⟩ := hq.ofb
    exact ⟨T3, d2, q.1, m, g3.same, r2.up s3, r3, em, (After.mk hq g3 ((s.trans s3 fun _ h => h).post fun _ h => .inl h)).pure g3.same rfl⟩
  | false =>
    rw [if_neg Bool.false_ne_true]
    rw [if_neg Bool.false_ne_true] at hk
    exact (After.mk hk g2 s).pure g2.same rfl
end
end AM
/-! Ev6: expressions: tests, displays, places, calls. -/
namespace AM
open PySem PySem.Spec PyProof.Rows L2
section
variable {G : Gm} {σ : L2.St} {T H T1 H1 : Hp} {F F1 : Foot} {Q : VK}
theorem After.step {p : Ob × Env} (h : After G σ T H F Q p) (s : Stp T H (InF F) T1 H1 (InF F1)) : After G σ T1 H1 F1 Q p := fun T' H' F' v f g t s' =>
  h T' H' F' v f g t ((s.trans s' fun _ h => h).post fun _ h => .inl h)
theorem Out.next {r : Res (Ob × Env)} (h : Out G T H F r (After G σ T H F Q)) (s : Stp T H (InF F) T1 H1 (InF F1)) : Out G T1 H1 F1 r (After G σ T1 H1 F1 Q) := h.go s fun _ q => q.step s
end
section
variable {R : Fns} {fs : List (Nat × Str)} {fr : Frs} {N : List Str} {sc : Bs} {g : Gx} {a b c e : Expr} {es rest : List Expr} {xa xb xc xe : Ex} {xs : Exs} {pos p1 p2 p3 : Pos} {i j : Nat} {x : Str} {k : Env → Res (Ob × Env)}
/-! ### tests -/
theorem ct_e (h : CE R fs fr N sc g e k) (he : ∀ env whole, isTrue e env whole = (do let v ← whole; standAt e.pos; holding [v] (truthy v)) := by intro _ _; rfl) : CT R fs fr N sc g e fun ρ => (k ρ).toB := fun X A =>
  L2.PT.ofE (h X A) (he _)
theorem ct_cmp {op : Cop} (ha : CE R fs fr N sc g a (ev R g.pn xa)) (hb : CE R fs fr N sc g b (ev R g.pn xb)) (hm : behindInMarks (copOf op) b = false) : CT R fs fr N sc g (.Compare a [copOf op] [b] pos) fun ρ => (ev R g.pn (.cmp op xa xb) ρ).toB := fun X A => by
  refine (pt_cmpR (op_cmp op (by have := A.room; omega)) (ha X A).toD (hb X A).toD hm).of fun σ H Q h => ?_
  have h := rdT_rd h
  obtain ⟨T, ρ, F, gd, h⟩ := h
  rw [ev] at h
  have h := h.bind.imp fun p hp => hp.bind
  refine two (k := fun d1 d2 ρ2 => Out (g.at X.K) T H F ((Res.of (cmpD op d1 d2)).bind fun k => .ok (Ob.d (.bool k), ρ2)) (After (g.at X.K) σ T H F _)) gd h fun d1 d2 ρ2 T2 H2 F2 v1 v2 g2 r1 r2 s hk => ?_
  obtain ⟨o, eo, hk⟩ := hk.ofb
  exact ⟨T2, d1, d2, o, g2.same, r1, r2, eo, (After.mk hk g2 s).pure g2.same rfl⟩
theorem ct_cmp2 {op op' : Cop} (ha : CE R fs fr N sc g a (ev R g.pn xa)) (hb : CE R fs fr N sc g b (ev R g.pn xb)) (hc : CE R fs fr N sc g c (ev R g.pn xc)) (hm : lastMarks [copOf op, copOf op'] [b, c] = false) :
    CT R fs fr N sc g (.Compare a [copOf op, copOf op'] [b, c] pos) fun ρ => (ev R g.pn (.cmp2 op op' xa xb xc) ρ).toB := fun X A => by
  refine (pt_chain (op_cmp op (by have := A.room; omega)) (op_cmp op' (by have := A.room; omega)) (ha X A).toD (hb X A).toD (hc X A).toD hm).of fun σ H Q h => ?_
  have h := rdT_rd h
  obtain ⟨T, ρ, F, gd, h⟩ := h
  rw [ev] at h
  have h := h.bind.imp fun p hp => hp.bind
  refine two (k := fun d1 d2 ρ2 => Out (g.at X.K) T H F ((Res.of (cmpD op d1 d2)).bind fun k => if k = true then
      (ev R g.pn xc ρ2).toD.bind fun r => (Res.of (cmpD op' d2 r.1)).bind fun m => .ok (Ob.d (.bool m), r.2) else .ok (Ob.d (.bool false), ρ2)) (After (g.at X.K) σ T H F _)) gd h fun d1 d2 ρ2 T2 H2 F2 v1 v2 g2 r1 r2 s hk => ?_
  obtain ⟨k, eo, hk⟩ := hk.ofb
  refine ⟨T2, d1, d2, k, g2.same, r1, r2, eo, k, rfl, ?_⟩
  cases k with
  | true =>
    rw [if_pos rfl]
    rw [if_pos rfl] at hk
    refine ⟨T2, ρ2, F2, g2, (hk.bind).go s fun q hq => ?_⟩
    intro T3 H3 F3 v3 g3 r3 s3
    obtain ⟨m, em, hq⟩ := hq.ofb
    exact ⟨T3, d2, q.1, m, g3.same, r2.up s3, r3, em, (After.mk hq g3 ((s.trans s3 fun _ h => h).post fun _ h => .inl h)).pure g3.same rfl⟩
  | false =>
    rw [if_neg Bool.false_ne_true]
    rw [if_neg Bool.false_ne_true] at hk
    exact (After.mk hk g2 s).pure g2.same rfl
/-- and, or as tests -/
def CW (R : Fns) (fs : List (Nat × Str)) (fr : Frs) (N : List Str) (sc : Bs) (g : Gx) (e : Expr) (c : Env → Res (Bool × Env)) : Prop := ∀ X : Cx, At R fs fr N sc X → PW X e (rdT (g.at X.K) c)
theorem _root_.L2.PW.of {X : Cx} {e : Expr} {t t' : TT} (h : PW X e t) (i : ∀ σ H Q, t' σ H Q → t σ H Q) : PW X e t' := ⟨fun w pins s σ H Q I q => h.run w pins s σ H Q I (i σ H Q q)⟩
abbrev tb (R : Fns) (g : Gx) (x : Ex) : Env → Res (Bool × Env) := fun ρ => (ev R g.pn x ρ).toB
theorem ct_w {f : Env → Res (Bool × Env)} (h : CW R fs fr N sc g e f) : CT R fs fr N sc g e f := fun X A => (h X A).pt
theorem cw_and1 (h : CT R fs fr N sc g a (tb R g xa)) : CW R fs fr N sc g (.BoolOp .And [a] pos) (tb R g xa) := fun X A => pw_and1 (h X A)
theorem cw_or1 (h : CT R fs fr N sc g a (tb R g xa)) : CW R fs fr N sc g (.BoolOp .Or [a] pos) (tb R g xa) := fun X A => pw_or1 (h X A)
theorem toB_bind {α : Type} {r : Res α} {k : α → Res (Ob × Env)} : (r.bind k).toB = r.bind fun x => (k x).toB := by cases r <;> rfl
theorem ite_toB {c : Prop} [Decidable c] {u v : Res (Ob × Env)} : (if c then u else v).toB = if c then u.toB else v.toB := by split <;> rfl
theorem AftB.step {G : Gm} {σ : L2.St} {T H T1 H1 : Hp} {F F1 : Foot} {Q : Bool → Hp → Prop} {p : Bool × Env} (h : AftB G σ T H F Q p) (s : Stp T H (InF F) T1 H1 (InF F1)) : AftB G σ T1 H1 F1 Q p := fun T' H' F' g s' =>
  h T' H' F' g ((s.trans s' fun _ h => h).post fun _ h => .inl h)
theorem cw_and (h : CT R fs fr N sc g a (tb R g xa)) (h2 : CW R fs fr N sc g (.BoolOp .And (b :: rest) pos) (tb R g xb)) : CW R fs fr N sc g (.BoolOp .And (a :: b :: rest) pos) (tb R g (.and xa xb)) := fun X A => by
  refine (pw_and (h X A) (h2 X A)).of fun σ H Q q => ?_
  obtain ⟨T, ρ, F, gd, q⟩ := q
  have e : tb R g (.and xa xb) ρ = (ev R g.pn xa ρ).toB.bind fun p => if p.1 = true then (ev R g.pn xb p.2).toB else .ok (false, p.2) := by
    show (ev R g.pn (.and xa xb) ρ).toB = _
    rw [ev, toB_bind]
    congr 1
    funext p
    rw [ite_toB]
    rfl
  rw [e] at q
  refine ⟨T, ρ, F, gd, q.bind.imp fun p hp => ?_⟩
  obtain ⟨k, ρ1⟩ := p
  intro T1 H1 F1 g1 s1
  cases k with
  | true => exact iteT ⟨T1, ρ1, F1, g1, (show Out _ T H F (ev R g.pn xb ρ1).toB _ from hp).go s1 fun p hp => hp.step s1⟩
  | false => exact iteF (hp T1 H1 F1 g1 s1)
theorem cw_or (h : CT R fs fr N sc g a (tb R g xa)) (h2 : CW R fs fr N sc g (.BoolOp .Or (b :: rest) pos) (tb R g xb)) : CW R fs fr N sc g (.BoolOp .Or (a :: b :: rest) pos) (tb R g (.or xa xb)) := fun X A => by
  refine (pw_or (h X A) (h2 X A)).of fun σ H Q q => ?_
  obtain ⟨T, ρ, F, gd, q⟩ := q
  have e : tb R g (.or xa xb) ρ = (ev R g.pn xa ρ).toB.bind fun p => if p.1 = true then .ok (true, p.2) else (ev R g.pn xb p.2).toB := by
    show (ev R g.pn (.or xa xb) ρ).toB = _
    rw [ev, toB_bind]
    congr 1
    funext p
    rw [ite_toB]
    rfl
  rw [e] at q
  refine ⟨T, ρ, F, gd, q.bind.imp fun p hp => ?_⟩
  obtain ⟨k, ρ1⟩ := p
  intro T1 H1 F1 g1 s1
  cases k with
  | true => exact iteT (hp T1 H1 F1 g1 s1)
  | false => exact iteF ⟨T1, ρ1, F1, g1, (show Out _ T H F (ev R g.pn xb ρ1).toB _ from hp).go s1 fun p hp => hp.step s1⟩
theorem ct_not (h : CT R fs fr N sc g a (tb R g xa)) : CT R fs fr N sc g (.UnaryOp .Not a pos) (tb R g (.not xa)) := fun X A => by
  refine (pt_not (h X A)).of fun σ H Q q => ?_
  obtain ⟨T, ρ, F, gd, q⟩ := q
  have e : tb R g (.not xa) ρ = (ev R g.pn xa ρ).toB.bind fun p => .ok (!p.1, p.2) := by
    show (ev R g.pn (.not xa) ρ).toB = _
    rw [ev, toB_bind]
    rfl
  rw [e] at q
  exact ⟨T, ρ, F, gd, q.bind.imp fun p hp T1 H1 F1 g1 s1 => hp T1 H1 F1 g1 s1⟩
/-! ### the same as values -/
theorem ce_one {o : PySem.BoolOp} (h : CE R fs fr N sc g a k) : CE R fs fr N sc g (.BoolOp o [a] pos) k := fun X A => pe_one (h X A)
/-- a truth first, then more -/
theorem bool_then {X : Cx} {σ : L2.St} {H : Hp} {Q : VK} {P : Bool → Hp → Prop} {T : Hp} {ρ : Env} {F : Foot} {m : Bool × Env → Res (Ob × Env)} (gd : Gd (g.at X.K) T H σ ρ F)
    (q : Out (g.at X.K) T H F ((ev R g.pn xa ρ).toB.bind m) (After (g.at X.K) σ T H F Q))
    (hk : ∀ (k : Bool) (ρ1 : Env) (T1 H1 : Hp) (F1 : Foot), Gd (g.at X.K) T1 H1 σ ρ1 F1 → Out (g.at X.K) T1 H1 F1 (m (k, ρ1)) (After (g.at X.K) σ T1 H1 F1 Q) → P k H1) :
    rd (g.at X.K) (ev R g.pn xa) σ H fun x H1 => ∃ k, x = .bl k ∧ P k H1 := by
  refine rdT_rd (Q := P) ⟨T, ρ, F, gd, q.bind.imp fun p hp => ?_⟩
  obtain ⟨k, ρ1⟩ := p
  exact fun T1 H1 F1 g1 s1 => hk k ρ1 T1 H1 F1 g1 (Out.next hp s1)
theorem ce_and (h : CE R fs fr N sc g a (ev R g.pn xa)) (h2 : CE R fs fr N sc g (.BoolOp .And (b :: rest) pos) (ev R g.pn xb)) : CE R fs fr N sc g (.BoolOp .And (a :: b :: rest) pos) (ev R g.pn (.and xa xb)) := fun X A => by
  refine (pe_and (h X A) (h2 X A)).of fun σ H Q q => ?_
  obtain ⟨T, ρ, F, gd, q⟩ := q
  rw [ev] at q
  refine bool_then gd q fun k ρ1 T1 H1 F1 g1 hp => ?_
  cases k with
  | true => exact iteT ⟨T1, ρ1, F1, g1, hp⟩
  | false => exact iteF (After.pure (show After _ σ T1 H1 F1 Q (Ob.d (.bool false), ρ1) from hp) g1 rfl)
theorem ce_or (h : CE R fs fr N sc g a (ev R g.pn xa)) (h2 : CE R fs fr N sc g (.BoolOp .Or (b :: rest) pos) (ev R g.pn xb)) : CE R fs fr N sc g (.BoolOp .Or (a :: b :: rest) pos) (ev R g.pn (.or xa xb)) := fun X A => by
  refine (pe_or (h X A) (h2 X A)).of fun σ H Q q => ?_
  obtain ⟨T, ρ, F, gd, q⟩ := q
  rw [ev] at q
  refine bool_then gd q fun k ρ1 T1 H1 F1 g1 hp => ?_
  cases k with
  | true => exact iteT (After.pure (show After _ σ T1 H1 F1 Q (Ob.d (.bool true), ρ1) from hp) g1 rfl)
  | false => exact iteF ⟨T1, ρ1, F1, g1, hp⟩
theorem ce_not (h : CE R fs fr N sc g a (ev R g.pn xa)) : CE R fs fr N sc g (.UnaryOp .Not a pos) (ev R g.pn (.not xa)) := fun X A => by
  refine (pe_not (h X A)).of fun σ H Q q => ?_
  obtain ⟨T, ρ, F, gd, q⟩ := q
  rw [ev] at q
  refine bool_then gd q fun k ρ1 T1 H1 F1 g1 hp => ?_
  exact After.pure (show After _ σ T1 H1 F1 Q (Ob.d (.bool (!k)), ρ1) from hp) g1 rfl
theorem ce_ife (hc : CT R fs fr N sc g c (tb R g xc)) (ha : CE R fs fr N sc g a (ev R g.pn xa)) (hb : CE R fs fr N sc g b (ev R g.pn xb)) : CE R fs fr N sc g (.IfExp c a b pos) (ev R g.pn (.ife xc xa xb)) := fun X A => by
  refine (pe_ifExp (hc X A) (ha X A) (hb X A)).of fun σ H Q q => ?_
  obtain ⟨T, ρ, F, gd, q⟩ := q
  rw [ev] at q
  refine ⟨T, ρ, F, gd, q.bind.imp fun p hp => ?_⟩
  obtain ⟨k, ρ1⟩ := p
  intro T1 H1 F1 g1 s1
  cases k with
  | true => exact iteT ⟨T1, ρ1, F1, g1, Out.next hp s1⟩
  | false => exact iteF ⟨T1, ρ1, F1, g1, Out.next hp s1⟩
theorem ce_neg (ha : CE R fs fr N sc g a (ev R g.pn xa)) : CE R fs fr N sc g (.UnaryOp .USub a pos) (ev R g.pn (.neg xa)) := fun X A => by
  refine (pe_un un_neg (ha X A).toD).of fun σ H Q q => ?_
  obtain ⟨T, ρ, F, gd, q⟩ := q
  rw [ev] at q
  refine ⟨T, ρ, F, gd, q.bind.imp fun p hp => ?_⟩
  obtain ⟨d, ρ1⟩ := p
  intro T1 H1 F1 v g1 r s1
  cases d with
  | int i => exact ⟨i, r, (After.mk (show After _ σ T H F Q (Ob.d (.int (-i)), ρ1) from hp) g1 s1).pure g1.same rfl⟩
  | _ => exact hp.elim
end
end AM
/-! Ev7: places, argument lists, displays, built-in functions. -/
namespace AM
open PySem PySem.Spec PyProof.Rows L2
section
variable {X : Cx}
/-! ### places of slots -/
def rIxD : R2 := fun x y H Q => ∃ a v, x = .ref a ∧ DGet H a y (some v) ∧ Q v H
theorem ix_dct (hu : X.A.units + 1 < cLine) : IxR X rIxD := by
  intro value slice pins s σ H x y v u Q I rx ry h hs
  obtain ⟨a, w, rfl, gg, q⟩ := h
  cases rx
  exact tail_any (dict_typeIs I gg) PySem.F.slot_dict_getitem.lookup (d_getItem hu I gg ry fun w' s3 I3 rw' => ⟨w, H, I3, rw', q⟩) hs
def rIt (K : PySem.W.Frag) : R2 := fun x y H Q => rSub K x y H Q ∨ (rIxL K x y H Q ∨ rIxD x y H Q)
theorem ix_it (hu : X.A.units + 1 < cLine) : IxR X (rIt X.K) := ix_sub.or (ix_list.or (ix_dct hu))
end
theorem ROs.at_ {K : PySem.W.Frag} {T H : Hp} : ∀ {os : List Ob} {vs : List V} {f : List Addr} {j : Nat} {o : Ob}, ROs K T H os vs f → os[j]? = some o → ∃ w f', vs[j]? = some w ∧ RO K T H o w f' ∧ f'.Sublist f
  | [], _, _, _, _, _, e => by simp at e
  | x :: xs, _, _, 0, o, ⟨v, r, g, h, e1, e2, e3, e4⟩, e => by
    have e' : x = o := by simpa using e
    subst e'
    exact ⟨v, g, by rw [e1]; rfl, e3, by rw [e2]; exact List.sublist_append_left g h⟩
  | x :: xs, _, _, j + 1, o, ⟨v, r, g, h, e1, e2, e3, e4⟩, e => by
    obtain ⟨w, f', q1, q2, q3⟩ := ROs.at_ (j := j) e4 (by simpa using e)
    exact ⟨w, f', by rw [e1]; simpa using q1, q2, by rw [e2]; exact q3.trans (List.sublist_append_right g h)⟩
theorem ROs.atI {K : PySem.W.Frag} {T H : Hp} {os : List Ob} {vs : List V} {f : List Addr} {i : Int} {o : Ob} (h : ROs K T H os vs f) (e : L2.atI os i = some o) : ∃ w f', L2.atI vs i = some w ∧ RO K T H o w f' ∧ f'.Sublist f := by
  have l := h.len
  unfold L2.atI at e ⊢
  rw [l]
  cases q : ixN os.length i with
  | none => rw [q] at e; cases e
  | some j =>
    rw [q] at e
    exact ROs.at_ h e
theorem key_of {K : PySem.W.Frag} {T : Hp} {d : Dt} {k : Key} {y : V} (h : keyOf d = some k) (r : Rp K T d y) : y = kV k := by
  cases d with
  | int i => cases h; exact r
  | str x => cases h; exact r
  | _ => cases h
theorem ROs.dGet {K : PySem.W.Frag} {T H : Hp} : ∀ {ks : List Key} {os : List Ob} {vs : List V} {f : List Addr} {x : Key} {o : Ob}, ROs K T H os vs f → ks.length = vs.length → AM.dGet ks os x = some o → ∃ w f', valV (ks.zip vs) x = some w ∧ RO K T H o w f' ∧ f'.Sublist f
  | [], os, _, _, _, _, _, _, e => by cases os <;> simp [AM.dGet] at e
  | k :: ks, [], _, _, _, _, _, _, e => by simp [AM.dGet] at e
  | k :: ks, o' :: os, _, _, x, o, ⟨v, r, g, h, e1, e2, e3, e4⟩, hl, e => by
    have e : (if k = x then some o' else AM.dGet ks os x) = some o := e
    rw [e1, List.zip_cons_cons]
    by_cases hk : k = x
    · rw [if_pos hk] at e
      cases e
      exact ⟨v, g, valV_pos hk, e3, by rw [e2]; exact List.sublist_append_left g h⟩
    · rw [if_neg hk] at e
      obtain ⟨w, f', q1, q2, q3⟩ := ROs.dGet (ks := ks) e4 (by rw [e1] at hl; simpa using hl) e
      refine ⟨w, f', ?_, q2, by rw [e2]; exact q3.trans (List.sublist_append_right g h)⟩
      rw [← q1]
      simp [valV, List.find?_cons, hk]
theorem it_of {K : PySem.W.Frag} {T H : Hp} {o o' : Ob} {v y : V} {f : List Addr} {k : Dt} {Q : VK} (r : RO K T H o v f) (th : Same T H) (e : itemO o k = some o') (ry : Rp K T k y)
    (q : ∀ w f', RO K T H o' w f' → f'.Sublist f → Q w H) : rIt K v y H Q := by
  cases o with
  | d x =>
    obtain ⟨rfl, r⟩ := r
    have e : (subD x k).map Ob.d = some o' := e
    obtain ⟨z, ez, rfl⟩ := Option.map_eq_some_iff.mp e
    exact .inl ⟨T, x, k, z, th, r, ry, ez, fun w hw => q w [] ⟨rfl, hw⟩ (List.nil_sublist _)⟩
  | lst os =>
    cases k with
    | int i =>
      obtain ⟨a, vs, g, rfl, rfl, hH, rs⟩ := r
      obtain ⟨w, f', h1, h2, h3⟩ := rs.atI e
      exact .inr (.inl ⟨a, vs, i, w, rfl, ry, SqL.of hH, h1, q w f' h2 (h3.trans (List.sublist_cons_self _ _))⟩)
    | _ => cases e
  | dct ks os =>
    obtain ⟨a, vs, g, rfl, rfl, hl, hn, hH, rs⟩ := r
    have e : (keyOf k).bind (dGet ks os) = some o' := by cases k <;> exact e
    obtain ⟨x, ex, e⟩ := Option.bind_eq_some_iff.mp e
    obtain ⟨w, f', h1, h2, h3⟩ := rs.dGet hl e
    refine .inr (.inr ⟨a, w, rfl, ?_, q w f' h2 (h3.trans (List.sublist_cons_self _ _))⟩)
    rw [key_of ex ry, ← h1]
    exact DGet.k hH

/-! ### simple terms -/
def rBinI (op : Bop) : R2 := fun x y H Q => ∃ i j k, x = .int i ∧ y = .int j ∧ binD op (.int i) (.int j) = some (.d (.int k)) ∧ Q (.int k) H
theorem ite_some {c : Prop} [Decidable c] {u v : Int} (z : (if c then some (Ob.d (.int u)) else none) = some (Ob.d (.int v))) : c ∧ u = v := by
  by_cases hc : c
  · rw [if_pos hc] at z
    cases z
    exact ⟨hc, rfl⟩
  · rw [if_neg hc] at z; cases z
theorem op_binI {X : Cx} (op : Bop) : OpR X (binaryOp (opOf op)) (rBinI op) := by
  intro pins s σ H x y v u Q I rx ry h
  obtain ⟨i, j, k, rfl, rfl, e, q⟩ := h
  cases op with
  | add => cases e; exact op_add pins s σ H _ _ v u Q I rx ry ⟨i, j, rfl, rfl, q⟩
  | sub => cases e; exact op_sub pins s σ H _ _ v u Q I rx ry ⟨i, j, rfl, rfl, q⟩
  | mul => obtain ⟨c, rfl⟩ := ite_some e; exact op_mul pins s σ H _ _ v u Q I rx ry ⟨i, j, rfl, rfl, c, q⟩
  | fdiv => obtain ⟨c, rfl⟩ := ite_some e; exact op_fdivN pins s σ H _ _ v u Q I rx ry ⟨i, j, rfl, rfl, c, q⟩
  | mod => obtain ⟨c, rfl⟩ := ite_some e; exact op_modN pins s σ H _ _ v u Q I rx ry ⟨i, j, rfl, rfl, c, q⟩
  | pow => obtain ⟨c, rfl⟩ := ite_some e; exact op_pow pins s σ H _ _ v u Q I rx ry ⟨i, j, rfl, rfl, c, q⟩
  | shl => obtain ⟨c, rfl⟩ := ite_some e; exact op_shl pins s σ H _ _ v u Q I rx ry ⟨i, j, rfl, rfl, c, q⟩
  | shr => obtain ⟨c, rfl⟩ := ite_some e; exact op_shr pins s σ H _ _ v u Q I rx ry ⟨i, j, rfl, rfl, c, q⟩
  | band => cases e; exact op_and pins s σ H _ _ v u Q I rx ry ⟨i, j, rfl, rfl, q⟩
  | bor => cases e; exact op_or pins s σ H _ _ v u Q I rx ry ⟨i, j, rfl, rfl, q⟩
  | bxor => cases e; exact op_xor pins s σ H _ _ v u Q I rx ry ⟨i, j, rfl, rfl, q⟩
def rdS (G : Gm) (x : Ex) : TE := fun σ H Q => ∃ (T : Hp) (ρ : Env) (F : Foot) (d : Dt), Gd G T H σ ρ F ∧ smp ρ x = some d ∧ ∀ v, Rp G.K T d v → Q v H
section
variable {R : Fns} {fs : List (Nat × Str)} {fr : Frs} {N : List Str} {sc : Bs} {g : Gx} {a b c e : Expr} {es rest : List Expr} {xa xb xc xe : Ex} {xs : Exs} {pos p1 p2 p3 : Pos} {i j : Nat} {x : Str} {k : Env → Res (Ob × Env)}
def CS (R : Fns) (fs : List (Nat × Str)) (fr : Frs) (N : List Str) (sc : Bs) (g : Gx) (e : Expr) (x : Ex) : Prop := ∀ X : Cx, At R fs fr N sc X → PE X e (rdS (g.at X.K) x)
theorem cs_var (hN : N[i]? = some x) (hv : Vis sc.sc x) (hd : (x == ("__debug__" : Str)) = false := by decide) (hcd : (x == ("__classdict__" : Str)) = false := by decide) : CS R fs fr N sc g (.Name x pos) (.var i) := fun X A => by
  refine (pe_var (by rw [A.hN]; exact hN) (by rw [A.hsc]; exact hv) hd hcd).of fun σ H Q h => ?_
  obtain ⟨T, ρ, F, d, gd, e, q⟩ := h
  unfold smp at e
  split at e
  · rename_i y hy
    obtain ⟨v, ev', r⟩ := gd.slot i _ (get_some hy)
    split at e
    · cases e
      exact ⟨v, ev', q v r.2⟩
    · cases e
  · cases e
theorem cs_cst {d : Dt} {v : V} (h : ∀ X : Cx, PE X e (tC v)) (r : ∀ K T, Rp K T d v) : CS R fs fr N sc g e (.cst d) := fun X A => by
  refine (h X).of fun σ H Q h => ?_
  obtain ⟨T, ρ, F, d', gd, e, q⟩ := h
  unfold smp at e
  split at e
  · cases e
    exact q v (r _ _)
  · cases e
theorem cs_int {k : Int} {j : Nat} : CS R fs fr N sc g (.Constant (.int k) j pos) (.cst (.int k)) := cs_cst (fun _ => pe_int) fun _ _ => rfl
theorem cs_str {k : Str} {j : Nat} : CS R fs fr N sc g (.Constant (.str k) j pos) (.cst (.str k)) := cs_cst (fun _ => pe_str) fun _ _ => rfl
theorem cs_neg (ha : CS R fs fr N sc g a xa) : CS R fs fr N sc g (.UnaryOp .USub a pos) (.neg xa) := fun X A => by
  refine (pe_un un_neg (ha X A)).of fun σ H Q h => ?_
  obtain ⟨T, ρ, F, d, gd, e, q⟩ := h
  unfold smp at e
  split at e
  · rename_i i hi
    cases e
    exact ⟨T, ρ, F, .int i, gd, hi, fun v hv => ⟨i, hv, q _ rfl⟩⟩
  · cases e
theorem cs_bin {op : Bop} (ha : CS R fs fr N sc g a xa) (hb : CS R fs fr N sc g b xb) : CS R fs fr N sc g (.BinOp a (opOf op) b pos) (.bin op xa xb) := fun X A => by
  refine (pe_op (op_binI op) (ha X A) (hb X A)).of fun σ H Q h => ?_
  obtain ⟨T, ρ, F, d, gd, e, q⟩ := h
  unfold smp at e
  split at e
  · rename_i i j hi hj
    split at e
    · rename_i k hk
      cases e
      exact ⟨T, ρ, F, .int i, gd, hi, fun v hv => ⟨T, ρ, F, .int j, gd, hj, fun w hw => ⟨i, j, k, hv, hw, hk, q _ rfl⟩⟩⟩
    · cases e
  · cases e
/-! ### x[e], x[e1][e2] -/
theorem ce_item (hN : N[i]? = some x) (hv : Vis sc.sc x) (he : CE R fs fr N sc g e (ev R g.pn xe)) (hs : PlainIx e := by intro _ _; rfl) (hd : (x == ("__debug__" : Str)) = false := by decide) (hcd : (x == ("__classdict__" : Str)) = false := by decide) :
    CE R fs fr N sc g (.Subscript (.Name x p1) e pos) (ev R g.pn (.item i xe)) := fun X A => by
  refine (pe_ix (ix_it (by have := A.room; omega)) (pe_var (by rw [A.hN]; exact hN) (by rw [A.hsc]; exact hv) hd hcd) (he X A).toD hs).of fun σ H Q h => ?_
  obtain ⟨T, ρ, F, gd, h⟩ := h
  rw [ev] at h
  obtain ⟨o0, e0, h⟩ := h.ofb
  obtain ⟨v, ev0, r0⟩ := gd.slot i _ (get_some e0)
  refine ⟨v, ev0, T, ρ, F, gd, h.bind.imp fun p hp => ?_⟩
  obtain ⟨d, ρ1⟩ := p
  intro T1 H1 F1 y g1 r1 s1
  obtain ⟨o, eo, hp⟩ := hp.ofb
  obtain ⟨o1, e1, e2⟩ := Option.bind_eq_some_iff.mp eo
  obtain ⟨v', ev1, r2⟩ := g1.slot i _ (get_some e1)
  have : v' = v := by
    rw [ev0] at ev1
    cases ev1
    rfl
  subst this
  refine it_of r2 g1.same e2 r1 fun w f' hw hf => ?_
  cases o with
  | d z =>
    obtain ⟨rfl, hw⟩ := hw
    exact (After.mk (show After _ σ T H F Q (Ob.d z, ρ1) from hp) g1 s1).pure g1.same hw
  | _ => exact hp.elim
theorem ce_item2 (hN : N[i]? = some x) (hv : Vis sc.sc x) (ha : CS R fs fr N sc g a xa) (hb : CS R fs fr N sc g b xb) (hs : PlainIx a := by intro _ _; rfl) (hs2 : PlainIx b := by intro _ _; rfl) (hd : (x == ("__debug__" : Str)) = false := by decide) (hcd : (x == ("__classdict__" : Str)) = false := by decide) :
    CE R fs fr N sc g (.Subscript (.Subscript (.Name x p1) a p2) b pos) (ev R g.pn (.item2 i xa xb)) := fun X A => by
  have hu : X.A.units + 1 < cLine := by have := A.room; omega
  refine (pe_ix (ix_it hu) (pe_ix (ix_it hu) (pe_var (by rw [A.hN]; exact hN) (by rw [A.hsc]; exact hv) hd hcd) (ha X A) hs) (hb X A) hs2).of fun σ H Q h => ?_
  obtain ⟨T, ρ, F, gd, h⟩ := h
  rw [ev] at h
  obtain ⟨k1, e1, h⟩ := h.ofb
  obtain ⟨k2, e2, h⟩ := h.ofb
  obtain ⟨o, eo, h⟩ := h.ofb
  obtain ⟨o0, e3, e4⟩ := Option.bind_eq_some_iff.mp eo
  obtain ⟨o1, e5, e6⟩ := Option.bind_eq_some_iff.mp e4
  obtain ⟨v, ev0, r0⟩ := gd.slot i _ (get_some e3)
  refine ⟨v, ev0, T, ρ, F, k1, gd, e1, fun y1 h1 => it_of r0 gd.same e5 h1 fun w f1 hw _ => ⟨T, ρ, F, k2, gd, e2, fun y2 h2 => it_of hw gd.same e6 h2 fun z f2 hz _ => ?_⟩⟩
  cases o with
  | d z' =>
    obtain ⟨rfl, hz⟩ := hz
    exact After.pure (show After _ σ T H F Q (Ob.d z', ρ) from h) gd hz
  | _ => exact h.elim
theorem ce_sub (ha : CE R fs fr N sc g a (ev R g.pn xa)) (he : CE R fs fr N sc g e (ev R g.pn xe)) (hs : PlainIx e := by intro _ _; rfl) : CE R fs fr N sc g (.Subscript a e pos) (ev R g.pn (.sub xa xe)) := fun X A => by
  refine (pe_ix ix_sub (ha X A).toD (he X A).toD hs).of fun σ H Q h => ?_
  obtain ⟨T, ρ, F, gd, h⟩ := h
  rw [ev] at h
  have h := h.bind.imp fun p hp => hp.bind
  refine two (k := fun d1 d2 ρ2 => Out (g.at X.K) T H F ((Res.of (subD d1 d2)).bind fun x => .ok (Ob.d x, ρ2)) (After (g.at X.K) σ T H F Q)) gd h fun d1 d2 ρ2 T2 H2 F2 v1 v2 g2 r1 r2 s hk => ?_
  obtain ⟨o, eo, hk⟩ := hk.ofb
  exact ⟨T2, d1, d2, o, g2.same, r1, r2, eo, fun v hv => (After.mk hk g2 s).pure g2.same hv⟩
/-! ### slices -/
def CO (R : Fns) (fs : List (Nat × Str)) (fr : Frs) (N : List Str) (sc : Bs) (g : Gx) (e : Option Expr) (x : Oe) : Prop := ∀ X : Cx, At R fs fr N sc X → PO X e fun σ H Q => ∃ (T : Hp) (ρ : Env) (F : Foot), Gd (g.at X.K) T H σ ρ F ∧
  Out (g.at X.K) T H F (evO R g.pn x ρ) fun p => ∀ T' H' F', Gd (g.at X.K) T' H' σ p.2 F' → Stp T H (InF F) T' H' (InF F') → Q p.1 H'
theorem _root_.L2.PO.of {X : Cx} {e : Option Expr} {t t' : TO} (h : PO X e t) (i : ∀ σ H Q, t' σ H Q → t σ H Q) : PO X e t' := ⟨fun pins s σ H Q I q => h.run pins s σ H Q I (i σ H Q q)⟩
theorem co_none : CO R fs fr N sc g none .none := fun X A => po_none.of fun σ H Q h => by
  obtain ⟨T, ρ, F, gd, h⟩ := h
  rw [evO] at h
  exact (show ∀ T' H' F', Gd (g.at X.K) T' H' σ ρ F' → Stp T H (InF F) T' H' (InF F') → Q none H' from h) T H F gd .refl
theorem co_some (he : CE R fs fr N sc g e (ev R g.pn xe)) : CO R fs fr N sc g (some e) (.some xe) := fun X A => (po_some (he X A).toD).of fun σ H Q h => by
  obtain ⟨T, ρ, F, gd, h⟩ := h
  rw [evO] at h
  refine ⟨T, ρ, F, gd, h.bind.imp fun p hp => ?_⟩
  obtain ⟨d, ρ1⟩ := p
  intro T1 H1 F1 v g1 r1 s1
  cases d with
  | int i => exact ⟨i, r1, (show ∀ T' H' F', Gd (g.at X.K) T' H' σ ρ1 F' → Stp T H (InF F) T' H' (InF F') → Q (some i) H' from hp) T1 H1 F1 g1 s1⟩
  | _ => exact hp.elim
theorem ce_slc {lo hi : Option Expr} {xl xh : Oe} (ha : CE R fs fr N sc g a (ev R g.pn xa)) (hl : CO R fs fr N sc g lo xl) (hh : CO R fs fr N sc g hi xh) : CE R fs fr N sc g (.Subscript a (.Slice lo hi none p1) pos) (ev R g.pn (.slc xa xl xh)) := fun X A => by
  refine (pe_slice sl_slc (ha X A).toD (hl X A) (hh X A)).of fun σ H Q h => ?_
  obtain ⟨T, ρ, F, gd, h⟩ := h
  rw [ev] at h
  refine ⟨T, ρ, F, gd, h.bind.imp fun p hp => ?_⟩
  intro T1 H1 F1 v g1 r1 s1
  refine ⟨T1, p.2, F1, g1, hp.bind.go s1 fun q hq => ?_⟩
  intro T2 H2 F2 g2 s2
  have s12 := (s1.trans s2 fun _ h => h).post fun _ h => Or.inl h
  refine ⟨T2, q.2, F2, g2, hq.bind.go s12 fun r hr => ?_⟩
  intro T3 H3 F3 g3 s3
  obtain ⟨o, eo, hr⟩ := hr.ofb
  exact ⟨T3, p.1, o, g3.same, (r1.up s2).up s3, eo, After.mk hr g3 ((s12.trans s3 fun _ h => h).post fun _ h => .inl h)⟩
/-! ### argument lists of plain data -/
def rdDs (G : Gm) (c : Env → Res (List Dt × Env)) : TA := fun σ H Q => ∃ (T : Hp) (ρ : Env) (F : Foot), Gd G T H σ ρ F ∧ Out G T H F (c ρ) fun p => ∀ (T' H' : Hp) (F' : Foot) (vs : List V), Gd G T' H' σ p.2 F' → Rps G.K T' p.1 vs → Stp T H (InF F) T' H' (InF F') → Q vs H'
def CDs (R : Fns) (fs : List (Nat × Str)) (fr : Frs) (N : List Str) (sc : Bs) (g : Gx) (es : List Expr) (xs : Exs) : Prop := ∀ X : Cx, At R fs fr N sc X → PA X es (rdDs (g.at X.K) (evD R g.pn xs))
theorem _root_.L2.PA.of {X : Cx} {es : List Expr} {t t' : TA} (h : PA X es t) (i : ∀ σ H Q, t' σ H Q → t σ H Q) : PA X es t' := ⟨fun pos pins s σ H Q I q => h.run pos pins s σ H Q I (i σ H Q q)⟩
theorem cds_nil : CDs R fs fr N sc g [] .nil := fun X A => pa_nil.of fun σ H Q h => by
  obtain ⟨T, ρ, F, gd, h⟩ := h
  rw [evD] at h
  exact (show ∀ (T' H' : Hp) (F' : Foot) (vs : List V), Gd (g.at X.K) T' H' σ ρ F' → Rps (g.at X.K).K T' [] vs → Stp T H (InF F) T' H' (InF F') → Q vs H' from h) T H F [] gd rfl .refl
theorem Rps.up {K : PySem.W.Frag} {T H T' H' : Hp} {P P' : Own} {ds : List Dt} {vs : List V} (t : Rps K T ds vs) (s : Stp T H P T' H' P') : Rps K T' ds vs := Rps.mono s.same t
theorem cds_cons (he : CE R fs fr N sc g e (ev R g.pn xe)) (hr : CDs R fs fr N sc g es xs) (hs : ∀ env, starEach (e :: es) env = (false, eval e env) :: starEach es env := by intro _; rfl) : CDs R fs fr N sc g (e :: es) (.cons xe xs) := fun X A => by
  refine (pa_cons (he X A).toD (hr X A) (hs _)).of fun σ H Q h => ?_
  obtain ⟨T, ρ, F, gd, h⟩ := h
  rw [evD] at h
  refine ⟨T, ρ, F, gd, h.bind.imp fun p hp => ?_⟩
  intro T1 H1 F1 v g1 r1 s1
  refine ⟨T1, p.2, F1, g1, hp.bind.go s1 fun q hq => ?_⟩
  intro T2 H2 F2 vs g2 r2 s2
  exact (show ∀ (T' H' : Hp) (F' : Foot) (vs : List V), Gd (g.at X.K) T' H' σ q.2 F' → Rps (g.at X.K).K T' (p.1 :: q.1) vs → Stp T H (InF F) T' H' (InF F') → Q vs H' from hq) T2 H2 F2 (v :: vs) g2 ⟨v, vs, rfl, r1.up s2, r2⟩ ((s1.trans s2 fun _ h => h).post fun _ h => .inl h)
theorem ce_tup {n : Nat} (h : CDs R fs fr N sc g es xs) : CE R fs fr N sc g (.Tuple es n pos) (ev R g.pn (.tup xs)) := fun X A => by
  refine (pe_tup (h X A)).of fun σ H Q h => ?_
  obtain ⟨T, ρ, F, gd, h⟩ := h
  rw [ev] at h
  refine ⟨T, ρ, F, gd, h.bind.imp fun p hp => ?_⟩
  intro T1 H1 F1 vs g1 r1 s1
  by_cases c : p.1.length ≤ sizeLine
  · rw [if_pos c] at hp
    exact ⟨by rw [r1.len]; exact c, fun q hq => (After.mk hp g1 s1).tup g1.same r1 hq⟩
  · rw [if_neg c] at hp
    exact hp.elim
end
end AM
/-! Ev8: built-in functions called, lists of objects, calls of defs. -/
namespace AM
open PySem PySem.Spec PyProof.Rows L2
section
variable {X : Cx}
theorem call_repr_bi (hg : X.A.guards = some []) (hu : X.A.units + 66 < cLine) : CallR X (.builtin "repr") (rBi X.K .repr) := by
  intro pins s σ H xs us Q I r h
  obtain ⟨T, d, o, x, rfl, th, hd, eo, m⟩ := h
  obtain ⟨u, rfl, ru⟩ := vals1 r
  have go : (∃ a, x = .ref a) → (shw d).map (fun t => Ob.d (.str t)) = some o → wpAny (model X.prog X.w) X.A (call (.builtin "repr") [u]) (EP X pins σ Q) X.xe s := fun ha eo => by
    obtain ⟨a, rfl⟩ := ha
    obtain ⟨t, et, rfl⟩ := Option.map_eq_some_iff.mp eo
    unfold shw at et
    split at et
    · rename_i c
      cases et
      cases (show u = Value.ref a from ru)
      obtain ⟨as, rr⟩ := Dp.reads I d _ _ (hd.dp th) ru
      refine repr_of_reads' rr c.2.1 (fun z => by rw [c.2.2.2] at z; cases z) hg (by have := c.2.2.1; omega) (fun b o e => e) (fun h' u' tk hk => ?_) c.1
      exact ⟨.str d.shown, H, I.kept (t' := tk) hk, ⟨u', rfl⟩, m.pure th rfl⟩
    · cases et
  cases d with
  | tuple ds =>
    obtain ⟨a, vs, e, _⟩ := id hd
    exact go ⟨a, e⟩ eo
  | list ds =>
    obtain ⟨a, vs, e, _⟩ := id hd
    exact go ⟨a, e⟩ eo
  | _ => cases eo
end
section
variable {R : Fns} {fs : List (Nat × Str)} {fr : Frs} {N : List Str} {sc : Bs} {g : Gx} {a b c e : Expr} {es rest : List Expr} {xa xb xc xe : Ex} {xs : Exs} {pos p1 p2 p3 : Pos} {i j : Nat} {x : Str} {k : Env → Res (Ob × Env)}
/-- a name of the module or of the built-in ones -/
def GlS (sc : Bs) (x : Str) : Prop := sc.sc.names.lookup x = some .globalImplicit
theorem At.gl {X : Cx} (A : At R fs fr N sc X) (h : GlS sc x) : Gl X x := by
  show X.env.scope.names.lookup x = some .globalImplicit
  rw [A.hsc]
  exact h
/-- one argument as plain data -/
theorem one_arg {X : Cx} {σ : L2.St} {H : Hp} {Q : VK} {bi : Bi} {T : Hp} {ρ : Env} {F : Foot} (gd : Gd (g.at X.K) T H σ ρ F) (h : Out (g.at X.K) T H F (ev R g.pn (.bi bi xa) ρ) (After (g.at X.K) σ T H F Q)) :
    tCons (rdD (g.at X.K) fun ρ => (ev R g.pn xa ρ).toD) tNil σ H fun vs H1 => rBi X.K bi vs H1 Q := by
  rw [ev] at h
  refine ⟨T, ρ, F, gd, h.bind.imp fun p hp => ?_⟩
  intro T1 H1 F1 v g1 r1 s1
  obtain ⟨o, eo, hp⟩ := hp.ofb
  exact ⟨T1, p.1, o, v, rfl, g1.same, r1, eo, After.mk hp g1 s1⟩
theorem ce_biB {bi : Bi} {id : String} (hc : ∀ X : Cx, X.A.guards = some [] → X.A.units + 140 < cLine → CallR X (.builtin id) (rBi X.K bi)) (ha : CE R fs fr N sc g a (ev R g.pn xa)) (hg : GlS sc x) (hm : x ∈ fr) (hv : bootBuiltins x = some (.builtin id))
    (hn : x ≠ "__name__" := by decide) (hdb : (x == ("__debug__" : Str)) = false := by decide) (he : ∀ env, starEach [a] env = [(false, eval a env)] := by intro _; rfl) : CE R fs fr N sc g (.Call (.Name x p1) [a] [] pos) (ev R g.pn (.bi bi xa)) := fun X A => by
  refine (pe_callB (hc X A.gu A.room) (A.gl hg) (A.free x hm) hv (pa_cons (ha X A).toD pa_nil (he _)) hn hdb (he _) rfl).of fun σ H Q h => ?_
  obtain ⟨T, ρ, F, gd, h⟩ := h
  exact one_arg gd h
theorem ce_biT {bi : Bi} {id : String} (hc : ∀ X : Cx, X.A.guards = some [] → X.A.units + 140 < cLine → CallR X (.type id) (rBi X.K bi)) (ha : CE R fs fr N sc g a (ev R g.pn xa)) (hg : GlS sc x) (hm : x ∈ fr) (hv : bootBuiltins x = some (.type id))
    (hn : x ≠ "__name__" := by decide) (hdb : (x == ("__debug__" : Str)) = false := by decide) (he : ∀ env, starEach [a] env = [(false, eval a env)] := by intro _; rfl) : CE R fs fr N sc g (.Call (.Name x p1) [a] [] pos) (ev R g.pn (.bi bi xa)) := fun X A => by
  refine (pe_callTy (hc X A.gu A.room) (A.gl hg) (A.free x hm) hv (pa_cons (ha X A).toD pa_nil (he _)) hn hdb (he _) rfl).of fun σ H Q h => ?_
  obtain ⟨T, ρ, F, gd, h⟩ := h
  exact one_arg gd h
theorem ce_len (ha : CE R fs fr N sc g a (ev R g.pn xa)) (hg : GlS sc "len") (hm : ("len" : Str) ∈ fr) (he : ∀ env, starEach [a] env = [(false, eval a env)] := by intro _; rfl) : CE R fs fr N sc g (.Call (.Name "len" p1) [a] [] pos) (ev R g.pn (.bi .len xa)) :=
  ce_biB (fun _ _ _ => call_len_bi) ha hg hm PySem.boot_len (he := he)
theorem ce_tuple (ha : CE R fs fr N sc g a (ev R g.pn xa)) (hg : GlS sc "tuple") (hm : ("tuple" : Str) ∈ fr) (he : ∀ env, starEach [a] env = [(false, eval a env)] := by intro _; rfl) : CE R fs fr N sc g (.Call (.Name "tuple" p1) [a] [] pos) (ev R g.pn (.bi .tuple xa)) :=
  ce_biT (fun _ _ _ => call_tuple_bi) ha hg hm boot_tuple (he := he)
theorem ce_list (ha : CE R fs fr N sc g a (ev R g.pn xa)) (hg : GlS sc "list") (hm : ("list" : Str) ∈ fr) (he : ∀ env, starEach [a] env = [(false, eval a env)] := by intro _; rfl) : CE R fs fr N sc g (.Call (.Name "list" p1) [a] [] pos) (ev R g.pn (.bi .list xa)) :=
  ce_biT (fun _ _ _ => call_list_bi) ha hg hm boot_list (he := he)
theorem ce_intc (ha : CE R fs fr N sc g a (ev R g.pn xa)) (hg : GlS sc "int") (hm : ("int" : Str) ∈ fr) (he : ∀ env, starEach [a] env = [(false, eval a env)] := by intro _; rfl) : CE R fs fr N sc g (.Call (.Name "int" p1) [a] [] pos) (ev R g.pn (.bi .int xa)) :=
  ce_biT (fun _ _ _ => call_int_bi) ha hg hm boot_int (he := he)
theorem ce_repr (ha : CE R fs fr N sc g a (ev R g.pn xa)) (hg : GlS sc "repr") (hm : ("repr" : Str) ∈ fr) (he : ∀ env, starEach [a] env = [(false, eval a env)] := by intro _; rfl) : CE R fs fr N sc g (.Call (.Name "repr" p1) [a] [] pos) (ev R g.pn (.bi .repr xa)) :=
  ce_biB (fun _ gu hu => call_repr_bi gu (by omega)) ha hg hm boot_repr (he := he)
/-- isinstance(a, T) -/
theorem ce_isi {t : Ty} (ha : CE R fs fr N sc g a (ev R g.pn xa)) (hg : GlS sc "isinstance") (hm : ("isinstance" : Str) ∈ fr) (hg2 : GlS sc x) (hm2 : x ∈ fr) (hv : bootBuiltins x = some (.type (tyName t)))
    (hn : x ≠ "__name__" := by decide) (hdb : (x == ("__debug__" : Str)) = false := by decide) (he : ∀ env es, starEach (a :: es) env = (false, eval a env) :: starEach es env := by intro _ _; rfl) :
    CE R fs fr N sc g (.Call (.Name "isinstance" p1) [a, .Name x p2] [] pos) (ev R g.pn (.isi t xa)) := fun X A => by
  refine (pe_callB call_isi (A.gl hg) (A.free _ hm) boot_isinstance (pa_cons (ha X A).toD (pa_cons (pe_bltn (A.gl hg2) (A.free x hm2) hv (v := .ty (tyName t)) rfl hn hdb) pa_nil) (he _ _)) (by decide) (by decide) (he _ _) rfl).of fun σ H Q h => ?_
  obtain ⟨T, ρ, F, gd, h⟩ := h
  rw [ev] at h
  refine ⟨T, ρ, F, gd, h.bind.imp fun p hp => ?_⟩
  obtain ⟨d, ρ1⟩ := p
  intro T1 H1 F1 v g1 r1 s1
  exact isi_ok g1.same r1 ((After.mk (show After _ σ T H F Q (Ob.d (.bool (isiD t d)), ρ1) from hp) g1 s1).pure g1.same rfl)
/-- len of a slot's object -/
theorem ce_lenp (hN : N[i]? = some x) (hv : Vis sc.sc x) (hg : GlS sc "len") (hm : ("len" : Str) ∈ fr) (hd : (x == ("__debug__" : Str)) = false := by decide) (hcd : (x == ("__classdict__" : Str)) = false := by decide) :
    CE R fs fr N sc g (.Call (.Name "len" p1) [.Name x p2] [] pos) (ev R g.pn (.lenp i)) := fun X A => by
  refine (pe_callB call_len_seq (A.gl hg) (A.free _ hm) PySem.boot_len (pa_cons (pe_var (by rw [A.hN]; exact hN) (by rw [A.hsc]; exact hv) hd hcd) pa_nil) (by decide) (by decide) rfl rfl).of fun σ H Q h => ?_
  obtain ⟨T, ρ, F, gd, h⟩ := h
  rw [ev] at h
  obtain ⟨o, e0, h⟩ := h.ofb
  obtain ⟨v, ev0, r0⟩ := gd.slot i _ (get_some e0)
  refine ⟨v, ev0, ?_⟩
  cases o with
  | d d =>
    obtain ⟨_, r⟩ := r0
    obtain ⟨n, en, h⟩ := (show Out (g.at X.K) T H F ((Res.of (lenD d)).bind fun n => .ok (Ob.d (.int n), ρ)) _ from h).ofb
    have fin : Q (.int (n : Int)) H := After.pure (show After _ σ T H F Q (Ob.d (.int n), ρ) from h) gd rfl
    cases d with
    | tuple ds =>
      cases en
      obtain ⟨p, ys, rfl, sa, ra⟩ := r
      exact ⟨p, ys, rfl, .inr (same_T gd.same sa), by rw [ra.len]; exact fin⟩
    | list ds =>
      cases en
      obtain ⟨p, ys, rfl, sa, ra⟩ := r
      exact ⟨p, ys, rfl, .inl (gd.same.seq sa), by rw [ra.len]; exact fin⟩
    | _ => cases en
  | lst os =>
    obtain ⟨p, ys, f, rfl, _, hH, rs⟩ := r0
    exact ⟨p, ys, rfl, .inl (SqL.of hH), by rw [rs.len]; exact After.pure (show After _ σ T H F Q (Ob.d (.int os.length), ρ) from h) gd rfl⟩
  | dct _ _ => exact h.elim
end
end AM
/-! Ev9: lists and dicts of one's own made; calls of defs. -/
namespace AM
open PySem PySem.Spec PyProof.Rows L2
/-- several objects at hand -/
structure Tmps (K : PySem.W.Frag) (T H : Hp) (F : Foot) (os : List Ob) (vs : List V) (f : List Addr) : Prop where
  ros : ROs K T H os vs f
  nd : f.Nodup
  tn : ∀ a ∈ f, T a = none
  off : ∀ a ∈ f, ¬ InF F a
theorem Tmp.cons {K : PySem.W.Frag} {T H : Hp} {F : Foot} {o : Ob} {v : V} {f1 : List Addr} {os : List Ob} {vs : List V} {f2 : List Addr} (t : Tmp K T H F o v f1) (r : Tmps K T H F os vs f2) (ap : ∀ a ∈ f1, a ∉ f2) : Tmps K T H F (o :: os) (v :: vs) (f1 ++ f2) := by
  refine ⟨⟨v, vs, f1, f2, rfl, rfl, t.ro, r.ros⟩, List.nodup_append.mpr ⟨t.nd, r.nd, fun a ha b hb e => ap a ha (e ▸ hb)⟩, fun a ha => ?_, fun a ha => ?_⟩
  · rcases List.mem_append.mp ha with h | h
    · exact t.tn a h
    · exact r.tn a h
  · rcases List.mem_append.mp ha with h | h
    · exact t.off a h
    · exact r.off a h
/-- what came later is apart from what was at hand -/
theorem Tmp.apart {K : PySem.W.Frag} {T H T' H' : Hp} {F F' : Foot} {o : Ob} {v : V} {f f2 : List Addr} (t : Tmp K T H F o v f) (s : Stp T H (InF F) T' H' (fun a => InF F' a ∨ a ∈ f2)) : ∀ a ∈ f, a ∉ f2 := fun a ha hb => by
  rcases s.fresh a (.inr hb) with z | z
  · exact t.off a ha z
  · obtain ⟨w, e, _⟩ := RO.there t.ro a ha
    rw [e] at z; cases z
def AftOs (G : Gm) (σ : L2.St) (T H : Hp) (F : Foot) (Q : List V → Hp → Prop) (p : List Ob × Env) : Prop :=
  ∀ (T' H' : Hp) (F' : Foot) (vs : List V) (f : List Addr), Gd G T' H' σ p.2 F' → Tmps G.K T' H' F' p.1 vs f → Stp T H (InF F) T' H' (fun a => InF F' a ∨ a ∈ f) → Q vs H'
def rdOs (G : Gm) (c : Env → Res (List Ob × Env)) : TA := fun σ H Q => ∃ (T : Hp) (ρ : Env) (F : Foot), Gd G T H σ ρ F ∧ Out G T H F (c ρ) (AftOs G σ T H F Q)
section
variable {R : Fns} {fs : List (Nat × Str)} {fr : Frs} {N : List Str} {sc : Bs} {g : Gx} {a b c e : Expr} {es rest : List Expr} {xa xb xc xe : Ex} {xs : Exs} {pos p1 p2 p3 : Pos} {i j : Nat} {x : Str} {k : Env → Res (Ob × Env)}
def COs (R : Fns) (fs : List (Nat × Str)) (fr : Frs) (N : List Str) (sc : Bs) (g : Gx) (es : List Expr) (xs : Exs) : Prop := ∀ X : Cx, At R fs fr N sc X → PA X es (rdOs (g.at X.K) (evs R g.pn xs))
theorem cos_nil : COs R fs fr N sc g [] .nil := fun X A => pa_nil.of fun σ H Q h => by
  obtain ⟨T, ρ, F, gd, h⟩ := h
  rw [evs] at h
  exact (show AftOs (g.at X.K) σ T H F Q ([], ρ) from h) T H F [] [] gd ⟨⟨rfl, rfl⟩, .nil, (fun a h => nomatch h), (fun a h => nomatch h)⟩ (Stp.refl.post fun a h => h.elim id fun z => nomatch z)
theorem cos_cons (he : CE R fs fr N sc g e (ev R g.pn xe)) (hr : COs R fs fr N sc g es xs) (hs : ∀ env, starEach (e :: es) env = (false, eval e env) :: starEach es env := by intro _; rfl) : COs R fs fr N sc g (e :: es) (.cons xe xs) := fun X A => by
  refine (pa_cons (he X A) (hr X A) (hs _)).of fun σ H Q h => ?_
  obtain ⟨T, ρ, F, gd, h⟩ := h
  rw [evs] at h
  refine ⟨T, ρ, F, gd, h.bind.imp fun p hp => ?_⟩
  intro T1 H1 F1 v f1 g1 t1 s1
  refine ⟨T1, p.2, F1, g1, hp.bind.go s1.own fun q hq => ?_⟩
  intro T2 H2 F2 vs f2 g2 t2 s2
  refine (show AftOs (g.at X.K) σ T H F Q (p.1 :: q.1, q.2) from hq) T2 H2 F2 (v :: vs) (f1 ++ f2) g2 (Tmp.cons (t1.stay s2 fun a h => .inl h) t2 (t1.apart s2)) ?_
  refine (s1.trans s2 fun a h => .inl h).post fun a h => ?_
  rcases h with h | h
  · exact .inl (.inl h)
  · rcases List.mem_append.mp h with h | h
    · exact .inr (.inr h)
    · exact .inl (.inr h)
theorem Good.off {K : PySem.W.Frag} {pv : List (Nat × V)} {T H : Hp} {σ : L2.St} {ρ : Env} {F : Foot} (gd : Good K pv T H σ ρ F) {a : Addr} (h : H a = none) : ¬ InF F a := fun z => gd.in_there z h
/-- a new list around objects at hand -/
theorem After.lst {G : Gm} {σ : L2.St} {T H T1 H1 : Hp} {F F1 : Foot} {Q : VK} {os : List Ob} {ρ : Env} {vs : List V} {f : List Addr} {q : Addr} (h : After G σ T H F Q (.lst os, ρ)) (gd : Gd G T1 H1 σ ρ F1) (t : Tmps G.K T1 H1 F1 os vs f)
    (s : Stp T H (InF F) T1 H1 (fun a => InF F1 a ∨ a ∈ f)) (hq : H1 q = none) : Q (.ref q) (upd H1 q (.lst vs)) := by
  have w : Grow T1 H1 T1 (upd H1 q (.lst vs)) := Grow.owned gd.same hq
  have nf : q ∉ f := fun z => by
    obtain ⟨u, e, _⟩ := ROs.there t.ros q z
    rw [e] at hq; cases hq
  refine h T1 _ F1 _ (q :: f) (gd.grow w) ⟨⟨q, vs, f, rfl, rfl, upd_same, ROs.mono (Same.refl _) t.ros fun a _ u e => w.hs a u e⟩, List.nodup_cons.mpr ⟨nf, t.nd⟩, fun a ha => ?_, fun a ha => ?_⟩ ?_
  · rcases List.mem_cons.mp ha with rfl | ha
    · exact gd.same.free hq
    · exact t.tn a ha
  · rcases List.mem_cons.mp ha with rfl | ha
    · exact gd.off hq
    · exact t.off a ha
  · refine (s.trans (w.stp (F := F1) (f := [q]) fun a ha => by rw [List.mem_singleton.mp ha]; exact hq) fun a h => .inl h).post fun a ha => ?_
    rcases ha with ha | ha
    · exact .inl (.inl ha)
    · rcases List.mem_cons.mp ha with rfl | ha
      · exact .inl (.inr (List.mem_singleton.mpr rfl))
      · exact .inr (.inr ha)
theorem ce_lst (h : COs R fs fr N sc g es xs) : CE R fs fr N sc g (.List es pos) (ev R g.pn (.lst xs)) := fun X A => by
  refine (pe_lst (h X A)).of fun σ H Q h => ?_
  obtain ⟨T, ρ, F, gd, h⟩ := h
  rw [ev] at h
  refine ⟨T, ρ, F, gd, h.bind.imp fun p hp => ?_⟩
  intro T1 H1 F1 vs f g1 t1 s1
  by_cases c : p.1.length ≤ sizeLine
  · rw [if_pos c] at hp
    exact ⟨by rw [t1.ros.len]; exact c, fun q hq => After.lst hp g1 t1 s1 hq⟩
  · rw [if_neg c] at hp
    exact hp.elim

/-! ### a dict with written keys -/
def CKs (R : Fns) (fs : List (Nat × Str)) (fr : Frs) (N : List Str) (sc : Bs) (g : Gx) (pos : Pos) (ks : List (Option Expr)) (es : List Expr) (kk : List Key) (xs : Exs) : Prop := ∀ X : Cx, At R fs fr N sc X →
  ∃ trs, PPs X pos ks es trs ∧ ∀ σ H Q, rdOs (g.at X.K) (evs R g.pn xs) σ H (fun vs H' => Q ((kk.zip vs).map fun kv => (kV kv.1, kv.2)) H') → tPairs trs σ H Q
theorem cks_nil : CKs R fs fr N sc g pos [] [] [] .nil := fun X A => ⟨[], pps_nil, fun σ H Q h => by
  obtain ⟨T, ρ, F, gd, h⟩ := h
  rw [evs] at h
  exact (show AftOs (g.at X.K) σ T H F _ ([], ρ) from h) T H F [] [] gd ⟨⟨rfl, rfl⟩, .nil, (fun a h => nomatch h), (fun a h => nomatch h)⟩ (Stp.refl.post fun a h => h.elim id fun z => nomatch z)⟩
theorem cks_cons {ks : List (Option Expr)} {kk : List Key} {y : Str} {n : Nat} (he : CE R fs fr N sc g e (ev R g.pn xe)) (hr : CKs R fs fr N sc g pos ks es kk xs) : CKs R fs fr N sc g pos (some (.Constant (.str y) n p1) :: ks) (e :: es) (.inr y :: kk) (.cons xe xs) := fun X A => by
  obtain ⟨trs, h1, h2⟩ := hr X A
  refine ⟨_, pps_cons pe_str (he X A) h1, fun σ H Q h => ?_⟩
  obtain ⟨T, ρ, F, gd, h⟩ := h
  rw [evs] at h
  refine ⟨T, ρ, F, gd, h.bind.imp fun p hp => ?_⟩
  intro T1 H1 F1 v f1 g1 t1 s1
  refine h2 σ H1 _ ⟨T1, p.2, F1, g1, hp.bind.go s1.own fun q hq => ?_⟩
  intro T2 H2 F2 vs f2 g2 t2 s2
  refine (show AftOs (g.at X.K) σ T H F _ (p.1 :: q.1, q.2) from hq) T2 H2 F2 (v :: vs) (f1 ++ f2) g2 (Tmp.cons (t1.stay s2 fun a h => .inl h) t2 (t1.apart s2)) ?_
  refine (s1.trans s2 fun a h => .inl h).post fun a h => ?_
  rcases h with h | h
  · exact .inl (.inl h)
  · rcases List.mem_append.mp h with h | h
    · exact .inr (.inr h)
    · exact .inl (.inr h)
theorem merge_new : ∀ (more kvs : List (Key × V)), ((kvs ++ more).map (·.1)).Nodup → mergeK kvs more = kvs ++ more
  | [], kvs, _ => by rw [List.append_nil]; rfl
  | p :: r, kvs, h => by
    have e : kvs ++ p :: r = (kvs ++ [p]) ++ r := by simp
    have hn : (kvs.any fun kv => decide (kv.1 = p.1)) = false := by
      rw [List.any_eq_false]
      intro q hq
      rw [List.map_append, List.nodup_append] at h
      have := h.2.2 q.1 (List.mem_map.mpr ⟨q, hq, rfl⟩) p.1 (by simp)
      simpa using this
    have e2 : putK kvs p.1 p.2 = kvs ++ [p] := by
      unfold putK
      rw [hn, if_neg Bool.false_ne_true]
    show mergeK (putK kvs p.1 p.2) r = _
    rw [e2, e]
    exact merge_new r (kvs ++ [p]) (by rw [← e]; exact h)
theorem zip_keys {α β : Type} : ∀ {ks : List α} {vs : List β}, ks.length = vs.length → (ks.zip vs).map (·.1) = ks
  | [], _, _ => by simp
  | k :: ks, [], h => by simp at h
  | k :: ks, v :: vs, h => by
    rw [List.zip_cons_cons, List.map_cons, zip_keys (by simpa using h)]
theorem ce_dct {ks : List (Option Expr)} {kk : List Key} (h : CKs R fs fr N sc g pos ks es kk xs) (hall : ks.all (·.isSome) = true) (hl : ks.length = es.length) (h0 : ks ≠ []) (h15 : ks.length ≤ 15) : CE R fs fr N sc g (.Dict ks es pos) (ev R g.pn (.dct kk xs)) := fun X A => by
  obtain ⟨trs, h1, h2⟩ := h X A
  refine (pe_disp h1 hall hl h0 h15).of fun σ H Q h => ?_
  obtain ⟨T, ρ, F, gd, h⟩ := h
  rw [ev] at h
  intro q hq
  have w : Grow T H T (upd H q (.dK [])) := Grow.owned gd.same hq
  have hTq : T q = none := gd.same.free hq
  have g0 := gd.grow w
  refine h2 σ _ _ ⟨T, ρ, F, g0, h.bind.go ((w.stp (F := F) (f := []) fun a ha => nomatch ha).post fun a h => .inl h) fun p hp => ?_⟩
  intro T1 H1 F1 vs f g1 t1 s1
  by_cases c : p.1.length = kk.length ∧ kk.length ≤ 15 ∧ kk.Nodup
  · rw [if_pos c] at hp
    have hp : After (g.at X.K) σ T H F Q (.dct kk p.1, p.2) := hp
    have lv : kk.length = vs.length := by rw [t1.ros.len]; exact c.1.symm
    have nq : ¬ InF F q := gd.off hq
    have e1 : H1 q = some (.dK []) := s1.frame q _ upd_same nq
    have nq1 : ¬ InF F1 q := fun z => by
      rcases s1.fresh q (.inl z) with z | z
      · exact nq z
      · rw [upd_same] at z; cases z
    have nf : q ∉ f := fun z => by
      rcases s1.fresh q (.inr z) with z | z
      · exact nq z
      · rw [upd_same] at z; cases z
    have tq : T1 q = none := by
      cases z : T1 q with
      | none => rfl
      | some u =>
        rcases s1.tnew q (by rw [z]; simp) with z | z | z
        · exact absurd hTq z
        · exact absurd z nq
        · rw [upd_same] at z; cases z
    refine ⟨e1, kk.zip vs, rfl, by rw [List.length_zip, lv, Nat.min_self, ← lv]; exact c.2.1, ?_⟩
    rw [merge_new (kk.zip vs) [] (by rw [List.nil_append, zip_keys lv]; exact c.2.2), List.nil_append]
    have th : Same T1 (upd H1 q (.dK (kk.zip vs))) := fun b u e => by
      rw [upd_ne fun z => by subst z; rw [tq] at e; cases e]
      exact g1.same b u e
    refine hp T1 _ F1 _ (q :: f) ⟨g1.len, fun j o e => ?_, g1.none_, g1.nd, g1.apart, g1.tn, th, g1.pins⟩ ⟨⟨q, vs, f, rfl, rfl, lv, c.2.2, upd_same, ROs.mono (Same.refl _) t1.ros fun a ha u e => ?_⟩, List.nodup_cons.mpr ⟨nf, t1.nd⟩, fun a ha => ?_, fun a ha => ?_⟩ ⟨s1.same, fun a o e hn => ?_, fun a ha => ?_, fun a ha => ?_⟩
    · obtain ⟨v, h1, r⟩ := g1.slot j o e
      exact ⟨v, h1, RO.mono (Same.refl _) r fun a ha u e => by rw [upd_ne fun z : a = q => nq1 ⟨j, by rw [← z]; exact ha⟩]; exact e⟩
    · rw [upd_ne fun z : a = q => nf (by rw [← z]; exact ha)]; exact e
    · rcases List.mem_cons.mp ha with rfl | ha
      · exact tq
      · exact t1.tn a ha
    · rcases List.mem_cons.mp ha with rfl | ha
      · exact nq1
      · exact t1.off a ha
    · have ne : a ≠ q := ne_of_none e hq
      rw [upd_ne ne]
      exact s1.frame a o (by rw [upd_ne ne]; exact e) hn
    · have go : InF F1 a ∨ a ∈ f → InF F a ∨ H a = none := fun z => by
        rcases s1.fresh a z with z | z
        · exact .inl z
        · by_cases ne : a = q
          · exact .inr (ne ▸ hq)
          · rw [upd_ne ne] at z; exact .inr z
      rcases ha with ha | ha
      · exact go (.inl ha)
      · rcases List.mem_cons.mp ha with rfl | ha
        · exact .inr hq
        · exact go (.inr ha)
    · rcases s1.tnew a ha with z | z | z
      · exact .inl z
      · exact .inr (.inl z)
      · by_cases ne : a = q
        · exact .inr (.inr (ne ▸ hq))
        · rw [upd_ne ne] at z; exact .inr (.inr z)
  · rw [if_neg c] at hp
    exact hp.elim
end
end AM
/-! Ev10: xs * n, a slot's list + e, pop; calls of defs. -/
namespace AM
open PySem PySem.Spec PyProof.Rows L2
section
variable {R : Fns} {fs : List (Nat × Str)} {fr : Frs} {N : List Str} {sc : Bs} {g : Gx} {a b c e : Expr} {es rest : List Expr} {xa xb xc xe : Ex} {xs : Exs} {pos p1 p2 p3 : Pos} {i j : Nat} {x : Str} {k : Env → Res (Ob × Env)}
theorem ce_rep (ha : CE R fs fr N sc g a (ev R g.pn xa)) (hb : CE R fs fr N sc g b (ev R g.pn xb)) : CE R fs fr N sc g (.BinOp a .Mult b pos) (ev R g.pn (.rep xa xb)) := fun X A => by
  refine (pe_op op_rep (ha X A) (hb X A).toD).of fun σ H Q h => ?_
  obtain ⟨T, ρ, F, gd, h⟩ := h
  rw [ev] at h
  refine ⟨T, ρ, F, gd, h.bind.imp fun p hp => ?_⟩
  obtain ⟨o, ρ1⟩ := p
  intro T1 H1 F1 v1 f1 g1 t1 s1
  refine ⟨T1, ρ1, F1, g1, hp.bind.go s1.own fun q hq => ?_⟩
  obtain ⟨d, ρ2⟩ := q
  intro T2 H2 F2 v2 g2 r2 s2
  have t2 := t1.stay (F' := F2) s2 fun a h => h
  cases o with
  | lst os =>
    cases d with
    | int k =>
      obtain ⟨ds, e1, hq⟩ := (show Out (g.at X.K) T H F ((Res.of (plains os)).bind fun ds => if -(2 ^ 63) ≤ k ∧ k < 2 ^ 63 ∧ ds.length * k.toNat ≤ sizeLine then .ok (Ob.ls (List.replicate k.toNat ds).flatten, ρ2) else .bad) _ from hq).ofb
      by_cases c : -(2 ^ 63) ≤ k ∧ k < 2 ^ 63 ∧ ds.length * k.toNat ≤ sizeLine
      · rw [if_pos c] at hq
        obtain ⟨l, vs, f, e2, _, hH, rs⟩ := t2.ro
        rw [plains_eq e1] at rs
        obtain ⟨_, rp⟩ := rs.of_plain
        refine ⟨l, k, vs, e2, r2, hH, c.1, c.2.1, by rw [rp.len]; exact c.2.2, fun p hp => ?_⟩
        exact (After.mk hq g2 ((s1.trans s2 fun _ h => .inl h).post fun _ h => .inl h)).ls g2.same (rp.rep k.toNat) hp
      · rw [if_neg c] at hq
        exact hq.elim
    | _ => exact hq.elim
  | _ => exact hq.elim
theorem ce_catp (hN : N[i]? = some x) (hv : Vis sc.sc x) (hb : CE R fs fr N sc g b (ev R g.pn xb)) (hd : (x == ("__debug__" : Str)) = false := by decide) (hcd : (x == ("__classdict__" : Str)) = false := by decide) :
    CE R fs fr N sc g (.BinOp (.Name x p1) .Add b pos) (ev R g.pn (.catp i xb)) := fun X A => by
  refine (pe_op ((op_bin .add).or op_catL) (pe_var (by rw [A.hN]; exact hN) (by rw [A.hsc]; exact hv) hd hcd) (hb X A).toD).of fun σ H Q h => ?_
  obtain ⟨T, ρ, F, gd, h⟩ := h
  rw [ev] at h
  obtain ⟨x0, e0, h⟩ := h.ofb
  have : ∃ o0, get ρ i = some o0 := by
    unfold peek at e0
    cases q : get ρ i with
    | none => rw [q] at e0; cases e0
    | some o => exact ⟨o, rfl⟩
  obtain ⟨o0, e1⟩ := this
  obtain ⟨v, ev0, _⟩ := gd.slot i _ (get_some e1)
  refine ⟨v, ev0, T, ρ, F, gd, h.bind.imp fun p hp => ?_⟩
  obtain ⟨d, ρ1⟩ := p
  intro T1 H1 F1 y g1 r1 s1
  obtain ⟨z, ez, hp⟩ := hp.ofb
  obtain ⟨o, eo, hp⟩ := hp.ofb
  unfold peek at ez
  cases q : get ρ1 i with
  | none => rw [q] at ez; cases ez
  | some u =>
    rw [q] at ez
    obtain ⟨v', ev1, r0⟩ := g1.slot i _ (get_some q)
    have : v' = v := by
      rw [ev0] at ev1
      cases ev1
      rfl
    subst this
    cases u with
    | d x =>
      cases ez
      exact .inl ⟨T1, _, d, o, g1.same, r0.2, r1, eo, After.mk hp g1 s1⟩
    | lst os =>
      have ez : (plains os).map PyData.list = some z := ez
      obtain ⟨ds, e2, rfl⟩ := Option.map_eq_some_iff.mp ez
      cases d with
      | list ys =>
        have eo : (if ds.length + ys.length ≤ sizeLine then some (Ob.ls (ds ++ ys)) else none) = some o := eo
        by_cases c : ds.length + ys.length ≤ sizeLine
        · rw [if_pos c] at eo
          cases eo
          obtain ⟨l, vs, f, rfl, _, hH, rs⟩ := r0
          rw [plains_eq e2] at rs
          obtain ⟨_, rp⟩ := rs.of_plain
          obtain ⟨b', us, rfl, sb, rb⟩ := r1
          exact .inr ⟨l, b', vs, us, rfl, rfl, SqL.of hH, g1.same.seq sb, by rw [rp.len, rb.len]; exact c, fun p hq => (After.mk hp g1 s1).ls g1.same (rp.app rb) hq⟩
        · rw [if_neg c] at eo; cases eo
      | _ => cases eo
    | dct _ _ => cases ez
theorem ROs.split {K : PySem.W.Frag} {T H : Hp} : ∀ {os : List Ob} {o : Ob} {vs : List V} {f : List Addr}, ROs K T H (os ++ [o]) vs f → ∃ us v g h, vs = us ++ [v] ∧ f = g ++ h ∧ ROs K T H os us g ∧ RO K T H o v h
  | [], o, _, _, ⟨v, r, g, h, e1, e2, e3, e4, e5⟩ => ⟨[], v, [], g, by rw [e1, e4]; rfl, by rw [e2, e5, List.append_nil]; rfl, ⟨rfl, rfl⟩, e3⟩
  | x :: os, o, _, _, ⟨v, r, g, h, e1, e2, e3, e4⟩ => by
    obtain ⟨us, w, g', h', q1, q2, q3, q4⟩ := ROs.split e4
    exact ⟨v :: us, w, g ++ g', h', by rw [e1, q1]; rfl, by rw [e2, q2, List.append_assoc], ⟨v, us, g, g', rfl, rfl, e3, q3⟩, q4⟩
theorem ce_pop (hN : N[i]? = some x) (hv : Vis sc.sc x) (hd : (x == ("__debug__" : Str)) = false := by decide) (hcd : (x == ("__classdict__" : Str)) = false := by decide) (hline : (p2.endLine == pos.line) = true := by rfl) :
    CE R fs fr N sc g (.Call (.Attribute (.Name x p1) "pop" p2) [] [] pos) (ev R g.pn (.pop i)) := fun X A => by
  refine (pe_bm0 PySem.F.plainAttrs_list PySem.F.slot_list_pop PySem.F.type_list_pop mt_pop (pe_var (by rw [A.hN]; exact hN) (by rw [A.hsc]; exact hv) hd hcd) rfl hline).of fun σ H Q h => ?_
  obtain ⟨T, ρ, F, gd, h⟩ := h
  rw [ev] at h
  obtain ⟨o, e0, h⟩ := h.ofb
  obtain ⟨v, ev0, r0⟩ := gd.slot i _ (get_some e0)
  cases o with
  | lst os =>
    cases q : os.getLast? with
    | none =>
      simp only [q] at h
      exact h.elim
    | some u =>
      simp only [q] at h
      have hos : os = os.dropLast ++ [u] := by
        obtain ⟨ne, e⟩ := List.getLast?_eq_some_iff.mp q
        rw [e]
        simp
      obtain ⟨l, vs, f, rfl, ef, hH, rs⟩ := r0
      rw [hos] at rs
      obtain ⟨us, w, g1, h1, rfl, rfl, rs1, ro⟩ := rs.split
      have nd := gd.nd i
      rw [ef] at nd
      have lF : l ∈ F i := by rw [ef]; exact List.mem_cons_self
      have inF : ∀ a, a ∈ g1 ++ h1 → a ∈ F i := fun a ha => by rw [ef]; exact List.mem_cons_of_mem _ ha
      have ndl := (List.nodup_cons.mp nd)
      have nda := List.nodup_append.mp ndl.2
      have neg : ∀ a ∈ g1 ++ h1, a ≠ l := fun a ha z => ndl.1 (z ▸ ha)
      have Tl : T l = none := gd.tn l ⟨i, lF⟩
      refine ⟨_, ev0, .inl ⟨rfl, _, SqL.of hH⟩, l, _, w, rfl, rfl, hH, by simp, ?_⟩
      rw [List.dropLast_concat]
      have th : Same T (upd H l (.lst us)) := fun b u e => by
        rw [upd_ne fun z => by subst z; rw [Tl] at e; cases e]
        exact gd.same b u e
      have gw : Gd (g.at X.K) T (upd H l (.lst us)) σ (ρ.set i (some (.lst os.dropLast))) (upF F i (l :: g1)) :=
        gd.write (get_some e0) ev0 ⟨l, us, g1, rfl, rfl, upd_same, ROs.mono (Same.refl _) rs1 fun a ha u e => by rw [upd_ne (neg a (List.mem_append_left _ ha))]; exact e⟩
          (List.nodup_cons.mpr ⟨fun z => ndl.1 (List.mem_append_left _ z), nda.1⟩) (fun a ha => gd.tn a ⟨i, by rcases List.mem_cons.mp ha with rfl | ha; exact lF; exact inF a (List.mem_append_left _ ha)⟩)
          (fun a ha => .inl (by rcases List.mem_cons.mp ha with rfl | ha; exact lF; exact inF a (List.mem_append_left _ ha))) (fun a u ha e => by rw [upd_ne fun z : a = l => ha (by rw [z]; exact lF)]; exact e) th
      refine (show After (g.at X.K) σ T H F Q (u, ρ.set i (some (.lst os.dropLast))) from h) T _ _ w h1 gw ⟨RO.mono (Same.refl _) ro fun a ha u e => by rw [upd_ne (neg a (List.mem_append_right _ ha))]; exact e, nda.2.1, fun a ha => gd.tn a ⟨i, inF a (List.mem_append_right _ ha)⟩, fun a ha z => ?_⟩ ?_
      · obtain ⟨j, hj⟩ := z
        by_cases e : j = i
        · subst e
          rw [upF_same] at hj
          rcases List.mem_cons.mp hj with e | hj
          · exact neg a (List.mem_append_right _ ha) e
          · exact nda.2.2 a hj a ha rfl
        · rw [upF_ne e] at hj
          exact e (gd.apart j i a hj (inF a (List.mem_append_right _ ha)))
      · refine ⟨Same.refl _, fun a o e n => by rw [upd_ne fun z : a = l => n ⟨i, by rw [z]; exact lF⟩]; exact e, fun a ha => .inl ?_, fun a ha => .inl ha⟩
        rcases ha with ha | ha
        · rcases in_upF ha with z | z
          · exact z
          · rcases List.mem_cons.mp z with rfl | z
            · exact ⟨i, lF⟩
            · exact ⟨i, inF a (List.mem_append_left _ z)⟩
        · exact ⟨i, inF a (List.mem_append_right _ ha)⟩
  | _ => exact h.elim
end
end AM
/-! Ev11: calls of defs. -/
namespace AM
open PySem PySem.Spec PyProof.Rows L2
/-- arguments by their values -/
def ArgR (K : PySem.W.Frag) (T : Hp) (σ : L2.St) : List Arg → List V → Prop
  | [], vs => vs = []
  | .val d :: r, vs => ∃ v us, vs = v :: us ∧ Rp K T d v ∧ ArgR K T σ r us
  | .io i :: r, vs => ∃ v us, vs = v :: us ∧ σ[i]? = some (some v) ∧ ArgR K T σ r us
theorem ArgR.mono {K : PySem.W.Frag} {T T' : Hp} {σ : L2.St} (e : Same T T') : ∀ {as : List Arg} {vs : List V}, ArgR K T σ as vs → ArgR K T' σ as vs
  | [], _, h => h
  | .val d :: r, _, ⟨v, us, e1, e2, e3⟩ => ⟨v, us, e1, Rp.mono e e2, ArgR.mono e e3⟩
  | .io i :: r, _, ⟨v, us, e1, e2, e3⟩ => ⟨v, us, e1, e2, ArgR.mono e e3⟩
theorem ArgR.len {K : PySem.W.Frag} {T : Hp} {σ : L2.St} : ∀ {as : List Arg} {vs : List V}, ArgR K T σ as vs → vs.length = as.length
  | [], _, h => by rw [show _ = [] from h]; rfl
  | .val d :: r, _, ⟨v, us, e1, _, e3⟩ => by rw [e1, List.length_cons, List.length_cons, ArgR.len e3]
  | .io i :: r, _, ⟨v, us, e1, _, e3⟩ => by rw [e1, List.length_cons, List.length_cons, ArgR.len e3]
theorem ArgR.val {K : PySem.W.Frag} {T : Hp} {σ : L2.St} : ∀ {as : List Arg} {vs : List V} {p : Nat} {d : Dt}, ArgR K T σ as vs → as[p]? = some (.val d) → ∃ v, vs[p]? = some v ∧ Rp K T d v
  | [], _, _, _, _, e => by simp at e
  | .val d :: r, _, 0, d', ⟨v, us, e1, e2, e3⟩, e => by
    have e : d = d' := by simpa using e
    exact ⟨v, by rw [e1]; rfl, e ▸ e2⟩
  | .io i :: r, _, 0, d', _, e => by simp at e
  | .val d :: r, _, p + 1, d', ⟨v, us, e1, e2, e3⟩, e => by
    obtain ⟨w, h1, h2⟩ := ArgR.val (p := p) e3 (by simpa using e)
    exact ⟨w, by rw [e1]; simpa using h1, h2⟩
  | .io i :: r, _, p + 1, d', ⟨v, us, e1, e2, e3⟩, e => by
    obtain ⟨w, h1, h2⟩ := ArgR.val (p := p) e3 (by simpa using e)
    exact ⟨w, by rw [e1]; simpa using h1, h2⟩
theorem ArgR.io {K : PySem.W.Frag} {T : Hp} {σ : L2.St} : ∀ {as : List Arg} {vs : List V} {p i : Nat}, ArgR K T σ as vs → as[p]? = some (.io i) → ∃ v, vs[p]? = some v ∧ σ[i]? = some (some v)
  | [], _, _, _, _, e => by simp at e
  | .val d :: r, _, 0, _, _, e => by simp at e
  | .io j :: r, _, 0, i, ⟨v, us, e1, e2, e3⟩, e => by
    have e : j = i := by simpa using e
    exact ⟨v, by rw [e1]; rfl, e ▸ e2⟩
  | .val d :: r, _, p + 1, i, ⟨v, us, e1, e2, e3⟩, e => by
    obtain ⟨w, h1, h2⟩ := ArgR.io (p := p) e3 (by simpa using e)
    exact ⟨w, by rw [e1]; simpa using h1, h2⟩
  | .io j :: r, _, p + 1, i, ⟨v, us, e1, e2, e3⟩, e => by
    obtain ⟨w, h1, h2⟩ := ArgR.io (p := p) e3 (by simpa using e)
    exact ⟨w, by rw [e1]; simpa using h1, h2⟩
theorem fill_len {ρ : Env} : ∀ {as : List Arg} {os : List Ob}, fill ρ as = some os → os.length = as.length
  | [], os, e => by cases e; rfl
  | .val d :: r, os, e => by
    have e : (fill ρ r).map (Ob.d d :: ·) = some os := e
    obtain ⟨us, e1, rfl⟩ := Option.map_eq_some_iff.mp e
    rw [List.length_cons, List.length_cons, fill_len e1]
  | .io i :: r, os, e => by
    have e : (match get ρ i, fill ρ r with | some o, some us => some (o :: us) | _, _ => none) = some os := e
    cases h1 : get ρ i with
    | none => simp only [h1] at e; cases e
    | some o =>
      cases h2 : fill ρ r with
      | none => simp only [h1, h2] at e; cases e
      | some us =>
        simp only [h1, h2] at e
        cases e
        rw [List.length_cons, List.length_cons, fill_len h2]
theorem fill_at {ρ : Env} : ∀ {as : List Arg} {os : List Ob} {p : Nat} {o : Ob}, fill ρ as = some os → os[p]? = some o → (∃ d, as[p]? = some (.val d) ∧ o = .d d) ∨ ∃ i, as[p]? = some (.io i) ∧ get ρ i = some o
  | [], os, _, _, e, h => by cases e; simp at h
  | .val d :: r, os, p, o, e, h => by
    have e : (fill ρ r).map (Ob.d d :: ·) = some os := e
    obtain ⟨us, e1, rfl⟩ := Option.map_eq_some_iff.mp e
    cases p with
    | zero =>
      have h : Ob.d d = o := by simpa using h
      exact .inl ⟨d, rfl, h.symm⟩
    | succ p =>
      rcases fill_at (p := p) e1 (by simpa using h) with ⟨d', q1, q2⟩ | ⟨i, q1, q2⟩
      · exact .inl ⟨d', by simpa using q1, q2⟩
      · exact .inr ⟨i, by simpa using q1, q2⟩
  | .io i :: r, os, p, o, e, h => by
    have e : (match get ρ i, fill ρ r with | some o, some us => some (o :: us) | _, _ => none) = some os := e
    cases h1 : get ρ i with
    | none => simp only [h1] at e; cases e
    | some o' =>
      cases h2 : fill ρ r with
      | none => simp only [h1, h2] at e; cases e
      | some us =>
        simp only [h1, h2] at e
        cases e
        cases p with
        | zero =>
          have h : o' = o := by simpa using h
          exact .inr ⟨i, rfl, by rw [h1, h]⟩
        | succ p =>
          rcases fill_at (p := p) h2 (by simpa using h) with ⟨d', q1, q2⟩ | ⟨i, q1, q2⟩
          · exact .inl ⟨d', by simpa using q1, q2⟩
          · exact .inr ⟨i, by simpa using q1, q2⟩
theorem mem_io : ∀ {as : List Arg} {p i : Nat}, as[p]? = some (.io i) → i ∈ ioOf as
  | [], _, _, e => by simp at e
  | .val d :: r, 0, i, e => by simp at e
  | .io j :: r, 0, i, e => by
    have e : j = i := by simpa using e
    subst e
    exact List.mem_cons_self
  | .val d :: r, p + 1, i, e => mem_io (as := r) (p := p) (by simpa using e)
  | .io j :: r, p + 1, i, e => List.mem_cons_of_mem _ (mem_io (as := r) (p := p) (by simpa using e))
theorem io_uniq : ∀ {as : List Arg} {p q i : Nat}, (ioOf as).Nodup → as[p]? = some (.io i) → as[q]? = some (.io i) → p = q
  | [], _, _, _, _, e, _ => by simp at e
  | .val d :: r, 0, _, i, _, e, _ => by simp at e
  | .val d :: r, _ + 1, 0, i, _, _, e => by simp at e
  | .val d :: r, p + 1, q + 1, i, n, e, f => by rw [io_uniq (as := r) (p := p) (q := q) n (by simpa using e) (by simpa using f)]
  | .io j :: r, 0, 0, i, _, _, _ => rfl
  | .io j :: r, 0, q + 1, i, n, e, f => by
    have e : j = i := by simpa using e
    subst e
    exact absurd (mem_io (as := r) (p := q) (by simpa using f)) (List.nodup_cons.mp n).1
  | .io j :: r, p + 1, 0, i, n, e, f => by
    have f : j = i := by simpa using f
    subst f
    exact absurd (mem_io (as := r) (p := p) (by simpa using e)) (List.nodup_cons.mp n).1
  | .io j :: r, p + 1, q + 1, i, n, e, f => by rw [io_uniq (as := r) (p := p) (q := q) (List.nodup_cons.mp n).2 (by simpa using e) (by simpa using f)]
theorem io_at : ∀ {as : List Arg} {i : Nat}, i ∈ ioOf as → ∃ p : Nat, as[p]? = some (Arg.io i)
  | [], _, h => by cases h
  | .val d :: r, i, h => by
    obtain ⟨p, e⟩ := io_at (as := r) h
    exact ⟨p + 1, by simpa using e⟩
  | .io j :: r, i, h => by
    rcases List.mem_cons.mp h with rfl | h
    · exact ⟨0, rfl⟩
    · obtain ⟨p, e⟩ := io_at (as := r) h
      exact ⟨p + 1, by simpa using e⟩
theorem put_len {l : List (Nat × Ob)} : ∀ {as : List Arg} {k : Nat} {ρ ρ' : Env}, putBack l k as ρ = some ρ' → ρ'.length = ρ.length
  | [], k, ρ, ρ', e => by cases e; rfl
  | .val d :: r, k, ρ, ρ', e => put_len (as := r) e
  | .io i :: r, k, ρ, ρ', e => by
    have e : (match l.lookup k with | some o => putBack l (k + 1) r (ρ.set i (some o)) | none => none) = some ρ' := e
    cases h : l.lookup k with
    | none => simp only [h] at e; cases e
    | some o =>
      simp only [h] at e
      rw [put_len e, List.length_set]
theorem put_out {l : List (Nat × Ob)} : ∀ {as : List Arg} {k : Nat} {ρ ρ' : Env} {i : Nat}, putBack l k as ρ = some ρ' → i ∉ ioOf as → ρ'[i]? = ρ[i]?
  | [], k, ρ, ρ', i, e, _ => by cases e; rfl
  | .val d :: r, k, ρ, ρ', i, e, h => put_out (as := r) e h
  | .io j :: r, k, ρ, ρ', i, e, hn => by
    have e : (match l.lookup k with | some o => putBack l (k + 1) r (ρ.set j (some o)) | none => none) = some ρ' := e
    cases h : l.lookup k with
    | none => simp only [h] at e; cases e
    | some o =>
      simp only [h] at e
      have hn : i ≠ j ∧ i ∉ ioOf r := by
        have : i ∉ j :: ioOf r := hn
        exact ⟨fun z => this (z ▸ List.mem_cons_self), fun z => this (List.mem_cons_of_mem _ z)⟩
      rw [put_out e hn.2, List.getElem?_set_ne (Ne.symm hn.1)]
theorem put_in {l : List (Nat × Ob)} : ∀ {as : List Arg} {k : Nat} {ρ ρ' : Env} {p i : Nat}, putBack l k as ρ = some ρ' → (ioOf as).Nodup → as[p]? = some (.io i) → i < ρ.length → ∃ o, l.lookup (k + p) = some o ∧ ρ'[i]? = some (some o)
  | [], k, ρ, ρ', p, i, e, _, h, _ => by simp at h
  | .val d :: r, k, ρ, ρ', 0, i, e, _, h, _ => by simp at h
  | .val d :: r, k, ρ, ρ', p + 1, i, e, n, h, hl => by
    obtain ⟨o, h1, h2⟩ := put_in (as := r) (p := p) e n (by simpa using h) hl
    exact ⟨o, by rw [← h1]; congr 1; omega, h2⟩
  | .io j :: r, k, ρ, ρ', 0, i, e, n, h, hl => by
    have e : (match l.lookup k with | some o => putBack l (k + 1) r (ρ.set j (some o)) | none => none) = some ρ' := e
    have h : j = i := by simpa using h
    subst h
    cases h : l.lookup k with
    | none => simp only [h] at e; cases e
    | some o =>
      simp only [h] at e
      refine ⟨o, by simpa using h, ?_⟩
      rw [put_out e (List.nodup_cons.mp n).1, List.getElem?_set_self hl]
  | .io j :: r, k, ρ, ρ', p + 1, i, e, n, h, hl => by
    have e : (match l.lookup k with | some o => putBack l (k + 1) r (ρ.set j (some o)) | none => none) = some ρ' := e
    cases q : l.lookup k with
    | none => simp only [q] at e; cases e
    | some o =>
      simp only [q] at e
      obtain ⟨o', h1, h2⟩ := put_in (as := r) (p := p) e (List.nodup_cons.mp n).2 (by simpa using h) (by rw [List.length_set]; exact hl)
      exact ⟨o', by rw [← h1]; congr 1; omega, h2⟩
/-- what a call's arguments own -/
def argF (F : Foot) (as : List Arg) : Foot := fun p => match as[p]? with
  | some (.io i) => F i
  | _ => []
theorem argF_io {F : Foot} {as : List Arg} {p i : Nat} (h : as[p]? = some (.io i)) : argF F as p = F i := by
  unfold argF
  rw [h]
theorem argF_mem {F : Foot} {as : List Arg} {p : Nat} {a : Addr} (h : a ∈ argF F as p) : ∃ i, as[p]? = some (.io i) ∧ a ∈ F i := by
  unfold argF at h
  split at h
  · rename_i i e
    exact ⟨i, e, h⟩
  · cases h
theorem argF_in {F : Foot} {as : List Arg} {a : Addr} (h : InF (argF F as) a) : ∃ i, i ∈ ioOf as ∧ a ∈ F i := by
  obtain ⟨p, hp⟩ := h
  obtain ⟨i, e, hi⟩ := argF_mem hp
  exact ⟨i, mem_io e, hi⟩
/-- .. behind the call -/
noncomputable def retF (F fo : Foot) (as : List Arg) : Foot := fun i => open Classical in if h : ∃ p : Nat, as[p]? = some (Arg.io i) then fo h.choose else F i
theorem retF_io {F fo : Foot} {as : List Arg} {p i : Nat} (n : (ioOf as).Nodup) (h : as[p]? = some (.io i)) : retF F fo as i = fo p := by
  unfold retF
  have q : ∃ p : Nat, as[p]? = some (Arg.io i) := ⟨p, h⟩
  rw [dif_pos q]
  rw [io_uniq n q.choose_spec h]
theorem retF_out {F fo : Foot} {as : List Arg} {i : Nat} (h : i ∉ ioOf as) : retF F fo as i = F i := by
  unfold retF
  rw [dif_neg fun q => h (mem_io q.choose_spec)]
section
variable {K : PySem.W.Frag} {pv : List (Nat × V)} {T H T2 H2 : Hp} {σ : L2.St} {ρ ρ2 : Env} {F fo : Foot} {as : List Arg} {vs : List V} {os : List Ob} {l : List (Nat × Ob)} {v : V} {o : Ob} {f' : List Addr}
/-- the callee's entry -/
theorem Good.args (gd : Good K pv T H σ ρ F) (r : ArgR K T σ as vs) (e : fill ρ as = some os) (n : (ioOf as).Nodup) : Good K [] T H (vs.map some) (os.map some) (argF F as) := by
  refine ⟨by rw [List.length_map, List.length_map, fill_len e, r.len], fun p o h => ?_, fun p h => ?_, fun p => ?_, fun p q a hp hq => ?_, fun a ha => ?_, gd.same, fun p hp => nomatch hp⟩
  · have h : os[p]? = some o := by
      rw [List.getElem?_map] at h
      cases q : os[p]? with
      | none => rw [q] at h; cases h
      | some u => rw [q] at h; cases h; rfl
    rcases fill_at e h with ⟨d, h1, rfl⟩ | ⟨i, h1, h2⟩
    · obtain ⟨w, q1, q2⟩ := r.val h1
      refine ⟨w, by rw [List.getElem?_map, q1]; rfl, ?_, q2⟩
      unfold argF
      rw [h1]
    · obtain ⟨w, q1, q2⟩ := r.io h1
      obtain ⟨w', q3, q4⟩ := gd.slot i o (get_some h2)
      rw [q2] at q3
      cases q3
      exact ⟨w, by rw [List.getElem?_map, q1]; rfl, by rw [argF_io h1]; exact q4⟩
  · cases q : as[p]? with
    | none => unfold argF; rw [q]
    | some u =>
      have hl : p < os.length := by rw [fill_len e]; exact (List.getElem?_eq_some_iff.mp q).1
      exact absurd (by rw [List.getElem?_map, List.getElem?_eq_getElem hl]; rfl) (h os[p])
  · cases q : as[p]? with
    | none => unfold argF; rw [q]; exact .nil
    | some u =>
      cases u with
      | val d => unfold argF; rw [q]; exact .nil
      | io i => rw [argF_io q]; exact gd.nd i
  · obtain ⟨i, e1, h1⟩ := argF_mem hp
    obtain ⟨j, e2, h2⟩ := argF_mem hq
    obtain rfl := gd.apart i j a h1 h2
    exact io_uniq n e1 e2
  · obtain ⟨i, _, h⟩ := argF_in ha
    exact gd.tn a ⟨i, h⟩
theorem argF_sub {a : Addr} (h : InF (argF F as) a) : InF F a := by
  obtain ⟨i, _, q⟩ := argF_in h
  exact ⟨i, q⟩
/-- the caller's state behind the call -/
theorem Good.back (gd : Good K pv T H σ ρ F) (r : ArgR K T σ as vs) (e : fill ρ as = some os) (n : (ioOf as).Nodup) (pb : putBack l 0 as ρ = some ρ2) (th : Same T2 H2) (ro : RO K T2 H2 o v f') (nd : f'.Nodup)
    (ol : ∀ q o, l.lookup q = some o → ∃ w, vs[q]? = some w ∧ RO K T2 H2 o w (fo q)) (nf : ∀ q, (fo q).Nodup) (ap : ∀ q r a, a ∈ fo q → a ∈ fo r → q = r) (of : ∀ a ∈ f', ¬ InF fo a) (tn : ∀ a, a ∈ f' ∨ InF fo a → T2 a = none)
    (s : Stp T H (InF (argF F as)) T2 H2 (fun a => a ∈ f' ∨ InF fo a)) :
    Good K pv T2 H2 σ ρ2 (retF F fo as) ∧ Tmp K T2 H2 (retF F fo as) o v f' ∧ Stp T H (InF F) T2 H2 (fun a => InF (retF F fo as) a ∨ a ∈ f') := by
  have slot_of : ∀ {p i : Nat}, as[p]? = some (.io i) → i < ρ.length := fun {p i} h => by
    have hl : p < os.length := by rw [fill_len e]; exact (List.getElem?_eq_some_iff.mp h).1
    rcases fill_at e (List.getElem?_eq_getElem hl) with ⟨d, h1, _⟩ | ⟨j, h1, h2⟩
    · rw [h] at h1; cases h1
    · rw [h] at h1
      cases h1
      exact (List.getElem?_eq_some_iff.mp (get_some h2)).1
  -- what stays with the caller is not touched
  have stay : ∀ {j : Nat} {a : Addr}, j ∉ ioOf as → a ∈ F j → ¬ InF (argF F as) a := fun {j a} hj ha z => by
    obtain ⟨i, h1, h2⟩ := argF_in z
    exact hj (gd.apart i j a h2 ha ▸ h1)
  have old : ∀ {j : Nat} {a : Addr}, j ∉ ioOf as → a ∈ F j → ¬ (a ∈ f' ∨ InF fo a) := fun {j a} hj ha z => by
    rcases s.fresh a z with z | z
    · exact stay hj ha z
    · exact gd.in_there ⟨j, ha⟩ z
  have cases_ : ∀ {i : Nat} {a : Addr}, a ∈ retF F fo as i → (∃ p, as[p]? = some (.io i) ∧ a ∈ fo p) ∨ (i ∉ ioOf as ∧ a ∈ F i) := fun {i a} h => by
    by_cases hi : i ∈ ioOf as
    · obtain ⟨p, hp⟩ := io_at hi
      rw [retF_io n hp] at h
      exact .inl ⟨p, hp, h⟩
    · rw [retF_out hi] at h
      exact .inr ⟨hi, h⟩
  have g2 : Good K pv T2 H2 σ ρ2 (retF F fo as) := by
    refine ⟨by rw [put_len pb]; exact gd.len, fun i u h => ?_, fun i h => ?_, fun i => ?_, fun i j a hi hj => ?_, fun a ha => ?_, th, gd.pins⟩
    · by_cases hi : i ∈ ioOf as
      · obtain ⟨p, hp⟩ := io_at hi
        obtain ⟨u', h1, h2⟩ := put_in pb n hp (slot_of hp)
        rw [h] at h2
        cases h2
        rw [Nat.zero_add] at h1
        obtain ⟨w, q1, q2⟩ := ol p u h1
        obtain ⟨w', q3, q4⟩ := r.io hp
        rw [q1] at q3
        cases q3
        exact ⟨w, q4, by rw [retF_io n hp]; exact q2⟩
      · rw [put_out pb hi] at h
        obtain ⟨w, q1, q2⟩ := gd.slot i u h
        exact ⟨w, q1, by rw [retF_out hi]; exact RO.mono s.same q2 fun a ha u e => s.frame a u e (stay hi ha)⟩
    · by_cases hi : i ∈ ioOf as
      · obtain ⟨p, hp⟩ := io_at hi
        obtain ⟨u', h1, h2⟩ := put_in pb n hp (slot_of hp)
        exact absurd h2 (h u')
      · rw [retF_out hi]
        exact gd.none_ i fun u q => h u (by rw [put_out pb hi]; exact q)
    · by_cases hi : i ∈ ioOf as
      · obtain ⟨p, hp⟩ := io_at hi
        rw [retF_io n hp]
        exact nf p
      · rw [retF_out hi]
        exact gd.nd i
    · rcases cases_ hi with ⟨p, h1, h2⟩ | ⟨h1, h2⟩
      · rcases cases_ hj with ⟨q, h3, h4⟩ | ⟨h3, h4⟩
        · obtain rfl := ap p q a h2 h4
          rw [h1] at h3
          cases h3
          rfl
        · exact absurd (.inr ⟨p, h2⟩) (old h3 h4)
      · rcases cases_ hj with ⟨q, h3, h4⟩ | ⟨h3, h4⟩
        · exact absurd (.inr ⟨q, h4⟩) (old h1 h2)
        · exact gd.apart i j a h2 h4
    · obtain ⟨i, hi⟩ := ha
      rcases cases_ hi with ⟨p, h1, h2⟩ | ⟨h1, h2⟩
      · exact tn a (.inr ⟨p, h2⟩)
      · cases q : T2 a with
        | none => rfl
        | some u =>
          rcases s.tnew a (by rw [q]; simp) with z | z | z
          · exact absurd (gd.tn a ⟨i, h2⟩) z
          · exact absurd z (stay h1 h2)
          · exact absurd z (gd.in_there ⟨i, h2⟩)
  refine ⟨g2, ⟨ro, nd, fun a ha => tn a (.inl ha), fun a ha z => ?_⟩, s.same, fun a o e hn => s.frame a o e fun z => hn (argF_sub z), fun a ha => ?_, fun a ha => (s.tnew a ha).imp id fun z => z.imp argF_sub id⟩
  · obtain ⟨i, hi⟩ := z
    rcases cases_ hi with ⟨p, h1, h2⟩ | ⟨h1, h2⟩
    · exact of a ha ⟨p, h2⟩
    · exact old h1 h2 (.inl ha)
  · rcases ha with ⟨i, hi⟩ | ha
    · rcases cases_ hi with ⟨p, h1, h2⟩ | ⟨h1, h2⟩
      · exact (s.fresh a (.inr ⟨p, h2⟩)).imp argF_sub id
      · exact .inl ⟨i, h2⟩
    · exact (s.fresh a (.inl ha)).imp argF_sub id
end
section
variable {R : Fns} {fs : List (Nat × Str)} {fr : Frs} {N : List Str} {sc : Bs} {g : Gx} {a b c e : Expr} {es rest : List Expr} {xa xb xc xe : Ex} {xs : Exs} {pos p1 p2 p3 : Pos} {i j : Nat} {x : Str} {k : Env → Res (Ob × Env)}
def rdAs (G : Gm) (c : Env → Res (List Arg × Env)) : TA := fun σ H Q => ∃ (T : Hp) (ρ : Env) (F : Foot), Gd G T H σ ρ F ∧ Out G T H F (c ρ) fun p => ∀ (T' H' : Hp) (F' : Foot) (vs : List V), Gd G T' H' σ p.2 F' → ArgR G.K T' σ p.1 vs → Stp T H (InF F) T' H' (InF F') → Q vs H'
def CAs (R : Fns) (fs : List (Nat × Str)) (fr : Frs) (N : List Str) (sc : Bs) (g : Gx) (es : List Expr) (xs : Exs) : Prop := ∀ X : Cx, At R fs fr N sc X → PA X es (rdAs (g.at X.K) (evA R g.pn xs))
theorem cas_nil : CAs R fs fr N sc g [] .nil := fun X A => pa_nil.of fun σ H Q h => by
  obtain ⟨T, ρ, F, gd, h⟩ := h
  rw [evA] at h
  exact (show ∀ (T' H' : Hp) (F' : Foot) (vs : List V), Gd (g.at X.K) T' H' σ ρ F' → ArgR (g.at X.K).K T' σ [] vs → Stp T H (InF F) T' H' (InF F') → Q vs H' from h) T H F [] gd rfl .refl
theorem cas_val (he : CE R fs fr N sc g e (ev R g.pn xe)) (hr : CAs R fs fr N sc g es xs) (hx : ∀ i, xe = .io i → False := by intro _ h; cases h) (hs : ∀ env, starEach (e :: es) env = (false, eval e env) :: starEach es env := by intro _; rfl) : CAs R fs fr N sc g (e :: es) (.cons xe xs) := fun X A => by
  refine (pa_cons (he X A).toD (hr X A) (hs _)).of fun σ H Q h => ?_
  obtain ⟨T, ρ, F, gd, h⟩ := h
  rw [evA.eq_3 _ _ _ _ _ hx] at h
  refine ⟨T, ρ, F, gd, h.bind.imp fun p hp => ?_⟩
  intro T1 H1 F1 v g1 r1 s1
  refine ⟨T1, p.2, F1, g1, hp.bind.go s1 fun q hq => ?_⟩
  intro T2 H2 F2 vs g2 r2 s2
  exact (show ∀ (T' H' : Hp) (F' : Foot) (vs : List V), Gd (g.at X.K) T' H' σ q.2 F' → ArgR (g.at X.K).K T' σ (.val p.1 :: q.1) vs → Stp T H (InF F) T' H' (InF F') → Q vs H' from hq) T2 H2 F2 (v :: vs) g2 ⟨v, vs, rfl, r1.up s2, r2⟩ ((s1.trans s2 fun _ h => h).post fun _ h => .inl h)
theorem cas_io (hN : N[i]? = some x) (hv : Vis sc.sc x) (hr : CAs R fs fr N sc g es xs) (hd : (x == ("__debug__" : Str)) = false := by decide) (hcd : (x == ("__classdict__" : Str)) = false := by decide) : CAs R fs fr N sc g (.Name x p1 :: es) (.cons (.io i) xs) := fun X A => by
  refine (pa_cons (pe_var (by rw [A.hN]; exact hN) (by rw [A.hsc]; exact hv) hd hcd) (hr X A) rfl).of fun σ H Q h => ?_
  obtain ⟨T, ρ, F, gd, h⟩ := h
  rw [evA] at h
  obtain ⟨o, e0, h⟩ := h.ofb
  obtain ⟨v, ev0, _⟩ := gd.slot i _ (get_some e0)
  refine ⟨v, ev0, T, ρ, F, gd, h.bind.imp fun q hq => ?_⟩
  intro T2 H2 F2 vs g2 r2 s2
  exact (show ∀ (T' H' : Hp) (F' : Foot) (vs : List V), Gd (g.at X.K) T' H' σ q.2 F' → ArgR (g.at X.K).K T' σ (.io i :: q.1) vs → Stp T H (InF F) T' H' (InF F') → Q vs H' from hq) T2 H2 F2 (v :: vs) g2 ⟨v, vs, rfl, ev0, r2⟩ s2
/-- from the arguments on -/
theorem call_go {X : Cx} {f np : Nat} {σ : L2.St} {T H T1 H1 : Hp} {F F1 : Foot} {Q : VK} {as : List Arg} {ρ1 : Env} {vs : List V} {E : XK} (nx : ∀ c ds T H F, ¬ g.XQ c ds T H F) (hl : ∀ os p, R.run f os = .ok p → os.length = np) (g1 : Gd (g.at X.K) T1 H1 σ ρ1 F1)
    (r : ArgR (g.at X.K).K T1 σ as vs) (s1 : Stp T H (InF F) T1 H1 (InF F1))
    (h : Out (g.at X.K) T H F (if (ioOf as).Nodup then (Res.of (fill ρ1 as)).bind fun os => (R.run f os).bind fun r => (Res.of (putBack r.2 0 as ρ1)).bind fun ρ2 => .ok (r.1, ρ2) else .bad) (After (g.at X.K) σ T H F Q)) :
    spF X.K R f np vs H1 Q E := by
  by_cases n : (ioOf as).Nodup
  · rw [if_pos n] at h
    obtain ⟨os, e, h⟩ := h.ofb
    cases q : R.run f os with
    | ok p =>
      rw [q] at h
      obtain ⟨ρ2, pb, h⟩ := (show Out (g.at X.K) T H F ((Res.of (putBack p.2 0 as ρ1)).bind fun ρ2 => .ok (p.1, ρ2)) (After (g.at X.K) σ T H F Q) from h).ofb
      refine ⟨by rw [r.len, ← fill_len e]; exact hl os p q, T1, os, argF F1 as, g1.args r e n, ?_⟩
      rw [q]
      intro T2 H2 v f' fo th ro nd ol nf ap of tn s
      obtain ⟨g2, t2, s2⟩ := g1.back r e n pb th ro nd ol nf ap of tn s
      exact (show After (g.at X.K) σ T H F Q (p.1, ρ2) from h) T2 H2 _ v f' g2 t2 ((s1.trans s2 fun _ h => h).post fun _ h => .inl h)
    | exc c ds =>
      rw [q] at h
      exact absurd h (nx _ _ _ _ _)
    | bad =>
      rw [q] at h
      exact h.elim
  · rw [if_neg n] at h
    exact h.elim
theorem ce_call {f : Nat} (nx : ∀ c ds T H F, ¬ g.XQ c ds T H F) (hf : (f, x) ∈ fs) (hg : GlS sc x) (ha : CAs R fs fr N sc g (e :: es) xs) (hdb : (x == ("__debug__" : Str)) = false := by decide)
    (he : ∀ env, starEach (e :: es) env = (false, eval e env) :: starEach es env := by intro _; rfl) (hpl : ∀ env, (backTo pos (starEach es env)).any (·.1) = false := by intro _; rfl) :
    CE R fs fr N sc g (.Call (.Name x p1) (e :: es) [] pos) (ev R g.pn (.call f xs)) := fun X A => by
  obtain ⟨ad, fd, ps, np, kk, Fn, hr, hm, hk, hb, hps, hl⟩ := (A.call _ hf).ex
  refine (pe_callG (E := E0) Fn hr A.gu (A.gl hg) hm hk hb pass0 (ha X A) hdb (he _) (hpl _)).of fun σ H Q h => ?_
  obtain ⟨T, ρ, F, gd, h⟩ := h
  rw [ev] at h
  refine ⟨T, ρ, F, gd, h.bind.imp fun p hp => ?_⟩
  intro T1 H1 F1 vs g1 r1 s1
  exact call_go nx hl g1 r1 s1 hp
theorem ce_call0 {f : Nat} (nx : ∀ c ds T H F, ¬ g.XQ c ds T H F) (hf : (f, x) ∈ fs) (hg : GlS sc x) (hdb : (x == ("__debug__" : Str)) = false := by decide) : CE R fs fr N sc g (.Call (.Name x p1) [] [] pos) (ev R g.pn (.call f .nil)) := fun X A => by
  obtain ⟨ad, fd, ps, np, kk, Fn, hr, hm, hk, hb, hps, hl⟩ := (A.call _ hf).ex
  refine (pe_callG0 (E := E0) Fn hr A.gu (A.gl hg) hm hk hb pass0 hdb).of fun σ H Q h => ?_
  obtain ⟨T, ρ, F, gd, h⟩ := h
  rw [ev, evA] at h
  exact call_go (as := []) nx hl gd rfl .refl h
end
end AM
/-! Ev12: targets; what is walked. -/
namespace AM
open PySem PySem.Spec PyProof.Rows L2
theorem wipe_set {σ : L2.St} {i : Nat} {x : Option V} : ∀ {own : List Nat}, wipe (σ.set i x) own = if i ∈ own then wipe σ own else (wipe σ own).set i x
  | [] => rfl
  | j :: r => by
    show (wipe (σ.set i x) r).set j none = _
    rw [wipe_set (own := r)]
    by_cases h : i ∈ r
    · rw [if_pos h, if_pos (List.mem_cons_of_mem _ h)]
      rfl
    · rw [if_neg h]
      by_cases e : i = j
      · subst e
        rw [if_pos List.mem_cons_self, List.set_set]
        rfl
      · rw [if_neg (by simp [h, e]), List.set_comm _ _ e]
        rfl
section
variable {G : Gm} {R : Fns} {fs : List (Nat × Str)} {fr : Frs} {N : List Str} {sc : Bs} {g : Gx} {a b c e tg : Expr} {es rest : List Expr} {xa xb xc xe : Ex} {xs : Exs} {pos p1 p2 p3 : Pos} {i j : Nat} {x : Str}
def rdG (G : Gm) (t : Tg) : TG := fun v σ H Q => ∃ (T : Hp) (ρ : Env) (F : Foot) (d : Dt) (ρ' : Env), Gd G T H σ ρ F ∧ Rp G.K T d v ∧ bindT G.pn t d ρ = some ρ' ∧
  ∀ (σ' : L2.St) (F' : Foot), Gd G T H σ' ρ' F' → (∀ a, InF F' a → InF F a) → (∀ own, tgIn own t = true → wipe σ' own = wipe σ own) → Q σ' H
def rdGs (G : Gm) (ts : Tgs) : TGs := fun vs σ H Q => ∃ (T : Hp) (ρ : Env) (F : Foot) (ds : List Dt) (ρ' : Env), Gd G T H σ ρ F ∧ Rps G.K T ds vs ∧ bindTs G.pn ts ds ρ = some ρ' ∧
  ∀ (σ' : L2.St) (F' : Foot), Gd G T H σ' ρ' F' → (∀ a, InF F' a → InF F a) → (∀ own, tgsIn own ts = true → wipe σ' own = wipe σ own) → Q σ' H
def CG (R : Fns) (fs : List (Nat × Str)) (fr : Frs) (N : List Str) (sc : Bs) (g : Gx) (e : Expr) (t : Tg) : Prop := ∀ X : Cx, At R fs fr N sc X → PG X e (rdG (g.at X.K) t)
def CGs (R : Fns) (fs : List (Nat × Str)) (fr : Frs) (N : List Str) (sc : Bs) (g : Gx) (es : List Expr) (ts : Tgs) : Prop := ∀ X : Cx, At R fs fr N sc X → PGs X es (rdGs (g.at X.K) ts)
theorem _root_.L2.PG.of {X : Cx} {e : Expr} {t t' : TG} (h : PG X e t) (i : ∀ v σ H Q, t' v σ H Q → t v σ H Q) : PG X e t' := ⟨fun pins s σ H v u Q I r q => h.run pins s σ H v u Q I r (i v σ H Q q)⟩
theorem _root_.L2.PGs.of {X : Cx} {e : List Expr} {t t' : TGs} (h : PGs X e t) (i : ∀ v σ H Q, t' v σ H Q → t v σ H Q) : PGs X e t' := ⟨fun pins s σ H v u Q I r q => h.run pins s σ H v u Q I r (i v σ H Q q)⟩
theorem st_some {pn : List Nat} {i : Nat} {o : Ob} {ρ ρ' : Env} (h : st pn i o ρ = some ρ') : i ∉ pn ∧ i < ρ.length ∧ ρ' = ρ.set i (some o) := by
  unfold st at h
  by_cases c : pn.contains i = true
  · rw [if_pos c] at h; cases h
  · rw [if_neg c] at h
    by_cases d : i < ρ.length
    · rw [if_pos d] at h
      cases h
      exact ⟨fun z => c (by simpa using z), d, rfl⟩
    · rw [if_neg d] at h; cases h
theorem not_pin {g : Gx} {i : Nat} (h : i ∉ g.pn) : ∀ p ∈ g.pv, p.1 ≠ i := fun p hp e => h (List.mem_map.mpr ⟨p, hp, e⟩)
theorem cg_name (hN : N[i]? = some x) (hl : Loc sc.sc x) (hf : sc.fn x = true ∨ sc.sc.names.lookup x = some .local) : CG R fs fr N sc g (.Name x pos) (.name i) := fun X A => by
  refine (pg_name A.nd (by rw [A.hN]; exact hN) (by rw [A.hsc]; exact hl) (hf.imp (A.fnok x) fun z => by rw [A.hsc]; exact z)).of fun v σ H Q h => ?_
  obtain ⟨T, ρ, F, d, ρ', gd, r, e, q⟩ := h
  rw [bindT] at e
  obtain ⟨h1, h2, rfl⟩ := st_some e
  refine q _ _ (gd.store (.plain r) h2 (not_pin (g := g) h1)) (fun a ha => (in_upF ha).elim id fun z => nomatch z) fun own ho => ?_
  rw [wipe_set, if_pos (by simpa [tgIn] using ho)]
theorem cgs_nil : CGs R fs fr N sc g [] .nil := fun X A => pgs_nil.of fun vs σ H Q h => by
  obtain ⟨T, ρ, F, ds, ρ', gd, r, e, q⟩ := h
  cases ds with
  | nil =>
    rw [bindTs] at e
    cases e
    exact ⟨r, q σ F gd (fun _ h => h) fun _ _ => rfl⟩
  | cons d ds => simp [bindTs] at e
theorem cgs_cons {t : Tg} {ts : Tgs} (h1 : CG R fs fr N sc g e t) (h2 : CGs R fs fr N sc g es ts) (hs : ∀ env, (assignEach (e :: es) env).map (·.2) = assign e env :: (assignEach es env).map (·.2) := by intro _; rfl) : CGs R fs fr N sc g (e :: es) (.cons t ts) := fun X A => by
  refine (pgs_cons (h1 X A) (h2 X A) (hs _)).of fun vs σ H Q h => ?_
  obtain ⟨T, ρ, F, ds, ρ', gd, r, e, q⟩ := h
  cases ds with
  | nil => simp [bindTs] at e
  | cons d ds =>
    rw [bindTs] at e
    obtain ⟨ρ1, e1, e2⟩ := Option.bind_eq_some_iff.mp e
    obtain ⟨v, us, rfl, r1, r2⟩ := r
    refine ⟨v, us, rfl, T, ρ, F, d, ρ1, gd, r1, e1, fun σ1 F1 g1 s1 w1 => ⟨T, ρ1, F1, ds, ρ', g1, r2, e2, fun σ2 F2 g2 s2 w2 => q σ2 F2 g2 (fun a h => s1 a (s2 a h)) fun own ho => ?_⟩⟩
    have ho : (tgIn own t && tgsIn own ts) = true := by simpa [tgsIn] using ho
    have ho := Bool.and_eq_true_iff.mp ho
    rw [w2 own ho.2, w1 own ho.1]
def tgsN : Tgs → Nat
  | .nil => 0
  | .cons _ ts => tgsN ts + 1
theorem bindTs_len {pn : List Nat} : ∀ {ts : Tgs} {ds : List Dt} {ρ ρ' : Env}, bindTs pn ts ds ρ = some ρ' → ds.length = tgsN ts
  | .nil, [], _, _, _ => rfl
  | .nil, d :: ds, _, _, h => by simp [bindTs] at h
  | .cons t ts, [], _, _, h => by simp [bindTs] at h
  | .cons t ts, d :: ds, ρ, ρ', h => by
    rw [bindTs] at h
    obtain ⟨ρ1, _, e2⟩ := Option.bind_eq_some_iff.mp h
    rw [List.length_cons, bindTs_len e2, tgsN]
theorem cg_tup {ts : Tgs} {k : Nat} (h : CGs R fs fr N sc g es ts) (hn : ∀ env, (assignEach es env).length = tgsN ts := by intro _; rfl) (hst : ∀ env, (assignEach es env).findIdx? (·.1) = none := by intro _; rfl) : CG R fs fr N sc g (.Tuple es k pos) (.tup ts) := fun X A => by
  refine (pg_tup A.calm (h X A) (hn _) (hst _)).of fun v σ H Q h => ?_
  obtain ⟨T, ρ, F, d, ρ', gd, r, e, q⟩ := h
  cases d with
  | tuple ds =>
    rw [bindT] at e
    obtain ⟨ad, vs, rfl, sa, ra⟩ := r
    exact ⟨ad, vs, rfl, same_T gd.same sa, by rw [ra.len, bindTs_len e], T, ρ, F, ds, ρ', gd, ra, e, fun σ' F' g' s' w' => q σ' F' g' s' fun own ho => w' own (by simpa [tgIn] using ho)⟩
  | _ => simp [bindT] at e

/-! ### what is walked -/
structure Iter (K : PySem.W.Frag) (T : Hp) (J : L2.It) (ds : List Dt) : Prop where
  go : ∀ i H, Same T H → i < ds.length → J.go i H
  stop : ∀ i H, Same T H → ds.length ≤ i → J.stop i H
  yld : ∀ i T2 H x H', Same T T2 → Same T2 H → J.yld i H x H' → ∀ d, ds[i]? = some d → ∃ T3, Grow T2 H T3 H' ∧ Rp K T3 d x
def rdI (G : Gm) (c : Env → Res (List Dt × Env)) : TI := fun σ H Q => ∃ (T : Hp) (ρ : Env) (F : Foot), Gd G T H σ ρ F ∧ Out G T H F (c ρ) fun p => ∀ (T' H' : Hp) (F' : Foot) (J : L2.It), Gd G T' H' σ p.2 F' → Iter G.K T' J p.1 → Stp T H (InF F) T' H' (InF F') → Q J H'
def CI (R : Fns) (fs : List (Nat × Str)) (fr : Frs) (N : List Str) (sc : Bs) (g : Gx) (tg e : Expr) (it : AM.It) : Prop := ∀ X : Cx, At R fs fr N sc X → PI X tg e (rdI (g.at X.K) (evI R g.pn it))
theorem _root_.L2.PI.of {X : Cx} {tg e : Expr} {t t' : TI} (h : PI X tg e t) (i : ∀ σ H Q, t' σ H Q → t σ H Q) : PI X tg e t' := ⟨fun pins s σ H R I q => h.run pins s σ H R I (i σ H R q)⟩
/-- a list or a tuple -/
def iSeq (K : PySem.W.Frag) (tl : TE) : TI := fun σ H R => tl σ H fun x H1 => ∃ a, x = .ref a ∧ ((∃ xs, SqL K H1 a xs) ∧ R (Itl K a) H1 ∨ (∃ xs, SqT K H1 a xs) ∧ R (Itt K a) H1)
theorem pi_seq {X : Cx} {l : Expr} {tl : TE} (hl : PE X l tl) : PI X tg l (iSeq X.K tl) := by
  refine ⟨fun pins s σ H R I h => thn (hl.run pins s σ H _ I h) fun v s1 ⟨x, H1, I1, r1, q1⟩ => ?_⟩
  have kp : ∀ (o : Obj) (b : Addr) (u : Obj), s1.heap.get? b = some u → (s1.heap.push o).get? b = some u := fun o b u e => Heap.get?_push_of_some _ e
  have nw : ∀ b ∈ [s1.heap.objs.size], FpOk X pins H1 b := fun b hb => by
    rw [List.mem_singleton.mp hb]
    exact I1.fpOk (Nat.le_refl _) (I1.hok.fresh (Nat.le_refl _))
  obtain ⟨ad, rfl, q1⟩ := q1
  cases r1
  rcases q1 with ⟨⟨ys, hq⟩, q⟩ | ⟨⟨ys, hq⟩, q⟩
  · obtain ⟨its, rv, pl, _⟩ := I1.list hq
    exact wpAny_pyIter_list pl.isList ⟨_, _, _, _, H1, rfl, I1.kept (t' := s1.toks) (kp _), turn_list ad _, ⟨_, Heap.get?_push_size _ rfl, rfl, rfl⟩, nw, q⟩
  · obtain ⟨its, rv, pl, _⟩ := I1.tuple hq
    exact wpAny_pyIter_tuple (show s1.heap.IsTuple ad its.toArray from pl) ⟨_, _, _, _, H1, rfl, I1.kept (t' := s1.toks) (kp _), turn_tuple ad _, ⟨_, Heap.get?_push_size _ rfl, rfl, rfl⟩, nw, q⟩
theorem iter_list {K : PySem.W.Frag} {T : Hp} {ad : Addr} {vs : List V} {ds : List Dt} (s : SqL K T ad vs) (r : Rps K T ds vs) : Iter K T (Itl K ad) ds := by
  have l := r.len
  refine ⟨fun i H th hi => ⟨vs, vs[i]'(by omega), th.seq s, List.getElem?_eq_getElem _⟩, fun i H th hi => ⟨vs, th.seq s, by omega⟩, fun i T2 H x H' t2 th y d hd => ?_⟩
  obtain ⟨rfl, y⟩ := y
  obtain ⟨w, h1, h2⟩ := r.get hd
  have := y vs (th.seq (t2.seq s))
  rw [h1] at this
  cases this
  exact ⟨T2, Grow.refl th, h2.mono t2⟩
theorem iter_tup {K : PySem.W.Frag} {T : Hp} {ad : Addr} {vs : List V} {ds : List Dt} (s : SqT K T ad vs) (r : Rps K T ds vs) : Iter K T (Itt K ad) ds := by
  have l := r.len
  refine ⟨fun i H th hi => ⟨vs, vs[i]'(by omega), same_T th s, List.getElem?_eq_getElem _⟩, fun i H th hi => ⟨vs, same_T th s, by omega⟩, fun i T2 H x H' t2 th y d hd => ?_⟩
  obtain ⟨rfl, y⟩ := y
  obtain ⟨w, h1, h2⟩ := r.get hd
  have := y vs (same_T th (same_T t2 s))
  rw [h1] at this
  cases this
  exact ⟨T2, Grow.refl th, h2.mono t2⟩
theorem iter_rng {K : PySem.W.Frag} {T : Hp} {lo : Int} {n : Nat} : Iter K T (Itr lo n) (rngD lo n) := by
  have l : (rngD lo n).length = n := by unfold rngD; rw [List.length_map, List.length_range]
  refine ⟨fun i H th hi => by rw [l] at hi; exact hi, fun i H th hi => by rw [l] at hi; exact hi, fun i T2 H x H' t2 th y d hd => ?_⟩
  obtain ⟨rfl, rfl⟩ := y
  refine ⟨T2, Grow.refl th, ?_⟩
  have hi : i < n := by rw [← l]; exact (List.getElem?_eq_some_iff.mp hd).1
  unfold rngD at hd
  rw [List.getElem?_map, List.getElem?_range hi] at hd
  cases hd
  rfl
theorem zip_at {K : PySem.W.Frag} {T : Hp} {xs ys : List Dt} {us ws : List V} {i : Nat} {d : Dt} (r1 : Rps K T xs us) (r2 : Rps K T ys ws) (h : ((xs.zip ys).map fun z => PyData.tuple [z.1, z.2])[i]? = some d) :
    ∃ p q u w, d = .tuple [p, q] ∧ us[i]? = some u ∧ ws[i]? = some w ∧ Rp K T p u ∧ Rp K T q w := by
  rw [List.getElem?_map] at h
  obtain ⟨z, h1, rfl⟩ := Option.map_eq_some_iff.mp h
  obtain ⟨h2, h3⟩ := List.getElem?_zip_eq_some.mp h1
  obtain ⟨u, e1, e2⟩ := r1.get h2
  obtain ⟨w, e3, e4⟩ := r2.get h3
  exact ⟨z.1, z.2, u, w, rfl, e1, e3, e2, e4⟩
theorem zip_grow {K : PySem.W.Frag} {T T2 H H' : Hp} {p q : Dt} {u w x : V} {ad : Addr} (t2 : Same T T2) (th : Same T2 H) (h1 : x = .ref ad) (h2 : H ad = none) (h3 : H' = upd H ad (.tup [u, w])) (r1 : Rp K T p u) (r2 : Rp K T q w) : ∃ T3, Grow T2 H T3 H' ∧ Rp K T3 (.tuple [p, q]) x := by
  subst h1 h3
  have gr : Grow T2 H (upd T2 ad (.tup [u, w])) (upd H ad (.tup [u, w])) := Grow.frozen th h2
  exact ⟨_, gr, ad, [u, w], rfl, SqT.of upd_same, u, [w], rfl, (r1.mono t2).mono gr.ts, w, [], rfl, (r2.mono t2).mono gr.ts, rfl⟩
theorem iter_zipL {K : PySem.W.Frag} {T : Hp} {a1 a2 : Addr} {us ws : List V} {xs ys : List Dt} (s1 : SqL K T a1 us) (r1 : Rps K T xs us) (s2 : SqL K T a2 ws) (r2 : Rps K T ys ws) : Iter K T (Itz K a1 a2) ((xs.zip ys).map fun z => PyData.tuple [z.1, z.2]) := by
  have l1 := r1.len
  have l2 := r2.len
  refine ⟨fun i H th hi => ?_, fun i H th hi => ?_, fun i T2 H x H' t2 th y d hd => ?_⟩
  · rw [List.length_map, List.length_zip] at hi
    exact ⟨us, ws, us[i]'(by omega), ws[i]'(by omega), th.seq s1, th.seq s2, List.getElem?_eq_getElem _, List.getElem?_eq_getElem _⟩
  · rw [List.length_map, List.length_zip] at hi
    exact ⟨us, ws, th.seq s1, th.seq s2, by omega⟩
  · obtain ⟨p, q, u, w, rfl, e1, e2, h1, h2⟩ := zip_at r1 r2 hd
    obtain ⟨ad, u', w', y1, y2, y3, y4, y5⟩ := y
    have a1 := y4 us (th.seq (t2.seq s1))
    have a2 := y5 ws (th.seq (t2.seq s2))
    rw [e1] at a1
    rw [e2] at a2
    cases a1
    cases a2
    exact zip_grow t2 th y1 y2 y3 h1 h2
theorem iter_zipT {K : PySem.W.Frag} {T : Hp} {a1 a2 : Addr} {us ws : List V} {xs ys : List Dt} (s1 : SqT K T a1 us) (r1 : Rps K T xs us) (s2 : SqT K T a2 ws) (r2 : Rps K T ys ws) : Iter K T (_root_.RZ.ItzT K a1 a2) ((xs.zip ys).map fun z => PyData.tuple [z.1, z.2]) := by
  have l1 := r1.len
  have l2 := r2.len
  refine ⟨fun i H th hi => ?_, fun i H th hi => ?_, fun i T2 H x H' t2 th y d hd => ?_⟩
  · rw [List.length_map, List.length_zip] at hi
    exact ⟨us, ws, us[i]'(by omega), ws[i]'(by omega), same_T th s1, same_T th s2, List.getElem?_eq_getElem _, List.getElem?_eq_getElem _⟩
  · rw [List.length_map, List.length_zip] at hi
    exact ⟨us, ws, same_T th s1, same_T th s2, by omega⟩
  · obtain ⟨p, q, u, w, rfl, e1, e2, h1, h2⟩ := zip_at r1 r2 hd
    obtain ⟨ad, u', w', y1, y2, y3, y4, y5⟩ := y
    have a1 := y4 us (same_T th (same_T t2 s1))
    have a2 := y5 ws (same_T th (same_T t2 s2))
    rw [e1] at a1
    rw [e2] at a2
    cases a1
    cases a2
    exact zip_grow t2 th y1 y2 y3 h1 h2
theorem ci_seq (ha : CE R fs fr N sc g a (ev R g.pn xa)) : CI R fs fr N sc g tg a (.seq xa) := fun X A => by
  refine (pi_seq (ha X A).toD).of fun σ H Q h => ?_
  obtain ⟨T, ρ, F, gd, h⟩ := h
  rw [evI] at h
  refine ⟨T, ρ, F, gd, h.bind.imp fun p hp => ?_⟩
  obtain ⟨d, ρ1⟩ := p
  intro T1 H1 F1 v g1 r1 s1
  obtain ⟨ds, e, hp⟩ := hp.ofb
  have hp : ∀ (T' H' : Hp) (F' : Foot) (J : L2.It), Gd (g.at X.K) T' H' σ ρ1 F' → Iter (g.at X.K).K T' J ds → Stp T H (InF F) T' H' (InF F') → Q J H' := hp
  cases d with
  | tuple xs =>
    cases e
    obtain ⟨ad, vs, rfl, sa, ra⟩ := r1
    exact ⟨ad, rfl, .inr ⟨⟨vs, same_T g1.same sa⟩, hp T1 H1 F1 _ g1 (iter_tup sa ra) s1⟩⟩
  | list xs =>
    cases e
    obtain ⟨ad, vs, rfl, sa, ra⟩ := r1
    exact ⟨ad, rfl, .inl ⟨⟨vs, g1.same.seq sa⟩, hp T1 H1 F1 _ g1 (iter_list sa ra) s1⟩⟩
  | _ => cases e
theorem rng_ok {i : Int} (h : rngOk i = true) : -(2 ^ 62) ≤ i ∧ i < 2 ^ 62 := of_decide_eq_true h
theorem ci_rng (ha : CE R fs fr N sc g a (ev R g.pn xa)) (hg : GlS sc "range") (hm : ("range" : Str) ∈ fr) (he : ∀ env, starEach [a] env = [(false, eval a env)] := by intro _; rfl) : CI R fs fr N sc g tg (.Call (.Name "range" p1) [a] [] pos) (.rng xa) := fun X A => by
  refine (pi_range1 (A.gl hg) (A.free _ hm) (pa_cons (ha X A).toD pa_nil (he _)) (he _)).of fun σ H Q h => ?_
  obtain ⟨T, ρ, F, gd, h⟩ := h
  rw [evI] at h
  refine ⟨T, ρ, F, gd, (show Out (g.at X.K) T H F ((ev R g.pn xa ρ).toD.bind _) _ from h).bind.imp fun p hp => ?_⟩
  obtain ⟨d, ρ1⟩ := p
  intro T1 H1 F1 v g1 r1 s1
  cases d with
  | int j =>
    have hp : Out (g.at X.K) T H F (if rngOk j = true then .ok (rngD 0 j.toNat, ρ1) else .bad) fun p => ∀ (T' H' : Hp) (F' : Foot) (J : L2.It), Gd (g.at X.K) T' H' σ p.2 F' → Iter (g.at X.K).K T' J p.1 → Stp T H (InF F) T' H' (InF F') → Q J H' := hp
    by_cases c : rngOk j = true
    · rw [if_pos c] at hp
      have c := rng_ok c
      exact ⟨j, by rw [int_of r1], c.1, c.2, (show ∀ (T' H' : Hp) (F' : Foot) (J : L2.It), Gd (g.at X.K) T' H' σ ρ1 F' → Iter (g.at X.K).K T' J (rngD 0 j.toNat) → Stp T H (InF F) T' H' (InF F') → Q J H' from hp) T1 H1 F1 _ g1 iter_rng s1⟩
    · rw [if_neg c] at hp
      exact hp.elim
  | _ => exact hp.elim
theorem ci_rng2 (ha : CE R fs fr N sc g a (ev R g.pn xa)) (hb : CE R fs fr N sc g b (ev R g.pn xb)) (hg : GlS sc "range") (hm : ("range" : Str) ∈ fr) (he : ∀ env es, starEach (a :: es) env = (false, eval a env) :: starEach es env := by intro _ _; rfl) (he2 : ∀ env, starEach [b] env = [(false, eval b env)] := by intro _; rfl) :
    CI R fs fr N sc g tg (.Call (.Name "range" p1) [a, b] [] pos) (.rng2 xa xb) := fun X A => by
  refine (pi_range2 (A.gl hg) (A.free _ hm) (pa_cons (ha X A).toD (pa_cons (hb X A).toD pa_nil (he2 _)) (he _ _)) (by rw [he, he2]) (he2 _)).of fun σ H Q h => ?_
  obtain ⟨T, ρ, F, gd, h⟩ := h
  rw [evI] at h
  refine ⟨T, ρ, F, gd, (show Out (g.at X.K) T H F ((ev R g.pn xa ρ).toD.bind _) _ from h).bind.imp fun p hp => ?_⟩
  obtain ⟨d, ρ1⟩ := p
  intro T1 H1 F1 v g1 r1 s1
  cases d with
  | int i =>
    refine ⟨T1, ρ1, F1, g1, (show Out (g.at X.K) T H F ((ev R g.pn xb ρ1).toD.bind _) _ from hp).bind.go s1 fun q hq => ?_⟩
    obtain ⟨e, ρ2⟩ := q
    intro T2 H2 F2 w g2 r2 s2
    cases e with
    | int j =>
      have hq : Out (g.at X.K) T H F (if rngOk i = true ∧ rngOk j = true then .ok (rngD i (j - i).toNat, ρ2) else .bad) fun p => ∀ (T' H' : Hp) (F' : Foot) (J : L2.It), Gd (g.at X.K) T' H' σ p.2 F' → Iter (g.at X.K).K T' J p.1 → Stp T H (InF F) T' H' (InF F') → Q J H' := hq
      by_cases c : rngOk i = true ∧ rngOk j = true
      · rw [if_pos c] at hq
        have c1 := rng_ok c.1
        have c2 := rng_ok c.2
        exact ⟨i, j, by rw [int_of r1, int_of r2], ⟨c1.1, c1.2, c2.1, c2.2⟩, (show ∀ (T' H' : Hp) (F' : Foot) (J : L2.It), Gd (g.at X.K) T' H' σ ρ2 F' → Iter (g.at X.K).K T' J (rngD i (j - i).toNat) → Stp T H (InF F) T' H' (InF F') → Q J H' from hq) T2 H2 F2 _ g2 iter_rng ((s1.trans s2 fun _ h => h).post fun _ h => .inl h)⟩
      · rw [if_neg c] at hq
        exact hq.elim
    | _ => exact hq.elim
  | _ => exact hp.elim
theorem ci_zip {k : Nat} (ha : CE R fs fr N sc g a (ev R g.pn xa)) (hb : CE R fs fr N sc g b (ev R g.pn xb)) (hg : GlS sc "zip") (hm : ("zip" : Str) ∈ fr) (he : ∀ env es, starEach (a :: es) env = (false, eval a env) :: starEach es env := by intro _ _; rfl) (he2 : ∀ env, starEach [b] env = [(false, eval b env)] := by intro _; rfl) :
    CI R fs fr N sc g (.Tuple es k p2) (.Call (.Name "zip" p1) [a, b] [] pos) (.zip xa xb) := fun X A => by
  refine (_root_.RZ.pi_zipA (A.gl hg) (A.free _ hm) (pa_cons (ha X A).toD (pa_cons (hb X A).toD pa_nil (he2 _)) (he _ _)) (he _ _) (by rw [he2]; rfl)).of fun σ H Q h => ?_
  obtain ⟨T, ρ, F, gd, h⟩ := h
  rw [evI] at h
  refine ⟨T, ρ, F, gd, h.bind.imp fun p hp => ?_⟩
  obtain ⟨d, ρ1⟩ := p
  intro T1 H1 F1 v g1 r1 s1
  refine ⟨T1, ρ1, F1, g1, hp.bind.go s1 fun q hq => ?_⟩
  obtain ⟨e, ρ2⟩ := q
  intro T2 H2 F2 w g2 r2 s2
  have s12 := (s1.trans s2 fun _ h => h).post fun _ h => Or.inl h
  have r1 := r1.up s2
  cases d with
  | list xs =>
    cases e with
    | list ys =>
      obtain ⟨a1, us, rfl, sa, ra⟩ := r1
      obtain ⟨a2, ws, rfl, sb, rb⟩ := r2
      exact ⟨a1, a2, us, ws, rfl, .inl ⟨g2.same.seq sa, g2.same.seq sb, (show ∀ (T' H' : Hp) (F' : Foot) (J : L2.It), Gd (g.at X.K) T' H' σ ρ2 F' → Iter (g.at X.K).K T' J ((xs.zip ys).map fun z => PyData.tuple [z.1, z.2]) → Stp T H (InF F) T' H' (InF F') → Q J H' from hq) T2 H2 F2 _ g2 (iter_zipL sa ra sb rb) s12⟩⟩
    | _ => exact hq.elim
  | tuple xs =>
    cases e with
    | tuple ys =>
      obtain ⟨a1, us, rfl, sa, ra⟩ := r1
      obtain ⟨a2, ws, rfl, sb, rb⟩ := r2
      exact ⟨a1, a2, us, ws, rfl, .inr ⟨same_T g2.same sa, same_T g2.same sb, (show ∀ (T' H' : Hp) (F' : Foot) (J : L2.It), Gd (g.at X.K) T' H' σ ρ2 F' → Iter (g.at X.K).K T' J ((xs.zip ys).map fun z => PyData.tuple [z.1, z.2]) → Stp T H (InF F) T' H' (InF F') → Q J H' from hq) T2 H2 F2 _ g2 (iter_zipT sa ra sb rb) s12⟩⟩
    | _ => exact hq.elim
  | _ => exact hq.elim
end
end AM
/-! Ev13: list comprehensions. -/
namespace AM
open PySem PySem.Spec PyProof.Rows L2
theorem wipeE_len {ρ : Env} : ∀ {own : List Nat}, (wipeE own ρ).length = ρ.length
  | [] => rfl
  | i :: r => by
    show ((wipeE r ρ).set i none).length = _
    rw [List.length_set, wipeE_len (own := r)]
theorem wipeE_out {ρ : Env} {j : Nat} : ∀ {own : List Nat}, j ∉ own → (wipeE own ρ)[j]? = ρ[j]?
  | [], _ => rfl
  | i :: r, h => by
    show ((wipeE r ρ).set i none)[j]? = _
    have hi : i ≠ j := fun e => h (e ▸ List.mem_cons_self)
    rw [List.getElem?_set_ne hi, wipeE_out fun z => h (List.mem_cons_of_mem _ z)]
theorem wipeE_in {ρ : Env} {j : Nat} : ∀ {own : List Nat}, j ∈ own → ∀ o, (wipeE own ρ)[j]? ≠ some (some o)
  | [], h, _ => by cases h
  | i :: r, h, o => by
    intro e
    have e : ((wipeE r ρ).set i none)[j]? = some (some o) := e
    by_cases hi : i = j
    · subst hi
      by_cases hl : i < (wipeE r ρ).length
      · rw [List.getElem?_set_self hl] at e; cases e
      · rw [List.getElem?_eq_none (by rw [List.length_set]; omega)] at e; cases e
    · rw [List.getElem?_set_ne hi] at e
      exact wipeE_in ((List.mem_cons.mp h).resolve_left (Ne.symm hi)) o e
theorem backE_len {ρ0 ρ : Env} : ∀ {own : List Nat}, (backE own ρ0 ρ).length = ρ.length
  | [] => rfl
  | i :: r => by
    show ((backE r ρ0 ρ).set i _).length = _
    rw [List.length_set, backE_len (own := r)]
theorem backE_out {ρ0 ρ : Env} {j : Nat} : ∀ {own : List Nat}, j ∉ own → (backE own ρ0 ρ)[j]? = ρ[j]?
  | [], _ => rfl
  | i :: r, h => by
    show ((backE r ρ0 ρ).set i _)[j]? = _
    have hi : i ≠ j := fun e => h (e ▸ List.mem_cons_self)
    rw [List.getElem?_set_ne hi, backE_out fun z => h (List.mem_cons_of_mem _ z)]
theorem backE_in {ρ0 ρ : Env} {j : Nat} {o : Ob} : ∀ {own : List Nat}, j ∈ own → (backE own ρ0 ρ)[j]? = some (some o) → ρ0[j]? = some (some o)
  | [], h, _ => by cases h
  | i :: r, h, e => by
    have e : ((backE r ρ0 ρ).set i ((ρ0[i]?).getD none))[j]? = some (some o) := e
    by_cases hi : i = j
    · subst hi
      by_cases hl : i < (backE r ρ0 ρ).length
      · rw [List.getElem?_set_self hl] at e
        have e : (ρ0[i]?).getD none = some o := Option.some.inj e
        cases q : ρ0[i]? with
        | none => rw [q] at e; cases e
        | some u =>
          rw [q] at e
          have e : u = some o := e
          rw [e]
      · rw [List.getElem?_eq_none (by rw [List.length_set]; omega)] at e; cases e
    · rw [List.getElem?_set_ne hi] at e
      exact backE_in ((List.mem_cons.mp h).resolve_left (Ne.symm hi)) e
theorem wipe_wipe {σ : L2.St} : ∀ {own : List Nat}, wipe (wipe σ own) own = wipe σ own := by
  intro own
  refine List.ext_getElem? fun j => ?_
  by_cases h : j ∈ own
  · have key : ∀ (τ : L2.St) (l : List Nat), j ∈ l → (wipe τ l)[j]? = if j < τ.length then some none else none := by
      intro τ l
      induction l with
      | nil => intro z; cases z
      | cons i r ih =>
        intro z
        show ((wipe τ r).set i none)[j]? = _
        by_cases hi : i = j
        · subst hi
          by_cases hl : i < (wipe τ r).length
          · rw [List.getElem?_set_self hl, if_pos (by rw [wipe_length] at hl; exact hl)]
          · rw [List.getElem?_eq_none (by rw [List.length_set]; omega), if_neg (by rw [wipe_length] at hl; exact hl)]
        · rw [List.getElem?_set_ne hi]
          exact ih ((List.mem_cons.mp z).resolve_left (Ne.symm hi))
    rw [key _ _ h, key _ _ h, wipe_length]
  · rw [wipe_out h]
def wipeF (own : List Nat) (F : Foot) : Foot := fun j => if j ∈ own then [] else F j
theorem wipeF_in {own : List Nat} {F : Foot} {a : Addr} (h : InF (wipeF own F) a) : InF F a := by
  obtain ⟨j, hj⟩ := h
  unfold wipeF at hj
  split at hj
  · cases hj
  · exact ⟨j, hj⟩
theorem Good.wipe {K : PySem.W.Frag} {pv : List (Nat × V)} {T H : Hp} {σ : L2.St} {ρ : Env} {F : Foot} {own : List Nat} (g : Good K pv T H σ ρ F) (hp : ∀ p ∈ pv, p.1 ∉ own) : Good K pv T H (L2.wipe σ own) (wipeE own ρ) (wipeF own F) := by
  refine ⟨by rw [wipeE_len, wipe_length]; exact g.len, fun j o e => ?_, fun j h => ?_, fun j => ?_, fun i j a hi hj => ?_, fun a ha => g.tn a (wipeF_in ha), g.same, fun p h => ?_⟩
  · by_cases hj : j ∈ own
    · exact absurd e (wipeE_in hj o)
    · rw [wipeE_out hj] at e
      obtain ⟨v, h1, h2⟩ := g.slot j o e
      refine ⟨v, by rw [wipe_out hj]; exact h1, ?_⟩
      unfold wipeF
      rw [if_neg hj]
      exact h2
  · unfold wipeF
    by_cases hj : j ∈ own
    · rw [if_pos hj]
    · rw [if_neg hj]
      exact g.none_ j fun o e => h o (by rw [wipeE_out hj]; exact e)
  · unfold wipeF
    split
    · exact .nil
    · exact g.nd j
  · unfold wipeF at hi hj
    split at hi
    · cases hi
    · split at hj
      · cases hj
      · exact g.apart i j a hi hj
  · rw [wipe_out (hp p h)]
    exact g.pins p h
/-- an address that no slot owns is written -/
theorem Good.aside {K : PySem.W.Frag} {pv : List (Nat × V)} {T H : Hp} {σ : L2.St} {ρ : Env} {F : Foot} {q : Addr} {u : HO} (g : Good K pv T H σ ρ F) (hn : ¬ InF F q) (ht : T q = none) : Good K pv T (upd H q u) σ ρ F := by
  refine ⟨g.len, fun j o e => ?_, g.none_, g.nd, g.apart, g.tn, fun b w e => ?_, g.pins⟩
  · obtain ⟨v, h1, r⟩ := g.slot j o e
    exact ⟨v, h1, RO.mono (Same.refl _) r fun a ha u e => by rw [upd_ne fun z : a = q => hn ⟨j, by rw [← z]; exact ha⟩]; exact e⟩
  · rw [upd_ne fun z : b = q => by rw [z, ht] at e; cases e]
    exact g.same b w e
theorem Stp.aside {T H T' H' : Hp} {P P' : Own} {q : Addr} {u : HO} (s : Stp T H P T' H' P') (h : H q = none) : Stp T H P T' (upd H' q u) P' :=
  ⟨s.same, fun a o e n => by rw [upd_ne (ne_of_none e h)]; exact s.frame a o e n, s.fresh, s.tnew⟩
theorem ROs.aside {K : PySem.W.Frag} {T H : Hp} {os : List Ob} {vs : List V} {f : List Addr} {q : Addr} {u : HO} (r : ROs K T H os vs f) (h : q ∉ f) : ROs K T (upd H q u) os vs f :=
  ROs.mono (Same.refl _) r fun a ha w e => by rw [upd_ne fun z : a = q => h (by rw [← z]; exact ha)]; exact e
theorem RO.aside {K : PySem.W.Frag} {T H : Hp} {o : Ob} {v : V} {f : List Addr} {q : Addr} {u : HO} (r : RO K T H o v f) (h : q ∉ f) : RO K T (upd H q u) o v f :=
  RO.mono (Same.refl _) r fun a ha w e => by rw [upd_ne fun z : a = q => h (by rw [← z]; exact ha)]; exact e
theorem Tmps.stay {K : PySem.W.Frag} {T H T' H' : Hp} {F F' : Foot} {o : List Ob} {v : List V} {f : List Addr} {P' : Own} (t : Tmps K T H F o v f) (s : Stp T H (InF F) T' H' P') (h : ∀ a, InF F' a → P' a) : Tmps K T' H' F' o v f := by
  refine ⟨ROs.mono s.same t.ros fun a ha u e => s.frame a u e (t.off a ha), t.nd, fun a ha => ?_, fun a ha hn => ?_⟩
  · cases q : T' a with
    | none => rfl
    | some u =>
      rcases s.tnew a (by rw [q]; simp) with z | z | z
      · exact absurd (t.tn a ha) z
      · exact absurd z (t.off a ha)
      · obtain ⟨w, e, _⟩ := ROs.there t.ros a ha
        rw [e] at z; cases z
  · rcases s.fresh a (h a hn) with z | z
    · exact t.off a ha z
    · obtain ⟨w, e, _⟩ := ROs.there t.ros a ha
      rw [e] at z; cases z
/-- the list that a comprehension makes, at D -/
structure Mid (K : PySem.W.Frag) (T H : Hp) (F : Foot) (D : Addr) (os : List Ob) (vs : List V) (f : List Addr) : Prop where
  at_ : H D = some (.lst vs)
  tm : Tmps K T H F os vs f
  nf : D ∉ f
  tD : T D = none
  offD : ¬ InF F D
theorem Mid.stay {K : PySem.W.Frag} {T H T' H' : Hp} {F F' : Foot} {D : Addr} {o : List Ob} {v : List V} {f : List Addr} {P' : Own} (m : Mid K T H F D o v f) (s : Stp T H (InF F) T' H' P') (h : ∀ a, InF F' a → P' a) : Mid K T' H' F' D o v f := by
  refine ⟨s.frame D _ m.at_ m.offD, m.tm.stay s h, m.nf, ?_, fun z => ?_⟩
  · cases q : T' D with
    | none => rfl
    | some u =>
      rcases s.tnew D (by rw [q]; simp) with z | z | z
      · exact absurd m.tD z
      · exact absurd z m.offD
      · rw [m.at_] at z; cases z
  · rcases s.fresh D (h D z) with z | z
    · exact m.offD z
    · rw [m.at_] at z; cases z
theorem Mid.sub {K : PySem.W.Frag} {T H : Hp} {F F' : Foot} {D : Addr} {o : List Ob} {v : List V} {f : List Addr} (m : Mid K T H F D o v f) (h : ∀ a, InF F' a → InF F a) : Mid K T H F' D o v f :=
  ⟨m.at_, ⟨m.tm.ros, m.tm.nd, m.tm.tn, fun a ha z => m.tm.off a ha (h a z)⟩, m.nf, m.tD, fun z => m.offD (h D z)⟩
theorem Mid.grow {K : PySem.W.Frag} {T H T' H' : Hp} {F : Foot} {D : Addr} {o : List Ob} {v : List V} {f : List Addr} (m : Mid K T H F D o v f) (w : Grow T H T' H') : Mid K T' H' F D o v f :=
  m.stay ((w.stp (F := F) (f := []) fun a z => nomatch z).post fun a h => Or.inl h) fun a h => h
/-- one more -/
theorem Mid.push {K : PySem.W.Frag} {T H : Hp} {F : Foot} {D : Addr} {os : List Ob} {vs : List V} {f : List Addr} {o : Ob} {y : V} {fy : List Addr} (m : Mid K T H F D os vs f) (t : Tmp K T H F o y fy) (ap : ∀ a ∈ f, a ∉ fy) (nD : D ∉ fy) : Mid K T (upd H D (.lst (vs ++ [y]))) F D (os ++ [o]) (vs ++ [y]) (f ++ fy) := by
  refine ⟨upd_same, ⟨?_, List.nodup_append.mpr ⟨m.tm.nd, t.nd, fun a ha b hb e => ap a ha (e ▸ hb)⟩, fun a ha => ?_, fun a ha => ?_⟩, fun z => ?_, m.tD, m.offD⟩
  · exact (m.tm.ros.aside m.nf).app (ROs.one (t.ro.aside nD))
  · exact (List.mem_append.mp ha).elim (m.tm.tn a) (t.tn a)
  · exact (List.mem_append.mp ha).elim (m.tm.off a) (t.off a)
  · exact (List.mem_append.mp z).elim m.nf nD
section
variable {R : Fns} {fs : List (Nat × Str)} {fr : Frs} {N : List Str} {sc : Bs} {g : Gx} {a b c e tg elt iter : Expr} {es ifs : List Expr} {xa xb xc xe : Ex} {xs cs : Exs} {pos p1 p2 p3 : Pos} {i j : Nat} {x : Str} {t : Tg} {it : AM.It}
def CC (R : Fns) (fs : List (Nat × Str)) (fr : Frs) (N : List Str) (sc : Bs) (g : Gx) (es : List Expr) (xs : Exs) : Prop := ∀ X : Cx, At R fs fr N sc X → PTs X es (rdT (g.at X.K) (evC R g.pn xs))
theorem cc_nil : CC R fs fr N sc g [] .nil := fun X A => ⟨fun pins s σ H Q I h => by
  obtain ⟨T, ρ, F, gd, h⟩ := h
  rw [evC] at h
  exact pts_nil.run pins s σ H Q I ((show AftB (g.at X.K) σ T H F Q (true, ρ) from h) T H F gd .refl)⟩
theorem cc_one (h : CT R fs fr N sc g e (tb R g xe)) : CC R fs fr N sc g [e] (.cons xe .nil) := fun X A => ⟨fun pins s σ H Q I q => (pts_one (h X A)).run pins s σ H Q I (by
  obtain ⟨T, ρ, F, gd, q⟩ := q
  rw [evC] at q
  exact ⟨T, ρ, F, gd, q⟩)⟩
/-- the block of a comprehension -/
abbrev blkB (sc : Bs) (scope : Scope) : Bs := ⟨relS scope sc.sc, fun x => scope.names.lookup x == some .cell⟩
theorem At.blk {X : Cx} (A : At R fs fr N sc X) (s : Shared) (H : Hp) (scope : Scope) (C : Addr) (cl : List (Str × Addr)) (fp : List Addr) : At R fs fr N (blkB sc scope) (X.blk s H scope (compEnvC scope cl C X.env) fp) := by
  refine ⟨A.nd, A.hN, ?_, A.calm, A.room, A.gu, fun x h => h, PassesOwn.never, A.fro, fun p hp => ?_⟩
  · show relS scope X.env.scope = relS scope sc.sc
    rw [A.hsc]
  · obtain ⟨ad, fd, ps, np, k, h⟩ := (A.call p hp).ex
    exact ⟨ad, fd, ps, np, k, h⟩
theorem nox_ok {α : Type} {r : Res α} {a : α} (h : r.nox = .ok a) : r = .ok a := by
  cases r <;> first | exact h | cases h
theorem Out.nox {α : Type} {G : Gm} {T H : Hp} {F : Foot} {r : Res α} {P : α → Prop} (h : Out G T H F r.nox P) : ∃ a, r = .ok a ∧ P a := by
  cases r with
  | ok a => exact ⟨a, rfl, h⟩
  | exc c ds => exact h.elim
  | bad => exact h.elim
theorem bind_ok {α β : Type} {r : Res α} {k : α → Res β} {b : β} (h : r.bind k = .ok b) : ∃ a, r = .ok a ∧ k a = .ok b := by
  cases r with
  | ok a => exact ⟨a, rfl, h⟩
  | exc c ds => cases h
  | bad => cases h
theorem of_ok {α : Type} {o : Option α} {a : α} (h : Res.of o = .ok a) : o = some a := by
  cases o with
  | none => cases h
  | some b => cases h; rfl
theorem ce_comp {scope : Scope} {own : List (Str × Nat)} (hi : CI R fs fr N sc g tg iter it) (ok : blkC N sc.sc scope own = true) (ht : CG R fs fr N (blkB sc scope) g.nox tg t) (hc : CC R fs fr N (blkB sc scope) g.nox ifs cs)
    (he : CE R fs fr N (blkB sc scope) g.nox elt (ev R g.pn xe)) (hs : ∀ env x, foldedSetIterable iter env x = pure x := by intro _ _; rfl) {ow : List Nat} (how : own.map (·.2) = ow := by rfl) :
    ∀ X : Cx, At R fs fr N sc X → ∃ (wi : TI) (gg : TG) (tt : TT) (te : TE), PI X tg iter wi ∧ BlkOk X.N X.env.scope scope own ∧ (∀ (s : Shared) (H : Hp) (C : Addr) (cl : List (Str × Addr)) (fp : List Addr), PG (X.blk s H scope (compEnvC scope cl C X.env) fp) tg gg) ∧
      (∀ (s : Shared) (H : Hp) (C : Addr) (cl : List (Str × Addr)) (fp : List Addr), PTs (X.blk s H scope (compEnvC scope cl C X.env) fp) ifs tt) ∧ (∀ (s : Shared) (H : Hp) (C : Addr) (cl : List (Str × Addr)) (fp : List Addr), PE (X.blk s H scope (compEnvC scope cl C X.env) fp) elt te) ∧
      (∀ x, foldedSetIterable iter X.env x = pure x) ∧ ∀ σ H Q, rd (g.at X.K) (ev R g.pn (.comp ow t it cs xe)) σ H Q → tLc wi gg tt te (own.map (·.2)) σ H Q := fun X A => by
  refine ⟨_, rdG (g.nox.at X.K) t, rdT (g.nox.at X.K) (evC R g.pn cs), rd (g.nox.at X.K) (ev R g.pn xe), hi X A, by rw [A.hN, A.hsc]; exact blkOk_by ok, fun s H C cl fp => ht _ (A.blk s H scope C cl fp), fun s H C cl fp => hc _ (A.blk s H scope C cl fp), fun s H C cl fp => he _ (A.blk s H scope C cl fp), hs _, fun σ H Q h => ?_⟩
  rw [how]
  obtain ⟨T, ρ, F, gd, h⟩ := h
  rw [ev] at h
  refine ⟨T, ρ, F, gd, h.bind.imp fun p hp => ?_⟩
  obtain ⟨ds, ρ1⟩ := p
  intro T1 H1 F1 J g1 J1 s1
  have hp : Out (g.at X.K) T H F (if ownOk g.pn ow ρ1 = true ∧ tgIn ow t = true then (compL (fun d r => bindT g.pn t d (wipeE ow r)) (evC R g.pn cs) (ev R g.pn xe) ds (wipeE ow ρ1)).nox.bind fun q => if q.1.length ≤ sizeLine then .ok (.lst q.1, backE ow ρ1 q.2) else .bad else .bad) (After (g.at X.K) σ T H F Q) := hp
  by_cases c : ownOk g.pn ow ρ1 = true ∧ tgIn ow t = true
  case neg => rw [if_neg c] at hp; exact hp.elim
  rw [if_pos c] at hp
  obtain ⟨⟨osA, ρe⟩, eA, hp⟩ := hp.bind.nox
  have hp : Out (g.at X.K) T H F (if osA.length ≤ sizeLine then .ok (Ob.lst osA, backE ow ρ1 ρe) else .bad) (After (g.at X.K) σ T H F Q) := hp
  by_cases cz : osA.length ≤ sizeLine
  case neg => rw [if_neg cz] at hp; exact hp.elim
  rw [if_pos cz] at hp
  have fin : After (g.at X.K) σ T H F Q (.lst osA, backE ow ρ1 ρe) := hp
  have own_ok : ∀ i ∈ ow, i ∉ g.pn ∧ ∀ o, ρ1[i]? = some (some o) → ∃ x, o = .d x := fun i hi => by
    have q := List.all_eq_true.mp c.1 i hi
    have q := Bool.and_eq_true_iff.mp q
    refine ⟨fun z => ?_, fun o e => ?_⟩
    · have q1 := q.1
      rw [show g.pn.contains i = true by simpa using z] at q1
      cases q1
    · have q2 := q.2
      rw [e] at q2
      cases o with
      | d x => exact ⟨x, rfl⟩
      | _ => cases q2
  have pin_ok : ∀ p ∈ g.pv, p.1 ∉ ow := fun p hp z => (own_ok p.1 z).1 (List.mem_map.mpr ⟨p, hp, rfl⟩)
  intro D hD
  -- the state behind i turns
  let S : Nat → Hp → Prop := fun i H' => ∃ (T' : Hp) (ρ' : Env) (F' : Foot) (os : List Ob) (vs : List V) (f : List Addr) (rest : List Ob),
    Gd (g.at X.K) T' H' (wipe σ ow) (wipeE ow ρ') F' ∧ Mid X.K T' H' F' D os vs f ∧ compL (fun d r => bindT g.pn t d (wipeE ow r)) (evC R g.pn cs) (ev R g.pn xe) (ds.drop i) ρ' = .ok (rest, ρe) ∧ osA = os ++ rest ∧
    Stp T1 H1 (InF F1) T' H' (fun a => InF F' a ∨ a = D ∨ a ∈ f)
  have T1D : T1 D = none := g1.same.free hD
  have w0 : Grow T1 H1 T1 (upd H1 D (.lst [])) := Grow.owned g1.same hD
  refine ⟨fun i m H' => m = ds.length - i ∧ i ≤ ds.length ∧ S i H', ⟨_, rfl, Nat.zero_le _, ?_⟩, fun i m H' hW => ?_⟩
  · refine ⟨T1, wipeE ow ρ1, wipeF ow F1, [], [], [], osA, ?_, ⟨upd_same, ⟨⟨rfl, rfl⟩, .nil, (fun a z => nomatch z), (fun a z => nomatch z)⟩, (fun z => nomatch z), T1D, fun z => g1.off hD (wipeF_in z)⟩, by rw [List.drop_zero]; exact eA, rfl, ?_⟩
    · have q := (g1.grow w0).wipe pin_ok
      have e : wipeE ow (wipeE ow ρ1) = wipeE ow ρ1 := by
        refine List.ext_getElem? fun j => ?_
        by_cases hj : j ∈ ow
        · have key : ∀ (τ : Env) (l : List Nat), j ∈ l → (wipeE l τ)[j]? = if j < τ.length then some none else none := by
            intro τ l
            induction l with
            | nil => intro z; cases z
            | cons k r ih =>
              intro z
              show ((wipeE r τ).set k none)[j]? = _
              by_cases hk : k = j
              · subst hk
                by_cases hl : k < (wipeE r τ).length
                · rw [List.getElem?_set_self hl, if_pos (by rw [wipeE_len] at hl; exact hl)]
                · rw [List.getElem?_eq_none (by rw [List.length_set]; omega), if_neg (by rw [wipeE_len] at hl; exact hl)]
              · rw [List.getElem?_set_ne hk]
                exact ih ((List.mem_cons.mp z).resolve_left (Ne.symm hk))
          rw [key _ _ hj, key _ _ hj, wipeE_len]
        · rw [wipeE_out hj]
      rw [e]
      exact q
    · refine (w0.stp (F := F1) (f := [D]) fun a ha => by rw [List.mem_singleton.mp ha]; exact hD).post fun a ha => ?_
      rcases ha with ha | ha | ha
      · exact .inl (wipeF_in ha)
      · exact .inr (by rw [ha]; exact List.mem_singleton.mpr rfl)
      · cases ha
  · obtain ⟨rfl, hi', T', ρ', F', os, vs, f, rest, gw, md, ec, eo, sw⟩ := hW
    have thH : Same T1 H' := sw.same.trans gw.same
    by_cases hlt : i < ds.length
    · refine .inr ⟨J1.go i H' thH hlt, S (i + 1), fun H2 h2 => ⟨ds.length - (i + 1), by omega, rfl, hlt, h2⟩, fun y H2 hy => ?_⟩
      obtain ⟨T3, gr, ry⟩ := J1.yld i T' H' y H2 sw.same gw.same hy ds[i] (List.getElem?_eq_getElem hlt)
      have g3 := gw.grow gr
      have m3 := md.grow gr
      rw [List.drop_eq_getElem_cons hlt, compL] at ec
      obtain ⟨ρ2, e2, ec⟩ := bind_ok ec
      have e2 := of_ok e2
      obtain ⟨⟨k, ρ3⟩, e3, ec⟩ := bind_ok ec
      have s3 : Stp T1 H1 (InF F1) T3 H2 (fun a => InF F' a ∨ a = D ∨ a ∈ f) := (sw.trans (gr.stp (F := F') (f := []) fun a z => nomatch z) fun a h => .inl h).post fun a h => .inr h
      refine ⟨T3, wipeE ow ρ', F', ds[i], ρ2, g3, ry, e2, fun σ2 F2 g2 sub w2 => ⟨by rw [w2 ow c.2, wipe_wipe], T3, ρ2, F2, g2, ?_⟩⟩
      have m2 := m3.sub sub
      have sub2 : Stp T1 H1 (InF F1) T3 H2 (fun a => InF F2 a ∨ a = D ∨ a ∈ f) := s3.post fun a h => h.imp (sub a) id
      rw [e3]
      refine Out.mk ?_
      intro T4 H4 F4 g4 s4
      have m4 := m2.stay (F' := F4) s4 fun a h => h
      have st4 : Stp T1 H1 (InF F1) T4 H4 (fun a => InF F4 a ∨ a = D ∨ a ∈ f) := (sub2.trans s4 fun a h => .inl h).post fun a h => by
        rcases h with h | h | h
        · exact .inl h
        · exact .inr (.inr (.inl h))
        · exact .inr (.inr (.inr h))
      have wσ : wipe σ2 ow = wipe σ ow := by rw [w2 ow c.2, wipe_wipe]
      cases k with
      | true =>
        refine iteT ?_
        rw [if_pos rfl] at ec
        obtain ⟨⟨o, ρ4⟩, e4, ec⟩ := bind_ok ec
        obtain ⟨⟨rs, ρx⟩, e5, ec⟩ := bind_ok ec
        cases ec
        refine ⟨T4, ρ3, F4, g4, ?_⟩
        rw [e4]
        refine Out.mk ?_
        intro T5 H5 F5 z fz g5 t5 s5
        have m5 := m4.stay (F' := F5) s5 fun a h => .inl h
        have apf : ∀ a ∈ f, a ∉ fz := fun a ha hb => by
          rcases s5.fresh a (.inr hb) with q | q
          · exact m4.tm.off a ha q
          · obtain ⟨u, eu, _⟩ := ROs.there m4.tm.ros a ha
            rw [eu] at q; cases q
        have nDz : D ∉ fz := fun hb => by
          rcases s5.fresh D (.inr hb) with q | q
          · exact m4.offD q
          · rw [m4.at_] at q; cases q
        refine ⟨vs, m5.at_, ?_, ?_⟩
        · have l1 := m5.tm.ros.len
          have l2 : osA.length = os.length + (o :: rs).length := by rw [eo, List.length_append]
          rw [List.length_cons] at l2
          omega
        · have mp := m5.push t5 apf nDz
          refine ⟨T5, ρ4, wipeF ow F5, os ++ [o], vs ++ [z], f ++ fz, rs, ?_, mp.sub fun a h => wipeF_in h, e5, by rw [eo]; simp, ?_⟩
          · have q := (g5.aside (u := .lst (vs ++ [z])) m5.offD m5.tD).wipe pin_ok
            rw [wσ] at q
            exact q
          · refine (((st4.trans s5 fun a h => .inl h).post fun a h => ?_).aside hD)
            rcases h with h | h | h
            · exact .inl (.inl (wipeF_in h))
            · exact .inr (.inr (.inl h))
            · rcases List.mem_append.mp h with h | h
              · exact .inr (.inr (.inr h))
              · exact .inl (.inr h)
      | false =>
        refine iteF ?_
        rw [if_neg Bool.false_ne_true] at ec
        refine ⟨T4, ρ3, wipeF ow F4, os, vs, f, rest, ?_, m4.sub fun a h => wipeF_in h, ec, eo, st4.post fun a h => h.imp wipeF_in id⟩
        have q := g4.wipe pin_ok
        rw [wσ] at q
        exact q
    · have ei : i = ds.length := by omega
      subst ei
      refine .inl ⟨J1.stop _ H' thH (Nat.le_refl _), ?_⟩
      rw [List.drop_length, compL] at ec
      cases ec
      rw [List.append_nil] at eo
      subst eo
      refine fin T' H' F' (.ref D) (D :: f) ⟨?_, fun j o e => ?_, fun j h => ?_, gw.nd, gw.apart, gw.tn, gw.same, fun p hp => ?_⟩ ⟨⟨D, vs, f, rfl, rfl, md.at_, md.tm.ros⟩, List.nodup_cons.mpr ⟨md.nf, md.tm.nd⟩, fun a ha => ?_, fun a ha => ?_⟩ ?_
      · have := gw.len
        rw [wipeE_len, wipe_length] at this
        rw [backE_len]
        exact this
      · by_cases hj : j ∈ ow
        · have e0 := backE_in hj e
          obtain ⟨x, rfl⟩ := (own_ok j hj).2 o e0
          obtain ⟨w, h1, h2⟩ := g1.slot j _ e0
          exact ⟨w, h1, gw.none_ j (wipeE_in hj), h2.2.mono sw.same⟩
        · rw [backE_out hj] at e
          obtain ⟨w, h1, h2⟩ := gw.slot j o (by rw [wipeE_out hj]; exact e)
          rw [wipe_out hj] at h1
          exact ⟨w, h1, h2⟩
      · by_cases hj : j ∈ ow
        · exact gw.none_ j (wipeE_in hj)
        · exact gw.none_ j fun o e => h o (by rw [backE_out hj]; rw [wipeE_out hj] at e; exact e)
      · have q := gw.pins p hp
        rw [wipe_out (pin_ok p hp)] at q
        exact q
      · rcases List.mem_cons.mp ha with rfl | ha
        · exact md.tD
        · exact md.tm.tn a ha
      · rcases List.mem_cons.mp ha with rfl | ha
        · exact md.offD
        · exact md.tm.off a ha
      · refine (s1.trans sw fun a h => h).post fun a h => ?_
        rcases h with h | h
        · exact .inl (.inl h)
        · rcases List.mem_cons.mp h with rfl | h
          · exact .inl (.inr (.inl rfl))
          · exact .inl (.inr (.inr h))
end
end AM
/-! Ev14: statements: blocks, stores, tests, ends. -/
namespace AM
open PySem PySem.Spec PyProof.Rows L2
def AftF (G : Gm) (T H : Hp) (F : Foot) (D : Ends) : Fl → Prop
  | .nx ρ => ∀ (T' H' : Hp) (σ' : L2.St) (F' : Foot), Gd G T' H' σ' ρ F' → Stp T H (InF F) T' H' (InF F') → D.nx σ' H'
  | .bk ρ => ∀ (T' H' : Hp) (σ' : L2.St) (F' : Foot), Gd G T' H' σ' ρ F' → Stp T H (InF F) T' H' (InF F') → D.bk σ' H'
  | .ct ρ => ∀ (T' H' : Hp) (σ' : L2.St) (F' : Foot), Gd G T' H' σ' ρ F' → Stp T H (InF F) T' H' (InF F') → D.ct σ' H'
  | .rt o ρ => ∀ (T' H' : Hp) (σ' : L2.St) (F' : Foot) (v : V) (f : List Addr), Gd G T' H' σ' ρ F' → Tmp G.K T' H' F' o v f → Stp T H (InF F) T' H' (fun a => InF F' a ∨ a ∈ f) → D.rt v H'
def rdX (G : Gm) (c : Env → Res Fl) : TS := fun D σ H => ∃ (T : Hp) (ρ : Env) (F : Foot), Gd G T H σ ρ F ∧ Out G T H F (c ρ) (AftF G T H F D)
theorem AftF.step {G : Gm} {T H T1 H1 : Hp} {F F1 : Foot} {D : Ends} {fl : Fl} (h : AftF G T H F D fl) (s : Stp T H (InF F) T1 H1 (InF F1)) : AftF G T1 H1 F1 D fl := by
  cases fl with
  | nx ρ => exact fun T' H' σ' F' g' s' => h T' H' σ' F' g' ((s.trans s' fun _ h => h).post fun _ h => .inl h)
  | bk ρ => exact fun T' H' σ' F' g' s' => h T' H' σ' F' g' ((s.trans s' fun _ h => h).post fun _ h => .inl h)
  | ct ρ => exact fun T' H' σ' F' g' s' => h T' H' σ' F' g' ((s.trans s' fun _ h => h).post fun _ h => .inl h)
  | rt o ρ => exact fun T' H' σ' F' v f g' t' s' => h T' H' σ' F' v f g' t' ((s.trans s' fun _ h => h).post fun _ h => .inl h)
section
variable {R : Fns} {L : Nat} {fs : List (Nat × Str)} {fr : Frs} {N : List Str} {sc : Bs} {g : Gx} {a b c e tg elt iter : Expr} {es ifs : List Expr} {xa xb xc xe : Ex} {xs cs : Exs} {pos p1 p2 p3 : Pos} {i j : Nat} {x : Str} {t : Tg} {it : AM.It} {s : Stmt} {ss sa sb : List Stmt} {sm : Sm} {sms : Sms}
def CX_ (R : Fns) (L : Nat) (fs : List (Nat × Str)) (fr : Frs) (N : List Str) (sc : Bs) (g : Gx) (s : Stmt) (m : Sm) : Prop := ∀ X : Cx, At R fs fr N sc X → PS X s (rdX (g.at X.K) (ex R L g.pn m))
def CB (R : Fns) (L : Nat) (fs : List (Nat × Str)) (fr : Frs) (N : List Str) (sc : Bs) (g : Gx) (s : List Stmt) (m : Sms) : Prop := ∀ X : Cx, At R fs fr N sc X → PSs X s (rdX (g.at X.K) (exs R L g.pn m))
theorem _root_.L2.PS.of {X : Cx} {s : Stmt} {t t' : TS} (h : PS X s t) (i : ∀ D σ H, t' D σ H → t D σ H) : PS X s t' := ⟨fun pins s σ H D I q => h.run pins s σ H D I (i D σ H q)⟩
theorem _root_.L2.PSs.of {X : Cx} {s : List Stmt} {t t' : TS} (h : PSs X s t) (i : ∀ D σ H, t' D σ H → t D σ H) : PSs X s t' := ⟨fun pins s σ H D I q => h.run pins s σ H D I (i D σ H q)⟩
theorem cb_nil : CB R L fs fr N sc g [] .nil := fun X A => pss_nil.of fun D σ H h => by
  obtain ⟨T, ρ, F, gd, h⟩ := h
  rw [exs] at h
  exact (show AftF (g.at X.K) T H F D (.nx ρ) from h) T H σ F gd .refl
theorem cb_cons (h1 : CX_ R L fs fr N sc g s sm) (h2 : CB R L fs fr N sc g ss sms) : CB R L fs fr N sc g (s :: ss) (.cons sm sms) := fun X A => (pss_cons (h1 X A) (h2 X A)).of fun D σ H h => by
  obtain ⟨T, ρ, F, gd, h⟩ := h
  rw [exs] at h
  refine ⟨T, ρ, F, gd, h.bind.imp fun fl hp => ?_⟩
  cases fl with
  | nx ρ1 => exact fun T1 H1 σ1 F1 g1 s1 => ⟨T1, ρ1, F1, g1, (show Out (g.at X.K) T H F (exs R L g.pn sms ρ1) (AftF (g.at X.K) T H F D) from hp).go s1 fun fl h => h.step s1⟩
  | bk ρ1 => exact hp
  | ct ρ1 => exact hp
  | rt o ρ1 => exact hp
theorem cx_pass : CX_ R L fs fr N sc g (.Pass pos) .pass := fun X A => ps_pass.of fun D σ H h => by
  obtain ⟨T, ρ, F, gd, h⟩ := h
  rw [ex] at h
  exact (show AftF (g.at X.K) T H F D (.nx ρ) from h) T H σ F gd .refl
theorem cx_brk : CX_ R L fs fr N sc g (.Break pos) .brk := fun X A => ps_break.of fun D σ H h => by
  obtain ⟨T, ρ, F, gd, h⟩ := h
  rw [ex] at h
  exact (show AftF (g.at X.K) T H F D (.bk ρ) from h) T H σ F gd .refl
theorem cx_cont : CX_ R L fs fr N sc g (.Continue pos) .cont := fun X A => ps_continue.of fun D σ H h => by
  obtain ⟨T, ρ, F, gd, h⟩ := h
  rw [ex] at h
  exact (show AftF (g.at X.K) T H F D (.ct ρ) from h) T H σ F gd .refl
theorem cx_ret (he : CE R fs fr N sc g e (ev R g.pn xe)) : CX_ R L fs fr N sc g (.Return (some e) pos) (.ret xe) := fun X A => (ps_ret (he X A)).of fun D σ H h => by
  obtain ⟨T, ρ, F, gd, h⟩ := h
  rw [ex] at h
  refine ⟨T, ρ, F, gd, h.bind.imp fun p hp => ?_⟩
  exact fun T1 H1 F1 v f g1 t1 s1 => (show AftF (g.at X.K) T H F D (.rt p.1 p.2) from hp) T1 H1 σ F1 v f g1 t1 s1
theorem cx_expr (he : CE R fs fr N sc g e (ev R g.pn xe)) (hs : ∀ env l, swapsWith e none l env = pure false := by intro _ _; rfl) : CX_ R L fs fr N sc g (.Expr e pos) (.expr xe) := fun X A => (ps_expr (he X A) (hs _ _)).of fun D σ H h => by
  obtain ⟨T, ρ, F, gd, h⟩ := h
  rw [ex] at h
  refine ⟨T, ρ, F, gd, h.bind.imp fun p hp => ?_⟩
  exact fun T1 H1 F1 v f g1 t1 s1 => (show AftF (g.at X.K) T H F D (.nx p.2) from hp) T1 H1 σ F1 g1 s1.own
theorem cx_ife {ma mb : Sms} (hc : CT R fs fr N sc g c (tb R g xc)) (ha : CB R L fs fr N sc g sa ma) (hb : CB R L fs fr N sc g sb mb) : CX_ R L fs fr N sc g (.If c sa sb pos) (.ife xc ma mb) := fun X A => (ps_if (hc X A) (ha X A) (hb X A)).of fun D σ H h => by
  obtain ⟨T, ρ, F, gd, h⟩ := h
  rw [ex] at h
  refine ⟨T, ρ, F, gd, h.bind.imp fun p hp => ?_⟩
  obtain ⟨k, ρ1⟩ := p
  intro T1 H1 F1 g1 s1
  cases k with
  | true => exact iteT ⟨T1, ρ1, F1, g1, (show Out (g.at X.K) T H F (exs R L g.pn ma ρ1) (AftF (g.at X.K) T H F D) from hp).go s1 fun fl h => h.step s1⟩
  | false => exact iteF ⟨T1, ρ1, F1, g1, (show Out (g.at X.K) T H F (exs R L g.pn mb ρ1) (AftF (g.at X.K) T H F D) from hp).go s1 fun fl h => h.step s1⟩
/-- an error that is never raised -/
theorem cx_raise {k : Nat} (nx : ∀ c ds T H F, ¬ g.XQ c ds T H F) : CX_ R L fs fr N sc g s (.raise k xs) := fun X A => ps_never.of fun D σ H h => by
  obtain ⟨T, ρ, F, gd, h⟩ := h
  rw [ex] at h
  cases q : evD R g.pn xs ρ with
  | ok p => rw [q] at h; exact nx _ _ _ _ _ h
  | exc c ds => rw [q] at h; exact nx _ _ _ _ _ h
  | bad => rw [q] at h; exact h
/-! ### stores -/
theorem toNx_out {G : Gm} {T H : Hp} {F : Foot} {D : Ends} {r : Option Env} (h : Out G T H F (toNx r) (AftF G T H F D)) : ∃ ρ, r = some ρ ∧ AftF G T H F D (.nx ρ) := by
  obtain ⟨ρ, e, h⟩ := Out.ofb (show Out G T H F ((Res.of r).bind fun ρ => .ok (.nx ρ)) (AftF G T H F D) from h)
  exact ⟨ρ, e, h⟩
theorem in_upF2 {F : Foot} {f : List Addr} {P : Own} (h : ∀ a, InF F a ∨ a ∈ f → P a) : ∀ a, InF (upF F i f) a → P a := fun a z => h a (in_upF z)
theorem cx_asg (hN : N[i]? = some x) (hl : Loc sc.sc x) (hf : sc.fn x = true ∨ sc.sc.names.lookup x = some .local) (he : CE R fs fr N sc g e (ev R g.pn xe))
    (hs : ∀ (env : PySem.Env) (l : Nat), env.scope = sc.sc → swapsWith e (some (.Name x p1)) l env = pure false := by intro _ _ _; rfl) : CX_ R L fs fr N sc g (.Assign [.Name x p1] e pos) (.asg i xe) := fun X A => by
  refine (ps_set A.nd (by rw [A.hN]; exact hN) (by rw [A.hsc]; exact hl) (he X A) (hs _ _ A.hsc) (hf.imp (A.fnok x) fun z => by rw [A.hsc]; exact z)).of fun D σ H h => ?_
  obtain ⟨T, ρ, F, gd, h⟩ := h
  rw [ex] at h
  refine ⟨T, ρ, F, gd, h.bind.imp fun p hp => ?_⟩
  intro T1 H1 F1 v f g1 t1 s1
  obtain ⟨ρ2, e2, hp⟩ := toNx_out hp
  obtain ⟨h1, h2, rfl⟩ := st_some e2
  exact hp T1 H1 _ _ (g1.store t1 h2 (not_pin (g := g) h1)) (s1.post (in_upF2 fun a h => h))
/-- y = [.. for ..], y no cell -/
theorem cx_asgLc {scope : Scope} {own : List (Str × Nat)} {ow : List Nat} (hN : N[i]? = some x) (hl : sc.sc.names.lookup x = some .local) (hk : sc.sc.kind = .function) (hi : CI R fs fr N sc g tg iter it) (ok : blkC N sc.sc scope own = true) (ht : CG R fs fr N (blkB sc scope) g.nox tg t) (hc : CC R fs fr N (blkB sc scope) g.nox ifs cs)
    (he : CE R fs fr N (blkB sc scope) g.nox elt (ev R g.pn xe)) (hline : (p1.line == p2.line) = true := by rfl) (hno : (scope.names.any fun (n, k) => n == x && (k == .local || k == .cell)) = false := by rfl) (hs : ∀ env x, foldedSetIterable iter env x = pure x := by intro _ _; rfl) (how : own.map (·.2) = ow := by rfl) :
    CX_ R L fs fr N sc g (.Assign [.Name x p1] (.ListComp elt [⟨tg, iter, ifs, 0⟩] scope p2) pos) (.asg i (.comp ow t it cs xe)) := fun X A => by
  obtain ⟨wi, gg, tt, te, h1, h2, h3, h4, h5, h6, h7⟩ := ce_comp hi ok ht hc he hs how X A
  refine (ps_setLc A.calm A.nd (by rw [A.hN]; exact hN) (by rw [A.hsc]; exact hl) (sw_true (by rw [A.hsc]; exact hk) (by rw [A.hsc]; exact hl) hline hno) h1 h2 h3 h4 h5 h6).of fun D σ H h => h7 σ H _ ?_
  obtain ⟨T, ρ, F, gd, h⟩ := h
  rw [ex] at h
  refine ⟨T, ρ, F, gd, h.bind.imp fun p hp => ?_⟩
  intro T1 H1 F1 v f g1 t1 s1
  obtain ⟨ρ2, e2, hp⟩ := toNx_out hp
  obtain ⟨h1, h2, rfl⟩ := st_some e2
  exact hp T1 H1 _ _ (g1.store t1 h2 (not_pin (g := g) h1)) (s1.post (in_upF2 fun a h => h))
theorem ce_lc {scope : Scope} {own : List (Str × Nat)} {ow : List Nat} (hi : CI R fs fr N sc g tg iter it) (ok : blkC N sc.sc scope own = true) (ht : CG R fs fr N (blkB sc scope) g.nox tg t) (hc : CC R fs fr N (blkB sc scope) g.nox ifs cs)
    (he : CE R fs fr N (blkB sc scope) g.nox elt (ev R g.pn xe)) (hs : ∀ env x, foldedSetIterable iter env x = pure x := by intro _ _; rfl) (how : own.map (·.2) = ow := by rfl) :
    CE R fs fr N sc g (.ListComp elt [⟨tg, iter, ifs, 0⟩] scope pos) (ev R g.pn (.comp ow t it cs xe)) := fun X A => by
  obtain ⟨wi, gg, tt, te, h1, h2, h3, h4, h5, h6, h7⟩ := ce_comp hi ok ht hc he hs how X A
  exact (pe_lc A.calm A.nd h1 h2 h3 h4 h5 h6).of fun σ H Q h => h7 σ H Q h
/-- (a, b) = e -/
theorem cx_asgT {k : Nat} {ts : Tgs} (ht : CG R fs fr N sc g (.Tuple es k p1) (.tup ts)) (he : CE R fs fr N sc g e (ev R g.pn xe)) (hs : ∀ env l, swapsWithSole [.Tuple es k p1] e l env = pure false := by intro _ _; rfl) (hw : ∀ env, swappedStores [.Tuple es k p1] e env = pure none := by intro _; rfl) :
    CX_ R L fs fr N sc g (.Assign [.Tuple es k p1] e pos) (.asgT ts xe) := fun X A => by
  refine (ps_asg (he X A).toD (ht X A) (hs _ _) (hw _) rfl).of fun D σ H h => ?_
  obtain ⟨T, ρ, F, gd, h⟩ := h
  rw [ex] at h
  refine ⟨T, ρ, F, gd, h.bind.imp fun p hp => ?_⟩
  intro T1 H1 F1 v g1 r1 s1
  obtain ⟨ρ2, e2, hp⟩ := toNx_out hp
  exact ⟨T1, p.2, F1, p.1, ρ2, g1, r1, e2, fun σ' F' g' sub _ => hp T1 H1 σ' F' g' (s1.post sub)⟩
/-! ### a, b = x, y -/
def rdNs (G : Gm) (is : List Nat) : TGs := fun vs σ H Q => ∃ (T : Hp) (ρ : Env) (F : Foot) (os : List Ob) (f : List Addr) (ρ' : Env), Gd G T H σ ρ F ∧ Tmps G.K T H F os vs f ∧ stAll G.pn is os ρ = some ρ' ∧
  ∀ (σ' : L2.St) (F' : Foot), Gd G T H σ' ρ' F' → (∀ a, InF F' a → InF F a ∨ a ∈ f) → Q σ' H
def CNs (R : Fns) (fs : List (Nat × Str)) (fr : Frs) (N : List Str) (sc : Bs) (g : Gx) (es : List Expr) (is : List Nat) : Prop := ∀ X : Cx, At R fs fr N sc X → PGs X es (rdNs (g.at X.K) is)
theorem cns_nil : CNs R fs fr N sc g [] [] := fun X A => pgs_nil.of fun vs σ H Q h => by
  obtain ⟨T, ρ, F, os, f, ρ', gd, tm, e, q⟩ := h
  cases os with
  | nil =>
    cases e
    exact ⟨tm.ros.1, q σ F gd fun a h => .inl h⟩
  | cons o os => cases e
theorem Tmps.uncons {K : PySem.W.Frag} {T H : Hp} {F : Foot} {o : Ob} {os : List Ob} {vs : List V} {f : List Addr} (t : Tmps K T H F (o :: os) vs f) : ∃ v us g h, vs = v :: us ∧ f = g ++ h ∧ Tmp K T H F o v g ∧ Tmps K T H F os us h ∧ ∀ a ∈ g, a ∉ h := by
  obtain ⟨v, us, g, h, e1, e2, r1, r2⟩ := t.ros
  have nd := List.nodup_append.mp (e2 ▸ t.nd)
  exact ⟨v, us, g, h, e1, e2, ⟨r1, nd.1, fun a ha => t.tn a (by rw [e2]; exact List.mem_append_left _ ha), fun a ha => t.off a (by rw [e2]; exact List.mem_append_left _ ha)⟩,
    ⟨r2, nd.2.1, fun a ha => t.tn a (by rw [e2]; exact List.mem_append_right _ ha), fun a ha => t.off a (by rw [e2]; exact List.mem_append_right _ ha)⟩, fun a ha hb => nd.2.2 a ha a hb rfl⟩
theorem cns_cons {is : List Nat} (hN : N[i]? = some x) (hl : Loc sc.sc x) (hf : sc.fn x = true ∨ sc.sc.names.lookup x = some .local) (hr : CNs R fs fr N sc g es is) : CNs R fs fr N sc g (.Name x p1 :: es) (i :: is) := fun X A => by
  refine (pgs_cons (pg_name A.nd (by rw [A.hN]; exact hN) (by rw [A.hsc]; exact hl) (hf.imp (A.fnok x) fun z => by rw [A.hsc]; exact z)) (hr X A) rfl).of fun vs σ H Q h => ?_
  obtain ⟨T, ρ, F, os, f, ρ', gd, tm, e, q⟩ := h
  cases os with
  | nil => cases e
  | cons o os =>
    obtain ⟨ρ1, e1, e2⟩ := Option.bind_eq_some_iff.mp (show (st g.pn i o ρ).bind (stAll g.pn is os) = some ρ' from e)
    obtain ⟨h1, h2, rfl⟩ := st_some e1
    obtain ⟨v, us, g', h', rfl, ef, t1, t2, ap⟩ := tm.uncons
    refine ⟨v, us, rfl, T, _, upF F i g', os, h', ρ', gd.store t1 h2 (not_pin (g := g) h1), ⟨t2.ros, t2.nd, t2.tn, fun a ha z => ?_⟩, e2, fun σ' F' g2 sub => q σ' F' g2 fun a ha => ?_⟩
    · rcases in_upF z with z | z
      · exact t2.off a ha z
      · exact ap a z ha
    · rw [ef]
      rcases sub a ha with z | z
      · exact (in_upF z).imp id fun z => List.mem_append_left _ z
      · exact .inr (List.mem_append_right _ z)
/-- by a pair that is made and taken apart -/
theorem cx_par {is : List Nat} {ts : List Expr} {k k2 : Nat} (ht : CNs R fs fr N sc g ts is) (he : COs R fs fr N sc g es xs) (hn : ts.length = es.length) (hln : es.length ≤ 1000) (hxs : ∀ ρ p, evs R g.pn xs ρ = .ok p → p.1.length = es.length)
    (hs : ∀ env l, swapsWithSole [.Tuple ts k p1] (.Tuple es k2 p2) l env = pure false := by intro _ _; rfl) (hw : ∀ env : PySem.Env, env.scope = sc.sc → swappedStores [.Tuple ts k p1] (.Tuple es k2 p2) env = pure none := by intro _ _; rfl)
    (hal : ∀ env, (assignEach ts env).length = ts.length := by intro _; rfl) (hst : ∀ env, (assignEach ts env).findIdx? (·.1) = none := by intro _; rfl) : CX_ R L fs fr N sc g (.Assign [.Tuple ts k p1] (.Tuple es k2 p2) pos) (.par is xs) := fun X A => by
  refine (ps_asg (pe_tup (he X A)) (pg_tup A.calm (ht X A) (hal _) (hst _)) (hs _ _) (hw _ A.hsc) rfl).of fun D σ H h => ?_
  obtain ⟨T, ρ, F, gd, h⟩ := h
  rw [ex] at h
  have hx := hxs ρ
  cases q : evs R g.pn xs ρ with
  | exc c ds =>
    rw [q] at h
    refine ⟨T, ρ, F, gd, ?_⟩
    rw [q]
    exact h
  | bad => rw [q] at h; exact h.elim
  | ok p =>
    rw [q] at h
    refine ⟨T, ρ, F, gd, ?_⟩
    rw [q]
    refine Out.mk ?_
    intro T1 H1 F1 vs f g1 t1 s1
    have h : Out (g.at X.K) T H F (if is.Nodup then toNx (stAll g.pn is p.1 p.2) else .bad) (AftF (g.at X.K) T H F D) := h
    by_cases c : is.Nodup
    · rw [if_pos c] at h
      obtain ⟨ρ2, e2, h⟩ := toNx_out h
      have lv : vs.length = es.length := by rw [t1.ros.len]; exact hx p q
      refine ⟨by rw [lv]; exact Nat.le_trans hln (by decide), fun ad hd => ⟨ad, vs, rfl, SqT.of upd_same, by rw [lv]; exact hn.symm, ?_⟩⟩
      have w : Grow T1 H1 T1 (upd H1 ad (.tup vs)) := Grow.owned g1.same hd
      have nf : ad ∉ f := fun z => by
        obtain ⟨u, e, _⟩ := ROs.there t1.ros ad z
        rw [e] at hd; cases hd
      refine ⟨T1, p.2, F1, p.1, f, ρ2, g1.grow w, ⟨t1.ros.aside nf, t1.nd, t1.tn, t1.off⟩, e2, fun σ' F' g' sub => h T1 _ σ' F' g' ?_⟩
      exact (s1.trans (w.stp (F := F1) (f := []) fun a z => nomatch z) fun a h => .inl h).post fun a ha => .inr (sub a ha)
    · rw [if_neg c] at h
      exact h.elim
/-- two plain local names: stored from the right -/
theorem cx_par2 {x y : Str} {k k2 : Nat} (hc : N[i]? = some x) (hd : N[j]? = some y) (hij : i ≠ j) (hx : sc.sc.names.lookup x = some .local) (hy : sc.sc.names.lookup y = some .local) (he : COs R fs fr N sc g [a, b] (.cons xa (.cons xb .nil)))
    (hw : ∀ env : PySem.Env, env.scope = sc.sc → swappedStores [.Tuple [.Name x p1, .Name y p2] k p3] (.Tuple [a, b] k2 pos) env = pure (some [x, y])) (hs : ∀ env l, swapsWithSole [.Tuple [.Name x p1, .Name y p2] k p3] (.Tuple [a, b] k2 pos) l env = pure false := by intro _ _; rfl) {spos : Pos} :
    CX_ R L fs fr N sc g (.Assign [.Tuple [.Name x p1, .Name y p2] k p3] (.Tuple [a, b] k2 pos) spos) (.par [i, j] (.cons xa (.cons xb .nil))) := fun X A => by
  refine (ps_par A.calm A.nd (by rw [A.hN]; exact hc) (by rw [A.hN]; exact hd) hij (by rw [A.hsc]; exact hx) (by rw [A.hsc]; exact hy) (he X A) (hw _ A.hsc) (hs _ _)).of fun D σ H h => ?_
  obtain ⟨T, ρ, F, gd, h⟩ := h
  rw [ex] at h
  refine ⟨T, ρ, F, gd, h.bind.imp fun p hp => ?_⟩
  obtain ⟨os, ρ1⟩ := p
  intro T1 H1 F1 vs f g1 t1 s1
  have hp : Out (g.at X.K) T H F (if [i, j].Nodup then toNx (stAll g.pn [i, j] os ρ1) else .bad) (AftF (g.at X.K) T H F D) := hp
  rw [if_pos (by simp [hij])] at hp
  obtain ⟨ρ2, e2, hp⟩ := toNx_out hp
  cases os with
  | nil => cases e2
  | cons o os =>
    obtain ⟨ρ3, e3, e4⟩ := Option.bind_eq_some_iff.mp (show (st g.pn i o ρ1).bind (stAll g.pn [j] os) = some ρ2 from e2)
    obtain ⟨h1, h2, rfl⟩ := st_some e3
    cases os with
    | nil => cases e4
    | cons o' os =>
      obtain ⟨ρ4, e5, e6⟩ := Option.bind_eq_some_iff.mp (show (st g.pn j o' _).bind (stAll g.pn [] os) = some ρ2 from e4)
      obtain ⟨h3, h4, rfl⟩ := st_some e5
      cases os with
      | cons _ _ => cases e6
      | nil =>
        cases e6
        obtain ⟨v, us, g', h', rfl, ef, q1, q2, ap⟩ := t1.uncons
        obtain ⟨w, us', g'', h'', rfl, ef', q3, q4, ap'⟩ := q2.uncons
        obtain ⟨rfl, rfl⟩ := q4.ros
        rw [List.append_nil] at ef'
        subst ef'
        refine ⟨v, w, rfl, hp T1 H1 _ (upF (upF F1 i g') j h') ((g1.store q1 h2 (not_pin (g := g) h1)).store ⟨q3.ro, q3.nd, q3.tn, fun a ha z => ?_⟩ h4 (not_pin (g := g) h3)) (s1.post fun a ha => ?_)⟩
        · rcases in_upF z with z | z
          · exact q3.off a ha z
          · exact ap a z ha
        · rw [ef]
          rcases in_upF ha with z | z
          · exact (in_upF z).imp id fun z => List.mem_append_left _ z
          · exact .inr (List.mem_append_right _ z)
end
end AM
/-! Ev15: loops; what changes an object. -/
namespace AM
open PySem PySem.Spec PyProof.Rows L2
theorem iop_op {X : Cx} (op : Bop) : PIp X (opOf op) (rBinI op) := by
  intro pins s σ H x y v u Q I rx ry h
  obtain ⟨i, j, k, rfl, rfl, e, q⟩ := h
  have rx' := rx
  have ry' := ry
  obtain ⟨t, rfl⟩ := rx'
  obtain ⟨t', rfl⟩ := ry'
  cases op with
  | add => cases e; exact iop_add pins s σ H _ _ _ _ Q I rx ry ⟨i, j, rfl, rfl, q⟩
  | sub => cases e; exact iop_sub pins s σ H _ _ _ _ Q I rx ry ⟨i, j, rfl, rfl, q⟩
  | mul => obtain ⟨c, rfl⟩ := ite_some e; exact iop_mul pins s σ H _ _ _ _ Q I rx ry ⟨i, j, rfl, rfl, c, q⟩
  | fdiv => obtain ⟨c, rfl⟩ := ite_some e; exact ifloordiv_int c.1 ⟨.int _, H, I.tok _, ⟨_, rfl⟩, q⟩ (.inl (PyProof.noPylong_small c.2))
  | mod => obtain ⟨c, rfl⟩ := ite_some e; exact imod_int c ⟨.int _, H, I.tok _, ⟨_, rfl⟩, q⟩
  | pow => obtain ⟨c, rfl⟩ := ite_some e; exact ipow_int_small c.1 c.2.1 c.2.2 ⟨.int _, H, I.tok _, ⟨_, rfl⟩, q⟩
  | shl => obtain ⟨c, rfl⟩ := ite_some e; exact iop_shl pins s σ H _ _ _ _ Q I rx ry ⟨i, j, rfl, rfl, c, q⟩
  | shr => obtain ⟨c, rfl⟩ := ite_some e; exact iop_shr pins s σ H _ _ _ _ Q I rx ry ⟨i, j, rfl, rfl, c, q⟩
  | band => cases e; exact iop_and pins s σ H _ _ _ _ Q I rx ry ⟨i, j, rfl, rfl, q⟩
  | bor => cases e; exact iop_or pins s σ H _ _ _ _ Q I rx ry ⟨i, j, rfl, rfl, q⟩
  | bxor => cases e; exact iop_xor pins s σ H _ _ _ _ Q I rx ry ⟨i, j, rfl, rfl, q⟩
section
variable {R : Fns} {L : Nat} {fs : List (Nat × Str)} {fr : Frs} {N : List Str} {sc : Bs} {g : Gx} {a b c e tg elt iter : Expr} {es ifs : List Expr} {xa xb xc xe : Ex} {xs cs : Exs} {pos p1 p2 p3 : Pos} {i j : Nat} {x : Str} {t : Tg} {it : AM.It} {s : Stmt} {ss sa sb : List Stmt} {sm : Sm} {sms : Sms}
theorem cx_aug {op : Bop} (hN : N[i]? = some x) (hl : Loc sc.sc x) (hf : sc.fn x = true ∨ sc.sc.names.lookup x = some .local) (he : CE R fs fr N sc g e (ev R g.pn xe)) : CX_ R L fs fr N sc g (.AugAssign (.Name x p1) (opOf op) e pos) (.aug i op xe) := fun X A => by
  refine (ps_aug A.nd (by rw [A.hN]; exact hN) (by rw [A.hsc]; exact hl) (he X A).toD (iop_op op) (hf.imp (A.fnok x) fun z => by rw [A.hsc]; exact z)).of fun D σ H h => ?_
  obtain ⟨T, ρ, F, gd, h⟩ := h
  rw [ex] at h
  obtain ⟨o, e0, h⟩ := h.ofb
  obtain ⟨v, ev0, r0⟩ := gd.slot i _ (get_some e0)
  refine ⟨v, ev0, ?_⟩
  cases o with
  | d z =>
    cases z with
    | int n =>
      obtain ⟨_, r0⟩ := r0
      refine ⟨T, ρ, F, gd, (show Out (g.at X.K) T H F ((ev R g.pn xe ρ).toD.bind _) _ from h).bind.imp fun p hp => ?_⟩
      obtain ⟨d, ρ1⟩ := p
      intro T1 H1 F1 w g1 r1 s1
      obtain ⟨u, eu, hp⟩ := hp.ofb
      cases u with
      | d y =>
        cases y with
        | int m =>
          obtain ⟨ρ2, e2, hq⟩ := toNx_out (show Out (g.at X.K) T H F (toNx (st g.pn i (.d (.int m)) ρ1)) (AftF (g.at X.K) T H F D) from hp)
          obtain ⟨h1, h2, rfl⟩ := st_some e2
          have : ∃ k, d = .int k := by
            cases d with
            | int k => exact ⟨k, rfl⟩
            | _ => cases op <;> cases eu
          obtain ⟨k, rfl⟩ := this
          exact ⟨n, k, m, r0, r1, eu, hq T1 H1 _ _ (g1.store (.plain rfl) h2 (not_pin (g := g) h1)) (s1.post (fun a ha => (in_upF ha).elim id fun z => nomatch z))⟩
        | _ => exact hp.elim
      | _ => exact hp.elim
    | _ => exact h.elim
  | _ => exact h.elim
theorem cx_for (hi : CI R fs fr N sc g tg iter it) (ht : CG R fs fr N sc g tg t) (hb : CB R L fs fr N sc g ss sms) (hs : ∀ env x, foldedSetIterable iter env x = pure x := by intro _ _; rfl) : CX_ R L fs fr N sc g (.For tg iter ss [] pos) (.for_ t it sms) := fun X A => by
  refine (ps_for A.po A.calm (hi X A) (ht X A) (hb X A) (hs _)).of fun D σ H h => ?_
  obtain ⟨T, ρ, F, gd, h⟩ := h
  rw [ex] at h
  refine ⟨T, ρ, F, gd, h.bind.imp fun p hp => ?_⟩
  obtain ⟨ds, ρ1⟩ := p
  intro T1 H1 F1 J g1 J1 s1
  let S : Nat → L2.St → Hp → Prop := fun i σ' H' => ∃ (T' : Hp) (ρ' : Env) (F' : Foot), Gd (g.at X.K) T' H' σ' ρ' F' ∧ Stp T1 H1 (InF F1) T' H' (InF F') ∧ Out (g.at X.K) T' H' F' (forL (bindT g.pn t) (exs R L g.pn sms) (ds.drop i) ρ') (AftF (g.at X.K) T' H' F' D)
  refine ⟨fun i m σ' H' => m = ds.length - i ∧ i ≤ ds.length ∧ S i σ' H', ⟨_, rfl, Nat.zero_le _, T1, ρ1, F1, g1, .refl, hp.go s1 fun fl q => q.step s1⟩, fun i m σ' H' hW => ?_⟩
  obtain ⟨rfl, hi', T', ρ', F', gw, sw, hw⟩ := hW
  have thH : Same T1 H' := sw.same.trans gw.same
  by_cases hlt : i < ds.length
  · rw [List.drop_eq_getElem_cons hlt, forL] at hw
    obtain ⟨ρ2, e2, hw⟩ := hw.ofb
    refine .inr ⟨J1.go i H' thH hlt, S (i + 1), fun σ2 H2 h2 => ⟨ds.length - (i + 1), by omega, rfl, hlt, h2⟩, fun y H2 hy => ?_⟩
    obtain ⟨T3, gr, ry⟩ := J1.yld i T' H' y H2 sw.same gw.same hy ds[i] (List.getElem?_eq_getElem hlt)
    refine ⟨T3, ρ', F', ds[i], ρ2, gw.grow gr, ry, e2, fun σ2 F2 g2 sub _ => ⟨T3, ρ2, F2, g2, ?_⟩⟩
    have s3 : Stp T' H' (InF F') T3 H2 (InF F2) := (gr.stp (F := F') (f := []) fun a z => nomatch z).post fun a h => .inl (sub a h)
    refine hw.bind.go s3 fun fl hq => ?_
    have again : ∀ ρ3, Out (g.at X.K) T' H' F' (forL (bindT g.pn t) (exs R L g.pn sms) (ds.drop (i + 1)) ρ3) (AftF (g.at X.K) T' H' F' D) →
        ∀ (T4 H4 : Hp) (σ4 : L2.St) (F4 : Foot), Gd (g.at X.K) T4 H4 σ4 ρ3 F4 → Stp T3 H2 (InF F2) T4 H4 (InF F4) → S (i + 1) σ4 H4 := fun ρ3 hq T4 H4 σ4 F4 g4 s4 => by
      have s34 : Stp T' H' (InF F') T4 H4 (InF F4) := (s3.trans s4 fun _ h => h).post fun _ h => .inl h
      exact ⟨T4, ρ3, F4, g4, (sw.trans s34 fun _ h => h).post fun _ h => .inl h, hq.go s34 fun fl q => q.step s34⟩
    cases fl with
    | nx ρ3 => exact again ρ3 hq
    | ct ρ3 => exact again ρ3 hq
    | bk ρ3 => exact (show AftF (g.at X.K) T' H' F' D (.nx ρ3) from hq).step s3
    | rt o ρ3 => exact (show AftF (g.at X.K) T' H' F' D (.rt o ρ3) from hq).step s3
  · have ei : i = ds.length := by omega
    subst ei
    rw [List.drop_length, forL] at hw
    exact .inl ⟨J1.stop _ H' thH (Nat.le_refl _), (show AftF (g.at X.K) T' H' F' D (.nx ρ') from hw) T' H' σ' F' gw .refl⟩
theorem cx_while (hc : CT R fs fr N sc g c (tb R g xc)) (hb : CB R L fs fr N sc g ss sms) : CX_ R L fs fr N sc g (.While c ss [] pos) (.while_ xc sms) := fun X A => by
  refine (ps_while A.po (hc X A) (hb X A)).of fun D σ H h => ?_
  obtain ⟨T, ρ, F, gd, h⟩ := h
  rw [ex] at h
  let S : Nat → L2.St → Hp → Prop := fun m σ' H' => ∃ (T' : Hp) (ρ' : Env) (F' : Foot), Gd (g.at X.K) T' H' σ' ρ' F' ∧ Out (g.at X.K) T' H' F' (whlL (fun r => (ev R g.pn xc r).toB) (exs R L g.pn sms) m ρ') (AftF (g.at X.K) T' H' F' D)
  refine ⟨S, ⟨L, T, ρ, F, gd, h⟩, fun m σ' H' hW => ?_⟩
  obtain ⟨T', ρ', F', gw, hw⟩ := hW
  cases m with
  | zero => exact hw.elim
  | succ m =>
    rw [whlL] at hw
    refine ⟨T', ρ', F', gw, hw.bind.imp fun q hq => ?_⟩
    obtain ⟨k, ρ2⟩ := q
    intro T2 H2 F2 g2 s2
    cases k with
    | false =>
      refine iteF ?_
      rw [if_neg Bool.false_ne_true] at hq
      exact (show AftF (g.at X.K) T' H' F' D (.nx ρ2) from hq) T2 H2 σ' F2 g2 s2
    | true =>
      refine iteT ?_
      rw [if_pos rfl] at hq
      refine ⟨S m, fun σ4 H4 h4 => ⟨m, Nat.lt_succ_self m, h4⟩, T2, ρ2, F2, g2, hq.bind.go s2 fun fl hf => ?_⟩
      have again : ∀ ρ3, Out (g.at X.K) T' H' F' (whlL (fun r => (ev R g.pn xc r).toB) (exs R L g.pn sms) m ρ3) (AftF (g.at X.K) T' H' F' D) →
          ∀ (T4 H4 : Hp) (σ4 : L2.St) (F4 : Foot), Gd (g.at X.K) T4 H4 σ4 ρ3 F4 → Stp T2 H2 (InF F2) T4 H4 (InF F4) → S m σ4 H4 := fun ρ3 hq T4 H4 σ4 F4 g4 s4 => by
        have s34 : Stp T' H' (InF F') T4 H4 (InF F4) := (s2.trans s4 fun _ h => h).post fun _ h => .inl h
        exact ⟨T4, ρ3, F4, g4, hq.go s34 fun fl q => q.step s34⟩
      cases fl with
      | nx ρ3 => exact again ρ3 hf
      | ct ρ3 => exact again ρ3 hf
      | bk ρ3 => exact (show AftF (g.at X.K) T' H' F' D (.nx ρ3) from hf).step s2
      | rt o ρ3 => exact (show AftF (g.at X.K) T' H' F' D (.rt o ρ3) from hf).step s2
end
end AM
/-! Ev16: stores into lists and dicts of one's own. -/
namespace AM
open PySem PySem.Spec PyProof.Rows L2
theorem Good.put {K : PySem.W.Frag} {pv : List (Nat × V)} {T H : Hp} {σ : L2.St} {ρ : Env} {F : Foot} {i : Nat} {o o' : Ob} {v : V} {f fy : List Addr} {l : Addr} {x : HO} (g : Good K pv T H σ ρ F) (e0 : ρ[i]? = some (some o)) (ev : σ[i]? = some (some v))
    (tm : ∀ a ∈ fy, T a = none ∧ ¬ InF F a) (hl : l ∈ F i) (r : RO K T (upd H l x) o' v f) (nd : f.Nodup) (ap : ∀ a ∈ f, a ∈ F i ∨ a ∈ fy) :
    Good K pv T (upd H l x) σ (ρ.set i (some o')) (upF F i f) ∧ Stp T H (fun a => InF F a ∨ a ∈ fy) T (upd H l x) (InF (upF F i f)) := by
  have hlen := g.len
  have hi : i < ρ.length := (List.getElem?_eq_some_iff.mp e0).1
  have tl : T l = none := g.tn l ⟨i, hl⟩
  have off : ∀ a ∈ f, ∀ j, j ≠ i → a ∉ F j := fun a ha j hj q => by
    rcases ap a ha with z | z
    · exact hj (g.apart j i a q z)
    · exact (tm a z).2 ⟨j, q⟩
  refine ⟨⟨by rw [List.length_set]; exact hlen, fun j u e => ?_, fun j n => ?_, fun j => ?_, fun j k a hj hk => ?_, fun a ha => ?_, fun b u e => ?_, g.pins⟩, ⟨Same.refl T, fun a u e n => ?_, fun a ha => .inl ?_, fun a h => .inl h⟩⟩
  · by_cases hj : j = i
    · subst hj
      rw [List.getElem?_set_self hi] at e
      cases e
      rw [upF_same]
      exact ⟨v, ev, r⟩
    · rw [List.getElem?_set_ne (Ne.symm hj)] at e
      rw [upF_ne hj]
      obtain ⟨w, e1, r1⟩ := g.slot j u e
      exact ⟨w, e1, RO.mono (Same.refl T) r1 fun a ha u q => by rw [upd_ne fun z : a = l => hj (g.apart j i a ha (by rw [z]; exact hl))]; exact q⟩
  · by_cases hj : j = i
    · subst hj
      exact absurd (by rw [List.getElem?_set_self hi]) (n o')
    · rw [upF_ne hj]
      exact g.none_ j fun u e => n u (by rw [List.getElem?_set_ne (Ne.symm hj)]; exact e)
  · by_cases hj : j = i
    · subst hj; rw [upF_same]; exact nd
    · rw [upF_ne hj]; exact g.nd j
  · by_cases h1 : j = i
    · subst h1
      rw [upF_same] at hj
      by_cases h2 : k = j
      · exact h2.symm
      · rw [upF_ne h2] at hk
        exact absurd hk (off a hj k h2)
    · rw [upF_ne h1] at hj
      by_cases h2 : k = i
      · subst h2
        rw [upF_same] at hk
        exact absurd hj (off a hk j h1)
      · rw [upF_ne h2] at hk
        exact g.apart j k a hj hk
  · rcases in_upF ha with h | h
    · exact g.tn a h
    · exact (ap a h).elim (fun z => g.tn a ⟨i, z⟩) fun z => (tm a z).1
  · rw [upd_ne fun z => by subst z; rw [tl] at e; cases e]
    exact g.same b u e
  · rw [upd_ne fun z : a = l => n (.inl ⟨i, by rw [z]; exact hl⟩)]
    exact e
  · rcases in_upF ha with h | h
    · exact .inl h
    · exact (ap a h).imp (fun z => ⟨i, z⟩) id
/-- one item of several is another -/
theorem ROs.put {K : PySem.W.Frag} {T H : Hp} : ∀ {os : List Ob} {vs : List V} {f : List Addr} {j : Nat} {o : Ob}, ROs K T H os vs f → os[j]? = some o → f.Nodup →
    ∃ w f1, vs[j]? = some w ∧ RO K T H o w f1 ∧ f1.Sublist f ∧ ∀ (H' : Hp) (o2 : Ob) (w2 : V) (f2 : List Addr), RO K T H' o2 w2 f2 → f2.Nodup → (∀ a ∈ f2, a ∈ f1 ∨ a ∉ f) → (∀ a ∈ f, a ∉ f1 → ∀ u, H a = some u → H' a = some u) →
      ∃ f', ROs K T H' (os.set j o2) (vs.set j w2) f' ∧ f'.Nodup ∧ ∀ a ∈ f', (a ∈ f ∧ a ∉ f1) ∨ a ∈ f2
  | [], _, _, _, _, _, e, _ => by simp at e
  | x :: xs, _, _, 0, o, ⟨v, r, g, h, e1, e2, e3, e4⟩, e, nd => by
    have e' : x = o := by simpa using e
    subst e' e1 e2
    have na := List.nodup_append.mp nd
    refine ⟨v, g, rfl, e3, List.sublist_append_left g h, fun H' o2 w2 f2 r2 n2 ap fr => ⟨f2 ++ h, ⟨w2, r, f2, h, rfl, rfl, r2, ROs.mono (Same.refl T) e4 fun a ha => fr a (List.mem_append_right _ ha) fun z => na.2.2 a z a ha rfl⟩, List.nodup_append.mpr ⟨n2, na.2.1, fun a ha b hb z => ?_⟩, fun a ha => ?_⟩⟩
    · subst z
      rcases ap a ha with q | q
      · exact na.2.2 a q a hb rfl
      · exact q (List.mem_append_right _ hb)
    · rcases List.mem_append.mp ha with ha | ha
      · exact .inr ha
      · exact .inl ⟨List.mem_append_right _ ha, fun z => na.2.2 a z a ha rfl⟩
  | x :: xs, _, _, j + 1, o, ⟨v, r, g, h, e1, e2, e3, e4⟩, e, nd => by
    subst e1 e2
    have na := List.nodup_append.mp nd
    obtain ⟨w, f1, q1, q2, q3, q4⟩ := ROs.put (j := j) e4 (by simpa using e) na.2.1
    have nog : ∀ a ∈ g, a ∉ f1 := fun a ha hb => na.2.2 a ha a (q3.subset hb) rfl
    refine ⟨w, f1, by simpa using q1, q2, q3.trans (List.sublist_append_right g h), fun H' o2 w2 f2 r2 n2 ap fr => ?_⟩
    obtain ⟨f', s1, s2, s3⟩ := q4 H' o2 w2 f2 r2 n2 (fun a ha => (ap a ha).imp id fun z y => z (List.mem_append_right _ y)) fun a ha hn => fr a (List.mem_append_right _ ha) hn
    refine ⟨g ++ f', ⟨v, _, g, f', rfl, rfl, RO.mono (Same.refl T) e3 fun a ha => fr a (List.mem_append_left _ ha) (nog a ha), s1⟩, List.nodup_append.mpr ⟨na.1, s2, fun a ha b hb z => ?_⟩, fun a ha => ?_⟩
    · subst z
      rcases s3 a hb with ⟨y, _⟩ | y
      · exact na.2.2 a ha a y rfl
      · rcases ap a y with q | q
        · exact nog a ha q
        · exact q (List.mem_append_left _ ha)
    · rcases List.mem_append.mp ha with ha | ha
      · exact .inl ⟨List.mem_append_left _ ha, nog a ha⟩
      · exact (s3 a ha).imp (fun z => ⟨List.mem_append_right _ z.1, z.2⟩) id
/-! ### keys of a dict by their places -/
theorem dGet_at : ∀ {ks : List Key} {os : List Ob} {x : Key} {o : Ob}, dGet ks os x = some o → ∃ j, ks[j]? = some x ∧ os[j]? = some o ∧ ∀ u, dSet ks os x u = os.set j u
  | [], os, _, _, e => by cases os <;> simp [dGet] at e
  | k :: ks, [], _, _, e => by simp [dGet] at e
  | k :: ks, o' :: os, x, o, e => by
    have e : (if k = x then some o' else dGet ks os x) = some o := e
    by_cases hk : k = x
    · rw [if_pos hk] at e
      cases e
      exact ⟨0, by rw [hk]; rfl, rfl, fun u => if_pos hk⟩
    · rw [if_neg hk] at e
      obtain ⟨j, h1, h2, h3⟩ := dGet_at e
      refine ⟨j + 1, by simpa using h1, by simpa using h2, fun u => ?_⟩
      show (if k = x then u :: os else o' :: dSet ks os x u) = _
      rw [if_neg hk, h3]
      rfl
theorem dGet_of : ∀ {ks : List Key} {os : List Ob} {x : Key}, x ∈ ks → ks.length = os.length → ∃ o, dGet ks os x = some o
  | [], _, _, h, _ => by cases h
  | k :: ks, [], _, _, h => by simp at h
  | k :: ks, o :: os, x, h, hl => by
    show ∃ o', (if k = x then some o else dGet ks os x) = some o'
    by_cases hk : k = x
    · rw [if_pos hk]; exact ⟨_, rfl⟩
    · rw [if_neg hk]
      exact dGet_of ((List.mem_cons.mp h).resolve_left (Ne.symm hk)) (by simpa using hl)
theorem zip_repl : ∀ {ks : List Key} {vs : List V} {x : Key} {j : Nat} {w : V}, ks.Nodup → ks[j]? = some x → (ks.zip vs).map (fun kv => if kv.1 = x then (kv.1, w) else kv) = ks.zip (vs.set j w)
  | [], _, _, _, _, _, e => by simp at e
  | k :: ks, [], _, _, _, _, _ => by simp
  | k :: ks, v :: vs, x, 0, w, nd, e => by
    have e' : k = x := by simpa using e
    subst e'
    have nk : k ∉ ks := (List.nodup_cons.mp nd).1
    rw [List.zip_cons_cons, List.map_cons, if_pos rfl]
    show _ = (k, w) :: ks.zip vs
    congr 1
    have : ∀ (kvs : List (Key × V)), (∀ p ∈ kvs, p.1 ≠ k) → kvs.map (fun kv => if kv.1 = k then (kv.1, w) else kv) = kvs := by
      intro kvs
      induction kvs with
      | nil => intro _; rfl
      | cons p r ih => intro h; rw [List.map_cons, if_neg (h p List.mem_cons_self), ih fun q hq => h q (List.mem_cons_of_mem _ hq)]
    exact this _ fun p hp z => nk (z ▸ (List.of_mem_zip hp).1)
  | k :: ks, v :: vs, x, j + 1, w, nd, e => by
    have e' : ks[j]? = some x := by simpa using e
    have nk := List.nodup_cons.mp nd
    have ne : ¬ k = x := fun z => nk.1 (by rw [z]; exact List.mem_of_getElem? e')
    rw [List.zip_cons_cons, List.map_cons, if_neg ne, zip_repl nk.2 e']
    rfl
theorem any_key {ks : List Key} {vs : List V} {x : Key} (hl : ks.length = vs.length) : ((ks.zip vs).any fun kv => decide (kv.1 = x)) = ks.any fun k => decide (k = x) := by
  have : ∀ {ks : List Key} {vs : List V}, ks.length = vs.length → ((ks.zip vs).any fun kv => decide (kv.1 = x)) = ks.any fun k => decide (k = x) := by
    intro ks
    induction ks with
    | nil => intro vs _; rfl
    | cons k r ih =>
      intro vs h
      cases vs with
      | nil => simp at h
      | cons v vs =>
        rw [List.zip_cons_cons, List.any_cons, List.any_cons, ih (by simpa using h)]
  exact this hl
theorem valV_nodup : ∀ {ks : List Key} {vs : List V} {j : Nat} {x : Key} {v : V}, ks.Nodup → (ks.zip vs)[j]? = some (x, v) → valV (ks.zip vs) x = some v
  | [], _, _, _, _, _, e => by simp at e
  | k :: ks, [], _, _, _, _, e => by simp at e
  | k :: ks, u :: vs, 0, x, v, nd, e => by
    have e : (k, u) = (x, v) := by simpa using e
    cases e
    rw [List.zip_cons_cons]
    exact valV_pos rfl
  | k :: ks, u :: vs, j + 1, x, v, nd, e => by
    have e : (ks.zip vs)[j]? = some (x, v) := by simpa using e
    have nk := List.nodup_cons.mp nd
    rw [List.zip_cons_cons, valV_neg (fun z : k = x => nk.1 (by rw [z]; exact (List.of_mem_zip (List.mem_of_getElem? e)).1))]
    exact valV_nodup nk.2 e
/-! ### x[k] = u -/
def rSet : TSet := fun o i v H Q => rSetL o i v H Q ∨ rSetD o i v H Q
theorem set_it {X : Cx} (hu : X.A.units + 1 < cLine) : PSet X rSet := by
  intro pins s σ H o i v ov iv u Q I ro ri rv h
  rcases h with h | h
  · exact set_list pins s σ H o i v ov iv u Q I ro ri rv h
  · exact set_dict hu pins s σ H o i v ov iv u Q I ro ri rv h
theorem ixN_lt {n : Nat} {i : Int} {j : Nat} (h : ixN n i = some j) : j < n := (ixN_seq h).2.1
theorem set_of {K : PySem.W.Frag} {T H : Hp} {o o' u : Ob} {k : Dt} {v y w : V} {f fu : List Addr} (r : RO K T H o v f) (nd : f.Nodup) (ru : RO K T H u w fu) (ndu : fu.Nodup) (ap : ∀ a ∈ fu, a ∉ f) (e : setO o k u = some o') (ry : Rp K T k y) :
    ∃ l x f', l ∈ f ∧ (∀ Q : Hp → Prop, Q (upd H l x) → rSet v y w H Q) ∧ RO K T (upd H l x) o' v f' ∧ f'.Nodup ∧ ∀ a ∈ f', a ∈ f ∨ a ∈ fu := by
  cases o with
  | d x => cases k <;> cases e
  | lst os =>
    cases k with
    | int n =>
      have e : (ixN os.length n).map (fun j => Ob.lst (os.set j u)) = some o' := e
      obtain ⟨j, ej, rfl⟩ := Option.map_eq_some_iff.mp e
      obtain ⟨l, vs, g, rfl, rfl, hH, rs⟩ := r
      have nl := List.nodup_cons.mp nd
      have jl := ixN_lt ej
      obtain ⟨w0, f1, q1, q2, q3, q4⟩ := rs.put (List.getElem?_eq_getElem jl) nl.2
      have nlu : ∀ a ∈ fu, a ≠ l := fun a ha z => ap a ha (by rw [z]; exact List.mem_cons_self)
      obtain ⟨f', s1, s2, s3⟩ := q4 (upd H l (.lst (vs.set j w))) u w fu (RO.mono (Same.refl T) ru fun a ha z q => by rw [upd_ne (nlu a ha)]; exact q) ndu (fun a ha => .inr fun z => ap a ha (List.mem_cons_of_mem _ z))
        fun a ha _ z q => by rw [upd_ne fun y : a = l => nl.1 (y ▸ ha)]; exact q
      have sub : ∀ a ∈ f', a ∈ g ∨ a ∈ fu := fun a ha => (s3 a ha).imp (fun z => z.1) id
      refine ⟨l, .lst (vs.set j w), l :: f', List.mem_cons_self, fun Q q => .inl ⟨l, vs, n, j, rfl, ry, hH, by rw [rs.len]; exact ej, q⟩, ⟨l, _, f', rfl, rfl, upd_same, s1⟩, List.nodup_cons.mpr ⟨fun z => ?_, s2⟩, fun a ha => ?_⟩
      · rcases sub l z with z | z
        · exact nl.1 z
        · exact nlu l z rfl
      · rcases List.mem_cons.mp ha with rfl | ha
        · exact .inl List.mem_cons_self
        · exact (sub a ha).imp (List.mem_cons_of_mem _) id
    | _ => cases e
  | dct ks os =>
    have e : (keyOf k).bind (fun x => if os.length < 1000 then (if (ks.any fun k => decide (k = x)) = true then some (Ob.dct ks (dSet ks os x u)) else some (.dct (ks ++ [x]) (os ++ [u]))) else none) = some o' := by cases k <;> exact e
    obtain ⟨x, ex, e⟩ := Option.bind_eq_some_iff.mp e
    by_cases cl : os.length < 1000
    case neg => rw [if_neg cl] at e; cases e
    rw [if_pos cl] at e
    obtain ⟨l, vs, g, rfl, rfl, hl, hn, hH, rs⟩ := r
    have nl := List.nodup_cons.mp nd
    have lv := rs.len
    have ey := key_of ex ry
    subst ey
    have nlu : ∀ a ∈ fu, a ≠ l := fun a ha z => ap a ha (by rw [z]; exact List.mem_cons_self)
    have small : (ks.zip vs).length < sizeLine := by
      rw [List.length_zip, hl, Nat.min_self, lv]
      exact Nat.lt_of_lt_of_le cl (by decide)
    by_cases hx : (ks.any fun k => decide (k = x)) = true
    · rw [if_pos hx] at e
      cases e
      have hm : x ∈ ks := by
        obtain ⟨z, hz, ez⟩ := List.any_eq_true.mp hx
        rw [← of_decide_eq_true ez]
        exact hz
      obtain ⟨o1, e1⟩ := dGet_of (os := os) hm (by rw [hl, lv])
      obtain ⟨j, k1, k2, k3⟩ := dGet_at e1
      obtain ⟨w0, f1, q1, q2, q3, q4⟩ := rs.put k2 nl.2
      obtain ⟨f', s1, s2, s3⟩ := q4 (upd H l (.dK (ks.zip (vs.set j w)))) u w fu (RO.mono (Same.refl T) ru fun a ha z q => by rw [upd_ne (nlu a ha)]; exact q) ndu (fun a ha => .inr fun z => ap a ha (List.mem_cons_of_mem _ z))
        fun a ha _ z q => by rw [upd_ne fun y : a = l => nl.1 (y ▸ ha)]; exact q
      have sub : ∀ a ∈ f', a ∈ g ∨ a ∈ fu := fun a ha => (s3 a ha).imp (fun z => z.1) id
      refine ⟨l, .dK (ks.zip (vs.set j w)), l :: f', List.mem_cons_self, fun Q q => .inr ⟨l, _, rfl, DPut.k hH small, ?_⟩, ⟨l, _, f', rfl, rfl, by rw [List.length_set]; exact hl, hn, upd_same, by rw [k3]; exact s1⟩, List.nodup_cons.mpr ⟨fun z => ?_, s2⟩, fun a ha => ?_⟩
      · have : putK (ks.zip vs) x w = ks.zip (vs.set j w) := by
          unfold putK
          rw [any_key hl, if_pos hx]
          exact zip_repl hn k1
        rw [this]
        exact q
      · rcases sub l z with z | z
        · exact nl.1 z
        · exact nlu l z rfl
      · rcases List.mem_cons.mp ha with rfl | ha
        · exact .inl List.mem_cons_self
        · exact (sub a ha).imp (List.mem_cons_of_mem _) id
    · rw [if_neg hx] at e
      cases e
      have hm : x ∉ ks := fun z => hx (List.any_eq_true.mpr ⟨x, z, decide_eq_true rfl⟩)
      have pk : putK (ks.zip vs) x w = (ks ++ [x]).zip (vs ++ [w]) := by
        unfold putK
        rw [any_key hl, if_neg hx, List.zip_append hl]
        rfl
      have st : ∀ a, a ≠ l → ∀ z, H a = some z → upd H l (.dK ((ks ++ [x]).zip (vs ++ [w]))) a = some z := fun a ha z q => by rw [upd_ne ha]; exact q
      refine ⟨l, .dK ((ks ++ [x]).zip (vs ++ [w])), l :: (g ++ fu), List.mem_cons_self, fun Q q => .inr ⟨l, _, rfl, DPut.k hH small, by rw [pk]; exact q⟩,
        ⟨l, vs ++ [w], g ++ fu, rfl, rfl, by rw [List.length_append, List.length_append, hl]; rfl, ?_, upd_same, ?_⟩, List.nodup_cons.mpr ⟨fun z => ?_, List.nodup_append.mpr ⟨nl.2, ndu, fun a ha b hb z => ap b hb (List.mem_cons_of_mem _ (z ▸ ha))⟩⟩, fun a ha => ?_⟩
      · refine List.nodup_append.mpr ⟨hn, by simp, fun a ha b hb z => ?_⟩
        have : b = x := by simpa using hb
        subst this z
        exact hm ha
      · exact (ROs.mono (Same.refl T) rs fun a ha z q => st a (fun y => nl.1 (y ▸ ha)) z q).app (ROs.one (RO.mono (Same.refl T) ru fun a ha z q => st a (nlu a ha) z q))
      · rcases List.mem_append.mp z with z | z
        · exact nl.1 z
        · exact nlu l z rfl
      · rcases List.mem_cons.mp ha with rfl | ha
        · exact .inl List.mem_cons_self
        · exact (List.mem_append.mp ha).imp (List.mem_cons_of_mem _) id
/-- x[k0][k1] = u: the inner store, seen from outside -/
theorem set_in {K : PySem.W.Frag} {T H : Hp} {o o1 o2 o' u : Ob} {k0 k1 : Dt} {v y1 w : V} {f fu : List Addr} (th : Same T H) (r : RO K T H o v f) (nd : f.Nodup) (ru : RO K T H u w fu) (ndu : fu.Nodup) (ap : ∀ a ∈ fu, a ∉ f) (e1 : itemO o k0 = some o1) (e2 : setO o1 k1 u = some o2) (e3 : setO o k0 o2 = some o')
    (ry1 : Rp K T k1 y1) : ∃ (v1 : V) (l : Addr) (x : HO) (f' : List Addr), l ∈ f ∧ (∀ y0, Rp K T k0 y0 → ∀ Q : VK, Q v1 H → rIt K v y0 H Q) ∧ (∀ Q : Hp → Prop, Q (upd H l x) → rSet v1 y1 w H Q) ∧ RO K T (upd H l x) o' v f' ∧ f'.Nodup ∧ (∀ a ∈ f', a ∈ f ∨ a ∈ fu) ∧ ∃ f1, RO K T H o1 v1 f1 := by
  have inner : ∀ {os : List Ob} {vs : List V} {g : List Addr} {j : Nat} {p : Addr}, f = p :: g → ROs K T H os vs g → os[j]? = some o1 → ∃ (v1 : V) (l : Addr) (x : HO) (f' f1 : List Addr), l ∈ g ∧ vs[j]? = some v1 ∧ RO K T H o1 v1 f1 ∧ (∀ Q : Hp → Prop, Q (upd H l x) → rSet v1 y1 w H Q) ∧
      ROs K T (upd H l x) (os.set j o2) vs f' ∧ f'.Nodup ∧ ∀ a ∈ f', a ∈ g ∨ a ∈ fu := by
    intro os vs g j p ef rs ej
    rw [ef] at nd ap
    have nl := List.nodup_cons.mp nd
    obtain ⟨w0, f1, q1, q2, q3, q4⟩ := rs.put ej nl.2
    have apg : ∀ a ∈ fu, a ∉ g := fun a ha z => ap a ha (List.mem_cons_of_mem _ z)
    obtain ⟨l, x, f2, s1, s2, s3, s4, s5⟩ := set_of q2 (nl.2.sublist q3) ru ndu (fun a ha z => apg a ha (q3.subset z)) e2 ry1
    obtain ⟨f', t1, t2, t3⟩ := q4 (upd H l x) o2 w0 f2 s3 s4 (fun a ha => (s5 a ha).imp id (apg a)) fun a ha hn z q => by rw [upd_ne fun y : a = l => hn (y ▸ s1)]; exact q
    have es : vs.set j w0 = vs := by
      refine List.ext_getElem? fun m => ?_
      by_cases hm : j = m
      · subst hm
        rw [List.getElem?_set_self (List.getElem?_eq_some_iff.mp q1).1, q1]
      · rw [List.getElem?_set_ne hm]
    rw [es] at t1
    refine ⟨w0, l, x, f', f1, q3.subset s1, q1, q2, s2, t1, t2, fun a ha => ?_⟩
    rcases t3 a ha with z | z
    · exact .inl z.1
    · exact (s5 a z).imp (fun z => q3.subset z) id
  cases o with
  | d z => cases k0 <;> cases e3
  | lst os =>
    cases k0 with
    | int n =>
      have e1 : atI os n = some o1 := e1
      unfold atI at e1
      obtain ⟨j, ej, e1⟩ := Option.bind_eq_some_iff.mp e1
      have e3 : (ixN os.length n).map (fun j => Ob.lst (os.set j o2)) = some o' := e3
      rw [ej] at e3
      cases e3
      obtain ⟨p, vs, g, rfl, rfl, hH, rs⟩ := r
      have nl := List.nodup_cons.mp nd
      obtain ⟨v1, l, x, f', f1, h1, h2, h3, h4, h5, h6, h7⟩ := inner rfl rs e1
      have pl : p ≠ l := fun z => nl.1 (z ▸ h1)
      refine ⟨v1, l, x, p :: f', List.mem_cons_of_mem _ h1, fun y0 hy Q q => ?_, h4, ⟨p, vs, f', rfl, rfl, by rw [upd_ne pl]; exact hH, h5⟩, List.nodup_cons.mpr ⟨fun z => ?_, h6⟩, fun a ha => ?_, f1, h3⟩
      · refine .inr (.inl ⟨p, vs, n, v1, rfl, hy, SqL.of hH, ?_, q⟩)
        unfold atI
        rw [rs.len, ej]
        exact h2
      · rcases h7 p z with z | z
        · exact nl.1 z
        · exact ap p z List.mem_cons_self
      · rcases List.mem_cons.mp ha with rfl | ha
        · exact .inl List.mem_cons_self
        · exact (h7 a ha).imp (List.mem_cons_of_mem _) id
    | _ => cases e1
  | dct ks os =>
    have e1 : (keyOf k0).bind (dGet ks os) = some o1 := by cases k0 <;> exact e1
    obtain ⟨x0, ex, e1⟩ := Option.bind_eq_some_iff.mp e1
    have e3 : (keyOf k0).bind (fun x => if os.length < 1000 then (if (ks.any fun k => decide (k = x)) = true then some (Ob.dct ks (dSet ks os x o2)) else some (.dct (ks ++ [x]) (os ++ [o2]))) else none) = some o' := by cases k0 <;> exact e3
    rw [ex] at e3
    obtain ⟨j, k1', k2, k3⟩ := dGet_at e1
    obtain ⟨p, vs, g, rfl, rfl, hl, hn, hH, rs⟩ := r
    have nl := List.nodup_cons.mp nd
    have e3 : (if os.length < 1000 then (if (ks.any fun k => decide (k = x0)) = true then some (Ob.dct ks (dSet ks os x0 o2)) else some (.dct (ks ++ [x0]) (os ++ [o2]))) else none) = some o' := e3
    have ax : (ks.any fun k => decide (k = x0)) = true := List.any_eq_true.mpr ⟨x0, List.mem_of_getElem? k1', decide_eq_true rfl⟩
    by_cases cl : os.length < 1000
    case neg => rw [if_neg cl] at e3; cases e3
    rw [if_pos cl, if_pos ax] at e3
    cases e3
    obtain ⟨v1, l, x, f', f1, h1, h2, h3, h4, h5, h6, h7⟩ := inner rfl rs k2
    have pl : p ≠ l := fun z => nl.1 (z ▸ h1)
    refine ⟨v1, l, x, p :: f', List.mem_cons_of_mem _ h1, fun y0 hy Q q => ?_, h4, ⟨p, vs, f', rfl, rfl, hl, hn, by rw [upd_ne pl]; exact hH, by rw [k3]; exact h5⟩, List.nodup_cons.mpr ⟨fun z => ?_, h6⟩, fun a ha => ?_, f1, h3⟩
    · obtain ⟨w', f'', r1, r2, _⟩ := rs.dGet hl e1
      have : w' = v1 := by
        have z : valV (ks.zip vs) x0 = some v1 := by
          have : (ks.zip vs)[j]? = some (x0, v1) := List.getElem?_zip_eq_some.mpr ⟨k1', h2⟩
          exact valV_nodup (ks := ks) (vs := vs) hn this
        rw [z] at r1
        cases r1
        rfl
      subst this
      exact .inr (.inr ⟨p, w', rfl, by rw [key_of ex hy, ← r1]; exact DGet.k hH, q⟩)
    · rcases h7 p z with z | z
      · exact nl.1 z
      · exact ap p z List.mem_cons_self
    · rcases List.mem_cons.mp ha with rfl | ha
      · exact .inl List.mem_cons_self
      · exact (h7 a ha).imp (List.mem_cons_of_mem _) id
end AM
/-! Ev17: statements that write. -/
namespace AM
open PySem PySem.Spec PyProof.Rows L2
/-- x[k] as it is read for an update -/
def rGet (K : PySem.W.Frag) : R2 := fun x y H Q => rIxL K x y H Q ∨ rIxD x y H Q
theorem get_any {X : Cx} (hu : X.A.units + 1 < cLine) : PGet X (rGet X.K) := by
  intro pins s σ H o i ov iv Q I ro ri h
  rcases h with ⟨p, xs, n, z, rfl, rfl, hq, he, q⟩ | ⟨a, w, rfl, gg, q⟩
  · cases ro
    obtain ⟨t, rfl⟩ := ri
    obtain ⟨its, r, pl, hz⟩ := I.list hq
    obtain ⟨j, h1, h2, h3, h4, h5⟩ := atI_get he
    obtain ⟨w, ew, rw'⟩ := r.get h2
    have hl := r.length
    have hn := line63
    have fin : EP X pins σ Q w s := ⟨z, H, I, rw', q⟩
    by_cases h0 : 0 ≤ n
    · have hj : n.toNat = j := by
        rw [seqIndex_of h0 h5] at h1
        exact Option.some.inj h1
      exact wpAny_getItem_list pl.isList h0 (by omega) (by rw [hj]; simpa using ew) fin
    · have hj : (n + (its.toArray.size : Int)).toNat = j := by
        rw [seqIndex_neg (by omega) h4] at h1
        rw [List.size_toArray, ← hl]
        exact Option.some.inj h1
      exact wpAny_getItem_list_neg pl.isList (by omega) (by rw [List.size_toArray] <;> omega) (by omega) (by rw [hj]; simpa using ew) fin
  · cases ro
    exact d_getItem hu I gg ri fun w' s3 I3 rw' => ⟨w, H, I3, rw', q⟩
theorem get_of_it {K : PySem.W.Frag} {T H : Hp} {o o' u : Ob} {v y : V} {f : List Addr} {k : Dt} {Q : VK} {ou : Ob} (r : RO K T H o v f) (th : Same T H) (e : itemO o k = some o') (es : setO o k u = some ou) (ry : Rp K T k y)
    (q : ∀ w f', RO K T H o' w f' → f'.Sublist f → Q w H) : rGet K v y H Q := by
  cases o with
  | d x => cases k <;> cases es
  | lst os =>
    cases k with
    | int i =>
      obtain ⟨a, vs, g, rfl, rfl, hH, rs⟩ := r
      obtain ⟨w, f', h1, h2, h3⟩ := rs.atI e
      exact .inl ⟨a, vs, i, w, rfl, ry, SqL.of hH, h1, q w f' h2 (h3.trans (List.sublist_cons_self _ _))⟩
    | _ => cases e
  | dct ks os =>
    obtain ⟨a, vs, g, rfl, rfl, hl, hn, hH, rs⟩ := r
    have e : (keyOf k).bind (dGet ks os) = some o' := by cases k <;> exact e
    obtain ⟨x, ex, e⟩ := Option.bind_eq_some_iff.mp e
    obtain ⟨w, f', h1, h2, h3⟩ := rs.dGet hl e
    refine .inr ⟨a, w, rfl, ?_, q w f' h2 (h3.trans (List.sublist_cons_self _ _))⟩
    rw [key_of ex ry, ← h1]
    exact DGet.k hH
theorem bin_int2 {op : Bop} {n m : Int} {y : Dt} (e : binD op (.int n) y = some (.d (.int m))) : ∃ k, y = .int k := by
  cases y with
  | int k => exact ⟨k, rfl⟩
  | _ => cases op <;> cases e
theorem smp_atom {ρ : Env} : ∀ {x : Ex} {d : Dt}, smp ρ x = some d → atom d = true := by
  intro x d e
  unfold smp at e
  split at e
  · split at e
    · split at e
      · cases e; assumption
      · cases e
    · cases e
  · split at e
    · cases e; assumption
    · cases e
  · split at e
    · split at e
      · cases e; rfl
      · cases e
    · cases e
  · split at e
    · cases e; rfl
    · cases e
  · cases e
theorem atom_val {K : PySem.W.Frag} {T : Hp} {k : Dt} (h : atom k = true) : ∃ y, Rp K T k y ∧ ∀ T' y', Rp K T' k y' → y' = y := by
  cases k with
  | int n => exact ⟨.int n, rfl, fun _ _ h => h⟩
  | str t => exact ⟨.str t, rfl, fun _ _ h => h⟩
  | _ => cases h
section
variable {R : Fns} {L : Nat} {fs : List (Nat × Str)} {fr : Frs} {N : List Str} {sc : Bs} {g : Gx} {a b c e e0 e1 e2 tg elt iter : Expr} {es ifs : List Expr} {xa xb xc xe x0 x1 x2 : Ex} {xs cs : Exs} {pos p1 p2 p3 p4 p5 : Pos} {i j : Nat} {x : Str} {t : Tg} {it : AM.It} {s : Stmt} {ss sa sb : List Stmt} {sm : Sm} {sms : Sms}
theorem cx_setI (hN : N[i]? = some x) (hv : Vis sc.sc x) (h1 : CE R fs fr N sc g e1 (ev R g.pn x1)) (h2 : CE R fs fr N sc g e2 (ev R g.pn x2)) (hd : (x == ("__debug__" : Str)) = false := by decide) (hcd : (x == ("__classdict__" : Str)) = false := by decide)
    (ha : ∀ env v, assign (.Subscript (.Name x p1) e1 p2) env v = (do
      let ov ← holding [v] (eval (.Name x p1) env)
      let iv ← holding [v, ov] (eval e1 env)
      standAt p2
      holding [v, ov, iv] (setItem ov iv v)
      release [v, ov, iv] []) := by intro _ _; rfl) (hs : ∀ env l, swapsWithSole [.Subscript (.Name x p1) e1 p2] e2 l env = pure false := by intro _ _; rfl) (hw : ∀ env, swappedStores [.Subscript (.Name x p1) e1 p2] e2 env = pure none := by intro _; rfl) :
    CX_ R L fs fr N sc g (.Assign [.Subscript (.Name x p1) e1 p2] e2 pos) (.setI i x1 x2) := fun X A => by
  refine (ps_asg (h2 X A) (pg_sub (pe_var (by rw [A.hN]; exact hN) (by rw [A.hsc]; exact hv) hd hcd) (h1 X A).toD (set_it (by have := A.room; omega)) (ha _)) (hs _ _) (hw _) rfl).of fun D σ H h => ?_
  obtain ⟨T, ρ, F, gd, h⟩ := h
  rw [ex] at h
  refine ⟨T, ρ, F, gd, h.bind.imp fun p hp => ?_⟩
  obtain ⟨u, ρ1⟩ := p
  intro T1 H1 F1 v f g1 t1 s1
  obtain ⟨o0, eo0, hp⟩ := hp.ofb
  obtain ⟨w0, ew0, _⟩ := g1.slot i _ (get_some eo0)
  refine ⟨w0, ew0, T1, ρ1, F1, g1, hp.bind.go s1.own fun q hq => ?_⟩
  obtain ⟨k, ρ2⟩ := q
  intro T2 H2 F2 y g2 r2 s2
  have t2 := t1.stay (F' := F2) s2 fun a h => h
  obtain ⟨o', eo, hq⟩ := hq.ofb
  obtain ⟨o, eg, es⟩ := Option.bind_eq_some_iff.mp eo
  obtain ⟨w, ew, ro⟩ := g2.slot i _ (get_some eg)
  have : w0 = w := by
    rw [ew0] at ew
    cases ew
    rfl
  subst this
  obtain ⟨l, z, f', q1, q2, q3, q4, q5⟩ := set_of ro (g2.nd i) t2.ro t2.nd (fun a ha z => t2.off a ha ⟨i, z⟩) es r2
  refine q2 _ ?_
  obtain ⟨g3, s3⟩ := g2.put (get_some eg) ew0 (fun a ha => ⟨t2.tn a ha, t2.off a ha⟩) q1 q3 q4 q5
  have s12 : Stp T H (InF F) T2 H2 (fun a => InF F2 a ∨ a ∈ f) := (s1.trans s2 fun a h => .inl h).post fun a h => h.imp id .inr
  exact (show AftF (g.at X.K) T H F D (.nx (ρ2.set i (some o'))) from hq) T2 _ σ _ g3 ((s12.trans s3 fun a h => h).post fun a h => .inl h)
theorem cx_set2 (hN : N[i]? = some x) (hv : Vis sc.sc x) (h0 : CS R fs fr N sc g e0 x0) (h1 : CS R fs fr N sc g e1 x1) (h2 : CE R fs fr N sc g e2 (ev R g.pn x2)) (hpl : PlainIx e0 := by intro _ _; rfl) (hd : (x == ("__debug__" : Str)) = false := by decide) (hcd : (x == ("__classdict__" : Str)) = false := by decide)
    (ha : ∀ env v, assign (.Subscript (.Subscript (.Name x p1) e0 p3) e1 p2) env v = (do
      let ov ← holding [v] (eval (.Subscript (.Name x p1) e0 p3) env)
      let iv ← holding [v, ov] (eval e1 env)
      standAt p2
      holding [v, ov, iv] (setItem ov iv v)
      release [v, ov, iv] []) := by intro _ _; rfl) (hs : ∀ env l, swapsWithSole [.Subscript (.Subscript (.Name x p1) e0 p3) e1 p2] e2 l env = pure false := by intro _ _; rfl) (hw : ∀ env, swappedStores [.Subscript (.Subscript (.Name x p1) e0 p3) e1 p2] e2 env = pure none := by intro _; rfl) :
    CX_ R L fs fr N sc g (.Assign [.Subscript (.Subscript (.Name x p1) e0 p3) e1 p2] e2 pos) (.set2 i x0 x1 x2) := fun X A => by
  have hu : X.A.units + 1 < cLine := by have := A.room; omega
  refine (ps_asg (h2 X A) (pg_sub (pe_ix (ix_it hu) (pe_var (by rw [A.hN]; exact hN) (by rw [A.hsc]; exact hv) hd hcd) (h0 X A) hpl) (h1 X A) (set_it hu) (ha _)) (hs _ _) (hw _) rfl).of fun D σ H h => ?_
  obtain ⟨T, ρ, F, gd, h⟩ := h
  rw [ex] at h
  refine ⟨T, ρ, F, gd, h.bind.imp fun p hp => ?_⟩
  obtain ⟨u, ρ1⟩ := p
  intro T1 H1 F1 v f g1 t1 s1
  obtain ⟨k0, ek0, hp⟩ := hp.ofb
  obtain ⟨k1, ek1, hp⟩ := hp.ofb
  obtain ⟨o', eo, hp⟩ := hp.ofb
  obtain ⟨o, eg, eo⟩ := Option.bind_eq_some_iff.mp eo
  obtain ⟨o1, ei, eo⟩ := Option.bind_eq_some_iff.mp eo
  obtain ⟨o2, es, eo⟩ := Option.bind_eq_some_iff.mp eo
  obtain ⟨w, ew, ro⟩ := g1.slot i _ (get_some eg)
  refine ⟨w, ew, T1, ρ1, F1, k0, g1, ek0, fun y0 hy0 => ?_⟩
  obtain ⟨y1, hy1, un⟩ := atom_val (K := X.K) (T := T1) (smp_atom ek1)
  obtain ⟨v1, l, z, f', q1, q2, q3, q4, q5, q6, _⟩ := set_in g1.same ro (g1.nd i) t1.ro t1.nd (fun a ha z => t1.off a ha ⟨i, z⟩) ei es eo hy1
  refine q2 y0 hy0 _ ⟨T1, ρ1, F1, k1, g1, ek1, fun y1' hy1' => ?_⟩
  rw [un _ _ hy1']
  refine q3 _ ?_
  obtain ⟨g3, s3⟩ := g1.put (get_some eg) ew (fun a ha => ⟨t1.tn a ha, t1.off a ha⟩) q1 q4 q5 q6
  exact (show AftF (g.at X.K) T H F D (.nx (ρ1.set i (some o'))) from hp) T1 _ σ _ g3 ((s1.trans s3 fun a h => h).post fun a h => .inl h)
end
end AM
/-! Ev18: x[k] op= e, x.append(e), x.extend(e). -/
namespace AM
open PySem PySem.Spec PyProof.Rows L2
section
variable {R : Fns} {L : Nat} {fs : List (Nat × Str)} {fr : Frs} {N : List Str} {sc : Bs} {g : Gx} {a b c e e0 e1 e2 tg elt iter : Expr} {es ifs : List Expr} {xa xb xc xe x0 x1 x2 : Ex} {xs cs : Exs} {pos p1 p2 p3 p4 p5 : Pos} {i j : Nat} {x : Str} {t : Tg} {it : AM.It} {s : Stmt} {ss sa sb : List Stmt} {sm : Sm} {sms : Sms}
theorem aug_inv {op : Bop} {o1 : Ob} {y : Dt} {f : Ob → Option Ob} {o' : Ob} (h : (match o1 with
      | .d x => (binD op x y).bind fun u => match x, u with
        | .int _, .d (.int z) => f (.d (.int z))
        | _, _ => none
      | _ => none) = some o') : ∃ n k m, o1 = .d (.int n) ∧ y = .int k ∧ binD op (.int n) (.int k) = some (.d (.int m)) ∧ f (.d (.int m)) = some o' := by
  cases o1 with
  | d x =>
    have h : ((binD op x y).bind fun u => match x, u with
        | .int _, .d (.int z) => f (.d (.int z))
        | _, _ => none) = some o' := h
    obtain ⟨u, eu, h2⟩ := Option.bind_eq_some_iff.mp h
    cases x with
    | int n =>
      cases u with
      | d z =>
        cases z with
        | int m =>
          obtain ⟨k, rfl⟩ := bin_int2 eu
          exact ⟨n, k, m, rfl, rfl, eu, h2⟩
        | _ => cases h2
      | _ => cases h2
    | _ => cases h2
  | _ => cases h
theorem cx_augI {op : Bop} (hN : N[i]? = some x) (hv : Vis sc.sc x) (h1 : CS R fs fr N sc g e1 x1) (h2 : CS R fs fr N sc g e2 x2) (hd : (x == ("__debug__" : Str)) = false := by decide) (hcd : (x == ("__classdict__" : Str)) = false := by decide)
    (ha : ∀ ov iv new, augStore e1 ov iv new = (do holding [new, ov, iv] (setItem ov iv new); release [new, ov, iv] []; pure .next) := by intros; rfl) :
    CX_ R L fs fr N sc g (.AugAssign (.Subscript (.Name x p1) e1 p2) (opOf op) e2 pos) (.augI i x1 op x2) := fun X A => by
  have hu : X.A.units + 1 < cLine := by have := A.room; omega
  refine (ps_augS (pe_var (by rw [A.hN]; exact hN) (by rw [A.hsc]; exact hv) hd hcd) (h1 X A) (get_any hu) (h2 X A) (iop_op op) (set_it hu) ha).of fun D σ H h => ?_
  obtain ⟨T, ρ, F, gd, h⟩ := h
  rw [ex] at h
  obtain ⟨k, ek, h⟩ := h.ofb
  obtain ⟨y, ey, h⟩ := h.ofb
  obtain ⟨o', eo, hz⟩ := h.ofb
  obtain ⟨o, eg, eo⟩ := Option.bind_eq_some_iff.mp eo
  obtain ⟨o1, ei, eo⟩ := Option.bind_eq_some_iff.mp eo
  obtain ⟨n, m, z, rfl, rfl, eb, es⟩ := aug_inv (f := setO o k) eo
  obtain ⟨w, ew, ro⟩ := gd.slot i _ (get_some eg)
  refine ⟨w, ew, T, ρ, F, k, gd, ek, fun y1 hy1 => get_of_it ro gd.same ei es hy1 fun v1 f1 hv1 _ => ⟨T, ρ, F, .int m, gd, ey, fun y2 hy2 => ?_⟩⟩
  obtain ⟨_, hv1⟩ := hv1
  refine ⟨n, m, z, hv1, hy2, eb, ?_⟩
  obtain ⟨l, q, f', q1, q2, q3, q4, q5⟩ := set_of (fu := []) ro (gd.nd i) (show RO X.K T H (.d (.int z)) (.int z) [] from ⟨rfl, rfl⟩) .nil (fun a z => nomatch z) es hy1
  refine q2 _ ?_
  obtain ⟨g3, s3⟩ := gd.put (fy := []) (get_some eg) ew (fun a z => nomatch z) q1 q3 q4 q5
  exact (show AftF (g.at X.K) T H F D (.nx (ρ.set i (some o'))) from hz) T _ σ _ g3 (s3.weak (fun a h => h.elim id fun z => nomatch z) fun a h => h)
theorem cx_aug2 {op : Bop} (hN : N[i]? = some x) (hv : Vis sc.sc x) (h0 : CS R fs fr N sc g e0 x0) (h1 : CS R fs fr N sc g e1 x1) (h2 : CS R fs fr N sc g e2 x2) (hpl : PlainIx e0 := by intro _ _; rfl) (hd : (x == ("__debug__" : Str)) = false := by decide) (hcd : (x == ("__classdict__" : Str)) = false := by decide)
    (ha : ∀ ov iv new, augStore e1 ov iv new = (do holding [new, ov, iv] (setItem ov iv new); release [new, ov, iv] []; pure .next) := by intros; rfl) :
    CX_ R L fs fr N sc g (.AugAssign (.Subscript (.Subscript (.Name x p1) e0 p3) e1 p2) (opOf op) e2 pos) (.aug2 i x0 x1 op x2) := fun X A => by
  have hu : X.A.units + 1 < cLine := by have := A.room; omega
  refine (ps_augS (pe_ix (ix_it hu) (pe_var (by rw [A.hN]; exact hN) (by rw [A.hsc]; exact hv) hd hcd) (h0 X A) hpl) (h1 X A) (get_any hu) (h2 X A) (iop_op op) (set_it hu) ha).of fun D σ H h => ?_
  obtain ⟨T, ρ, F, gd, h⟩ := h
  rw [ex] at h
  obtain ⟨k0, ek0, h⟩ := h.ofb
  obtain ⟨k1, ek1, h⟩ := h.ofb
  obtain ⟨y, ey, h⟩ := h.ofb
  obtain ⟨o', eo, hz⟩ := h.ofb
  obtain ⟨o, eg, eo⟩ := Option.bind_eq_some_iff.mp eo
  obtain ⟨o0, ei0, eo⟩ := Option.bind_eq_some_iff.mp eo
  obtain ⟨o1, ei1, eo⟩ := Option.bind_eq_some_iff.mp eo
  obtain ⟨n, m, z, rfl, rfl, eb, eo⟩ := aug_inv (f := fun u => (setO o0 k1 u).bind fun o2 => setO o k0 o2) eo
  obtain ⟨o2, es, eo⟩ := Option.bind_eq_some_iff.mp eo
  obtain ⟨w, ew, ro⟩ := gd.slot i _ (get_some eg)
  refine ⟨w, ew, T, ρ, F, k0, gd, ek0, fun y0 hy0 => ?_⟩
  obtain ⟨y1, hy1, un⟩ := atom_val (K := X.K) (T := T) (smp_atom ek1)
  obtain ⟨v1, l, q, f', q1, q2, q3, q4, q5, q6, f0, r0⟩ := set_in (fu := []) gd.same ro (gd.nd i) (show RO X.K T H (.d (.int z)) (.int z) [] from ⟨rfl, rfl⟩) .nil (fun a z => nomatch z) ei0 es eo hy1
  refine q2 y0 hy0 _ ⟨T, ρ, F, k1, gd, ek1, fun y1' hy1' => ?_⟩
  rw [un _ _ hy1']
  refine get_of_it r0 gd.same ei1 es hy1 fun v2 f2 hv2 _ => ⟨T, ρ, F, .int m, gd, ey, fun y2 hy2 => ⟨n, m, z, hv2.2, hy2, eb, q3 _ ?_⟩⟩
  obtain ⟨g3, s3⟩ := gd.put (fy := []) (get_some eg) ew (fun a z => nomatch z) q1 q4 q5 q6
  exact (show AftF (g.at X.K) T H F D (.nx (ρ.set i (some o'))) from hz) T _ σ _ g3 (s3.weak (fun a h => h.elim id fun z => nomatch z) fun a h => h)
theorem Ob.lst_of {o : Ob} {k : List Ob → Res Fl} {G : Gm} {T H : Hp} {F : Foot} {P : Fl → Prop} (h : Out G T H F (match o with | .lst os => k os | _ => .bad) P) : ∃ os, o = .lst os ∧ Out G T H F (k os) P := by
  cases o with
  | lst os => exact ⟨os, rfl, h⟩
  | _ => exact h.elim
theorem cx_app (hN : N[i]? = some x) (hv : Vis sc.sc x) (h1 : CE R fs fr N sc g e (ev R g.pn xe)) (hd : (x == ("__debug__" : Str)) = false := by decide) (hcd : (x == ("__classdict__" : Str)) = false := by decide) (hline : (p2.endLine == p3.line) = true := by rfl)
    (hst : ∀ env, starEach [e] env = [(false, eval e env)] := by intro _; rfl) : CX_ R L fs fr N sc g (.Expr (.Call (.Attribute (.Name x p1) "append" p2) [e] [] p3) pos) (.app i xe) := fun X A => by
  refine (ps_expr (pe_bm PySem.F.plainAttrs_list PySem.F.slot_list_append PySem.F.type_list_append mt_append (pe_var (by rw [A.hN]; exact hN) (by rw [A.hsc]; exact hv) hd hcd) (pa_cons (h1 X A) pa_nil (hst _)) rfl (by rw [hst]; rfl) hline (hst _) rfl) rfl).of fun D σ H h => ?_
  obtain ⟨T, ρ, F, gd, h⟩ := h
  rw [ex] at h
  obtain ⟨o0, e0, h⟩ := h.ofb
  obtain ⟨v, ev0, r0⟩ := gd.slot i _ (get_some e0)
  obtain ⟨os0, rfl, h3⟩ := Ob.lst_of h
  obtain ⟨l0, vs0, g0, rfl, _, hH0, _⟩ := r0
  refine ⟨_, ev0, .inl ⟨rfl, _, SqL.of hH0⟩, T, ρ, F, gd, h3.bind.imp fun p hp => ?_⟩
  obtain ⟨y, ρ1⟩ := p
  intro T1 H1 F1 w f g1 t1 s1
  obtain ⟨o, eg, hp⟩ := hp.ofb
  obtain ⟨os, rfl, hq⟩ := Ob.lst_of hp
  have cz : os.length < sizeLine := by
    refine Classical.byContradiction fun c => ?_
    rw [if_neg c] at hq
    exact hq
  rw [if_pos cz] at hq
  obtain ⟨v', ev1, ro⟩ := g1.slot i _ (get_some eg)
  rw [ev0] at ev1
  cases ev1
  obtain ⟨l, vs, gg, el, ef, hH, rs⟩ := ro
  cases el
  have nd := g1.nd i
  rw [ef] at nd
  have nl := List.nodup_cons.mp nd
  have lF : l0 ∈ F1 i := by rw [ef]; exact List.mem_cons_self
  have nf : l0 ∉ f := fun z => t1.off l0 z ⟨i, lF⟩
  refine ⟨l0, vs, w, rfl, rfl, hH, by rw [rs.len]; exact cz, ?_⟩
  obtain ⟨g3, s3⟩ := g1.put (x := .lst (vs ++ [w])) (o' := .lst (os ++ [y])) (f := l0 :: (gg ++ f)) (get_some eg) ev0 (fun a ha => ⟨t1.tn a ha, t1.off a ha⟩) lF
    ⟨l0, _, gg ++ f, rfl, rfl, upd_same, (rs.aside nl.1).app (ROs.one (t1.ro.aside nf))⟩ (List.nodup_cons.mpr ⟨fun z => (List.mem_append.mp z).elim nl.1 nf, List.nodup_append.mpr ⟨nl.2, t1.nd, fun a ha b hb z => t1.off b hb ⟨i, by rw [ef]; exact List.mem_cons_of_mem _ (z ▸ ha)⟩⟩⟩)
    (fun a ha => by
      rcases List.mem_cons.mp ha with rfl | ha
      · exact .inl lF
      · exact (List.mem_append.mp ha).imp (fun z => by rw [ef]; exact List.mem_cons_of_mem _ z) id)
  exact (show AftF (g.at X.K) T H F D (.nx (ρ1.set i (some (.lst (os ++ [y]))))) from hq) T1 _ σ _ g3 ((s1.trans s3 fun a h => h).post fun a h => .inl h)
theorem cx_ext (hN : N[i]? = some x) (hv : Vis sc.sc x) (h1 : CE R fs fr N sc g e (ev R g.pn xe)) (hd : (x == ("__debug__" : Str)) = false := by decide) (hcd : (x == ("__classdict__" : Str)) = false := by decide) (hline : (p2.endLine == p3.line) = true := by rfl)
    (hst : ∀ env, starEach [e] env = [(false, eval e env)] := by intro _; rfl) : CX_ R L fs fr N sc g (.Expr (.Call (.Attribute (.Name x p1) "extend" p2) [e] [] p3) pos) (.ext i xe) := fun X A => by
  refine (ps_expr (pe_bm PySem.F.plainAttrs_list PySem.F.slot_list_extend PySem.F.type_list_extend mt_extend (pe_var (by rw [A.hN]; exact hN) (by rw [A.hsc]; exact hv) hd hcd) (pa_cons (h1 X A) pa_nil (hst _)) rfl (by rw [hst]; rfl) hline (hst _) rfl) rfl).of fun D σ H h => ?_
  obtain ⟨T, ρ, F, gd, h⟩ := h
  rw [ex] at h
  obtain ⟨o0, e0, h⟩ := h.ofb
  obtain ⟨v, ev0, r0⟩ := gd.slot i _ (get_some e0)
  obtain ⟨os0, rfl, h3⟩ := Ob.lst_of h
  obtain ⟨l0, vs0, g0, rfl, _, hH0, _⟩ := r0
  refine ⟨_, ev0, .inl ⟨rfl, _, SqL.of hH0⟩, T, ρ, F, gd, h3.bind.imp fun p hp => ?_⟩
  obtain ⟨y, ρ1⟩ := p
  intro T1 H1 F1 w f g1 t1 s1
  obtain ⟨o, eg, hp⟩ := hp.ofb
  have : ∃ os xs, o = .lst os ∧ y = .lst xs ∧ Out (g.at X.K) T H F (if os.length + xs.length ≤ sizeLine then .ok (.nx (ρ1.set i (some (.lst (os ++ xs))))) else .bad) (AftF (g.at X.K) T H F D) := by
    cases o with
    | lst os =>
      cases y with
      | lst xs => exact ⟨os, xs, rfl, rfl, hp⟩
      | _ => exact hp.elim
    | _ => exact hp.elim
  obtain ⟨os, xs, rfl, rfl, hq⟩ := this
  have cz : os.length + xs.length ≤ sizeLine := by
    refine Classical.byContradiction fun c => ?_
    rw [if_neg c] at hq
    exact hq
  rw [if_pos cz] at hq
  obtain ⟨v', ev1, ro⟩ := g1.slot i _ (get_some eg)
  rw [ev0] at ev1
  cases ev1
  obtain ⟨l, vs, gg, el, ef, hH, rs⟩ := ro
  cases el
  obtain ⟨b, zs, gb, rfl, rfl, hB, rb⟩ := t1.ro
  have nd := g1.nd i
  rw [ef] at nd
  have nl := List.nodup_cons.mp nd
  have nb := List.nodup_cons.mp t1.nd
  have lF : l0 ∈ F1 i := by rw [ef]; exact List.mem_cons_self
  have nf : l0 ∉ gb := fun z => t1.off l0 (List.mem_cons_of_mem _ z) ⟨i, lF⟩
  refine ⟨l0, b, vs, zs, rfl, rfl, hH, hB, by rw [rs.len, rb.len]; exact cz, ?_⟩
  obtain ⟨g3, s3⟩ := g1.put (x := .lst (vs ++ zs)) (o' := .lst (os ++ xs)) (f := l0 :: (gg ++ gb)) (get_some eg) ev0 (fun a ha => ⟨t1.tn a ha, t1.off a ha⟩) lF
    ⟨l0, _, gg ++ gb, rfl, rfl, upd_same, (rs.aside nl.1).app (rb.aside nf)⟩ (List.nodup_cons.mpr ⟨fun z => (List.mem_append.mp z).elim nl.1 nf, List.nodup_append.mpr ⟨nl.2, nb.2, fun a ha b hb z => t1.off b (List.mem_cons_of_mem _ hb) ⟨i, by rw [ef]; exact List.mem_cons_of_mem _ (z ▸ ha)⟩⟩⟩)
    (fun a ha => by
      rcases List.mem_cons.mp ha with rfl | ha
      · exact .inl lF
      · exact (List.mem_append.mp ha).imp (fun z => by rw [ef]; exact List.mem_cons_of_mem _ z) (List.mem_cons_of_mem _))
  exact (show AftF (g.at X.K) T H F D (.nx (ρ1.set i (some (.lst (os ++ xs))))) from hq) T1 _ σ _ g3 ((s1.trans s3 fun a h => h).post fun a h => .inl h)
end
end AM
/-! Ev19: the defs of a text keep what their terms promise; the law's own call. -/
namespace AM
open PySem PySem.Spec PyProof.Rows L2
theorem outs_look {ρ : Env} : ∀ {io : List Nat} {l : List (Nat × Ob)}, outs io ρ = some l → ∀ q o, l.lookup q = some o → q ∈ io ∧ get ρ q = some o
  | [], l, e, q, o, h => by cases e; cases h
  | i :: r, l, e, q, o, h => by
    have e : (match get ρ i, outs r ρ with | some o, some l => some ((i, o) :: l) | _, _ => none) = some l := e
    cases h1 : get ρ i with
    | none => simp only [h1] at e; cases e
    | some u =>
      cases h2 : outs r ρ with
      | none => simp only [h1, h2] at e; cases e
      | some l' =>
        simp only [h1, h2] at e
        cases e
        by_cases hq : q = i
        · subst hq
          rw [List.lookup_cons_self] at h
          cases h
          exact ⟨List.mem_cons_self, h1⟩
        · rw [List.lookup_cons, show (q == i) = false by simpa using hq] at h
          obtain ⟨z1, z2⟩ := outs_look h2 q o h
          exact ⟨List.mem_cons_of_mem _ z1, z2⟩
/-- the slots that the caller goes on with, and nothing else -/
def fOf (io : List Nat) (F : Foot) : Foot := fun q => if q ∈ io then F q else []
theorem fOf_in {io : List Nat} {F : Foot} {q : Nat} {a : Addr} (h : a ∈ fOf io F q) : a ∈ F q := by
  unfold fOf at h
  split at h
  · exact h
  · cases h
theorem fOf_inF {io : List Nat} {F : Foot} {a : Addr} (h : InF (fOf io F) a) : InF F a := h.elim fun q z => ⟨q, fOf_in z⟩
/-- the values that stay in their slots -/
def pinV (io : List Nat) (vs : List V) : List (Nat × V) := io.map fun i => (i, (vs[i]?).getD .non)
theorem pinV_pn {io : List Nat} {vs : List V} : (pinV io vs).map (·.1) = io := by
  unfold pinV
  rw [List.map_map]
  exact List.map_id io
def gxOf (io : List Nat) (vs : List V) : Gx := ⟨pinV io vs, fun _ _ _ _ _ => False, fun h _ => h⟩
theorem Good.start {K : PySem.W.Frag} {T H : Hp} {vs : List V} {os : List Ob} {P : Foot} {io : List Nat} {N : List Str} {n : Nat} (g : Good K [] T H (vs.map some) (os.map some) P) (hN : N.length = n) (hl : vs.length = os.length) (hio : ∀ i ∈ io, i < vs.length) :
    Good K (pinV io vs) T H (L2.start N vs) (os.map some ++ List.replicate (n - os.length) none) P := by
  unfold L2.start
  have lo : (os.map some).length = os.length := List.length_map _
  have lv : (vs.map some).length = vs.length := List.length_map _
  refine ⟨by rw [List.length_append, List.length_append, lo, lv, List.length_replicate, List.length_replicate, hN, hl], fun i o e => ?_, fun i h => g.none_ i fun o e => h o ?_, g.nd, g.apart, g.tn, g.same, fun p hp => ?_⟩
  · by_cases hi : i < os.length
    · rw [List.getElem?_append_left (by rw [lo]; exact hi)] at e
      rw [List.getElem?_append_left (by rw [lv, hl]; exact hi)]
      exact g.slot i o e
    · rw [List.getElem?_append_right (by rw [lo]; omega), List.getElem?_replicate] at e
      split at e <;> cases e
  · have hi : i < os.length := by
      have := (List.getElem?_eq_some_iff.mp e).1
      rwa [lo] at this
    rw [List.getElem?_append_left (by rw [lo]; exact hi)]
    exact e
  · obtain ⟨i, hi, rfl⟩ := List.mem_map.mp hp
    have h := hio i hi
    rw [List.getElem?_append_left (by rw [lv]; exact h), List.getElem?_map, List.getElem?_eq_getElem h]
    rfl
/-- what a def's body reaches is what its promise asks -/
theorem body_meets {K : PySem.W.Frag} {R : Fns} {L : Nat} {df : Df} {N : List Str} {vs : List V} {os : List Ob} {T H : Hp} {P : Foot} {Q : VK} (hN : N.length = df.n) (hio : ∀ i ∈ df.io, i < df.np) (hv : vs.length = df.np)
    (gd : Good K [] T H (vs.map some) (os.map some) P)
    (h : match runBody R L df os with
      | .ok p => ∀ (T' H' : Hp) (v : V) (f' : List Addr) (fo : Foot), Same T' H' → RO K T' H' p.1 v f' → f'.Nodup → (∀ q o, p.2.lookup q = some o → ∃ w, vs[q]? = some w ∧ RO K T' H' o w (fo q)) →
        (∀ q, (fo q).Nodup) → (∀ q r a, a ∈ fo q → a ∈ fo r → q = r) → (∀ a ∈ f', ¬ InF fo a) → (∀ a, a ∈ f' ∨ InF fo a → T' a = none) → Stp T H (InF P) T' H' (fun a => a ∈ f' ∨ InF fo a) → Q v H'
      | _ => False) :
    rdX ((gxOf df.io vs).at K) (exs R L (gxOf df.io vs).pn df.body) { nx := fun _ H' => Q .non H', rt := Q } (L2.start N vs) H := by
  have hlen : vs.length = os.length := by
    have := gd.len
    rw [List.length_map, List.length_map] at this
    omega
  have gs := gd.start (io := df.io) hN hlen fun i hi => by rw [hv]; exact hio i hi
  have pn : (gxOf df.io vs).pn = df.io := pinV_pn
  refine ⟨T, _, P, gs, ?_⟩
  rw [pn]
  unfold runBody at h
  by_cases c : os.length = df.np ∧ df.np ≤ df.n
  case neg => rw [if_neg c] at h; exact h.elim
  rw [if_pos c, ← c.1] at h
  -- what the caller has of the slots
  have fin : ∀ (o : Ob) (ρ : Env) (l : List (Nat × Ob)), outs df.io ρ = some l →
      (∀ (T' H' : Hp) (v : V) (f' : List Addr) (fo : Foot), Same T' H' → RO K T' H' o v f' → f'.Nodup → (∀ q o, l.lookup q = some o → ∃ w, vs[q]? = some w ∧ RO K T' H' o w (fo q)) →
        (∀ q, (fo q).Nodup) → (∀ q r a, a ∈ fo q → a ∈ fo r → q = r) → (∀ a ∈ f', ¬ InF fo a) → (∀ a, a ∈ f' ∨ InF fo a → T' a = none) → Stp T H (InF P) T' H' (fun a => a ∈ f' ∨ InF fo a) → Q v H') →
      ∀ (T' H' : Hp) (σ' : L2.St) (F' : Foot) (v : V) (f : List Addr), Gd ((gxOf df.io vs).at K) T' H' σ' ρ F' → Tmp K T' H' F' o v f → Stp T H (InF P) T' H' (fun a => InF F' a ∨ a ∈ f) → Q v H' := by
    intro o ρ l el hq T' H' σ' F' v f g' t' s'
    refine hq T' H' v f (fOf df.io F') g'.same t'.ro t'.nd (fun q o hl => ?_) (fun q => ?_) (fun q r a h1 h2 => g'.apart q r a (fOf_in h1) (fOf_in h2)) (fun a ha z => t'.off a ha (fOf_inF z)) (fun a ha => ha.elim (t'.tn a) fun z => g'.tn a (fOf_inF z)) (s'.post fun a ha => ha.symm.imp fOf_inF id)
    · obtain ⟨h1, h2⟩ := outs_look el q o hl
      obtain ⟨w, e1, r1⟩ := g'.slot q o (get_some h2)
      have lt : q < vs.length := by rw [hv]; exact hio q h1
      have e2 : σ'[q]? = some (some ((vs[q]?).getD .non)) := g'.pins (q, (vs[q]?).getD .non) (List.mem_map.mpr ⟨q, h1, rfl⟩)
      rw [e1, List.getElem?_eq_getElem lt] at e2
      have e3 : w = vs[q] := Option.some.inj (Option.some.inj e2)
      refine ⟨w, by rw [List.getElem?_eq_getElem lt, e3], ?_⟩
      unfold fOf
      rw [if_pos h1]
      exact r1
    · unfold fOf
      split
      · exact g'.nd q
      · exact .nil
  cases e : exs R L df.io df.body (os.map some ++ List.replicate (df.n - os.length) none) with
  | bad => rw [e] at h; exact h.elim
  | exc cc ds => rw [e] at h; exact h.elim
  | ok fl =>
    rw [e] at h
    refine Out.mk ?_
    cases fl with
    | rt o ρ =>
      cases el : outs df.io ρ with
      | none => simp only [Res.bind, el, Res.of] at h
      | some l =>
        simp only [Res.bind, el, Res.of] at h
        exact fin o ρ l el h
    | nx ρ =>
      cases el : outs df.io ρ with
      | none => simp only [Res.bind, el, Res.of] at h
      | some l =>
        simp only [Res.bind, el, Res.of] at h
        exact fun T' H' σ' F' g' s' => fin (.d .none) ρ l el h T' H' σ' F' .non [] g' (.plain rfl) (s'.post fun a ha => ha.elim id fun z => nomatch z)
    | bk ρ => simp only [Res.bind] at h
    | ct ρ => simp only [Res.bind] at h
/-! ### a def of the text -/
section
variable {P : Program} {w : World} {K : PySem.W.Frag} {mg : Str → Option Value} {base : Heap}
theorem FnG.ofBody {x qual : Str} {st : Stmt} {f : Addr} {fd : FuncData} {N ps : List Str} {k : Nat} {sp : Sp} (F : Fun K x qual st f fd) (S : FnScope N ps (defScope st)) (len : ∀ vs H Q E, sp vs H Q E → vs.length = ps.length)
    (go : ∀ (cdv : Value) (A : Around) (outer : List PySem.Env) (s : Shared) (H : Hp) (vs : List V) (Q : VK) (E : XK), (A.deeper (envOfC qual (defScope st) s.heap.objs.size f cdv)).guards = some [] → Room k (A.deeper (envOfC qual (defScope st) s.heap.objs.size f cdv)) → sp vs H Q E →
      ∃ t, PSs (cxOf CX0 P w K mg base N qual (defScope st) f cdv A outer s H E).nox (defBody st) t ∧ t { nx := fun _ H' => Q .non H', rt := Q } (L2.start N vs) H) : FnG P w K mg base CX0 (k + 1) f fd ps sp := by
  obtain ⟨oc, od, kV, doc, pm, an, cdv, ct, osl, rfl, lk, hcd⟩ := F.ex
  refine ⟨len, fun A outer s H args us vs Q E gu hr e0 hb r hsp => ?_⟩
  have inK : K.In s.heap := e0.mod.kin.keeps fun b o e => (e0.bs b o e).1
  have noLim : s.heap.NoLimit := e0.mod.nolimit.keeps fun b o e => (e0.bs b o e).1
  refine codeAny_call_function hr.depth (inK _ _ lk) rfl S.co S.gen rfl (PySem.W.codeRec_of inK hcd) (hb _ _ _ _ ?_)
  refine wpAny_newFunctionEnv_cells S.kind (fun y hy => ?_) fun env he s1 cs => ?_
  · obtain ⟨nm, val⟩ := y
    exact (S.par nm (List.of_mem_zip hy).1).imp id fun q => ⟨q, PySem.W.cellsFrom_some _ _ _ (.inl q)⟩
  · subst he
    refine ⟨noLim.keeps cs.toInCall.keep, codeAny_func ?_⟩
    obtain ⟨t, ht, hq⟩ := go cdv A outer s H vs Q E gu (hr.deeper _) hsp
    have I0 : Inv (cxOf CX0 P w K mg base N qual (defScope st) f cdv A outer s H E) [] (L2.start N vs) H s1 := inv_start S hr.hd e0 (len _ _ _ _ hsp) r cs
    refine wpAny_mono (ht.nox.run [] s1 (L2.start N vs) H _ I0 hq) (fun fl s' hs => ?_) fun e s' hs => hs
    cases fl with
    | ret u =>
      obtain ⟨v, σ', H', J, rv, q⟩ := hs
      exact ⟨v, H', J.os, J.bare, J.base, J.hok, rv, q⟩
    | next =>
      obtain ⟨σ', H', J, q⟩ := hs
      exact ⟨V.non, H', J.os, J.bare, J.base, J.hok, rfl, q⟩
    | brk => exact hs.elim fun _ z => z.elim fun _ z => z.2.elim
    | cont => exact hs.elim fun _ z => z.elim fun _ z => z.2.elim
/-- a def of the text, by its term -/
structure DefOk (K : PySem.W.Frag) (mg : Str → Option Value) (tbl : List Df) (L : Nat) (fs : List (Nat × Str)) (fr : Frs) (p : Nat × Str) : Prop where
  ex : ∃ (df : Df) (a : Addr) (fd : FuncData) (ps N : List Str) (qual : Str) (st : Stmt), tbl[p.1]? = some df ∧ Fun K p.2 qual st a fd ∧ FnScope N ps (defScope st) ∧ N.length = df.n ∧ ps.length = df.np ∧ (∀ i ∈ df.io, i < df.np) ∧ mg p.2 = some (.ref a) ∧ Binds K fd ps [] ∧
    ∀ (n : Nat) (g : Gx), (∀ c ds T H F, ¬ g.XQ c ds T H F) → CB (run tbl L n) L fs fr N ⟨defScope st, fun _ => true⟩ g (defBody st) df.body
/-- what the callers know of it, n calls deep -/
def DefAt (P : Program) (w : World) (K : PySem.W.Frag) (mg : Str → Option Value) (base : Heap) (tbl : List Df) (L n : Nat) (p : Nat × Str) : Prop :=
  ∃ (a : Addr) (fd : FuncData) (ps : List Str) (np : Nat), FnG P w K mg base CX0 n a fd ps (spF K (run tbl L n) p.1 np) ∧ mg p.2 = some (.ref a) ∧ PySem.W.keepIn K (.ref a) = true ∧ Binds K fd ps [] ∧ ps.length = np ∧ ∀ os r, (run tbl L n).run p.1 os = .ok r → os.length = np
theorem run_len {tbl : List Df} {L n f : Nat} {df : Df} {os : List Ob} {r : Ob × List (Nat × Ob)} (e : tbl[f]? = some df) (h : (run tbl L n).run f os = .ok r) : os.length = df.np := by
  cases n with
  | zero => cases h
  | succ n =>
    have h : (match tbl[f]? with | some df => runBody (run tbl L n) L df os | none => .bad) = .ok r := h
    rw [e] at h
    have h : runBody (run tbl L n) L df os = .ok r := h
    unfold runBody at h
    by_cases c : os.length = df.np ∧ df.np ≤ df.n
    · exact c.1
    · rw [if_neg c] at h; cases h
theorem fng_step {tbl : List Df} {L n i : Nat} {fs : List (Nat × Str)} {fr : Frs} {df : Df} {a : Addr} {fd : FuncData} {ps N : List Str} {x qual : Str} {st : Stmt} (e : tbl[i]? = some df) (F : Fun K x qual st a fd) (S : FnScope N ps (defScope st)) (h1 : N.length = df.n) (h2 : ps.length = df.np)
    (h3 : ∀ i ∈ df.io, i < df.np) (body : ∀ g : Gx, (∀ c ds T H F, ¬ g.XQ c ds T H F) → CB (run tbl L n) L fs fr N ⟨defScope st, fun _ => true⟩ g (defBody st) df.body) (hf : FrOk K w mg fr) (ih : ∀ p ∈ fs, DefAt P w K mg base tbl L n p) :
    FnG P w K mg base CX0 (n + 1) a fd ps (spF K (run tbl L (n + 1)) i df.np) := by
  refine FnG.ofBody F S (fun vs H Q E q => by rw [h2]; exact q.1) (fun cdv A outer s H vs Q E gu hr hs => ?_)
  obtain ⟨hv, T, os, Pf, gd, hq⟩ := hs
  have hq' : match runBody (run tbl L n) L df os with
    | .ok p => ∀ (T' H' : Hp) (v : V) (f' : List Addr) (fo : Foot), Same T' H' → RO K T' H' p.1 v f' → f'.Nodup → (∀ q o, p.2.lookup q = some o → ∃ w, vs[q]? = some w ∧ RO K T' H' o w (fo q)) →
      (∀ q, (fo q).Nodup) → (∀ q r a, a ∈ fo q → a ∈ fo r → q = r) → (∀ a ∈ f', ¬ InF fo a) → (∀ a, a ∈ f' ∨ InF fo a → T' a = none) → Stp T H (InF Pf) T' H' (fun a => a ∈ f' ∨ InF fo a) → Q v H'
    | _ => False := by
    have z : (run tbl L (n + 1)).run i os = runBody (run tbl L n) L df os := by
      show (match tbl[i]? with | some df => runBody (run tbl L n) L df os | none => .bad) = _
      rw [e]
    rw [z] at hq
    exact hq
  refine ⟨_, body (gxOf df.io vs) (fun _ _ _ _ _ h => h) _ ⟨S.nd, rfl, rfl, rfl, ?_, gu, fun _ _ => rfl, PassesOwn.never, hf, fun q hq2 => ?_⟩, body_meets h1 h3 hv gd hq'⟩
  · have := hr.un
    show (A.deeper _).units + 140 < _
    omega
  · obtain ⟨a', fd', ps', np', f1, f2, f3, f4, f5, f6⟩ := ih q hq2
    exact ⟨a', fd', ps', np', n, f1, hr, f2, f3, f4, f5, f6⟩
theorem defs_at {tbl : List Df} {L : Nat} {fs : List (Nat × Str)} {fr : Frs} (h : ∀ p ∈ fs, DefOk K mg tbl L fs fr p) (hf : FrOk K w mg fr) : ∀ n, ∀ p ∈ fs, DefAt P w K mg base tbl L n p := by
  intro n
  induction n with
  | zero =>
    intro p hp
    obtain ⟨df, a, fd, ps, N, qual, st, e, F, S, h1, h2, h3, hm, hb, _⟩ := (h p hp).ex
    refine ⟨a, fd, ps, df.np, ⟨fun vs H Q E q => by rw [h2]; exact q.1, fun A outer s H args us vs Q E gu hr e0 bt rv hs => ?_⟩, hm, F.kp, hb, h2, fun os r q => run_len e q⟩
    obtain ⟨_, T, os, Pf, _, q⟩ := hs
    exact q.elim
  | succ n ih =>
    intro p hp
    obtain ⟨df, a, fd, ps, N, qual, st, e, F, S, h1, h2, h3, hm, hb, body⟩ := (h p hp).ex
    exact ⟨a, fd, ps, df.np, fng_step e F S h1 h2 h3 (body n) hf ih, hm, F.kp, hb, h2, fun os r q => run_len e q⟩
end
end AM
/-! Ev20: the law is called with its script. -/
namespace AM
open PySem PySem.Spec PyProof.Rows L2
/-- the script as plain data -/
def scr (ns : List Int) : Dt := .list (ns.map PyData.int)
theorem Rps.ints {K : PySem.W.Frag} {T : Hp} : ∀ ns : List Int, Rps K T (ns.map PyData.int) (ns.map V.int)
  | [] => rfl
  | n :: r => ⟨.int n, _, rfl, rfl, Rps.ints r⟩
theorem good_scr {K : PySem.W.Frag} {H : Hp} {a : Addr} {ns : List Int} (h : SqL K H a (ns.map V.int)) : Good K [] H H [some (.ref a)] [some (.d (scr ns))] (fun _ => []) := by
  refine ⟨rfl, fun i o e => ?_, fun _ _ => rfl, fun _ => List.nodup_nil, fun i j a h => (nomatch h), fun a h => ?_, Same.refl H, fun p h => (nomatch h)⟩
  · cases i with
    | zero =>
      cases e
      exact ⟨_, rfl, rfl, a, _, rfl, h, Rps.ints ns⟩
    | succ i => cases e
  · obtain ⟨_, z⟩ := h
    cases z
section
variable {P : Program} {w : World} {K : PySem.W.Frag} {mg mb : Str → Option Value} {k : Nat} {fa a : Addr} {fd : FuncData} {x : Str} {sp : Sp} {s₁ : Shared} {vs : List Value} {ns : List Int}
/-- one abstract heap H, in which at most the script stands, as an object that is never written -/
theorem call_at {H : Hp} (inK : K.In s₁.heap) (nsg : s₁.heap.Ns mainGlobals mg) (nsb : s₁.heap.Ns builtinsNs mb) (boot : ∀ x : Str, x ≠ "__name__" → mb x = bootBuiltins x) (noLim : s₁.heap.NoLimit) (gens : s₁.gens = #[])
    (ha : s₁.heap.get? a = some { cls := .type "list", data := .seq vs.toArray }) (room : Room k callerA)
    (F : ∀ base : Heap, K.In base → base.Ns mainGlobals mg → FnG P w K mg base CX0 k fa fd [x] sp) (bind : BindsTo s₁ fd ⟨[.ref a], []⟩ [(x, .ref a)])
    (hH : ∀ b u, H b = some u → b = a ∧ K.lookup a = none ∧ ∃ o xs, u = .frz o (.lst xs)) (ok : HOk P w H s₁.heap) (pr : sp [.ref a] H (fun v _ => v = .bl true) fun _ _ _ => False) :
    codeAny (model P w) callerA (.call (.ref fa) ⟨[.ref a], []⟩) (fun r s' => r = .ok (.ret (.bool true)) ∧ OldK s₁.heap s'.heap ∧ s'.os = s₁.os ∧ AllBare s'.gens) s₁ := by
  have at_a : ∀ b, H b ≠ none → b = a := fun b z => by
    cases q : H b with
    | none => exact absurd q z
    | some u => exact (hH b u q).1
  have no_dict : ∀ {b : Addr} {o : Obj} {es : Array DictEntry} {ep : Nat}, s₁.heap.get? b = some o → o.data = .dict es ep → H b = none := fun {b o es ep} e d => by
    refine Classical.byContradiction fun z => ?_
    rw [at_a b z, ha] at e
    cases e
    cases (show Data.seq vs.toArray _ = Data.dict es ep from d)
  have names : ∀ {b : Addr} {m : Str → Option Value}, s₁.heap.Ns b m → (hidT s₁.heap H).Ns b m := fun {b m} ⟨o, es, ep, e, d, r⟩ => ⟨o, es, ep, hidT_get e (no_dict e d), d, r⟩
  have part : K.In (hidT s₁.heap H) := fun b o e => hidT_get (inK b o e) (by
    cases q : H b with
    | none => rfl
    | some u =>
      obtain ⟨rfl, h2, _⟩ := hH b u q
      rw [h2] at e; cases e)
  have lim : (hidT s₁.heap H).NoLimit := let ⟨mc, z1, z2⟩ := noLim; ⟨mc, names z1, z2⟩
  have e0 : Env0 P w K mg (hidT s₁.heap H) callerA [] s₁ H := ⟨rfl, ⟨part, names nsg, ⟨mb, names nsb, boot⟩, lim⟩, fun b o e => of_hidT e, Nat.le_of_eq (hidT_size _ _), trivial, fun b hb => (nomatch (show b ∈ ([] : List Addr) from hb)), ok, .of_eq gens⟩
  refine codeAny_mono ((F _ part (names nsg)).run callerA [] s₁ H ⟨[.ref a], []⟩ [.ref a] [.ref a] _ _ rfl room e0 bind (.cons rfl .nil) pr) fun r s' h => ?_
  match r, h with
  | .error e, h => exact (show False from h).elim
  | .ok .next, h => exact (show False from h).elim
  | .ok .brk, h => exact (show False from h).elim
  | .ok .cont, h => exact (show False from h).elim
  | .ok (.ret u), h =>
    obtain ⟨v, H', os, bare, un, hok', rv, q⟩ := h
    cases (show v = .bl true from q)
    cases (show u = Value.bool true from rv)
    refine ⟨rfl, OldK.of_keep fun b o e => ?_, os, bare⟩
    cases q : H b with
    | none => exact un.keep b o e q (fun z => nomatch (show b ∈ ([] : List Addr) from z)) (by simp)
    | some u =>
      obtain ⟨_, _, ob, xs, rfl⟩ := hH b u q
      have e1 := (ok b _ q).1
      have e2 := (hok' b _ (un.frzs b ob _ q)).1
      rw [e] at e1
      cases e1
      exact e2
theorem call_law (inK : K.In s₁.heap) (nsg : s₁.heap.Ns mainGlobals mg) (nsb : s₁.heap.Ns builtinsNs mb) (boot : ∀ x : Str, x ≠ "__name__" → mb x = bootBuiltins x) (noLim : s₁.heap.NoLimit) (gens : s₁.gens = #[])
    (ha : s₁.heap.get? a = some { cls := .type "list", data := .seq vs.toArray }) (hi : IntsAre vs ns) (hl : ns.length ≤ sizeLine) (room : Room k callerA)
    (F : ∀ base : Heap, K.In base → base.Ns mainGlobals mg → FnG P w K mg base CX0 k fa fd [x] sp) (bind : BindsTo s₁ fd ⟨[.ref a], []⟩ [(x, .ref a)])
    (pr : ∀ H : Hp, SqL K H a (ns.map V.int) → sp [.ref a] H (fun v _ => v = .bl true) fun _ _ _ => False) :
    codeAny (model P w) callerA (.call (.ref fa) ⟨[.ref a], []⟩) (fun r s' => r = .ok (.ret (.bool true)) ∧ OldK s₁.heap s'.heap ∧ s'.os = s₁.os ∧ AllBare s'.gens) s₁ := by
  have rv := vals_ints hi
  cases hk : K.lookup a with
  | some o =>
    have e := inK a o hk
    rw [ha] at e
    cases e
    exact call_at (H := fun _ => none) inK nsg nsb boot noLim gens ha room F bind (fun b u z => nomatch (show (none : Option HO) = some u from z)) (fun b u z => nomatch (show (none : Option HO) = some u from z))
      (pr _ (.inr ⟨_, vs.toArray, _, hk, rfl, rfl, rfl, by rw [List.size_toArray, hi.length]; exact hl, by simpa using rv⟩))
  | none =>
    let O : Obj := { cls := .type "list", data := .seq vs.toArray }
    have key : ∀ b u, (if b = a then some (HO.frz O (.lst (ns.map V.int))) else none) = some u → b = a ∧ u = HO.frz O (.lst (ns.map V.int)) := fun b u z => by
      by_cases hb : b = a
      · rw [if_pos hb] at z
        exact ⟨hb, (Option.some.inj z).symm⟩
      · rw [if_neg hb] at z; cases z
    refine call_at (H := fun b => if b = a then some (.frz O (.lst (ns.map V.int))) else none) inK nsg nsb boot noLim gens ha room F bind (fun b u z => ?_) (fun b u z => ?_) (pr _ (.inl (.inr ⟨O, if_pos rfl⟩)))
    · obtain ⟨h1, h2⟩ := key b u z
      exact ⟨h1, hk, _, _, h2⟩
    · obtain ⟨rfl, rfl⟩ := key b u z
      exact ⟨ha, by rw [List.length_map]; exact hl, vs, _, rv, ha⟩
end
/-- the goal behind the top, from the texts' terms and what the law's term comes to -/
theorem walk_G {l : PySem.W.OpenLaw} {n L lev : Nat} {q : Program} {loose : List Str} {XP : (Str → Option Value) → Heap → Prop} {YP : World → Heap → Prop} {d : DefRec} {K : Params → PySem.W.Frag} (tbl : List Df) (fs : List (Nat × Str)) (fr : Frs) (f : Nat)
    (hn : l.most = some n) (hn2 : n ≤ sizeLine) (hdf : d.params.defaults = []) (room : Room (lev + 1) callerA) (hf : (f, d.name) ∈ fs)
    (hY : ∀ (w : World) (h : Heap), YP w h → (K w.params).In h)
    (F : ∀ (w : World) (mg : Str → Option Value) (fa : Addr) (h : Heap), (K w.params).In h → h.Ns mainGlobals mg → mg d.name = some (.ref fa) →
      (∀ p ∈ fs, DefOk (K w.params) mg tbl L fs fr p) ∧ FrOk (K w.params) w mg fr)
    (law : ∀ ns : List Int, ns.length ≤ n → ∃ r, (run tbl L (lev + 1)).run f [.d (scr ns)] = .ok (.d (.bool true), r)) :
    PySem.W.WalkO q loose XP YP l.row.toRowW d [] (fun f vs => PySem.call f vs) := by
  refine Att.attach_call hn hdf fun w s₀ s₁ mg mb fa o pm cd doc a vs ns G Y ho hd hcd hmg hobj hints hlen hg => ?_
  have inK := hY w _ Y
  obtain ⟨hD, hf0⟩ := F w mg fa _ inK G.T.g hmg
  obtain ⟨df, a', fd, ps, N, qual, st, e, FF, S, h1, h2, h3, hm, hb, body⟩ := (hD (f, d.name) hf).ex
  have ea : a' = fa := by
    rw [hmg] at hm
    cases hm
    rfl
  subst ea
  obtain ⟨r, er⟩ := law ns hlen
  have np1 : df.np = 1 := (run_len e er).symm
  obtain ⟨x, rfl⟩ : ∃ x, ps = [x] := by
    rw [np1] at h2
    match ps, h2 with
    | [x], _ => exact ⟨x, rfl⟩
  refine call_law inK G.T.g G.T.b G.T.builtins G.T.nolimit hg hobj hints (Nat.le_trans hlen hn2) room (fun base kin ns => fng_step e FF S h1 h2 h3 (body lev) hf0 (defs_at hD hf0 lev)) (hb s₁ [.ref a] inK rfl) fun H hS => ?_
  refine ⟨np1.symm, H, [.d (scr ns)], fun _ => [], good_scr hS, ?_⟩
  rw [er]
  exact fun T' H' v f' fo _ rv _ _ _ _ _ _ _ => rv.2
end AM
/-! Ev22: sorted. -/
namespace AM
open PySem PySem.Spec PyProof.Rows L2
theorem isI_int {d : Dt} (h : isI d = true) : ∃ n, d = .int n := by
  cases d with
  | int n => exact ⟨n, rfl⟩
  | _ => cases h
theorem allI_ints : ∀ {ds : List Dt}, ds.all isI = true → ∃ ns : List Int, ds = ns.map PyData.int
  | [], _ => ⟨[], rfl⟩
  | d :: ds, h => by
    rw [List.all_cons, Bool.and_eq_true] at h
    obtain ⟨n, rfl⟩ := isI_int h.1
    obtain ⟨ns, rfl⟩ := allI_ints h.2
    exact ⟨n :: ns, rfl⟩
theorem tupI_ints {d : Dt} (h : tupI d = true) : ∃ (n : Int) (ns : List Int), d = .tuple (.int n :: ns.map PyData.int) := by
  cases d with
  | tuple ds =>
    cases ds with
    | nil => cases h
    | cons x r =>
      obtain ⟨ns, e⟩ := allI_ints (show (x :: r).all isI = true from h)
      cases ns with
      | nil => cases e
      | cons n ns =>
        rw [e]
        exact ⟨n, ns, rfl⟩
  | _ => cases h
theorem sortable_alike {ds : List Dt} (h : sortable ds = true) : PySem.W.AllAlike ds ∧ PySem.W.Sortable ds ∧ ∀ d ∈ ds, d.depth ≤ 1 := by
  unfold sortable at h
  rw [Bool.or_eq_true] at h
  rcases h with h | h
  · have k : ∀ d ∈ ds, ∃ n, d = .int n := fun d hd => isI_int (List.all_eq_true.mp h d hd)
    refine ⟨fun d hd d' hd' => ?_, .inr fun d hd => ?_, fun d hd => ?_⟩
    · obtain ⟨n, rfl⟩ := k d hd
      obtain ⟨m, rfl⟩ := k d' hd'
      simp [PySem.W.alike]
    · obtain ⟨n, rfl⟩ := k d hd
      exact ⟨fun e => (nomatch e), fun xs e => (nomatch e)⟩
    · obtain ⟨n, rfl⟩ := k d hd
      simp [PyData.depth]
  · have k : ∀ d ∈ ds, ∃ (n : Int) (ns : List Int), d = .tuple (.int n :: ns.map PyData.int) := fun d hd => tupI_ints (List.all_eq_true.mp h d hd)
    refine ⟨fun d hd d' hd' => ?_, .inl fun d hd => ?_, fun d hd => ?_⟩
    · obtain ⟨n, ns, rfl⟩ := k d hd
      obtain ⟨m, ms, rfl⟩ := k d' hd'
      have := PySem.W.alike_ints (n :: ns) (m :: ms)
      rw [PySem.W.alike]
      exact this
    · obtain ⟨n, ns, rfl⟩ := k d hd
      exact ⟨_, _, rfl⟩
    · obtain ⟨n, ns, rfl⟩ := k d hd
      have := PySem.W.depth_ints (n :: ns)
      rw [PyData.depth]
      rw [show PyData.depthAll (.int n :: ns.map PyData.int) = 0 from this]
      exact Nat.le_refl _
/-- values that stand for data, and their records -/
def RV (K : PySem.W.Frag) (T : Hp) (u : Value) (d : Dt) : Prop := ∃ v, RelV v u ∧ Rp K T d v
theorem each_of {K : PySem.W.Frag} {T : Hp} : ∀ {vs : List V} {us : List Value} {ds : List Dt}, Vals vs us → Rps K T ds vs → PySem.W.EachIs (RV K T) us ds
  | _, _, [], .nil, _ => .nil
  | _, _, [], .cons _ _, h => by cases (show _ = [] from h)
  | _, _, d :: ds, .nil, ⟨v, r, e, _⟩ => by cases e
  | _, _, d :: ds, .cons r t, ⟨v, vr, e, h1, h2⟩ => by
    cases e
    exact .cons ⟨_, r, h1⟩ (each_of t h2)
theorem of_each {K : PySem.W.Frag} {T : Hp} : ∀ {us : List Value} {ds : List Dt}, PySem.W.EachIs (RV K T) us ds → ∃ vs, Vals vs us ∧ Rps K T ds vs
  | _, _, .nil => ⟨[], .nil, rfl⟩
  | _, _, .cons ⟨v, r, h⟩ t => by
    obtain ⟨vs, h1, h2⟩ := of_each t
    exact ⟨v :: vs, .cons r h1, v, vs, rfl, h, h2⟩
theorem call_sorted_bi {X : Cx} (hu : X.A.units + 10 < cLine) : CallR X (.builtin "sorted") (rBi X.K .sorted) := by
  intro pins s σ H xs us Q I r h
  obtain ⟨T, d, o, x, rfl, th, hd, eo, m⟩ := h
  cases d with
  | list ds =>
    have eo : (sortD ds).map Ob.ls = some o := eo
    obtain ⟨zs, e, rfl⟩ := Option.map_eq_some_iff.mp eo
    unfold sortD at e
    by_cases c : sortable ds = true
    case neg => rw [if_neg c] at e; cases e
    rw [if_pos c] at e
    cases e
    obtain ⟨al, so, dp⟩ := sortable_alike c
    obtain ⟨a, vs, rfl, sa, ra⟩ := hd
    obtain ⟨its, rv, hl, hz⟩ := I.list (th.seq sa)
    rw [Vals.ref1 r]
    obtain ⟨as, rd⟩ := Dp.readsAll I ds _ its (Rps.dp th ra) rv
    have len : ds.length ≤ sizeLine := by rw [← ra.len]; exact hz
    refine PySem.W.sorted_data (enc := id) (bs := ds) (R := RV X.K T) hl.isList (each_of rv ra) (PySem.W.readsAll_each id (by rw [List.map_id]; exact rd)) (by rw [List.map_id]; exact al) (by rw [List.map_id]; exact so) len (fun b hb => ?_) fun out ho he => ?_
    · have := dp b hb
      show X.A.units + 2 + b.depth < cLine
      omega
    · obtain ⟨ws, h1, h2⟩ := of_each he
      obtain ⟨ep, hp⟩ := PyProof.Rows.sortedAll_at s.heap its (List.toArray out)
      have hlen : ws.length ≤ sizeLine := by rw [h1.length, ho]; exact len
      refine ⟨.ref _, upd H (s.heap.objs.size + 1) (.lst ws), I.laid (t' := s.toks) (fun _ _ => PyProof.Rows.sortedAll_old) (Nat.le_succ _) ⟨hlen, out, ep, h1, hp⟩, rfl, m.ls th h2 (I.hok.fresh (Nat.le_succ _))⟩
  | _ => cases eo
section
variable {R : Fns} {fs : List (Nat × Str)} {fr : Frs} {N : List Str} {sc : Bs} {g : Gx} {a : Expr} {xa : Ex} {pos p1 p2 p3 : Pos}
theorem ce_sorted (ha : CE R fs fr N sc g a (ev R g.pn xa)) (hg : GlS sc "sorted") (hm : ("sorted" : Str) ∈ fr) (he : ∀ env, starEach [a] env = [(false, eval a env)] := by intro _; rfl) : CE R fs fr N sc g (.Call (.Name "sorted" p1) [a] [] pos) (ev R g.pn (.bi .sorted xa)) :=
  ce_biB (fun _ _ hu => call_sorted_bi (by omega)) ha hg hm boot_sorted (he := he)
end
end AM
/-! Es0: a set of tuples of ints, as many as 128 slots take. -/
namespace AM
open PySem PySem.Spec PyProof.Rows L2

/-! ### the steps of a search, counted from its start -/
abbrev stp (m : Nat) (h : Int) (k : Nat) : SetTable.Probe := nth m (runAt m (SetTable.bits h % (m + 1)) (SetTable.bits h)) k
theorem stp_add (m : Nat) (h : Int) (c q : Nat) : nth m (stp m h c) q = stp m h (c + q) := (nth_add m c _ q).symm
theorem stp_clean (m : Nat) (h : Int) : ∀ k, (stp m h k).dummy = none
  | 0 => rfl
  | k + 1 => by
    show (nth m _ (k + 1)).dummy = none
    rw [nth_succ]
    unfold adv
    split <;> exact stp_clean m h k
/-- what the table answers to a search that stands at step c -/
theorem probe_from {t : SetTable} {hs : List Int} (T : TabOk t hs) (hf : Nat → Int) (h : Int) {K c : Nat} (hc : c ≤ K) (lim : K < 10 * SetTable.turns t.mask)
    (full : ∀ q, q < K → way t.mask h q ∈ t.place.toList) (hole : way t.mask h K ∉ t.place.toList) :
    (∃ q i, c ≤ q ∧ q < K ∧ t.place.toList[i]? = some (way t.mask h q) ∧ hf i = h ∧ (∀ r j, c ≤ r → r < q → t.place.toList[j]? = some (way t.mask h r) → hf j ≠ h) ∧
      t.probe hf h (stp t.mask h c) = some (.candidate (way t.mask h q) i (stp t.mask h (q + 1)))) ∨
    ((∀ r j, c ≤ r → r < K → t.place.toList[j]? = some (way t.mask h r) → hf j ≠ h) ∧ t.probe hf h (stp t.mask h c) = some (.empty (way t.mask h K) none)) := by
  have on : ∀ q, nth t.mask (stp t.mask h c) q = stp t.mask h (c + q) := stp_add _ _ _
  rcases go_spec t T.ris T.dm hf h (10 * SetTable.turns t.mask) (K - c) (stp t.mask h c) (stp_clean _ _ _) (by omega) (fun q hq => by rw [on]; exact full _ (by omega))
    (by rw [on, show c + (K - c) = K by omega]; exact hole) with ⟨q, i, h1, h2, h3, h4, h5⟩ | ⟨h1, h2⟩
  · rw [on] at h2
    refine .inl ⟨c + q, i, by omega, by omega, h2, h3, fun r j hr hq e => h4 (r - c) j (by omega) (by rw [on, show c + (r - c) = r by omega]; exact e), ?_⟩
    rw [on, on] at h5
    exact h5
  · refine .inr ⟨fun r j hr hk e => h1 (r - c) j (by omega) (by rw [on, show c + (r - c) = r by omega]; exact e), ?_⟩
    rw [on, show c + (K - c) = K by omega] at h2
    exact h2

/-! ### the set at a: its members with their ints -/
structure Ts (pr : Program) (wo : World) (h : Heap) (a : Addr) (L : List (Addr × List Int)) (es : Array (Int × Value)) (ep : Nat) (t : SetTable) : Prop where
  box : ∃ o, h.get? a = some o ∧ o.ExactSet ∧ o.data = .set es ep t
  ent : es.toList = rowsOf pr wo L
  ok : TabOk t (L.map fun p => thash pr wo p.2)
  uni : (L.map (·.2)).Nodup
  tup : ∀ p ∈ L, IsT pr wo h p.2 p.1
  pln : t.plain = true
  led : wo.params.followText "set-order" = true ∨ t.led = true
  wide : L.length * 5 < t.mask * 3
section
variable {pr : Program} {wo : World} {ar : Around} {er : Value → Shared → Prop} {sh : Shared} {h : Heap} {a : Addr} {L : List (Addr × List Int)} {es : Array (Int × Value)} {ep : Nat} {t : SetTable}
theorem Ts.of (R : SetTR pr wo h a L es ep t) : Ts pr wo h a L es ep t := ⟨R.ob, R.rows, R.tab, R.nd, R.tup, R.plain, R.led, R.room⟩
theorem rows_len {es : Array (Int × Value)} {L : List (Addr × List Int)} (e : es.toList = rowsOf pr wo L) : es.size = L.length := by
  rw [← Array.length_toList, e]
  simp [rowsOf]
theorem Ts.places (R : Ts pr wo h a L es ep t) : t.place.toList.length = L.length := by
  have := R.ok.sz
  rwa [List.length_map, ← Array.length_toList] at this
theorem Ts.fit (R : Ts pr wo h a L es ep t) : t.fits es.size = true := by
  have p := R.places
  have n := rows_len R.ent
  have w := R.wide
  rw [Array.length_toList] at p
  have f : t.fill = L.length := by
    show t.place.size + t.dummies.size = _
    rw [R.ok.dm, p]
    rfl
  unfold SetTable.fits
  rw [f, n, p, beq_self_eq_true, Bool.true_and, decide_eq_true_eq]
  omega
theorem Ts.at_ (R : Ts pr wo h a L es ep t) {i : Nat} {p : Addr × List Int} (e : L[i]? = some p) : es[i]? = some (thash pr wo p.2, Value.ref p.1) := by
  rw [← Array.getElem?_toList, R.ent, rowsOf, List.getElem?_map, e]
  rfl
theorem Ts.stays (R : Ts pr wo h a L es ep t) : ¬ t.gaveWay = true := by
  simp only [SetTable.gaveWay, mask_odd R.ok.mok]
  decide
/-- the search -/
theorem hunt {K : Nat} {x : Addr} {k : List Int} (R : Ts pr wo sh.heap a L es ep t) (hx : IsT pr wo sh.heap k x) (hu : ar.units < cLine) (lim : K < 10 * SetTable.turns t.mask)
    (hole : way t.mask (thash pr wo k) K ∉ t.place.toList) (full : ∀ q, q < K → way t.mask (thash pr wo k) q ∈ t.place.toList) {Q : SetFound → Shared → Prop}
    (yes : k ∈ L.map (·.2) → Q (.there none) sh) (no : k ∉ L.map (·.2) → Q (.free (way t.mask (thash pr wo k) K) false) sh) (n : Nat) :
    ∀ (c : Nat) (st : Option SetTable.Probe), st.getD (t.probeStart (thash pr wo k)) = stp t.mask (thash pr wo k) c → c ≤ K → K < c + n →
      (∀ (i : Nat) p, L[i]? = some p → p.2 = k → ∃ q, c ≤ q ∧ q < K ∧ t.place.toList[i]? = some (way t.mask (thash pr wo k) q)) →
      wpAny (model pr wo) ar (setSearchFrom a (.ref x) (thash pr wo k) true n st) Q er sh := by
  obtain ⟨o, ho, hex, hd⟩ := R.box
  have key : ∀ (i : Nat) p, L[i]? = some p → (fun i => (es[i]?.map (·.1)).getD 0) i = thash pr wo p.2 := fun i p e => by
    show (es[i]?.map (·.1)).getD 0 = _
    rw [R.at_ e]
    rfl
  induction n with
  | zero => intro c st _ h1 h2; omega
  | succ n ih =>
    intro c st hst hc hn ahead
    rw [setSearchFrom_succ]
    refine wpAny_bind (wpAny_setState_of ho hd R.fit ?_)
    dsimp only
    refine wp_if_neg R.stays ?_
    try refine wpAny_bind (wpAny_pure ?_)
    rw [hst]
    rcases probe_from R.ok (fun i => (es[i]?.map (·.1)).getD 0) (thash pr wo k) hc lim full hole with ⟨q, i, cq, qK, hi, _, before, e⟩ | ⟨none_, e⟩
    · rw [e]
      dsimp only
      obtain ⟨p, hp⟩ : ∃ p, L[i]? = some p := by
        have := (List.getElem?_eq_some_iff.mp hi).1
        rw [R.places] at this
        exact ⟨_, List.getElem?_eq_getElem this⟩
      have go : wpAny (model pr wo) ar (searchRest a (.ref x) (thash pr wo k) true n es t (way t.mask (thash pr wo k) q) i (stp t.mask (thash pr wo k) (q + 1))) Q er sh := by
        unfold searchRest
        rw [R.at_ hp]
        dsimp only
        refine wpAny_bind (wpAny_holding (wpAny_eqBool_tuple hu (R.tup p (List.mem_of_getElem? hp)) hx (wpAny_bind (wpAny_setState_of ho hd R.fit ?_))))
        dsimp only
        by_cases same : p.2 = k
        · exact wp_if_pos (by simp [same]) (wpAny_pure (yes (List.mem_map.mpr ⟨p, List.mem_of_getElem? hp, same⟩)))
        · have live := slot_live R.ok.ris hi
          refine wp_if_neg (by simp [same]) ?_
          try refine wpAny_bind (wpAny_pure ?_)
          rw [sameMem]
          dsimp only
          simp only [if_true, live, R.at_ hp]
          refine wpAny_bind (wpAny_isSame_ref_self (wpAny_bind (wpAny_pure ?_)))
          simp only [if_true]
          refine wp_if_neg (by simp [same]) (ih (q + 1) _ rfl qK (by omega) fun j p' hj hk => ?_)
          obtain ⟨r, h1, h2, h3⟩ := ahead j p' hj hk
          refine ⟨r, ?_, h2, h3⟩
          rcases Nat.lt_trichotomy r q with z | z | z
          · exact absurd ((key j p' hj).trans (by rw [hk])) (before r j h1 z h3)
          · subst z
            have l2 := slot_live R.ok.ris h3
            rw [live] at l2
            injection l2 with l2
            rw [← l2, hp] at hj
            cases hj
            exact absurd hk same
          · exact z
      by_cases hl : t.led = true
      · refine wp_if_neg (by simp [hl]) ?_
        try refine wpAny_bind (wpAny_pure ?_)
        exact go
      · refine wp_if_pos (by simp [hl]) (wpAny_bind (seen_tup hx (fun y hy => ?_) (wp_if_neg (by decide) ?_)))
        · obtain ⟨z, hz, rfl⟩ := List.mem_map.mp hy
          have hz : z ∈ es.toList := by
            have : z ∈ es ∧ z.1 = thash pr wo k := by simpa using hz
            simpa using this.1
          rw [R.ent] at hz
          obtain ⟨p', hp', rfl⟩ := List.mem_map.mp hz
          exact ⟨p'.2, p'.1, rfl, R.tup p' hp'⟩
        · try refine wpAny_bind (wpAny_pure ?_)
          exact go
    · rw [e]
      dsimp only
      refine wpAny_pure (no fun hm => ?_)
      obtain ⟨p, hp, hk⟩ := List.mem_map.mp hm
      obtain ⟨i, hi⟩ := List.getElem?_of_mem hp
      obtain ⟨q, h1, h2, h3⟩ := ahead i p hi hk
      exact none_ q i h1 h2 h3 ((key i p hi).trans (by rw [hk]))
/-- the search, as adding asks it -/
theorem find_at {x : Addr} {k : List Int} (R : Ts pr wo sh.heap a L es ep t) (hx : IsT pr wo sh.heap k x) (hu : ar.units < cLine) {Q : SetFound → Shared → Prop} (yes : k ∈ L.map (·.2) → Q (.there none) sh)
    (no : ∀ K, k ∉ L.map (·.2) → way t.mask (thash pr wo k) K ∉ t.place.toList → (∀ q, q < K → way t.mask (thash pr wo k) q ∈ t.place.toList) → Q (.free (way t.mask (thash pr wo k) K) false) sh) :
    wpAny (model pr wo) ar (setSearch a (.ref x) (thash pr wo k) true) Q er sh := by
  have w := R.wide
  obtain ⟨K, lim, hole, full⟩ := R.ok.first (by rw [List.length_map]; omega) (thash pr wo k)
  have big : K < 100000 := by
    unfold SetTable.turns at lim
    rcases R.ok.mok with e | e | e <;> omega
  unfold setSearch
  refine hunt R hx hu lim hole full yes (fun z => no K z hole full) 100000 0 none rfl (Nat.zero_le _) (by omega) fun i p hp hk => ?_
  have hi : i < t.place.toList.length := by
    rw [R.places]
    exact (List.getElem?_eq_some_iff.mp hp).1
  obtain ⟨q, h1, h2⟩ := R.ok.before hole (i := i) (by rw [List.getElem?_map, hp, ← hk]; rfl) (List.getElem?_eq_getElem hi)
  exact ⟨q, Nat.zero_le _, h1, by rw [List.getElem?_eq_getElem hi, h2]⟩
end
end AM
/-! Es1: adding a tuple to the set. -/
namespace AM
open PySem PySem.Spec PyProof.Rows L2
section
variable {pr : Program} {wo : World} {ar : Around} {er : Value → Shared → Prop} {sh : Shared} {h : Heap} {a : Addr} {L : List (Addr × List Int)} {es : Array (Int × Value)} {ep : Nat} {t : SetTable}
/-- what adding has to show -/
def Added (pr : Program) (wo : World) (sh : Shared) (a : Addr) (L : List (Addr × List Int)) (x : Addr) (k : List Int) (Q : Bool → Shared → Prop) : Prop :=
  ∀ b h' L' es' ep' t', Heap.SameBut a sh.heap h' → Ts pr wo h' a L' es' ep' t' → (k ∈ L.map (·.2) → L' = L) → (k ∉ L.map (·.2) → L'.Perm ((x, k) :: L)) → Q b { sh with heap := h' }
/-- the table laid anew, where it has grown too full: that happens at five and at nineteen members -/
theorem relay_in {o : Obj} {n : Nat} (ho : sh.heap.get? a = some o) (hex : o.ExactSet) (hd : o.data = .set es ep t) (ent : es.toList = rowsOf pr wo L) (ok : TabOk t (L.map fun p => thash pr wo p.2)) (uni : (L.map (·.2)).Nodup)
    (tup : ∀ p ∈ L, IsT pr wo sh.heap p.2 p.1) (pln : t.plain = true) (led : wo.params.followText "set-order" = true ∨ t.led = true) (len : L.length = n) (at_ : n = 5 ∧ t.mask = 7 ∨ n = 19 ∧ t.mask = 31) {Q : Unit → Shared → Prop}
    (hQ : ∀ h' L' es' ep' t', Heap.SameBut a sh.heap h' → Ts pr wo h' a L' es' ep' t' → L'.Perm L → Q () { sh with heap := h' }) : wpAny (model pr wo) ar (setRelay a (SetTable.grown n)) Q er sh := by
  have n1 := rows_len ent
  have sz : t.place.size = es.size := by
    have := ok.sz
    rw [List.length_map] at this
    omega
  rcases at_ with ⟨rfl, m⟩ | ⟨rfl, m⟩
  · exact relay_at (M := 31) ho hex hd ent sz ok.dm (by omega) uni tup pln led (by omega) (by rw [size_20]) (.inr (.inl rfl)) (by rw [size_20]; decide) (by omega) fun h' L' es' ep' t' sb R pm => hQ h' L' es' ep' t' sb (.of R) pm
  · exact relay_at (M := 127) ho hex hd ent sz ok.dm (by omega) uni tup pln led (by omega) (by rw [size_76]) (.inr (.inr rfl)) (by rw [size_76]; decide) (by omega) fun h' L' es' ep' t' sb R pm => hQ h' L' es' ep' t' sb (.of R) pm
theorem set_put {x : Addr} {k : List Int} (R : Ts pr wo sh.heap a L es ep t) (hx : IsT pr wo sh.heap k x) (hu : ar.units < cLine) (room : L.length < 76) {Q : Bool → Shared → Prop} (done : Added pr wo sh a L x k Q) :
    wpAny (model pr wo) ar (setAddHashed a (.ref x) (thash pr wo k)) Q er sh := by
  obtain ⟨o, ho, hex, hd⟩ := R.box
  have n0 := rows_len R.ent
  have w := R.wide
  unfold setAddHashed
  refine wpAny_holding ?_
  rw [show (100000 : Nat) = 99999 + 1 from rfl, setAddHashedIn_succ]
  refine wpAny_bind (wpAny_setState_of ho hd R.fit ?_)
  dsimp only
  refine wp_if_neg (by simp [byScan, Value.scannable]) ?_
  try refine wpAny_bind (wpAny_pure ?_)
  refine wpAny_bind (find_at R hx hu (fun z => ?_) fun K new hole full => ?_)
  · dsimp only
    exact wpAny_pure (done false sh.heap L es ep t (.refl a sh.heap) R (fun _ => rfl) fun n => absurd z n)
  dsimp only
  refine wpAny_bind (wpAny_setState_of ho hd R.fit ?_)
  dsimp only
  obtain ⟨e2, le, ok1, m1, l1, pl1, mv1, f1, fill⟩ := R.ok.put hole full
  rw [R.pln] at pl1
  generalize t.put (way t.mask (thash pr wo k) K) = tp at *
  obtain ⟨t1, p⟩ := tp
  dsimp only at *
  rw [← e2] at le ok1
  rw [List.length_map] at le fill
  first
    | (refine wpAny_bind ?_; refine wp_if_pos pl1 ?_; refine hashBy_tup hx ?_)
    | refine wp_if_pos pl1 (wpAny_bind (hashBy_tup hx ?_))
  simp only [if_true]
  have ent1 : (SetTable.insertAt es p (thash pr wo k, Value.ref x)).toList = rowsOf pr wo (L.take p ++ (x, k) :: L.drop p) := by
    rw [SetTable.toList_insertAt, rows_put, R.ent]
  have pm := put_perm L p (x, k)
  have ok1 : TabOk t1 ((L.take p ++ (x, k) :: L.drop p).map fun p => thash pr wo p.2) := by
    rw [List.map_append, List.map_cons, List.map_take, List.map_drop]
    exact ok1
  generalize SetTable.insertAt es p (thash pr wo k, Value.ref x) = es1 at *
  generalize L.take p ++ (x, k) :: L.drop p = L1 at *
  have n1 := rows_len ent1
  have len : L1.length = L.length + 1 := pm.length_eq
  have uni1 : (L1.map (·.2)).Nodup := (pm.map (·.2)).nodup_iff.mpr (List.nodup_cons.mpr ⟨new, R.uni⟩)
  refine wpAny_bind (wpAny_storeSet_of ho hd ?_ (by rw [sizeLine_eq]; omega))
  have sb : Heap.SameBut a sh.heap (sh.heap.update a (Obj.putSet es1 t1)) := Heap.SameBut.update ..
  have box := store_at (es' := es1) (t' := t1) ho hd
  generalize sh.heap.update a (Obj.putSet es1 t1) = h1 at *
  have tup1 : ∀ q ∈ L1, IsT pr wo h1 q.2 q.1 := fun q hq => by
    rcases List.mem_cons.mp (pm.mem_iff.mp hq) with rfl | z
    · exact isT_same hx ho hd sb
    · exact isT_same (R.tup q z) ho hd sb
  have led1 : wo.params.followText "set-order" = true ∨ t1.led = true := by rw [l1]; exact R.led
  have hex1 : ({ o with data := .set es1 (ep + 1) t1 } : Obj).ExactSet := ⟨hex.1, hex.2.1, hex.2.2⟩
  by_cases hf : t1.tooFull = true
  · first
      | (refine wpAny_bind ?_; refine wp_if_pos (by simp [hf]) ?_)
      | (refine wp_if_pos (by simp [hf]) ?_; refine wpAny_bind ?_)
    have hm : (L.length + 1) * 5 ≥ t1.mask * 3 := by
      have := hf
      unfold SetTable.tooFull at this
      rwa [decide_eq_true_eq, fill] at this
    rw [n0]
    refine relay_in (sh := { sh with heap := h1 }) box hex1 rfl ent1 ok1 uni1 tup1 pl1 led1 len ?_ fun h' L' es' ep' t' sb' R' pm' => ?_
    · rw [m1] at hm ⊢
      rcases R.ok.mok with e | e | e
      · rw [e] at hm w ⊢; exact .inl ⟨by omega, rfl⟩
      · rw [e] at hm w ⊢; exact .inr ⟨by omega, rfl⟩
      · rw [e] at hm; omega
    · exact wpAny_pure (done true h' L' es' ep' t' (sb.trans sb') R' (fun z => absurd z new) fun _ => pm'.trans pm)
  · first
      | refine wp_if_neg (by simp [hf]) ?_
      | (refine wpAny_bind ?_; refine wp_if_neg (by simp [hf]) ?_; refine wpAny_pure ?_)
    refine wpAny_pure (done true h1 L1 es1 (ep + 1) t1 sb ⟨⟨_, box, hex1, rfl⟩, ent1, ok1, uni1, tup1, pl1, led1, ?_⟩ (fun z => absurd z new) fun _ => pm)
    have := hf
    unfold SetTable.tooFull at this
    rw [decide_eq_true_eq, fill] at this
    omega
end
end AM
/-! Es2: set(xs), xs a list or a tuple. -/
namespace AM
open PySem PySem.Spec PyProof.Rows L2
/-- a set just made -/
def newSet (wo : World) : Obj := { cls := .type "set", dict := none, data := .set #[] 0 (.fresh 0 0 (!wo.params.followText "set-order")) }
/-- the loop that fills a new set by way of any iterator over the items ends well -/
def Feeds (pr : Program) (wo : World) (h0 : Heap) (items : Array Value) (Fin : Heap → Prop) : Prop :=
  ∀ (B : Around) (I : Addr) (fp wr : List Addr) (G : Array GenState → Array GenState → Prop) (Pv : Nat → Value → Prop) (St : Nat → Shared → Prop) (R : Result → Shared → Prop) (s0 : Shared),
    WalksS pr wo B.in1 I fp wr G items.size Pv St → h0.objs.size ∉ fp → (∀ i v, Pv i v → items[i]? = some v) → (∀ b ∈ wr, h0.get? b = none) → B.in1.units < cLine → St 0 s0 → s0.heap.get? h0.objs.size = some (newSet wo) →
    (∀ b o, h0.get? b = some o → s0.heap.get? b = some o) → (∀ s', Moved (h0.objs.size :: wr) G s0 s' → Fin s'.heap → R (.ok (.ret .none)) s') →
    codeAny (model pr wo) B (.builtin "set.update.loop" ⟨[.ref h0.objs.size, .ref I], []⟩) R s0
theorem beyond {h : Heap} {b : Addr} (hb : h.objs.size ≤ b) : h.get? b = none := by
  cases e : h.get? b with
  | none => rfl
  | some o => exact absurd (Heap.lt_size e) (Nat.not_lt.mpr hb)
section
variable {pr : Program} {wo : World} {ar : Around} {er : Value → Shared → Prop} {sh : Shared}
theorem feeds_ints {h0 : Heap} {items : Array Value} {ns : List Int} (hi : IntsAre items.toList ns) (lim : ns.length + 1 < scanBound) : Feeds pr wo h0 items fun h => ∃ c, c ≤ ns.length ∧ SetR wo h h0.objs.size (fun j => decide (j ∈ ns)) c := by
  intro B I fp wr G Pv St R s0 W nf hv wn hu st new kept fin
  have n : items.size = ns.length := by
    have := IntsAre.length hi
    rwa [Array.length_toList] at this
  refine set_update_ints W h0.objs.size nf ns n lim (fun i v hp => ?_) (items.size - 0) 0 s0 rfl (Nat.zero_le _) st ⟨0, Nat.le_refl _, setR_new_at new⟩ fun s' c mv hc R' => fin s' mv ⟨c, by omega, R'⟩
  have e := hv i v hp
  have lt : i < ns.length := by
    rw [← n]
    exact (Array.getElem?_eq_some_iff.mp e).1
  obtain ⟨tk, hk⟩ := PyProof.Rows.IntsAre.int_at hi i v (by rw [Array.getElem?_toList]; exact e)
  refine ⟨ns[i], tk, List.getElem?_eq_getElem lt, ?_⟩
  rw [hk, List.getD_eq_getElem?_getD, List.getElem?_eq_getElem lt]
  rfl
theorem fresh_ts {h : Heap} {a : Addr} (e : h.get? a = some (newSet wo)) : Ts pr wo h a [] #[] 0 (.fresh 0 0 (!wo.params.followText "set-order")) := .of (setTR_fresh e)
/-- one turn and the next: the set has got the first i of the items -/
theorem feed_tups {B : Around} {I : Addr} {fp wr : List Addr} {G : Array GenState → Array GenState → Prop} {n : Nat} {Pv : Nat → Value → Prop} {St : Nat → Shared → Prop} {R : Result → Shared → Prop} {h0 : Heap} {z : Addr}
    (W : WalksS pr wo B.in1 I fp wr G n Pv St) (nf : z ∉ fp) (ks : List (Addr × List Int)) (hn : n = ks.length) (lim : ks.length ≤ 76) (hv : ∀ i v, Pv i v → ∃ p, ks[i]? = some p ∧ v = .ref p.1)
    (hk : ∀ p ∈ ks, IsT pr wo h0 p.2 p.1) (hz : h0.get? z = none) (wn : ∀ b ∈ wr, h0.get? b = none) (hu : B.in1.units < cLine) (left : Nat) :
    ∀ (i : Nat) (s : Shared), i + left = n → St i s → (∀ b o, h0.get? b = some o → s.heap.get? b = some o) → (∃ L es ep t, Ts pr wo s.heap z L es ep t ∧ Got ks i L) →
      (∀ s' L es ep t, Moved (z :: wr) G s s' → Ts pr wo s'.heap z L es ep t → Got ks n L → R (.ok (.ret .none)) s') →
      codeAny (model pr wo) B (.builtin "set.update.loop" ⟨[.ref z, .ref I], []⟩) R s := by
  have zw : z ∉ wr := fun q => nf (W.sub _ q)
  have up : ∀ b ∈ wr, b ∈ z :: wr := fun b q => .tail _ q
  have old : ∀ {s s' : Shared}, Moved wr G s s' → (∀ b o, h0.get? b = some o → s.heap.get? b = some o) → ∀ b o, h0.get? b = some o → s'.heap.get? b = some o := fun mv k b o e =>
    mv.heap b o (fun q => nomatch (wn b q).symm.trans e) (k b o e)
  have carry : ∀ {s s' : Shared} {i L es ep t}, Moved wr G s s' → (∀ b o, h0.get? b = some o → s'.heap.get? b = some o) → Ts pr wo s.heap z L es ep t → Got ks i L → Ts pr wo s'.heap z L es ep t := fun {s s' i L es ep t} mv k T g => by
    obtain ⟨o, ho, r⟩ := T.box
    exact ⟨⟨o, mv.heap z o zw ho, r⟩, T.ent, T.ok, T.uni, fun p hp => isT_keep (hk p (List.mem_of_mem_take (g.sub p hp))) k, T.pln, T.led, T.wide⟩
  induction left with
  | zero =>
    intro i s hi st k ⟨L, es, ep, t, T, g⟩ fin
    obtain rfl : i = n := hi
    refine codeAny_builtin F.entry_set_update_loop ?_
    rw [Around.under_plainId F.plain_set_update_loop _]
    refine wpAny_bind (W.done s _ _ st fun s' mv => ?_)
    exact wpAny_pure (fin s' L es ep t (mv.mono up) (carry mv (old mv k) T g) g)
  | succ left ih =>
    intro i s hi st k ⟨L, es, ep, t, T, g⟩ fin
    refine codeAny_builtin F.entry_set_update_loop ?_
    rw [Around.under_plainId F.plain_set_update_loop _]
    refine wpAny_bind (W.item i s _ _ (by omega) st fun v s' pv st' mv => ?_)
    obtain ⟨p, hp, rfl⟩ := hv i v pv
    have k' := old mv k
    have T' := carry mv k' T g
    have hx : IsT pr wo s'.heap p.2 p.1 := isT_keep (hk p (List.mem_of_getElem? hp)) k'
    have few := g.len
    refine wpAny_bind (m := holding [Value.ref p.1] (setAdd z (.ref p.1))) (wpAny_holding ?_)
    unfold setAdd
    refine wpAny_holding (wpAny_bind (wpAny_pyHash_tuple hu hx ?_))
    refine set_put (sh := { s' with toks := s'.toks + (p.2.length + 1) }) T' hx hu (by omega) fun b h' L' es' ep' t' sb T2 c1 c2 => ?_
    have out : ∀ {b : Addr}, b ≠ z → ∀ o, s'.heap.get? b = some o → h'.get? b = some o := fun q o e => (sb.2 _ q).trans e
    refine wpAny_pure ⟨plainId_quiet F.plain_set_update_loop _, ih (i + 1) _ (by omega) (W.frame _ s' _ _ st' (Nat.le_add_right _ _) fun b hb o e => out (fun q => nf (q ▸ hb)) o e)
      (fun b o e => out (fun q => by rw [q, hz] at e; cases e) o (k' b o e)) ⟨L', es', ep', t', T2, ?_⟩ fun s'' L2 es2 ep2 t2 mv2 T3 g2 => ?_⟩
    · by_cases c : p.2 ∈ L.map (·.2)
      · rw [c1 c]; exact g.same hp c
      · exact g.more hp (c2 c)
    · exact fin s'' L2 es2 ep2 t2 (Moved.trans W.gtrans ((mv.mono up).then_heap (Nat.le_add_right _ _) fun b o hb e => out (fun q => hb (q ▸ List.mem_cons_self)) o e) mv2) T3 g2
theorem feeds_tups {h0 : Heap} {items : Array Value} {ks : List (Addr × List Int)} (hi : items.toList = ks.map fun p => Value.ref p.1) (hk : ∀ p ∈ ks, IsT pr wo h0 p.2 p.1) (lim : ks.length ≤ 76) :
    Feeds pr wo h0 items fun h => ∃ L es ep t, Ts pr wo h h0.objs.size L es ep t ∧ Got ks ks.length L := by
  intro B I fp wr G Pv St R s0 W nf hv wn hu st new kept fin
  have n : items.size = ks.length := by rw [← Array.length_toList, hi, List.length_map]
  refine feed_tups W nf ks n lim (fun i v hp => ?_) hk (beyond (Nat.le_refl _)) wn hu items.size 0 s0 (Nat.zero_add _) st kept ⟨[], #[], 0, _, fresh_ts new, Got.zero ks⟩ fun s' L es ep t mv T g => fin s' mv ⟨L, es, ep, t, T, n ▸ g⟩
  have e := hv i v hp
  rw [← Array.getElem?_toList, hi, List.getElem?_map] at e
  obtain ⟨p, h1, h2⟩ := Option.map_eq_some_iff.mp e
  exact ⟨p, h1, h2.symm⟩
end
end AM
/-! Es3: the call set(xs). -/
namespace AM
open PySem PySem.Spec PyProof.Rows L2
/-- an iterator's object at its start -/
def it0 (l : Addr) (IT : String) : Obj := { cls := .type IT, data := .fields #[.ref l, .int 0 0] }
/-- what is gone through: the object o at l, of class T, with these items -/
structure Seqs (pr : Program) (wo : World) (l : Addr) (items : Array Value) (T IT : String) (o : Obj) : Prop where
  no1 : isSubtype (.type T) (.type "set") = pure false
  no2 : isSubtype (.type T) (.type "frozenset") = pure false
  no3 : (Value.type T == Value.type "dict") = false
  iter : ∀ {B : Around} {s : Shared} {E : Value → Shared → Prop} {Q : Value → Shared → Prop}, s.heap.get? l = some o → Q (.ref s.heap.objs.size) { s with heap := s.heap.push (it0 l IT) } → wpAny (model pr wo) B (pyIter (.ref l)) Q E s
  walk : ∀ {B : Around} (I : Addr), B.handled = none → l ≠ I → ∃ St : Nat → Heap → Prop, Walks pr wo B I [I, l] [I] items.size (fun i v => items[i]? = some v) St ∧ ∀ h : Heap, h.get? I = some (it0 l IT) → h.get? l = some o → St 0 h
theorem seqs_list {pr : Program} {wo : World} {l : Addr} {items : Array Value} {d : Option Addr} {n : Nat} {sl : Array (Option Value)} : Seqs pr wo l items "list" "list_iterator" { cls := .type "list", dict := d, data := .seq items n, slots := sl } where
  no1 := F.sub_list_set
  no2 := F.sub_list_frozenset
  no3 := by decide
  iter e q := wpAny_pyIter_list ⟨_, e, rfl, n, rfl⟩ q
  walk I hh ne := ⟨_, Walks.list hh I l ne items, fun h e1 e2 => ⟨⟨_, e1, rfl, rfl⟩, ⟨_, e2, rfl, n, rfl⟩⟩⟩
theorem seqs_tuple {pr : Program} {wo : World} {l : Addr} {items : Array Value} {d : Option Addr} {n : Nat} {sl : Array (Option Value)} : Seqs pr wo l items "tuple" "tuple_iterator" { cls := .type "tuple", dict := d, data := .seq items n, slots := sl } where
  no1 := F.sub_tuple_set
  no2 := F.sub_tuple_frozenset
  no3 := by decide
  iter e q := wpAny_pyIter_tuple ⟨_, e, rfl, n, rfl⟩ q
  walk I hh ne := ⟨_, Walks.tuple hh I l ne items, fun h e1 e2 => ⟨⟨_, e1, rfl, rfl⟩, ⟨_, e2, rfl, n, rfl⟩⟩⟩
section
variable {pr : Program} {wo : World} {ar : Around} {er : Value → Shared → Prop} {sh : Shared}
/-- behind a new set's making -/
def After0 (wo : World) (sh : Shared) : Shared := { sh with heap := sh.heap.push (newSet wo) }
/-- what filling leaves -/
def Full (sh : Shared) (Fin : Heap → Prop) (s : Shared) : Prop := ∃ h' tk, s = { sh with heap := h', toks := tk } ∧ Fin h' ∧ ∀ b o, sh.heap.get? b = some o → h'.get? b = some o
/-- filling, from the iterator on -/
theorem fill_set {B : Around} {l : Addr} {items : Array Value} {T IT : String} {o : Obj} {Fin : Heap → Prop} {R : Result → Shared → Prop} (q : Seqs pr wo l items T IT o) (ho : sh.heap.get? l = some o) (hh : B.in1.handled = none) (hu : B.in1.units < cLine) (fd : Feeds pr wo sh.heap items Fin)
    (fin : ∀ s, Full sh Fin s → R (.ok (.ret .none)) s) :
    codeAny (model pr wo) B (.builtin "set.update.loop" ⟨[.ref sh.heap.objs.size, .ref (After0 wo sh).heap.objs.size], []⟩) R { sh with heap := (After0 wo sh).heap.push (it0 l IT) } := by
  have lt : l < sh.heap.objs.size := Heap.lt_size ho
  have e1 : (After0 wo sh).heap.objs.size = sh.heap.objs.size + 1 := Heap.size_push ..
  have ne : l ≠ (After0 wo sh).heap.objs.size := Nat.ne_of_lt (by rw [e1]; exact Nat.lt_succ_of_lt lt)
  have ne2 : sh.heap.objs.size ≠ (After0 wo sh).heap.objs.size := Nat.ne_of_lt (by rw [e1]; exact Nat.lt_succ_self _)
  obtain ⟨St, W, st0⟩ := q.walk (B := B.in1) _ hh ne
  have k0 : ∀ b u, sh.heap.get? b = some u → ((After0 wo sh).heap.push (it0 l IT)).get? b = some u := fun b u e => Heap.get?_push_of_some _ (Heap.get?_push_of_some _ e)
  refine fd B _ [(After0 wo sh).heap.objs.size, l] [(After0 wo sh).heap.objs.size] _ _ _ R _ W.toS (fun z => ?_) (fun _ _ z => z) (fun b z => beyond ?_) hu (st0 _ (Heap.get?_push_size _ rfl) (k0 l o ho)) (Heap.get?_push_of_some _ (Heap.get?_push_size _ rfl)) k0 fun s' mv F' => ?_
  · rcases List.mem_cons.mp z with z | z
    · exact ne2 z
    · exact Nat.ne_of_gt lt (List.mem_singleton.mp z)
  · rw [List.mem_singleton.mp z, e1]
    exact Nat.le_succ _
  · obtain ⟨h', g, dr, tk, os⟩ := s'
    obtain rfl : g = sh.gens := mv.gens
    obtain rfl : dr = sh.drawn := mv.drawn
    obtain rfl : os = sh.os := mv.os
    refine fin _ ⟨h', tk, rfl, F', fun b u e => mv.heap b u (fun z => ?_) (k0 b u e)⟩
    have q := Heap.lt_size e
    rcases List.mem_cons.mp z with z | z
    · exact Nat.ne_of_lt q z
    · rw [List.mem_singleton.mp z, e1] at q
      exact absurd (Nat.lt_of_succ_lt q) (Nat.lt_irrefl _)
theorem set_call {l : Addr} {items : Array Value} {T IT : String} {d : Option Addr} {n : Nat} {sl : Array (Option Value)} {Fin : Heap → Prop} {Q : Value → Shared → Prop} (q : Seqs pr wo l items T IT { cls := .type T, dict := d, data := .seq items n, slots := sl })
    (ho : sh.heap.get? l = some { cls := .type T, dict := d, data := .seq items n, slots := sl }) (quiet : ar.handled = none) (hu : ar.units + 3 < cLine) (fd : Feeds pr wo sh.heap items Fin) (fin : ∀ s, Full sh Fin s → Q (.ref sh.heap.objs.size) s) :
    wpAny (model pr wo) ar (call (.type "set") [.ref l]) Q er sh := by
  obtain ⟨c0, tl0, mro0⟩ := F.called_set.mro
  have made0 := F.called_set.made
  have sub0 := F.called_set.sub
  refine wpAny_call (codeAny_of_tree ?_)
  show wpAny _ _ (callAny (.type "set") _) _ _ _
  refine wpAny_pure ⟨Code.quiet_builtin _ (by decide +kernel), codeAny_builtin F.entry_type_call ?_⟩
  rw [Around.under_plain (weight_type_call_type "set" [.ref l] []) rfl]
  have a1 := F.called_set.notType
  have a2 := F.called_set.canCreate
  have a3 := F.typeCall_set_1 (.ref l)
  repeat (any_goals (first | assumption | wp_step))
  refine codeAny_mono (code_set_led1 (.ref l) (E := er) (Q₁ := fun v s1 => v = .ref sh.heap.objs.size ∧ s1 = After0 wo sh) ⟨rfl, rfl⟩) fun r s1 hr => ?_
  cases r with
  | error e => exact hr
  | ok fl =>
    cases fl with
    | ret v =>
      obtain ⟨rfl, rfl⟩ := hr
      have new : (After0 wo sh).heap.get? sh.heap.objs.size = some (newSet wo) := Heap.get?_push_size _ rfl
      have new' : (After0 wo sh).heap.get? sh.heap.objs.size = some { cls := .type "set", dict := none, data := .set #[] 0 (.fresh 0 0 (!wo.params.followText "set-order")) } := new
      have ty : Shared.TypeIs (After0 wo sh) (.ref sh.heap.objs.size) "set" := ⟨_, new, rfl⟩
      have b1 := F.called_set.init.lookup
      have b2 := F.called_set.init.bind (.ref sh.heap.objs.size)
      repeat (any_goals (first | assumption | wp_step))
      refine codeAny_mono (codeAny_call_builtin (R := wants (fun r s2 => r = .none ∧ Full sh Fin s2) er) F.called_set.init.plain F.entry_set_init (check_set_init_1 ty ?_)) fun r2 s2 hr2 => ?_
      · have old := Heap.get?_push_of_some (newSet wo) ho
        have old' : (After0 wo sh).heap.get? l = some { cls := .type T, dict := d, data := .seq items n, slots := sl } := old
        have n1 := q.no1
        have n2 := q.no2
        have n3 := q.no3
        unfold Builtin.«set.__init__» noKeywords Builtin.Frozenset.updateFrom
        generalize hPI : pyIter = PI
        wp_walk
        subst hPI
        refine q.iter (s := After0 wo sh) old' (wpAny_bind (wpAny_runValue (fill_set q ho (by simp [quiet]) hu fd fun s2 hf => ?_)))
        exact wpAny_pure (wpAny_pure ⟨rfl, hf⟩)
      · cases r2 with
        | error e => exact hr2
        | ok fl2 =>
          cases fl2 with
          | ret v =>
            obtain ⟨rfl, fl⟩ := hr2
            repeat (any_goals (first | assumption | wp_step))
            exact fin _ fl
          | _ => exact hr2.elim
    | _ => exact hr.elim
end
end AM
/-! Es4: sets and what is sorted, as data. -/
namespace AM
open PySem PySem.Spec PyProof.Rows L2
theorem sortD_int (ns : List Int) : sortD (ns.map PyData.int) = some ((ns.mergeSort fun a b => decide (a ≤ b)).map PyData.int) := by
  unfold sortD
  have : sortable (ns.map PyData.int) = true := by
    unfold sortable
    rw [Bool.or_eq_true]
    left
    rw [List.all_eq_true]
    intro d hd
    obtain ⟨p, _, rfl⟩ := List.mem_map.mp hd
    rfl
  rw [if_pos this, PySem.W.sort_maps (s := PySem.W.dataLe false id) PyData.int fun a _ b _ => by
    rw [PySem.W.dataLe_eq]
    show _ = (!PySem.W.dataLt (.int b) (.int a))
    rw [PySem.W.dataLt_int]
    by_cases h : a ≤ b
    · have : ¬ b < a := by omega
      simp [h, this]
    · have : b < a := by omega
      simp [h, this]]
/-! each once -/
def ded {α : Type} [DecidableEq α] : List α → List α
  | [] => []
  | x :: r => if x ∈ ded r then ded r else x :: ded r
theorem mem_ded {α : Type} [DecidableEq α] {x : α} : ∀ {l : List α}, x ∈ ded l ↔ x ∈ l
  | [] => Iff.rfl
  | y :: r => by
    unfold ded
    by_cases h : y ∈ ded r
    · rw [if_pos h, mem_ded (l := r), List.mem_cons]
      constructor
      · exact .inr
      · rintro (rfl | z)
        · exact mem_ded.mp h
        · exact z
    · rw [if_neg h, List.mem_cons, List.mem_cons, mem_ded (l := r)]
theorem nodup_ded {α : Type} [DecidableEq α] : ∀ (l : List α), (ded l).Nodup
  | [] => .nil
  | y :: r => by
    unfold ded
    by_cases h : y ∈ ded r
    · rw [if_pos h]; exact nodup_ded r
    · rw [if_neg h]; exact List.nodup_cons.mpr ⟨h, nodup_ded r⟩
theorem dedD_map {α : Type} [DecidableEq α] (f : α → Dt) (hf : ∀ a b, PyData.eqv (f a) (f b) = decide (a = b)) : ∀ l : List α, dedD (l.map f) = (ded l).map f
  | [] => rfl
  | x :: r => by
    rw [List.map_cons, dedD, dedD_map f hf r]
    have e : (((ded r).map f).any fun y => PyData.eqv y (f x)) = decide (x ∈ ded r) := by
      rw [List.any_map, Bool.eq_iff_iff, List.any_eq_true, decide_eq_true_iff]
      constructor
      · rintro ⟨y, hy, e⟩
        have : y = x := by
          have e : PyData.eqv (f y) (f x) = true := e
          rw [hf] at e
          exact of_decide_eq_true e
        exact this ▸ hy
      · exact fun h => ⟨x, h, by show PyData.eqv (f x) (f x) = true; rw [hf]; exact decide_eq_true rfl⟩
    rw [e]
    show _ = (if x ∈ ded r then ded r else x :: ded r).map f
    by_cases h : x ∈ ded r
    · rw [if_pos h, if_pos (decide_eq_true h)]
    · rw [if_neg h, if_neg (by simpa using h)]
      rfl
theorem eqv_int (a b : Int) : PyData.eqv (.int a) (.int b) = decide (a = b) := by
  simp only [PyData.eqv]
  rfl
def tupD (k : List Int) : Dt := .tuple (k.map PyData.int)
theorem eqvAll_ints : ∀ a b : List Int, PyData.eqvAll (a.map PyData.int) (b.map PyData.int) = decide (a = b)
  | [], [] => by simp [PyData.eqvAll]
  | [], b :: bs => by simp [PyData.eqvAll]
  | a :: as, [] => by simp [PyData.eqvAll]
  | a :: as, b :: bs => by
    rw [List.map_cons, List.map_cons, PyData.eqvAll, eqv_int, eqvAll_ints as bs, Bool.eq_iff_iff]
    simp
theorem eqv_tup (a b : List Int) : PyData.eqv (tupD a) (tupD b) = decide (a = b) := by
  unfold tupD
  rw [PyData.eqv, eqvAll_ints]
theorem dataLe_tup (p q : List Int) : PySem.W.dataLe false id (tupD p) (tupD q) = decide (p ≤ q) := by
  rw [PySem.W.dataLe_eq]
  show (!PySem.W.dataLt (tupD q) (tupD p)) = _
  unfold tupD
  rw [PySem.W.dataLt_tuple]
  show (!PySem.W.rowLt (q.map .int) (p.map .int)) = _
  rw [PySem.W.dataLt_ints]
  by_cases h : q < p
  · have : ¬ p ≤ q := fun r => List.not_lt.mpr r h
    simp [h, this]
  · have : p ≤ q := List.not_lt.mp h
    simp [h, this]
theorem merge_perm {α : Type} {le : α → α → Bool} (tr : ∀ a b c, le a b = true → le b c = true → le a c = true) (tot : ∀ a b, (le a b || le b a) = true) (anti : ∀ a b, le a b = true → le b a = true → a = b) {l m : List α} (p : l.Perm m) : l.mergeSort le = m.mergeSort le :=
  List.Perm.eq_of_pairwise (le := fun a b => le a b = true) (fun a b _ _ => anti a b) (List.pairwise_mergeSort tr tot l) (List.pairwise_mergeSort tr tot m) (((List.mergeSort_perm l le).trans p).trans (List.mergeSort_perm m le).symm)
theorem sortD_tup {ks : List (List Int)} (h : ∀ k ∈ ks, k ≠ []) : sortD (ks.map tupD) = some ((ks.mergeSort fun a b => decide (a ≤ b)).map tupD) := by
  unfold sortD
  have : sortable (ks.map tupD) = true := by
    unfold sortable
    rw [Bool.or_eq_true]
    right
    rw [List.all_eq_true]
    intro d hd
    obtain ⟨p, hp, rfl⟩ := List.mem_map.mp hd
    cases p with
    | nil => exact absurd rfl (h _ hp)
    | cons n p =>
      show ((n :: p).map PyData.int).all isI = true
      rw [List.all_eq_true]
      intro d hd
      obtain ⟨m, _, rfl⟩ := List.mem_map.mp hd
      rfl
  rw [if_pos this, PySem.W.sort_maps (s := PySem.W.dataLe false id) tupD fun a _ b _ => (dataLe_tup a b).symm]
theorem perm_of_mem {α : Type} {l m : List α} (h1 : l.Nodup) (h2 : m.Nodup) (h : ∀ a, a ∈ l ↔ a ∈ m) : l.Perm m := (List.perm_ext_iff_of_nodup h1 h2).mpr h
/-- the members of a set, as they may come: the data -/
def Comes (ds es : List Dt) : Prop := ∃ xs, setD ds = some xs ∧ es.Perm xs
theorem comes_ints {ns ms : List Int} (h : ns.length ≤ 1000) (nd : ms.Nodup) (m : ∀ k, k ∈ ms ↔ k ∈ ns) : Comes (ns.map PyData.int) (ms.map PyData.int) := by
  refine ⟨(ded ns).map PyData.int, ?_, (perm_of_mem nd (nodup_ded ns) fun k => (m k).trans mem_ded.symm).map _⟩
  unfold setD
  have : (ns.map PyData.int).all isI = true := by
    rw [List.all_eq_true]
    intro d hd
    obtain ⟨p, _, rfl⟩ := List.mem_map.mp hd
    rfl
  rw [if_pos (.inl ⟨this, by rw [List.length_map]; exact h⟩), dedD_map PyData.int eqv_int]
theorem tups_all {ks : List (List Int)} (h : (ks.map tupD).all tupI = true) : ∀ k ∈ ks, k ≠ [] := by
  intro k hk e
  subst e
  have := List.all_eq_true.mp h _ (List.mem_map.mpr ⟨_, hk, rfl⟩)
  cases this
theorem comes_tups {ks ms : List (List Int)} (al : (ks.map tupD).all tupI = true) (h : ks.length ≤ 76) (nd : ms.Nodup) (m : ∀ k, k ∈ ms ↔ k ∈ ks) : Comes (ks.map tupD) (ms.map tupD) := by
  refine ⟨(ded ks).map tupD, ?_, (perm_of_mem nd (nodup_ded ks) fun k => (m k).trans mem_ded.symm).map _⟩
  unfold setD
  rw [if_pos (.inr ⟨al, by rw [List.length_map]; exact h⟩), dedD_map tupD eqv_tup]
theorem allT_tups : ∀ {ds : List Dt}, ds.all tupI = true → ∃ ks : List (List Int), ds = ks.map tupD
  | [], _ => ⟨[], rfl⟩
  | d :: ds, h => by
    rw [List.all_cons, Bool.and_eq_true] at h
    obtain ⟨n, ns, rfl⟩ := tupI_ints h.1
    obtain ⟨ks, rfl⟩ := allT_tups h.2
    exact ⟨(n :: ns) :: ks, rfl⟩
/-- however the members come, sorted they are one list -/
theorem sort_perm {ds es xs zs : List Dt} (hs : setD ds = some xs) (hz : sortD xs = some zs) (p : es.Perm xs) : sortD es = some zs := by
  have p' := p.symm
  unfold setD at hs
  by_cases c : ds.all isI = true ∧ ds.length ≤ 1000 ∨ ds.all tupI = true ∧ ds.length ≤ 76
  case neg => rw [if_neg c] at hs; cases hs
  rw [if_pos c] at hs
  cases hs
  rcases c with ⟨c, _⟩ | ⟨c, _⟩
  · obtain ⟨ns, rfl⟩ := allI_ints c
    rw [dedD_map PyData.int eqv_int] at hz p'
    obtain ⟨ms, rfl, q⟩ : ∃ ms : List Int, es = ms.map PyData.int ∧ ms.Perm (ded ns) := by
      have all : es.all isI = true := by
        rw [List.all_eq_true]
        intro d hd
        obtain ⟨n, _, rfl⟩ := List.mem_map.mp (p'.symm.mem_iff.mp hd)
        rfl
      obtain ⟨ms, rfl⟩ := allI_ints all
      refine ⟨ms, rfl, ?_⟩
      have inj : ∀ a b : Int, PyData.int a = PyData.int b → a = b := fun a b e => by cases e; rfl
      have nd : (ms.map PyData.int).Nodup := p'.nodup_iff.mp (List.Pairwise.map _ (fun a b h e => h (inj a b e)) (nodup_ded ns))
      refine perm_of_mem (List.Pairwise.of_map _ (fun a b h e => h (congrArg _ e)) nd) (nodup_ded ns) fun k => ?_
      have := p'.symm.mem_iff (a := PyData.int k)
      simpa using this
    rw [sortD_int] at hz ⊢
    rw [← hz, merge_perm (fun a b c h1 h2 => by simp only [decide_eq_true_eq] at *; omega) (fun a b => by simp only [Bool.or_eq_true, decide_eq_true_eq]; omega) (fun a b h1 h2 => by simp only [decide_eq_true_eq] at *; omega) q]
  · obtain ⟨ks, rfl⟩ := allT_tups c
    have ne := tups_all c
    rw [dedD_map tupD eqv_tup] at hz p'
    have inj : ∀ a b : List Int, tupD a = tupD b → a = b := fun a b e => by
      have := eqv_tup a b
      rw [e, eqv_tup b b, decide_eq_true rfl] at this
      exact of_decide_eq_true this.symm
    obtain ⟨ms, rfl, q⟩ : ∃ ms : List (List Int), es = ms.map tupD ∧ ms.Perm (ded ks) := by
      have all : es.all tupI = true := by
        rw [List.all_eq_true]
        intro d hd
        obtain ⟨k, hk, rfl⟩ := List.mem_map.mp (p'.symm.mem_iff.mp hd)
        exact List.all_eq_true.mp c _ (List.mem_map.mpr ⟨k, mem_ded.mp hk, rfl⟩)
      obtain ⟨ms, rfl⟩ := allT_tups all
      refine ⟨ms, rfl, ?_⟩
      have nd : (ms.map tupD).Nodup := p'.nodup_iff.mp (List.Pairwise.map _ (fun a b h e => h (inj a b e)) (nodup_ded ks))
      refine perm_of_mem (List.Pairwise.of_map _ (fun a b h e => h (congrArg _ e)) nd) (nodup_ded ks) fun k => ?_
      have h1 := p'.symm.mem_iff (a := tupD k)
      have m1 : ∀ l : List (List Int), tupD k ∈ l.map tupD ↔ k ∈ l := fun l => ⟨fun z => by
        obtain ⟨k', hk', e⟩ := List.mem_map.mp z
        exact inj _ _ e ▸ hk', fun z => List.mem_map.mpr ⟨k, z, rfl⟩⟩
      exact ((m1 ms).symm.trans h1).trans (m1 _)
    have ne1 : ∀ k ∈ ded ks, k ≠ [] := fun k hk => ne k (mem_ded.mp hk)
    rw [sortD_tup ne1] at hz
    rw [sortD_tup fun k hk => ne1 k (q.mem_iff.mp hk), ← hz, merge_perm (fun a b c h1 h2 => by
      simp only [decide_eq_true_eq] at *
      exact List.le_trans h1 h2) (fun a b => by
      simp only [Bool.or_eq_true, decide_eq_true_eq]
      exact List.le_total a b) (fun a b h1 h2 => by
      simp only [decide_eq_true_eq] at *
      exact List.le_antisymm h1 h2) q]
end AM
/-! Es5: set(xs) and sorted(of a set), by values. -/
namespace AM
open PySem PySem.Spec PyProof.Rows L2
/-- the set at a: its members, as they stand in it -/
def SetW (wo : World) (h : Heap) (a : Addr) (us : List Value) : Prop := ∃ o es ep t, h.get? a = some o ∧ o.cls = .type "set" ∧ o.data = .set es ep t ∧ es.toList.map (·.2) = us ∧ t.fits es.size = true ∧ es.size < scanBound ∧ Ris t.place.toList ∧ (wo.params.followText "set-order" = true ∨ t.led = true)
def SetU (wo : World) (a : Addr) (us : List Value) : HO := .ext fun h => SetW wo h a us
theorem setU_new {pr : Program} {wo : World} {H : Hp} {h : Heap} {a : Addr} {us : List Value} (R : SetW wo h a us) : ObjOk pr wo H h a (SetU wo a us) := by
  have ⟨o, _, _, _, ho, _⟩ := R
  exact ⟨R, ⟨o, ho⟩, fun h1 h2 ⟨o, es, ep, t, q, r⟩ k => ⟨o, es, ep, t, k o q, r⟩⟩
theorem setW_ints {wo : World} {h : Heap} {a : Addr} {S : Int → Bool} {n : Nat} (R : SetR wo h a S n) : ∃ (us : List Value) (ms : List Int), SetW wo h a us ∧ Vals (ms.map V.int) us ∧ ms.Nodup ∧ ∀ k, k ∈ ms ↔ S k = true := by
  obtain ⟨o, es, ep, t, ho, hx, hd, g, nd, hm, hb, hf, hn, hr, hl⟩ := R
  refine ⟨_, es.toList.map L2.keyOf, ⟨o, es, ep, t, ho, hx.1, hd, rfl, hf, hb, hr, hl⟩, ?_, nd, fun k => (hm k).symm⟩
  have all : ∀ l : List (Int × Value), (∀ e ∈ l, GoodE e) → Vals ((l.map L2.keyOf).map V.int) (l.map (·.2)) := by
    intro l
    induction l with
    | nil => exact fun _ => .nil
    | cons e l ih =>
      intro q
      obtain ⟨k, tk, e1, _⟩ := q e List.mem_cons_self
      have e2 : L2.keyOf e = k := by unfold L2.keyOf; rw [e1]
      refine .cons ?_ (ih fun z hz => q z (List.mem_cons_of_mem _ hz))
      show L2.RelV (V.int (L2.keyOf e)) e.2
      rw [e1, e2]
      exact ⟨tk, rfl⟩
  exact all _ g
theorem setW_tups {pr : Program} {wo : World} {h : Heap} {a : Addr} {L : List (Addr × List Int)} {es : Array (Int × Value)} {ep : Nat} {t : SetTable} (R : Ts pr wo h a L es ep t) (few : L.length ≤ 1000) : SetW wo h a (L.map fun p => Value.ref p.1) := by
  obtain ⟨o, ho, hx, hd⟩ := R.box
  refine ⟨o, es, ep, t, ho, hx.1, hd, ?_, R.fit, by rw [rows_len R.ent]; unfold scanBound; omega, R.ok.ris, R.led⟩
  rw [R.ent]
  simp [rowsOf]
/-- set(xs) -/
def rSetU (K : PySem.W.Frag) (wo : World) : List V → Hp → VK → Prop := fun xs H Q => ∃ (T : Hp) (d : Dt) (ds : List Dt) (x : V), xs = [x] ∧ Same T H ∧ Rp K T d x ∧ (d = .list ds ∨ d = .tuple ds) ∧ (∃ zs, setD ds = some zs) ∧
  ∀ (p : Addr) (us : List Value) (vs : List V) (es : List Dt), H p = none → Vals vs us → Comes ds es → Rps K T es vs → Q (.ref p) (upd H p (SetU wo p us))
theorem rps_ints {K : PySem.W.Frag} {T : Hp} : ∀ {ns : List Int} {vs : List V}, Rps K T (ns.map PyData.int) vs → vs = ns.map V.int
  | [], _, h => h
  | n :: ns, _, ⟨v, ws, e, h1, h2⟩ => by
    subst e
    rw [show v = V.int n from h1, rps_ints h2]
    rfl
theorem rps_of_ints {K : PySem.W.Frag} {T : Hp} : ∀ (ns : List Int), Rps K T (ns.map PyData.int) (ns.map V.int)
  | [] => rfl
  | n :: ns => ⟨_, _, rfl, rfl, rps_of_ints ns⟩
/-- where the tuples of ints lie -/
theorem rps_tups {K : PySem.W.Frag} {T : Hp} : ∀ {ks : List (List Int)} {vs : List V}, Rps K T (ks.map tupD) vs → ∃ L : List (Addr × List Int), L.map (·.2) = ks ∧ vs = L.map (fun p => V.ref p.1) ∧ ∀ p ∈ L, Rp K T (tupD p.2) (.ref p.1)
  | [], _, h => ⟨[], rfl, h, fun _ z => nomatch z⟩
  | k :: ks, _, ⟨v, ws, e, h1, h2⟩ => by
    subst e
    obtain ⟨L, e1, e2, e3⟩ := rps_tups h2
    obtain ⟨b, us, rfl, r⟩ := h1
    refine ⟨(b, k) :: L, by rw [List.map_cons, e1], by rw [List.map_cons, e2], fun p hp => ?_⟩
    rcases List.mem_cons.mp hp with rfl | z
    · exact ⟨b, us, rfl, r⟩
    · exact e3 p z
theorem rps_of_tups {K : PySem.W.Frag} {T : Hp} : ∀ {L : List (Addr × List Int)}, (∀ p ∈ L, Rp K T (tupD p.2) (.ref p.1)) → Rps K T ((L.map (·.2)).map tupD) (L.map fun p => V.ref p.1)
  | [], _ => rfl
  | p :: L, h => ⟨_, _, rfl, h p List.mem_cons_self, rps_of_tups fun q hq => h q (List.mem_cons_of_mem _ hq)⟩
section
variable {X : Cx} {pins : List (Addr × Obj)} {σ : L2.St} {H : Hp} {s : Shared}
/-- the set of what a list or a tuple holds -/
theorem setof_seq {l : Addr} {its : List Value} {vs : List V} {ds : List Dt} {T : Hp} {T' IT : String} {d : Option Addr} {n : Nat} {sl : Array (Option Value)} {Q : VK} (hc : X.calm = true) (hu : X.A.units + 10 < cLine) (I : Inv X pins σ H s) (th : Same T H)
    (q : Seqs X.prog X.w l its.toArray T' IT { cls := .type T', dict := d, data := .seq its.toArray n, slots := sl }) (ho : s.heap.get? l = some { cls := .type T', dict := d, data := .seq its.toArray n, slots := sl })
    (rv : Vals vs its) (ra : Rps X.K T ds vs) (ok : ∃ zs, setD ds = some zs)
    (hQ : ∀ (p : Addr) (us : List Value) (vs : List V) (es : List Dt), H p = none → Vals vs us → Comes ds es → Rps X.K T es vs → Q (.ref p) (upd H p (SetU X.w p us))) :
    wpAny (model X.prog X.w) X.A (call (.type "set") [.ref l]) (EP X pins σ Q) X.xe s := by
  have hn : H s.heap.objs.size = none := I.hok.fresh (Nat.le_refl _)
  have fin : ∀ (s' : Shared) (Fin : Heap → Prop), Full s Fin s' → (∀ h', Fin h' → ∃ us ws es, SetW X.w h' s.heap.objs.size us ∧ Vals ws us ∧ Comes ds es ∧ Rps X.K T es ws) → EP X pins σ Q (.ref s.heap.objs.size) s' := fun s' Fin hf k => by
    obtain ⟨h', tk, rfl, f, kept⟩ := hf
    obtain ⟨us, ws, es, sw, v, c, r⟩ := k h' f
    exact ⟨.ref _, _, I.laid (t' := tk) kept (Nat.le_refl _) (setU_new sw), rfl, hQ _ us ws es hn v c r⟩
  obtain ⟨zs, e⟩ := ok
  unfold setD at e
  by_cases c : ds.all isI = true ∧ ds.length ≤ 1000 ∨ ds.all tupI = true ∧ ds.length ≤ 76
  case neg => rw [if_neg c] at e; cases e
  rcases c with ⟨c, len⟩ | ⟨c, len⟩
  · obtain ⟨ns, rfl⟩ := allI_ints c
    rw [List.length_map] at len
    obtain rfl := rps_ints ra
    have hi : IntsAre its.toArray.toList ns := ints_of_vals rv
    refine set_call q ho (I.ok.hd hc) (by omega) (feeds_ints hi (by unfold scanBound; omega)) fun s' hf => fin s' _ hf fun h' ⟨c, _, R⟩ => ?_
    obtain ⟨us, ms, sw, v, nd, m⟩ := setW_ints R
    exact ⟨us, _, _, sw, v, comes_ints len nd fun k => (m k).trans (by simp), rps_of_ints ms⟩
  · obtain ⟨ks, rfl⟩ := allT_tups c
    rw [List.length_map] at len
    obtain ⟨L0, rfl, rfl, at_⟩ := rps_tups ra
    rw [List.length_map] at len
    have hi : its.toArray.toList = L0.map fun p => Value.ref p.1 := refs_of_vals rv
    refine set_call q ho (I.ok.hd hc) (by omega) (feeds_tups hi (fun p hp => ?_) len) fun s' hf => fin s' _ hf fun h' ⟨L, es, ep, t, R, g⟩ => ?_
    · obtain ⟨b, us, e, sq, r⟩ := at_ p hp
      cases e
      rw [rps_ints r] at sq
      exact I.isT (same_T th sq)
    · have sub : ∀ p ∈ L, p ∈ L0 := fun p hp => List.mem_of_mem_take (g.sub p hp)
      refine ⟨_, _, (L.map (·.2)).map tupD, setW_tups R (by have := g.len; omega), vals_of_refs L, comes_tups c (by rw [List.length_map]; exact len) R.uni fun k => ⟨fun z => ?_, fun z => ?_⟩, rps_of_tups fun p hp => at_ p (sub p hp)⟩
      · obtain ⟨p, hp, rfl⟩ := List.mem_map.mp z
        exact List.mem_map.mpr ⟨p, sub p hp, rfl⟩
      · obtain ⟨p, hp, rfl⟩ := List.mem_map.mp z
        exact g.all p (by rw [List.take_length]; exact hp)
end
theorem call_set_bi {X : Cx} (hc : X.calm = true) (hu : X.A.units + 10 < cLine) : CallR X (.type "set") (rSetU X.K X.w) := by
  intro pins s σ H xs us Q I r h
  obtain ⟨T, d, ds, x, rfl, th, hd, e, ok, hQ⟩ := h
  rcases e with rfl | rfl
  · obtain ⟨a, vs, rfl, sa, ra⟩ := hd
    obtain ⟨its, rv, ⟨⟨c1, d1, da, s1⟩, n, ho, hcl, _, hda⟩, hz⟩ := I.list (th.seq sa)
    simp only at hcl hda
    subst hcl hda
    rw [Vals.ref1 r]
    exact setof_seq hc hu I th seqs_list ho rv ra ok hQ
  · obtain ⟨a, vs, rfl, sa, ra⟩ := hd
    obtain ⟨its, rv, ⟨⟨c1, d1, da, s1⟩, ho, hcl, n, hda⟩, hz⟩ := I.tuple (same_T th sa)
    simp only at hcl hda
    subst hcl hda
    rw [Vals.ref1 r]
    exact setof_seq hc hu I th seqs_tuple ho rv ra ok hQ
theorem perm_map {α β : Type} {f : α → β} {l m : List β} (p : l.Perm m) : ∀ {ws : List α}, ws.map f = m → ∃ ws' : List α, ws'.Perm ws ∧ ws'.map f = l := by
  induction p with
  | nil => exact fun e => ⟨_, .refl _, e⟩
  | cons x _ ih =>
    intro ws e
    cases ws with
    | nil => cases e
    | cons w ws =>
      injection e with e1 e2
      obtain ⟨ws', q, e3⟩ := ih e2
      exact ⟨w :: ws', q.cons w, by rw [List.map_cons, e1, e3]⟩
  | swap x y l =>
    intro ws e
    match ws, e with
    | [], e => cases e
    | [_], e => cases e
    | w :: z :: ws, e =>
      injection e with e1 e2
      injection e2 with e2 e3
      exact ⟨z :: w :: ws, .swap _ _ _, by rw [List.map_cons, List.map_cons, e1, e2, e3]⟩
  | trans _ _ ih1 ih2 =>
    intro ws e
    obtain ⟨w1, q1, e1⟩ := ih2 e
    obtain ⟨w2, q2, e2⟩ := ih1 e1
    exact ⟨w2, q2.trans q1, e2⟩
/-- sorted(a set) -/
def rSortU (K : PySem.W.Frag) (wo : World) : List V → Hp → VK → Prop := fun xs H Q => ∃ (T : Hp) (a : Addr) (us : List Value) (vs : List V) (es zs : List Dt), xs = [.ref a] ∧ Same T H ∧ H a = some (SetU wo a us) ∧ Vals vs us ∧ Rps K T es vs ∧
  (∀ es', es'.Perm es → sortD es' = some zs) ∧ es.length ≤ 1000 ∧ Mk K T H (Ob.ls zs) Q
theorem rps_split {K : PySem.W.Frag} {T : Hp} {us us' : List Value} (p : us'.Perm us) : ∀ {vs : List V} {es : List Dt}, Vals vs us → Rps K T es vs → ∃ vs' es', Vals vs' us' ∧ Rps K T es' vs' ∧ es'.Perm es := by
  intro vs es v r
  obtain ⟨ws, h1, h2⟩ : ∃ ws : List (Value × Dt), ws.map (·.1) = us ∧ ws.map (·.2) = es ∧ ∀ w ∈ ws, ∃ x, RelV x w.1 ∧ Rp K T w.2 x := by
    clear p
    induction v generalizing es with
    | nil =>
      cases es with
      | nil => exact ⟨[], rfl, rfl, fun _ z => nomatch z⟩
      | cons d es => obtain ⟨_, _, e, _⟩ := r; cases e
    | cons h t ih =>
      cases es with
      | nil => cases (show _ = [] from r)
      | cons d es =>
        obtain ⟨_, _, e, r1, r2⟩ := r
        cases e
        obtain ⟨ws, e1, e2, e3⟩ := ih r2
        refine ⟨(_, d) :: ws, by rw [List.map_cons, e1], by rw [List.map_cons, e2], fun w hw => ?_⟩
        rcases List.mem_cons.mp hw with rfl | z
        · exact ⟨_, h, r1⟩
        · exact e3 w z
  obtain ⟨ws', q, e⟩ : ∃ ws' : List (Value × Dt), ws'.Perm ws ∧ ws'.map (·.1) = us' := by
    exact perm_map p h1
  have all : ∀ l : List (Value × Dt), (∀ w ∈ l, ∃ x, RelV x w.1 ∧ Rp K T w.2 x) → ∃ vs', Vals vs' (l.map (·.1)) ∧ Rps K T (l.map (·.2)) vs' := by
    intro l
    induction l with
    | nil => exact fun _ => ⟨[], .nil, rfl⟩
    | cons w l ih =>
      intro k
      obtain ⟨x, r1, r2⟩ := k w List.mem_cons_self
      obtain ⟨vs', r3, r4⟩ := ih fun z hz => k z (List.mem_cons_of_mem _ hz)
      exact ⟨x :: vs', .cons r1 r3, x, vs', rfl, r2, r4⟩
  obtain ⟨vs', r1, r2⟩ := all ws' fun w hw => h2.2 w (q.mem_iff.mp hw)
  refine ⟨vs', _, e ▸ r1, r2, ?_⟩
  rw [← h2.1]
  exact q.map _
end AM
/-! Es6: sorted(a set). -/
namespace AM
open PySem PySem.Spec PyProof.Rows L2
theorem sortD_def {es zs : List Dt} (h : sortD es = some zs) : sortable es = true ∧ zs = es.mergeSort (PySem.W.dataLe false id) := by
  unfold sortD at h
  by_cases c : sortable es = true
  · rw [if_pos c] at h; cases h; exact ⟨c, rfl⟩
  · rw [if_neg c] at h; cases h
theorem call_sorted_set {X : Cx} (hc : X.calm = true) (hu : X.A.units + 10 < cLine) : CallR X (.builtin "sorted") (rSortU X.K X.w) := by
  intro pins s σ H xs us0 Q I r h
  obtain ⟨T, a, us, vs, es, zs, rfl, th, ha, rv, ra, sorts, few, m⟩ := h
  have sw : SetW X.w s.heap a us := (I.hok a _ ha).1
  obtain ⟨o, ens, ep, t, ho, hcl, hd, hus, hf, hsz, ris, led⟩ := sw
  rw [Vals.ref1 r]
  refine Calls.call_function_entry kind_sorted plain_sorted entry_sorted (args_sorted1 _) ?_
  unfold Builtin.«sorted»
  refine wpAny_bind (m := checkCount "sorted" 1 1 _) (wpAny_pure ?_)
  refine wpAny_bind (collect_set (A := X.A.in1) (I.ok.hd hc) ⟨o, ho, hcl, hd⟩ hf hsz ris led fun s1 out k1 hz1 g1 o1 pm => ?_)
  rw [hus] at pm
  obtain ⟨vs', es', rv', ra', pe⟩ := rps_split pm rv ra
  have I1 : Inv X pins σ H s1 := I.call' (ch := []) o1 (Un.kept k1) (I.hok.kept k1) (by rw [g1]; exact I.bare) (fun _ z => nomatch z)
  obtain ⟨as, rd⟩ := Dp.readsAll I1 es' _ out (Rps.dp th ra') rv'
  obtain ⟨so, rfl⟩ := sortD_def (sorts es' pe)
  obtain ⟨al, sb, dp⟩ := sortable_alike so
  have len : out.length = es'.length := by rw [← rv'.length, ra'.len]
  have le : es'.length ≤ 1000 := by rw [pe.length_eq]; exact few
  refine wpAny_bind (wpAny_newList ?_ (by rw [sizeLine_eq]; omega))
  have hoL : (s1.heap.push (seqObj "list" out.toArray 0)).get? s1.heap.objs.size = some (seqObj "list" out.toArray 0) := Heap.get?_push_size _ rfl
  have old : ∀ b u, s1.heap.get? b = some u → (PySem.W.sortingHeap (s1.heap.push (seqObj "list" out.toArray 0)) s1.heap.objs.size out).get? b = some u := fun b u e => PySem.W.sortingHeap_old (Nat.ne_of_lt (Heap.lt_size e)) (Heap.get?_push_of_some _ e)
  have er : PySem.W.EachIs (fun v b => ∃ as, Reads s1.heap v (id b) as) out es' := PySem.W.readsAll_each id (by rw [List.map_id]; exact rd)
  have er' : PySem.W.EachIs (fun v b => ∃ as, Reads (PySem.W.sortingHeap (s1.heap.push (seqObj "list" out.toArray 0)) s1.heap.objs.size out) v (id b) as) out es' := er.mono fun _ _ ⟨as, r⟩ => ⟨as, PyProof.Rows.Reads.keeps old r⟩
  have al' : PySem.W.AllAlike (es'.map id) := by rw [List.map_id]; exact al
  have sb' : PySem.W.Sortable (es'.map id) := by rw [List.map_id]; exact sb
  refine wpAny_bind (wpAny_holding (wpAny_call_entry slot_list_sort ⟨_, hoL, rfl⟩ entry_list_sort (PySem.W.list_sort_vals (s := { s1 with heap := s1.heap.push (seqObj "list" out.toArray 0) }) (κ := PySem.W.dataKind (PySem.W.sortingHeap (s1.heap.push (seqObj "list" out.toArray 0)) s1.heap.objs.size out) (es'.map id)) hoL
    (PySem.W.SortsAt.data (s := { s1 with heap := PySem.W.sortingHeap (s1.heap.push (seqObj "list" out.toArray 0)) s1.heap.objs.size out }) (PySem.W.each_map (R := fun v d => ∃ as, Reads (PySem.W.sortingHeap (s1.heap.push (seqObj "list" out.toArray 0)) s1.heap.objs.size out) v d as) id er') al' sb' (PySem.W.bound_map fun b hb => ?_))
    (by rw [sizeLine_eq]; omega) ⟨.none, rfl, ?_⟩) (args_list_sort _)))
  · have := dp b hb
    show X.A.in1.units + 1 + b.depth < cLine
    have e : X.A.in1.units = X.A.units + 1 := rfl
    omega
  · have he := PySem.W.sortVals_data (enc := id) false (each_of rv' ra') er' al'
    obtain ⟨ws, h1, h2⟩ := of_each he
    obtain ⟨c, hp⟩ := sortedHeap_at (vs := out) (out := List.toArray (PySem.W.sortVals (PySem.W.dataKind (PySem.W.sortingHeap (s1.heap.push (seqObj "list" out.toArray 0)) s1.heap.objs.size out) (es'.map id)) false out out)) hoL
    have hlen : ws.length ≤ sizeLine := by rw [h2.len, List.length_mergeSort, sizeLine_eq]; omega
    refine wpAny_pure ⟨_, rfl, .ref s1.heap.objs.size, upd H s1.heap.objs.size (.lst ws), I1.laid (t' := s1.toks) (fun b u e => ?_) (Nat.le_refl _) ⟨hlen, _, c, h1, hp⟩, rfl, m.ls th h2 (I1.hok.fresh (Nat.le_refl _))⟩
    have lt := Heap.lt_size e
    rw [sortedHeap_old (Nat.ne_of_lt lt) (by rw [size_push']; exact Nat.lt_succ_of_lt lt)]
    exact Heap.get?_push_of_some _ e
end AM
/-! Ev21: lemmas that the printed proofs name. -/
namespace AM
open PySem PySem.Spec PyProof.Rows L2
def exsN : Exs → Nat
  | .nil => 0
  | .cons _ es => exsN es + 1
theorem evs_len {R : Fns} {pn : List Nat} : ∀ {es : Exs} {ρ : Env} {p : List Ob × Env}, evs R pn es ρ = .ok p → p.1.length = exsN es
  | .nil, ρ, p, h => by
    rw [evs] at h
    cases h
    rfl
  | .cons e es, ρ, p, h => by
    rw [evs] at h
    obtain ⟨a, _, h⟩ := bind_ok h
    obtain ⟨b, h2, h⟩ := bind_ok h
    cases h
    show b.1.length + 1 = _
    rw [evs_len h2]
    rfl
theorem Mk.up {K : PySem.W.Frag} {T H : Hp} {o : Ob} {Q : VK} {p : Addr} {u : HO} (m : Mk K T H o Q) (hp : H p = none) : Mk K T (upd H p u) o Q := by
  intro T' H' v f w r nd hf
  have back : ∀ a, upd H p u a = none → H a = none := fun a e => by
    by_cases c : a = p
    · rw [c]; exact hp
    · rwa [upd_ne c] at e
  refine m T' H' v f ⟨w.ts, fun b z e => w.hs b z ?_, w.th, fun a q => (w.tn a q).imp id (back a)⟩ r nd fun a ha => ⟨back a (hf a ha).1, (hf a ha).2⟩
  rw [upd_ne (ne_of_none e hp)]
  exact e
theorem dedD_len : ∀ ds : List Dt, (dedD ds).length ≤ ds.length
  | [] => Nat.le_refl _
  | d :: ds => by
    have := dedD_len ds
    rw [dedD]
    split
    · exact Nat.le_succ_of_le this
    · exact Nat.succ_le_succ this
theorem setD_len {ds xs : List Dt} (h : setD ds = some xs) : xs.length ≤ 1000 := by
  unfold setD at h
  by_cases c : ds.all isI = true ∧ ds.length ≤ 1000 ∨ ds.all tupI = true ∧ ds.length ≤ 76
  · rw [if_pos c] at h
    cases h
    have := dedD_len ds
    omega
  · rw [if_neg c] at h; cases h
theorem sset_out {d : Dt} {o : Ob} (h : biD .sset d = some o) : ∃ ds xs zs, (d = .list ds ∨ d = .tuple ds) ∧ setD ds = some xs ∧ sortD xs = some zs ∧ o = Ob.ls zs := by
  have k : ∀ ds : List Dt, ((setD ds).bind sortD).map Ob.ls = some o → ∃ xs zs, setD ds = some xs ∧ sortD xs = some zs ∧ o = Ob.ls zs := fun ds h => by
    obtain ⟨zs, e, rfl⟩ := Option.map_eq_some_iff.mp h
    obtain ⟨xs, e1, e2⟩ := Option.bind_eq_some_iff.mp e
    exact ⟨xs, zs, e1, e2, rfl⟩
  cases d with
  | list ds =>
    obtain ⟨xs, zs, h⟩ := k ds h
    exact ⟨ds, xs, zs, .inl rfl, h⟩
  | tuple ds =>
    obtain ⟨xs, zs, h⟩ := k ds h
    exact ⟨ds, xs, zs, .inr rfl, h⟩
  | _ => cases h
/-- a slot of which nothing is said -/
theorem Good.dark {K : PySem.W.Frag} {pv : List (Nat × V)} {T H H' : Hp} {σ : L2.St} {ρ : Env} {F : Foot} {i : Nat} {v : V} (g : Good K pv T H σ ρ F) (hp : ∀ p ∈ pv, p.1 ≠ i) (k : Same H H') : Good K pv T H' (σ.set i (some v)) (ρ.set i none) (upF F i []) := by
  have off : ∀ j, (∃ o, (ρ.set i none)[j]? = some (some o)) → j ≠ i := fun j ⟨o, e⟩ c => by
    subst c
    by_cases hi : j < ρ.length
    · rw [List.getElem?_set_self hi] at e; cases e
    · rw [List.getElem?_eq_none (by rw [List.length_set]; omega)] at e; cases e
  refine ⟨by rw [List.length_set, List.length_set]; exact g.len, fun j u e => ?_, fun j n => ?_, fun j => ?_, fun j k a hj hk => ?_, fun a ha => ?_, g.same.trans k, fun p hq => ?_⟩
  · have hj := off j ⟨u, e⟩
    rw [List.getElem?_set_ne (Ne.symm hj)] at e
    rw [List.getElem?_set_ne (Ne.symm hj), upF_ne hj]
    obtain ⟨w, e1, r⟩ := g.slot j u e
    exact ⟨w, e1, RO.mono (Same.refl T) r fun a _ u q => k a u q⟩
  · by_cases hj : j = i
    · rw [hj, upF_same]
    · rw [upF_ne hj]
      exact g.none_ j fun u e => n u (by rw [List.getElem?_set_ne (Ne.symm hj)]; exact e)
  · by_cases hj : j = i
    · rw [hj, upF_same]; exact .nil
    · rw [upF_ne hj]; exact g.nd j
  · have m : ∀ {j : Nat}, a ∈ upF F i [] j → a ∈ F j := fun {j} h => by
      by_cases hj : j = i
      · rw [hj, upF_same] at h; cases h
      · rwa [upF_ne hj] at h
    exact g.apart j k a (m hj) (m hk)
  · rcases in_upF ha with h | h
    · exact g.tn a h
    · cases h
  · rw [List.getElem?_set_ne (Ne.symm (hp p hq))]
    exact g.pins p hq
theorem frz_ls (zs : List Dt) : frz (Ob.ls zs) = some (.list zs) := by
  unfold Ob.ls
  show (frzs _).map _ = _
  rw [frzs_plain]
  rfl
section
variable {R : Fns} {fs : List (Nat × Str)} {fr : Frs} {N : List Str} {sc : Bs} {g : Gx} {a : Expr} {xa : Ex} {pos p1 p2 p3 : Pos}
theorem ce_sset (ha : CE R fs fr N sc g a (ev R g.pn xa)) (hg : GlS sc "sorted") (hm : ("sorted" : Str) ∈ fr) (hg2 : GlS sc "set") (hm2 : ("set" : Str) ∈ fr) (he : ∀ env, starEach [a] env = [(false, eval a env)] := by intro _; rfl) :
    CE R fs fr N sc g (.Call (.Name "sorted" p1) [.Call (.Name "set" p2) [a] [] p3] [] pos) (ev R g.pn (.bi .sset xa)) := fun X A => by
  have room := A.room
  refine (pe_callB (call_sorted_set A.calm (by omega)) (A.gl hg) (A.free _ hm) boot_sorted (pa_cons (pe_callTy (call_set_bi A.calm (by omega)) (A.gl hg2) (A.free _ hm2) boot_set (pa_cons (ha X A).toD pa_nil (he _)) (by decide) (by decide) (he _) rfl) pa_nil (by rfl)) (by decide) (by decide) (by rfl) rfl).of fun σ H Q h => ?_
  obtain ⟨T, ρ, F, gd, h⟩ := h
  rw [ev] at h
  refine ⟨T, ρ, F, gd, h.bind.imp fun p hp => ?_⟩
  intro T1 H1 F1 v g1 r1 s1
  obtain ⟨o, eo, hp⟩ := hp.ofb
  obtain ⟨ds, xs, zs, e, es, ez, rfl⟩ := sset_out eo
  refine ⟨T1, p.1, ds, v, rfl, g1.same, r1, e, ⟨xs, es⟩, fun q us vs es' hq rv c ra => ?_⟩
  obtain ⟨xs', e2, pm⟩ := c
  obtain rfl : xs = xs' := Option.some.inj (es.symm.trans e2)
  refine ⟨T1, q, us, vs, es', zs, rfl, fun b u e => ?_, upd_same, rv, ra, fun es2 p2 => sort_perm es ez (p2.trans pm), by rw [pm.length_eq]; exact setD_len es, (After.mk hp g1 s1).up hq⟩
  rw [upd_ne (ne_of_none (g1.same b u e) hq)]
  exact g1.same b u e
/-- x = set(e), then return (a, tuple(sorted(x))) -/
theorem cb_setRet {L : Nat} {i k : Nat} {x : Str} {e b : Expr} {xe xb : Ex} {q1 q2 q3 q4 q5 q6 q7 q8 q9 q10 : Pos} (hN : N[i]? = some x) (hl : Loc sc.sc x) (hf : sc.fn x = true ∨ sc.sc.names.lookup x = some .local) (he : CE R fs fr N sc g e (ev R g.pn xe)) (hb : CE R fs fr N sc g b (ev R g.pn xb))
    (hg : GlS sc "set") (hm : ("set" : Str) ∈ fr) (hg2 : GlS sc "tuple") (hm2 : ("tuple" : Str) ∈ fr) (hg3 : GlS sc "sorted") (hm3 : ("sorted" : Str) ∈ fr)
    (he1 : ∀ env, starEach [e] env = [(false, eval e env)] := by intro _; rfl) (he2 : ∀ env t, starEach [b, t] env = (false, eval b env) :: starEach [t] env := by intro _ _; rfl)
    (hs : ∀ (env : PySem.Env) (l : Nat), env.scope = sc.sc → swapsWith (.Call (.Name "set" q2) [e] [] q3) (some (.Name x q1)) l env = pure false := by intro _ _ _; rfl)
    (hd : (x == ("__debug__" : Str)) = false := by decide) (hcd : (x == ("__classdict__" : Str)) = false := by decide) :
    CB R L fs fr N sc g [.Assign [.Name x q1] (.Call (.Name "set" q2) [e] [] q3) q4, .Return (some (.Tuple [b, .Call (.Name "tuple" q5) [.Call (.Name "sorted" q6) [.Name x q7] [] q8] [] q9] k q10)) pos] (.cons (.setRet i xe xb) .nil) := fun X A => by
  have room := A.room
  have hN' : X.N[i]? = some x := by rw [A.hN]; exact hN
  have hv : Vis X.env.scope x := by rw [A.hsc]; exact hl.imp id .inl
  refine (pss_cons (ps_set A.nd hN' (by rw [A.hsc]; exact hl) (pe_callTy (call_set_bi A.calm (by omega)) (A.gl hg) (A.free _ hm) boot_set (pa_cons (he X A).toD pa_nil (he1 _)) (by decide) (by decide) (he1 _) rfl) (hs _ _ A.hsc) (hf.imp (A.fnok x) fun z => by rw [A.hsc]; exact z))
    (pss_cons (ps_ret (pe_tup (pa_cons (hb X A).toD (pa_cons (pe_callTy call_tuple_bi (A.gl hg2) (A.free _ hm2) boot_tuple (pa_cons (pe_callB (call_sorted_set A.calm (by omega)) (A.gl hg3) (A.free _ hm3) boot_sorted (pa_cons (pe_var hN' hv hd hcd) pa_nil (by rfl)) (by decide) (by decide) (by rfl) rfl) pa_nil (by rfl)) (by decide) (by decide) (by rfl) rfl) pa_nil (by rfl)) (he2 _ _)))) pss_nil)).of fun D σ H h => ?_
  obtain ⟨T, ρ, F, gd, h⟩ := h
  have h1 : Out (g.at X.K) T H F (ex R L g.pn (.setRet i xe xb) ρ) (AftF (g.at X.K) T H F D) := by
    rw [exs] at h
    refine h.bind.imp fun fl hp => ?_
    cases fl with
    | nx ρ1 =>
      have hp : Out (g.at X.K) T H F (exs R L g.pn .nil ρ1) (AftF (g.at X.K) T H F D) := hp
      rw [exs] at hp
      exact hp
    | _ => exact hp
  rw [ex] at h1
  refine ⟨T, ρ, F, gd, h1.bind.imp fun p hp => ?_⟩
  intro T1 H1 F1 v g1 r1 s1
  obtain ⟨o, eo, hp⟩ := hp.ofb
  obtain ⟨ds, xs, zs, e, es, ez, rfl⟩ := sset_out eo
  obtain ⟨z, e3, hp⟩ := hp.ofb
  rw [frz_ls] at e3
  cases e3
  by_cases c : g.pn.contains i = true ∨ p.2.length ≤ i
  · have hp : Out (g.at X.K) T H F (if g.pn.contains i = true ∨ p.2.length ≤ i then Res.bad else (ev R g.pn xb (p.2.set i none)).toD.bind fun q => .ok (.rt (.d (.tuple [q.1, .tuple zs])) q.2)) (AftF (g.at X.K) T H F D) := hp
    rw [if_pos c] at hp
    exact hp.elim
  have hp : Out (g.at X.K) T H F (if g.pn.contains i = true ∨ p.2.length ≤ i then Res.bad else (ev R g.pn xb (p.2.set i none)).toD.bind fun q => .ok (.rt (.d (.tuple [q.1, .tuple zs])) q.2)) (AftF (g.at X.K) T H F D) := hp
  rw [if_neg c] at hp
  refine ⟨T1, p.1, ds, v, rfl, g1.same, r1, e, ⟨xs, es⟩, fun a us vs es' ha rv cm ra => ?_⟩
  obtain ⟨xs', e2, pm⟩ := cm
  obtain rfl : xs = xs' := Option.some.inj (es.symm.trans e2)
  have up : Same H1 (upd H1 a (SetU X.w a us)) := fun b u q => by
    rw [upd_ne (ne_of_none q ha)]
    exact q
  have hi : i < σ.length := by have := g1.len; omega
  have g2 := g1.dark (v := .ref a) (not_pin (g := g) (by simpa using fun z => c (.inl z))) up
  have s2 : Stp T1 H1 (InF F1) T1 (upd H1 a (SetU X.w a us)) (InF (upF F1 i [])) := ⟨Same.refl _, fun b u q _ => up b u q, fun b q => .inl ((in_upF q).elim id fun z => nomatch z), fun b q => .inl q⟩
  have s12 : Stp T H (InF F) T1 (upd H1 a (SetU X.w a us)) (InF (upF F1 i [])) := (s1.trans s2 fun _ h => h).post fun _ h => .inl h
  refine ⟨T1, p.2.set i none, upF F1 i [], g2, hp.bind.go s12 fun q hq => ?_⟩
  intro T3 H3 F3 v1 g3 r3 s3
  have at3 : H3 a = some (SetU X.w a us) := s3.frame a _ upd_same fun z => (in_upF z).elim (fun z => g1.in_there z ha) fun z => nomatch z
  have s13 := (s12.trans s3 fun _ h => h).post (R' := InF F3) fun _ h => .inl h
  refine ⟨.ref a, List.getElem?_set_self hi, ?_⟩
  refine ⟨T3, a, us, vs, es', zs, rfl, g3.same, at3, rv, ra.up (s2.trans s3 fun _ h => h), fun es2 p2 => sort_perm es ez (p2.trans pm), by rw [pm.length_eq]; exact setD_len es, After.mk (σ := σ.set i (some (.ref a))) (ρ := q.2) ?_ g3 .refl⟩
  intro T4 H4 F4 w f g4 t4 s4
  obtain ⟨T5, g5, r5, ts, th, tn⟩ := freeze g4 t4 (frz_ls zs)
  refine ⟨T5, .list zs, .d (.tuple zs), w, rfl, g5.same, r5, rfl, After.mk (σ := σ.set i (some (.ref a))) (ρ := q.2) ?_ g5 .refl⟩
  intro T6 H6 F6 w2 f2 g6 t6 s6
  obtain ⟨_, r6⟩ := t6.ro
  have s35 : Stp T3 H3 (InF F3) T5 H4 (InF F4) := ⟨s4.same.trans ts, s4.frame, fun b z => s4.fresh b (.inl z), fun b z => (tn b z).elim (s4.tnew b) fun z => .inr (s4.fresh b (.inr z))⟩
  have s36 := (s35.trans s6.own fun _ h => h).post (R' := InF F6) fun _ h => .inl h
  have s16 := (s13.trans s36 fun _ h => h).post (R' := InF F6) fun _ h => .inl h
  refine ⟨by show 2 ≤ sizeLine; rw [sizeLine_eq]; omega, fun q' hq' => ?_⟩
  exact (After.mk (G := g.at X.K) (σ := σ.set i (some (.ref a))) (ρ := q.2) (o := .d (.tuple [q.1, .tuple zs])) (Q := fun v H => D.rt v H) (fun T' H' F' v f gd' t' st' => hq T' H' _ F' v f gd' t' st') g6 s16).tup g6.same ⟨v1, [w2], rfl, r3.up s36, w2, [], rfl, r6, rfl⟩ hq'
end
end AM
/-! Ev23: names and tables of the module's top, enumerate, reversed, sum, max, three names at once. -/
namespace AM
open PySem PySem.Spec PyProof.Rows L2
section
variable {X : Cx}
/-- T[z], T a table of the top -/
def rTab (K : PySem.W.Frag) (d : Addr) : R2 := fun x y H Q => ∃ (z : Str) (u : Value) (v : V), x = .ref d ∧ y = .str z ∧ PySem.W.nsIn K d z = some (some u) ∧ RelV v u ∧ Q v H
theorem ix_tab {d : Addr} {es : Array DictEntry} {n : Nat} (D : KDict X.K X.w d es n) : IxR X (rTab X.K d) := by
  intro value slice pins s σ H x y v u Q I rx ry h hs
  obtain ⟨z, u0, v0, rfl, rfl, e, r, q⟩ := h
  obtain rfl : v = Value.ref d := rx
  obtain ⟨t, rfl⟩ := ry
  exact tail_any (kd_type D I) PySem.F.slot_dict_getitem.lookup (wpAny_getItem_of (PySem.strKind_is X.prog X.w z t) (PySem.W.mapOf_K (prog := X.prog) I.kIn D.at_ D.lit) (PySem.W.find_K D.at_ e) ⟨v0, H, I.tok _, r, q⟩) hs
/-- T.get(z), z a key -/
def tTabGet (K : PySem.W.Frag) (d : Addr) (td ty : TE) : TE := fun σ H Q => td σ H fun x H1 => x = .ref d ∧ ty σ H1 fun y H2 => rTab K d x y H2 Q
theorem pe_tabget {o e : Expr} {td ty : TE} {d : Addr} {es : Array DictEntry} {n : Nat} {apos cpos : Pos} (D : KDict X.K X.w d es n) (ho : PE X o td) (he : PE X e ty) (m : M1 X o "get" apos e cpos) : PE X (.Call (.Attribute o "get" apos) [e] [] cpos) (tTabGet X.K d td ty) := by
  refine ⟨fun pins s σ H Q I h => ?_⟩
  refine wpAny_Call_method m.base m.few m.line PySem.F.plainAttrs_dict PySem.F.slot_dict_get PySem.F.type_dict_get (thn (ho.run pins s σ H _ I h) fun u s1 ⟨x, H1, I1, rx, ex, q1⟩ => ?_)
  subst ex
  obtain rfl : u = Value.ref d := rx
  refine ⟨kd_type D I1, fun b q => ?_, ?_⟩
  · cases q
    exact ⟨_, I1.kIn _ _ D.at_, rfl⟩
  · rw [m.trees]
    refine Calls.callWith_builtin rfl (Calls.evalArgs_plain (Calls.spliced_cons (thn (he.run pins s1 σ H1 _ I1 q1) fun iv s2 ⟨y, H2, I2, ry, q2⟩ => Calls.spliced_nil ?_)))
    obtain ⟨z, u0, v0, _, rfl, e, r, q⟩ := q2
    obtain ⟨t, rfl⟩ := ry
    refine call_meetsIn PySem.F.slot_dict_get (kd_type D I2) PySem.F.entry_dict_get (PySem.F.args_dict_get_2 _ _) (meets_dict_get (PySem.strKind X.prog X.w) d (PySem.strKind_is X.prog X.w z t) D.low) ⟨_, PySem.W.mapOf_K (prog := X.prog) I2.kIn D.at_ D.lit, ?_⟩
    rw [PySem.W.find_K D.at_ e]
    exact ⟨v0, H2, I2.tok _, r, q⟩
end
section
variable {R : Fns} {L : Nat} {fs : List (Nat × Str)} {fr : Frs} {N : List Str} {sc : Bs} {g : Gx} {a b c e tg : Expr} {es : List Expr} {xa xb xc xe : Ex} {pos p1 p2 p3 p4 : Pos} {i j l : Nat} {x y z : Str} {it : AM.It}
theorem ce_glob {d : Dt} (hg : GlS sc x) (hm : (x, d) ∈ fr.gl) (hd : (x == ("__debug__" : Str)) = false := by decide) : CE R fs fr N sc g (.Name x pos) (ev R g.pn (.cst d)) := fun X A => by
  obtain ⟨u, hu, v, r, rp⟩ := A.fro.glob _ hm
  refine (pe_glob (A.gl hg) hu r hd).of fun σ H Q q => ?_
  obtain ⟨T, ρ, F, gd, q⟩ := q
  rw [ev] at q
  exact After.pure (show After _ σ T H F Q (.d d, ρ) from q) gd (rp _)
theorem lookup_in {kvs : List (Str × Dt)} {z : Str} {d : Dt} (h : kvs.lookup z = some d) : ∃ q ∈ kvs, q.1 = z ∧ q.2 = d := by
  induction kvs with
  | nil => cases h
  | cons q kvs ih =>
    obtain ⟨k, w⟩ := q
    rw [List.lookup_cons] at h
    by_cases e : z == k
    · rw [e] at h
      cases h
      exact ⟨_, List.mem_cons_self, (eq_of_beq e).symm, rfl⟩
    · rw [Bool.not_eq_true] at e
      rw [e] at h
      obtain ⟨q, h1, h2⟩ := ih h
      exact ⟨q, List.mem_cons_of_mem _ h1, h2⟩
theorem tabD_str {kvs : List (Str × Dt)} {d o : Dt} (h : tabD kvs d = some o) : ∃ z, d = .str z ∧ kvs.lookup z = some o := by
  cases d with
  | str z => exact ⟨z, rfl, h⟩
  | _ => cases h
theorem tab_val {K : PySem.W.Frag} {w : World} {mg : Str → Option Value} {F : Frs} {kvs : List (Str × Dt)} {z : Str} {o : Dt} {d : Addr} (hv : ∀ q ∈ kvs, ∃ u, PySem.W.nsIn K d q.1 = some (some u) ∧ Tops K q.2 u) (e : kvs.lookup z = some o) : ∃ u v, PySem.W.nsIn K d z = some (some u) ∧ RelV v u ∧ ∀ T, Rp K T o v := by
  obtain ⟨q, hq, rfl, rfl⟩ := lookup_in e
  obtain ⟨u, h1, v, h2, h3⟩ := hv q hq
  exact ⟨u, v, h1, h2, h3⟩
theorem ce_tab {kvs : List (Str × Dt)} (hg : GlS sc x) (hm : (x, kvs) ∈ fr.tb) (he : CE R fs fr N sc g e (ev R g.pn xe)) (hs : PlainIx e := by intro _ _; rfl) (hd : (x == ("__debug__" : Str)) = false := by decide) :
    CE R fs fr N sc g (.Subscript (.Name x p1) e pos) (ev R g.pn (.tab kvs xe)) := fun X A => by
  obtain ⟨d, es, n, hu, D, hv⟩ := A.fro.tab _ hm
  refine (pe_ix (ix_tab D) (pe_glob (A.gl hg) hu (v := .ref d) rfl hd) (he X A).toD hs).of fun σ H Q q => ?_
  obtain ⟨T, ρ, F, gd, q⟩ := q
  rw [ev] at q
  refine ⟨T, ρ, F, gd, q.bind.imp fun p hp => ?_⟩
  intro T1 H1 F1 v g1 r1 s1
  obtain ⟨o, eo, hp⟩ := hp.ofb
  obtain ⟨z, e1, e2⟩ := tabD_str eo
  rw [e1] at r1
  obtain rfl : v = .str z := r1
  obtain ⟨u, w, h1, h2, h3⟩ := tab_val (w := X.w) (mg := X.mg) (F := fr) hv e2
  exact ⟨z, u, w, rfl, rfl, h1, h2, (After.mk (show After _ σ T H F Q (.d o, p.2) from hp) g1 s1).pure g1.same (h3 _)⟩
theorem ce_tabGet {kvs : List (Str × Dt)} (hg : GlS sc x) (hm : (x, kvs) ∈ fr.tb) (he : CE R fs fr N sc g e (ev R g.pn xe)) (m : ∀ X : Cx, M1 X (.Name x p1) "get" p2 e pos := by intro _; exact ⟨rfl, rfl, rfl, rfl⟩) (hd : (x == ("__debug__" : Str)) = false := by decide) :
    CE R fs fr N sc g (.Call (.Attribute (.Name x p1) "get" p2) [e] [] pos) (ev R g.pn (.tab kvs xe)) := fun X A => by
  obtain ⟨d, es, n, hu, D, hv⟩ := A.fro.tab _ hm
  refine (pe_tabget D (pe_glob (A.gl hg) hu (v := .ref d) rfl hd) (he X A).toD (m X)).of fun σ H Q q => ?_
  obtain ⟨T, ρ, F, gd, q⟩ := q
  rw [ev] at q
  refine ⟨rfl, T, ρ, F, gd, q.bind.imp fun p hp => ?_⟩
  intro T1 H1 F1 v g1 r1 s1
  obtain ⟨o, eo, hp⟩ := hp.ofb
  obtain ⟨z, e1, e2⟩ := tabD_str eo
  rw [e1] at r1
  obtain rfl : v = .str z := r1
  obtain ⟨u, w, h1, h2, h3⟩ := tab_val (w := X.w) (mg := X.mg) (F := fr) hv e2
  exact ⟨z, u, w, rfl, rfl, h1, h2, (After.mk (show After _ σ T H F Q (.d o, p.2) from hp) g1 s1).pure g1.same (h3 _)⟩
theorem enumD_get : ∀ (k : Int) (ds : List Dt) (i : Nat), (enumD k ds)[i]? = (ds[i]?).map fun d => PyData.tuple [.int (k + (i : Int)), d]
  | _, [], _ => by simp [enumD]
  | k, d :: ds, 0 => by simp [enumD]
  | k, d :: ds, i + 1 => by
    rw [enumD, List.getElem?_cons_succ, List.getElem?_cons_succ, enumD_get (k + 1) ds i]
    have : k + 1 + (i : Int) = k + ((i + 1 : Nat) : Int) := by omega
    rw [this]
theorem enumD_len : ∀ (k : Int) (ds : List Dt), (enumD k ds).length = ds.length
  | _, [] => rfl
  | k, d :: ds => by rw [enumD, List.length_cons, List.length_cons, enumD_len]
theorem iter_enum {K : PySem.W.Frag} {T : Hp} {ad : Addr} {vs : List V} {ds : List Dt} (s : SqL K T ad vs) (r : Rps K T ds vs) : Iter K T (Ite K ad) (enumD 0 ds) := by
  have l := r.len
  refine ⟨fun i H th hi => ?_, fun i H th hi => ?_, fun i T2 H x H' t2 th y d hd => ?_⟩
  · rw [enumD_len] at hi
    exact ⟨vs, vs[i]'(by omega), th.seq s, List.getElem?_eq_getElem _⟩
  · rw [enumD_len] at hi
    exact ⟨vs, th.seq s, by omega⟩
  · rw [enumD_get] at hd
    obtain ⟨d0, h1, rfl⟩ := Option.map_eq_some_iff.mp hd
    obtain ⟨w, e1, e2⟩ := r.get h1
    obtain ⟨ap, x', y1, y2, y3, y4⟩ := y
    have := y4 vs (th.seq (t2.seq s))
    rw [e1] at this
    cases this
    exact zip_grow t2 th y1 y2 y3 (show Rp K T (.int (0 + (i : Int))) (.int (i : Nat)) from by rw [Int.zero_add]; rfl) e2
theorem ci_enum {k : Nat} (ha : CE R fs fr N sc g a (ev R g.pn xa)) (hg : GlS sc "enumerate") (hm : ("enumerate" : Str) ∈ fr) (he : ∀ env, starEach [a] env = [(false, eval a env)] := by intro _; rfl) :
    CI R fs fr N sc g (.Tuple es k p2) (.Call (.Name "enumerate" p1) [a] [] pos) (.enum xa) := fun X A => by
  refine (pi_enum (A.gl hg) (A.free _ hm) (pa_cons (ha X A).toD pa_nil (he _)) (he _)).of fun σ H Q h => ?_
  obtain ⟨T, ρ, F, gd, h⟩ := h
  rw [evI] at h
  refine ⟨T, ρ, F, gd, h.bind.imp fun p hp => ?_⟩
  obtain ⟨d, ρ1⟩ := p
  intro T1 H1 F1 v g1 r1 s1
  cases d with
  | list xs =>
    have hp : ∀ (T' H' : Hp) (F' : Foot) (J : L2.It), Gd (g.at X.K) T' H' σ ρ1 F' → Iter (g.at X.K).K T' J (enumD 0 xs) → Stp T H (InF F) T' H' (InF F') → Q J H' := hp
    obtain ⟨ad, vs, rfl, sa, ra⟩ := r1
    exact ⟨ad, vs, rfl, g1.same.seq sa, hp T1 H1 F1 _ g1 (iter_enum sa ra) s1⟩
  | _ => exact hp.elim
theorem rev_get {α : Type} {l : List α} {i : Nat} (h : i < l.length) : l.reverse[i]? = l[l.length - 1 - i]? := List.getElem?_reverse h
theorem iter_revL {K : PySem.W.Frag} {T : Hp} {ad : Addr} {vs : List V} {ds : List Dt} (s : SqL K T ad vs) (r : Rps K T ds vs) : Iter K T (Itv K ad vs.length) ds.reverse := by
  have l := r.len
  refine ⟨fun i H th hi => ?_, fun i H th hi => ?_, fun i T2 H x H' t2 th y d hd => ?_⟩
  · rw [List.length_reverse] at hi
    exact ⟨by omega, vs, vs[vs.length - 1 - i]'(by omega), th.seq s, List.getElem?_eq_getElem _⟩
  · rw [List.length_reverse] at hi
    show vs.length ≤ i
    omega
  · have hi : i < ds.length := by
      have := (List.getElem?_eq_some_iff.mp hd).1
      rwa [List.length_reverse] at this
    rw [rev_get hi] at hd
    obtain ⟨rfl, y⟩ := y
    obtain ⟨w, e1, e2⟩ := r.get hd
    have := y vs (th.seq (t2.seq s))
    rw [l, e1] at this
    cases this
    exact ⟨T2, Grow.refl th, e2.mono t2⟩
theorem iter_revT {K : PySem.W.Frag} {T : Hp} {ad : Addr} {vs : List V} {ds : List Dt} (s : SqT K T ad vs) (r : Rps K T ds vs) : Iter K T (_root_.RT.ItvT K ad vs.length) ds.reverse := by
  have l := r.len
  refine ⟨fun i H th hi => ?_, fun i H th hi => ?_, fun i T2 H x H' t2 th y d hd => ?_⟩
  · rw [List.length_reverse] at hi
    exact ⟨by omega, vs, vs[vs.length - 1 - i]'(by omega), same_T th s, List.getElem?_eq_getElem _⟩
  · rw [List.length_reverse] at hi
    show vs.length ≤ i
    omega
  · have hi : i < ds.length := by
      have := (List.getElem?_eq_some_iff.mp hd).1
      rwa [List.length_reverse] at this
    rw [rev_get hi] at hd
    obtain ⟨rfl, y⟩ := y
    obtain ⟨w, e1, e2⟩ := r.get hd
    have := y vs (same_T th (same_T t2 s))
    rw [l, e1] at this
    cases this
    exact ⟨T2, Grow.refl th, e2.mono t2⟩
theorem ci_rev (ha : CE R fs fr N sc g a (ev R g.pn xa)) (hg : GlS sc "reversed") (hm : ("reversed" : Str) ∈ fr) (he : ∀ env, starEach [a] env = (false, eval a env) :: starEach [] env := by intro _; rfl) :
    CI R fs fr N sc g tg (.Call (.Name "reversed" p1) [a] [] pos) (.rev xa) := fun X A => by
  refine (_root_.RT.pi_revA (A.gl hg) (A.free _ hm) (ha X A).toD (he _)).of fun σ H Q h => ?_
  obtain ⟨T, ρ, F, gd, h⟩ := h
  rw [evI] at h
  refine ⟨T, ρ, F, gd, h.bind.imp fun p hp => ?_⟩
  obtain ⟨d, ρ1⟩ := p
  intro T1 H1 F1 v g1 r1 s1
  obtain ⟨ds, e, hp⟩ := hp.ofb
  have hp : ∀ (T' H' : Hp) (F' : Foot) (J : L2.It), Gd (g.at X.K) T' H' σ ρ1 F' → Iter (g.at X.K).K T' J ds.reverse → Stp T H (InF F) T' H' (InF F') → Q J H' := hp
  cases d with
  | list xs =>
    cases e
    obtain ⟨ad, vs, rfl, sa, ra⟩ := r1
    exact ⟨ad, vs, rfl, .inl ⟨g1.same.seq sa, hp T1 H1 F1 _ g1 (iter_revL sa ra) s1⟩⟩
  | tuple xs =>
    cases e
    obtain ⟨ad, vs, rfl, sa, ra⟩ := r1
    exact ⟨ad, vs, rfl, .inr ⟨same_T g1.same sa, hp T1 H1 F1 _ g1 (iter_revT sa ra) s1⟩⟩
  | _ => cases e
end
end AM
/-! Ev24: sum, max, min, three names at once. -/
namespace AM
open PySem PySem.Spec PyProof.Rows L2
theorem pInts_map : ∀ {ds : List Dt} {ns : List Int}, pInts ds = some ns → ds = ns.map PyData.int
  | [], ns, h => by cases h; rfl
  | .int i :: r, ns, h => by
    obtain ⟨ms, e, rfl⟩ := Option.map_eq_some_iff.mp (show (pInts r).map (i :: ·) = some ns from h)
    rw [pInts_map e]
    rfl
  | .none :: _, _, h => by cases h
  | .bool _ :: _, _, h => by cases h
  | .str _ :: _, _, h => by cases h
  | .list _ :: _, _, h => by cases h
  | .tuple _ :: _, _, h => by cases h
  | .dict _ :: _, _, h => by cases h
theorem fold_max : ∀ (r : List Int) (n : Int), (r.foldl max n = n ∨ r.foldl max n ∈ r) ∧ n ≤ r.foldl max n ∧ ∀ y ∈ r, y ≤ r.foldl max n
  | [], n => ⟨.inl rfl, Int.le_refl _, fun _ z => nomatch z⟩
  | m :: r, n => by
    obtain ⟨h1, h2, h3⟩ := fold_max r (max n m)
    rw [List.foldl_cons]
    refine ⟨?_, by omega, fun y hy => ?_⟩
    · rcases h1 with h | h
      · by_cases c : n ≤ m
        · exact .inr (by rw [h, Int.max_eq_right c]; exact List.mem_cons_self)
        · exact .inl (by rw [h, Int.max_eq_left (by omega)])
      · exact .inr (List.mem_cons_of_mem _ h)
    · rcases List.mem_cons.mp hy with rfl | z
      · omega
      · exact h3 y z
theorem fold_min : ∀ (r : List Int) (n : Int), (r.foldl min n = n ∨ r.foldl min n ∈ r) ∧ r.foldl min n ≤ n ∧ ∀ y ∈ r, r.foldl min n ≤ y
  | [], n => ⟨.inl rfl, Int.le_refl _, fun _ z => nomatch z⟩
  | m :: r, n => by
    obtain ⟨h1, h2, h3⟩ := fold_min r (min n m)
    rw [List.foldl_cons]
    refine ⟨?_, by omega, fun y hy => ?_⟩
    · rcases h1 with h | h
      · by_cases c : n ≤ m
        · exact .inl (by rw [h, Int.min_eq_left c])
        · exact .inr (by rw [h, Int.min_eq_right (by omega)]; exact List.mem_cons_self)
      · exact .inr (List.mem_cons_of_mem _ h)
    · rcases List.mem_cons.mp hy with rfl | z
      · omega
      · exact h3 y z
theorem maxI_spec {ns : List Int} {k : Int} (h : maxI ns = some k) : k ∈ ns ∧ ∀ y ∈ ns, y ≤ k := by
  cases ns with
  | nil => cases h
  | cons n r =>
    cases h
    obtain ⟨h1, h2, h3⟩ := fold_max r n
    refine ⟨?_, fun y hy => ?_⟩
    · rcases h1 with h | h
      · rw [h]; exact List.mem_cons_self
      · exact List.mem_cons_of_mem _ h
    · rcases List.mem_cons.mp hy with rfl | z
      · exact h2
      · exact h3 y z
theorem minI_spec {ns : List Int} {k : Int} (h : minI ns = some k) : k ∈ ns ∧ ∀ y ∈ ns, k ≤ y := by
  cases ns with
  | nil => cases h
  | cons n r =>
    cases h
    obtain ⟨h1, h2, h3⟩ := fold_min r n
    refine ⟨?_, fun y hy => ?_⟩
    · rcases h1 with h | h
      · rw [h]; exact List.mem_cons_self
      · exact List.mem_cons_of_mem _ h
    · rcases List.mem_cons.mp hy with rfl | z
      · exact h2
      · exact h3 y z
section
variable {X : Cx}
theorem call_sum_bi (hc : X.calm = true) : CallR X (.builtin "sum") (rBi X.K .sum) := by
  intro pins s σ H xs us Q I r h
  obtain ⟨T, d, o, x, rfl, th, hd, eo, m⟩ := h
  cases d with
  | list ds =>
    obtain ⟨ns, e, rfl⟩ := Option.map_eq_some_iff.mp (show (pInts ds).map (fun ns => Ob.d (.int ns.sum)) = some o from eo)
    obtain rfl := pInts_map e
    obtain ⟨a, vs, rfl, sa, ra⟩ := hd
    obtain rfl := rps_ints ra
    exact cr_sum hc pins s σ H _ us Q I r ⟨a, ns, rfl, th.seq sa, m.pure th rfl⟩
  | _ => cases eo
theorem call_max_bi (hc : X.calm = true) : CallR X (.builtin "max") (rBi X.K .max) := by
  intro pins s σ H xs us Q I r h
  obtain ⟨T, d, o, x, rfl, th, hd, eo, m⟩ := h
  cases d with
  | list ds =>
    obtain ⟨k, e, rfl⟩ := Option.map_eq_some_iff.mp (show ((pInts ds).bind maxI).map (fun n => Ob.d (.int n)) = some o from eo)
    obtain ⟨ns, e1, e2⟩ := Option.bind_eq_some_iff.mp e
    obtain rfl := pInts_map e1
    obtain ⟨a, vs, rfl, sa, ra⟩ := hd
    obtain rfl := rps_ints ra
    obtain ⟨k1, k2⟩ := maxI_spec e2
    refine cr_max hc pins s σ H _ us Q I r ⟨a, ns, rfl, th.seq sa, List.length_pos_of_mem k1, fun z h1 h2 => ?_⟩
    have : z = k := by
      have := h2 k k1
      have := k2 z h1
      omega
    rw [this]
    exact m.pure th rfl
  | _ => cases eo
theorem call_min_bi (hc : X.calm = true) : CallR X (.builtin "min") (rBi X.K .min) := by
  intro pins s σ H xs us Q I r h
  obtain ⟨T, d, o, x, rfl, th, hd, eo, m⟩ := h
  cases d with
  | list ds =>
    obtain ⟨k, e, rfl⟩ := Option.map_eq_some_iff.mp (show ((pInts ds).bind minI).map (fun n => Ob.d (.int n)) = some o from eo)
    obtain ⟨ns, e1, e2⟩ := Option.bind_eq_some_iff.mp e
    obtain rfl := pInts_map e1
    obtain ⟨a, vs, rfl, sa, ra⟩ := hd
    obtain rfl := rps_ints ra
    obtain ⟨k1, k2⟩ := minI_spec e2
    refine cr_min hc pins s σ H _ us Q I r ⟨a, ns, rfl, th.seq sa, List.length_pos_of_mem k1, fun z h1 h2 => ?_⟩
    have : z = k := by
      have := h2 k k1
      have := k2 z h1
      omega
    rw [this]
    exact m.pure th rfl
  | _ => cases eo
end
section
variable {R : Fns} {L : Nat} {fs : List (Nat × Str)} {fr : Frs} {N : List Str} {sc : Bs} {g : Gx} {a b c e tg : Expr} {es : List Expr} {xa xb xc xe : Ex} {pos p1 p2 p3 p4 : Pos} {i j l : Nat} {x y z : Str}
/-- a built-in function of one argument, in a calm place -/
theorem ce_biC {bi : Bi} {id : String} (hc : ∀ X : Cx, X.calm = true → CallR X (.builtin id) (rBi X.K bi)) (ha : CE R fs fr N sc g a (ev R g.pn xa)) (hg : GlS sc x) (hm : x ∈ fr) (hv : bootBuiltins x = some (.builtin id))
    (hn : x ≠ "__name__" := by decide) (hdb : (x == ("__debug__" : Str)) = false := by decide) (he : ∀ env, starEach [a] env = [(false, eval a env)] := by intro _; rfl) : CE R fs fr N sc g (.Call (.Name x p1) [a] [] pos) (ev R g.pn (.bi bi xa)) := fun X A => by
  refine (pe_callB (hc X A.calm) (A.gl hg) (A.free x hm) hv (pa_cons (ha X A).toD pa_nil (he _)) hn hdb (he _) rfl).of fun σ H Q h => ?_
  obtain ⟨T, ρ, F, gd, h⟩ := h
  exact one_arg gd h
theorem ce_sum (ha : CE R fs fr N sc g a (ev R g.pn xa)) (hg : GlS sc "sum") (hm : ("sum" : Str) ∈ fr) (he : ∀ env, starEach [a] env = [(false, eval a env)] := by intro _; rfl) : CE R fs fr N sc g (.Call (.Name "sum" p1) [a] [] pos) (ev R g.pn (.bi .sum xa)) :=
  ce_biC (fun _ h => call_sum_bi h) ha hg hm boot_sum (he := he)
theorem ce_max (ha : CE R fs fr N sc g a (ev R g.pn xa)) (hg : GlS sc "max") (hm : ("max" : Str) ∈ fr) (he : ∀ env, starEach [a] env = [(false, eval a env)] := by intro _; rfl) : CE R fs fr N sc g (.Call (.Name "max" p1) [a] [] pos) (ev R g.pn (.bi .max xa)) :=
  ce_biC (fun _ h => call_max_bi h) ha hg hm boot_max (he := he)
theorem ce_min (ha : CE R fs fr N sc g a (ev R g.pn xa)) (hg : GlS sc "min") (hm : ("min" : Str) ∈ fr) (he : ∀ env, starEach [a] env = [(false, eval a env)] := by intro _; rfl) : CE R fs fr N sc g (.Call (.Name "min" p1) [a] [] pos) (ev R g.pn (.bi .min xa)) :=
  ce_biC (fun _ h => call_min_bi h) ha hg hm boot_min (he := he)
end
end AM
/-! Ev25: max and min of two, three names at once. -/
namespace AM
open PySem PySem.Spec PyProof.Rows L2
section
variable {R : Fns} {L : Nat} {fs : List (Nat × Str)} {fr : Frs} {N : List Str} {sc : Bs} {g : Gx} {a b c e tg : Expr} {es : List Expr} {xa xb xc xe : Ex} {pos p1 p2 p3 p4 : Pos} {i j l : Nat} {x y z : Str}
theorem mx_int {big : Bool} {d e o : Dt} (h : mxD big d e = some o) : ∃ i j : Int, d = .int i ∧ e = .int j ∧ o = .int (if big = true then (if j > i then j else i) else (if j < i then j else i)) := by
  cases d with
  | int i => cases e with
    | int j => cases h; exact ⟨i, j, rfl, rfl, rfl⟩
    | _ => cases h
  | _ => cases h
/-- two arguments as plain data, then a call -/
theorem two_args {X : Cx} {big : Bool} {σ : L2.St} {H : Hp} {Q : VK} {r : List V → Hp → VK → Prop} {T : Hp} {ρ : Env} {F : Foot} (gd : Gd (g.at X.K) T H σ ρ F) (h : Out (g.at X.K) T H F (ev R g.pn (.mx big xa xb) ρ) (After (g.at X.K) σ T H F Q))
    (k : ∀ (i j : Int) H2, Q (.int (if big = true then (if j > i then j else i) else (if j < i then j else i))) H2 → r [.int i, .int j] H2 Q) :
    tCons (rdD (g.at X.K) fun ρ => (ev R g.pn xa ρ).toD) (tCons (rdD (g.at X.K) fun ρ => (ev R g.pn xb ρ).toD) tNil) σ H fun vs H1 => r vs H1 Q := by
  rw [ev] at h
  have h := h.bind.imp fun p hp => hp.bind
  refine two (k := fun d1 d2 ρ2 => Out (g.at X.K) T H F ((Res.of (mxD big d1 d2)).bind fun d => .ok (Ob.d d, ρ2)) (After (g.at X.K) σ T H F Q)) gd h fun d1 d2 ρ2 T2 H2 F2 v1 v2 g2 r1 r2 s hk => ?_
  obtain ⟨o, eo, hk⟩ := hk.ofb
  obtain ⟨i, j, rfl, rfl, rfl⟩ := mx_int eo
  obtain rfl : v1 = .int i := r1
  obtain rfl : v2 = .int j := r2
  exact k i j H2 ((After.mk hk g2 s).pure g2.same rfl)
theorem ce_max2 (ha : CE R fs fr N sc g a (ev R g.pn xa)) (hb : CE R fs fr N sc g b (ev R g.pn xb)) (hg : GlS sc "max") (hm : ("max" : Str) ∈ fr) (he : ∀ env es, starEach (a :: es) env = (false, eval a env) :: starEach es env := by intro _ _; rfl) (he2 : ∀ env, starEach [b] env = [(false, eval b env)] := by intro _; rfl) :
    CE R fs fr N sc g (.Call (.Name "max" p1) [a, b] [] pos) (ev R g.pn (.mx true xa xb)) := fun X A => by
  refine (pe_callB (call_max2 A.calm) (A.gl hg) (A.free _ hm) boot_max (pa_cons (ha X A).toD (pa_cons (hb X A).toD pa_nil (he2 _)) (he _ _)) (by decide) (by decide) (he _ _) (by rw [he2]; rfl)).of fun σ H Q h => ?_
  obtain ⟨T, ρ, F, gd, h⟩ := h
  exact two_args (r := fun xs H Q => ∃ i j, xs = [.int i, .int j] ∧ Q (.int (if j > i then j else i)) H) gd h fun i j H2 q => ⟨i, j, rfl, q⟩
theorem ce_min2 (ha : CE R fs fr N sc g a (ev R g.pn xa)) (hb : CE R fs fr N sc g b (ev R g.pn xb)) (hg : GlS sc "min") (hm : ("min" : Str) ∈ fr) (he : ∀ env es, starEach (a :: es) env = (false, eval a env) :: starEach es env := by intro _ _; rfl) (he2 : ∀ env, starEach [b] env = [(false, eval b env)] := by intro _; rfl) :
    CE R fs fr N sc g (.Call (.Name "min" p1) [a, b] [] pos) (ev R g.pn (.mx false xa xb)) := fun X A => by
  refine (pe_callB (call_min2 A.calm) (A.gl hg) (A.free _ hm) boot_min (pa_cons (ha X A).toD (pa_cons (hb X A).toD pa_nil (he2 _)) (he _ _)) (by decide) (by decide) (he _ _) (by rw [he2]; rfl)).of fun σ H Q h => ?_
  obtain ⟨T, ρ, F, gd, h⟩ := h
  exact two_args (r := fun xs H Q => ∃ i j, xs = [.int i, .int j] ∧ Q (.int (if j < i then j else i)) H) gd h fun i j H2 q => ⟨i, j, rfl, q⟩
/-- three plain local names -/
theorem cx_par3 {k k2 : Nat} (hc : N[i]? = some x) (hd : N[j]? = some y) (hf : N[l]? = some z) (hij : i ≠ j) (hil : i ≠ l) (hjl : j ≠ l) (hx : sc.sc.names.lookup x = some .local) (hy : sc.sc.names.lookup y = some .local) (hz : sc.sc.names.lookup z = some .local)
    (he : COs R fs fr N sc g [a, b, c] (.cons xa (.cons xb (.cons xc .nil))))
    (hw : ∀ env : PySem.Env, env.scope = sc.sc → swappedStores [.Tuple [.Name x p1, .Name y p2, .Name z p4] k p3] (.Tuple [a, b, c] k2 pos) env = pure (some [x, y, z]))
    (hs : ∀ env l, swapsWithSole [.Tuple [.Name x p1, .Name y p2, .Name z p4] k p3] (.Tuple [a, b, c] k2 pos) l env = pure false := by intro _ _; rfl) {spos : Pos} :
    CX_ R L fs fr N sc g (.Assign [.Tuple [.Name x p1, .Name y p2, .Name z p4] k p3] (.Tuple [a, b, c] k2 pos) spos) (.par [i, j, l] (.cons xa (.cons xb (.cons xc .nil)))) := fun X A => by
  refine (ps_par3 A.calm A.nd (by rw [A.hN]; exact hc) (by rw [A.hN]; exact hd) (by rw [A.hN]; exact hf) hij hil hjl (by rw [A.hsc]; exact hx) (by rw [A.hsc]; exact hy) (by rw [A.hsc]; exact hz) (he X A) (hw _ A.hsc) (hs _ _)).of fun D σ H h => ?_
  obtain ⟨T, ρ, F, gd, h⟩ := h
  rw [ex] at h
  refine ⟨T, ρ, F, gd, h.bind.imp fun p hp => ?_⟩
  obtain ⟨os, ρ1⟩ := p
  intro T1 H1 F1 vs f g1 t1 s1
  have hp : Out (g.at X.K) T H F (if [i, j, l].Nodup then toNx (stAll g.pn [i, j, l] os ρ1) else .bad) (AftF (g.at X.K) T H F D) := hp
  rw [if_pos (by simp [hij, hil, hjl])] at hp
  obtain ⟨ρ2, e2, hp⟩ := toNx_out hp
  match os, e2 with
  | [], e2 => cases e2
  | [_], e2 => obtain ⟨ρ3, e3, e4⟩ := Option.bind_eq_some_iff.mp (show (st g.pn i _ ρ1).bind (stAll g.pn [j, l] []) = some ρ2 from e2); cases e4
  | [_, _], e2 =>
    obtain ⟨ρ3, e3, e4⟩ := Option.bind_eq_some_iff.mp (show (st g.pn i _ ρ1).bind (stAll g.pn [j, l] _) = some ρ2 from e2)
    obtain ⟨ρ4, e5, e6⟩ := Option.bind_eq_some_iff.mp (show (st g.pn j _ _).bind (stAll g.pn [l] []) = some ρ2 from e4)
    cases e6
  | o :: o' :: o'' :: os, e2 =>
    obtain ⟨ρ3, e3, e4⟩ := Option.bind_eq_some_iff.mp (show (st g.pn i o ρ1).bind (stAll g.pn [j, l] (o' :: o'' :: os)) = some ρ2 from e2)
    obtain ⟨h1, h2, rfl⟩ := st_some e3
    obtain ⟨ρ4, e5, e6⟩ := Option.bind_eq_some_iff.mp (show (st g.pn j o' _).bind (stAll g.pn [l] (o'' :: os)) = some ρ2 from e4)
    obtain ⟨h3, h4, rfl⟩ := st_some e5
    obtain ⟨ρ5, e7, e8⟩ := Option.bind_eq_some_iff.mp (show (st g.pn l o'' _).bind (stAll g.pn [] os) = some ρ2 from e6)
    obtain ⟨h5, h6, rfl⟩ := st_some e7
    cases os with
    | cons _ _ => cases e8
    | nil =>
      cases e8
      obtain ⟨v, us, g', f2, rfl, ef, q1, q2, ap⟩ := t1.uncons
      obtain ⟨w, us', g'', f3, rfl, ef', q3, q4, ap'⟩ := q2.uncons
      obtain ⟨u, us'', g''', f4, rfl, ef'', q5, q6, ap''⟩ := q4.uncons
      obtain ⟨rfl, rfl⟩ := q6.ros
      rw [List.append_nil] at ef''
      subst ef''
      subst ef'
      have s1' := g1.store q1 h2 (not_pin (g := g) h1)
      have s2' := s1'.store (i := j) (o := o') (v := w) (f := g'') ⟨q3.ro, q3.nd, q3.tn, fun a ha z => ?_⟩ h4 (not_pin (g := g) h3)
      have s3' := s2'.store (i := l) (o := o'') (v := u) (f := f3) ⟨q5.ro, q5.nd, q5.tn, fun a ha z => ?_⟩ h6 (not_pin (g := g) h5)
      · refine ⟨v, w, u, rfl, hp T1 H1 _ _ s3' (s1.post fun a ha => ?_)⟩
        rw [ef]
        rcases in_upF ha with z | z
        · rcases in_upF z with z | z
          · exact (in_upF z).imp id fun z => List.mem_append_left _ z
          · exact .inr (List.mem_append_right _ (List.mem_append_left _ z))
        · exact .inr (List.mem_append_right _ (List.mem_append_right _ z))
      · rcases in_upF z with z | z
        · rcases in_upF z with z | z
          · exact q5.off a ha z
          · exact ap a z (List.mem_append_right _ ha)
        · exact ap' a z ha
      · rcases in_upF z with z | z
        · exact q3.off a ha z
        · exact ap a z (List.mem_append_left _ ha)
end
end AM
/-! Ev26: the top's plain data, as the printed proofs show it. -/
namespace AM
open PySem PySem.Spec PyProof.Rows L2
section
variable {K : PySem.W.Frag}
theorem tops_int {n : Int} {t : Tok} : Tops K (.int n) (.int n t) := ⟨.int n, ⟨t, rfl⟩, fun _ => rfl⟩
theorem tops_str {z : Str} {t : Tok} : Tops K (.str z) (.str z t) := ⟨.str z, ⟨t, rfl⟩, fun _ => rfl⟩
theorem tops_bool {b : Bool} : Tops K (.bool b) (.bool b) := ⟨.bl b, rfl, fun _ => rfl⟩
theorem tops_none : Tops K .none .none := ⟨.non, rfl, fun _ => rfl⟩
def TopsL (K : PySem.W.Frag) (ds : List Dt) (us : List Value) : Prop := ∃ vs, Vals vs us ∧ ∀ T : Hp, Rps K T ds vs
theorem topsL_nil : TopsL K [] [] := ⟨[], .nil, fun _ => rfl⟩
theorem topsL_cons {d : Dt} {u : Value} {ds : List Dt} {us : List Value} (h : Tops K d u) (t : TopsL K ds us) : TopsL K (d :: ds) (u :: us) := by
  obtain ⟨v, r, k⟩ := h
  obtain ⟨vs, rs, ks⟩ := t
  exact ⟨v :: vs, .cons r rs, fun T => ⟨v, vs, rfl, k T, ks T⟩⟩
theorem tops_tup {a : Addr} {od : Option Addr} {us : List Value} {ds : List Dt} {n : Nat} {sl : Array (Option Value)} (l : K.lookup a = some ⟨.type "tuple", od, .seq us.toArray n, sl⟩) (hl : us.length ≤ 100) (h : TopsL K ds us) : Tops K (.tuple ds) (.ref a) := by
  obtain ⟨vs, rs, ks⟩ := h
  exact ⟨.ref a, rfl, fun T => ⟨a, vs, rfl, .inr ⟨_, us.toArray, n, l, rfl, rfl, by rw [List.size_toArray, sizeLine_eq]; omega, by simpa using rs⟩, ks T⟩⟩
end
end AM
/-! Sm0: what terms come to, by rewriting. -/
namespace AM
open PySem PySem.Spec PyProof.Rows L2
variable {α β : Type}
@[simp] theorem bind_ok' (a : α) (k : α → Res β) : (Res.ok a).bind k = k a := id rfl
@[simp] theorem bind_bad (k : α → Res β) : (Res.bad : Res α).bind k = .bad := id rfl
@[simp] theorem of_some' (a : α) : Res.of (some a) = .ok a := id rfl
@[simp] theorem of_none' : Res.of (none : Option α) = .bad := id rfl
@[simp] theorem toD_d (x : Dt) (ρ : Env) : (Res.ok (Ob.d x, ρ)).toD = .ok (x, ρ) := id rfl
@[simp] theorem toB_b (b : Bool) (ρ : Env) : (Res.ok (Ob.d (.bool b), ρ)).toB = .ok (b, ρ) := id rfl
theorem toD_ok (o : Ob) (ρ : Env) : (Res.ok (o, ρ)).toD = (Res.of (frz o)).bind fun d => .ok (d, ρ) := id rfl
@[simp] theorem toD_ls (xs : List Dt) (ρ : Env) : (Res.ok (Ob.ls xs, ρ)).toD = .ok (.list xs, ρ) := by
  rw [toD_ok, show frz (Ob.ls xs) = some (.list xs) from by unfold Ob.ls; show (frzs (xs.map Ob.d)).map _ = _; rw [frzs_plain]; rfl]
  rfl
@[simp] theorem toD_lst_nil (ρ : Env) : (Res.ok (Ob.lst [], ρ)).toD = .ok (.list [], ρ) := id rfl
@[simp] theorem get0 (o : Ob) (ρ : Env) : get (some o :: ρ) 0 = some o := id rfl
@[simp] theorem getN (ρ : Env) : get (none :: ρ) 0 = none := id rfl
@[simp] theorem getS (a : Option Ob) (ρ : Env) (i : Nat) : get (a :: ρ) (i + 1) = get ρ i := id rfl
@[simp] theorem use0 (x : Dt) (ρ : Env) : use (some (.d x) :: ρ) 0 = some (x, some (.d x) :: ρ) := id rfl
@[simp] theorem cmp_le (i j : Int) : cmpD .le (.int i) (.int j) = some (decide (i ≤ j)) := id rfl
@[simp] theorem cmp_lt (i j : Int) : cmpD .lt (.int i) (.int j) = some (decide (i < j)) := id rfl
@[simp] theorem cmp_ge (i j : Int) : cmpD .ge (.int i) (.int j) = some (decide (j ≤ i)) := id rfl
@[simp] theorem cmp_gt (i j : Int) : cmpD .gt (.int i) (.int j) = some (decide (j < i)) := id rfl
@[simp] theorem cmp_eq (i j : Int) : cmpD .eq (.int i) (.int j) = some (i == j) := id rfl
@[simp] theorem cmp_ne (i j : Int) : cmpD .ne (.int i) (.int j) = some (!(i == j)) := id rfl
/-- |i| < 2^64 -/
def Sm64 (i : Int) : Prop := -(2 ^ 64) < i ∧ i < 2 ^ 64
@[simp] theorem bin_add (i j : Int) : binD .add (.int i) (.int j) = some (.d (.int (i + j))) := id rfl
@[simp] theorem bin_sub (i j : Int) : binD .sub (.int i) (.int j) = some (.d (.int (i - j))) := id rfl
theorem bin_mulL {i j : Int} (h : Sm64 i) : binD .mul (.int i) (.int j) = some (.d (.int (i * j))) := if_pos (.inl h)
theorem bin_mulR {i j : Int} (h : Sm64 j) : binD .mul (.int i) (.int j) = some (.d (.int (i * j))) := if_pos (.inr h)
theorem bin_mod {i j : Int} (h : 0 < j) : binD .mod (.int i) (.int j) = some (.d (.int (i % j))) := by
  rw [← Int.fmod_eq_emod_of_nonneg i (Int.le_of_lt h)]
  exact if_pos (Int.ne_of_gt h)
theorem bin_fdiv {i j : Int} (h : 0 < j) (h2 : j < 1073741824) : binD .fdiv (.int i) (.int j) = some (.d (.int (i / j))) := by
  rw [← Int.fdiv_eq_ediv_of_nonneg i (Int.le_of_lt h)]
  exact if_pos ⟨Int.ne_of_gt h, by omega⟩
theorem bin_shl {i j : Int} (h : 0 ≤ j ∧ j ≤ 1000000 ∧ i.natAbs < 2 ^ 64) : binD .shl (.int i) (.int j) = some (.d (.int (i * 2 ^ j.toNat))) := if_pos h
@[simp] theorem bin_band (i j : Int) : binD .band (.int i) (.int j) = some (.d (.int (Builtin.bitAnd i j))) := id rfl
@[simp] theorem bin_bor (i j : Int) : binD .bor (.int i) (.int j) = some (.d (.int (Builtin.bitOr i j))) := id rfl
theorem bin_addT {xs ys : List Dt} (h : xs.length + ys.length ≤ sizeLine) : binD .add (.tuple xs) (.tuple ys) = some (.d (.tuple (xs ++ ys))) := if_pos h
theorem bin_addL {xs ys : List Dt} (h : xs.length + ys.length ≤ sizeLine) : binD .add (.list xs) (.list ys) = some (Ob.ls (xs ++ ys)) := if_pos h
@[simp] theorem bi_int (i : Int) : biD .int (.int i) = some (.d (.int i)) := id rfl
@[simp] theorem bi_len_l (xs : List Dt) : biD .len (.list xs) = some (.d (.int xs.length)) := id rfl
@[simp] theorem bi_len_t (xs : List Dt) : biD .len (.tuple xs) = some (.d (.int xs.length)) := id rfl
@[simp] theorem bi_tuple_l (xs : List Dt) : biD .tuple (.list xs) = some (.d (.tuple xs)) := id rfl
@[simp] theorem bi_tuple_t (xs : List Dt) : biD .tuple (.tuple xs) = some (.d (.tuple xs)) := id rfl
@[simp] theorem bi_list_l (xs : List Dt) : biD .list (.list xs) = some (Ob.ls xs) := id rfl
@[simp] theorem toNx_some (ρ : Env) : toNx (some ρ) = .ok (.nx ρ) := id rfl
section
variable {R : Fns} {L : Nat} {pn : List Nat} {ρ : Env}
@[simp] theorem ev_var_1 (i : Nat) : ev R pn (.var i) ρ = (Res.of (use ρ i)).bind fun p => .ok (.d p.1, p.2) := by first | (rw [ev]; done) | (rw [ev]; rfl)
@[simp] theorem ev_cst_2 (d : Dt) : ev R pn (.cst d) ρ = .ok (.d d, ρ) := by first | (rw [ev]; done) | (rw [ev]; rfl)
@[simp] theorem ev_tup_3 (es : Exs) : ev R pn (.tup es) ρ = (evD R pn es ρ).bind fun p => if p.1.length ≤ sizeLine then .ok (.d (.tuple p.1), p.2) else .bad := by first | (rw [ev]; done) | (rw [ev]; rfl)
@[simp] theorem ev_lst_4 (es : Exs) : ev R pn (.lst es) ρ = (evs R pn es ρ).bind fun p => if p.1.length ≤ sizeLine then .ok (.lst p.1, p.2) else .bad := by first | (rw [ev]; done) | (rw [ev]; rfl)
@[simp] theorem ev_dct_5 (ks : List Key) (es : Exs) : ev R pn (.dct ks es) ρ = (evs R pn es ρ).bind fun p => if p.1.length = ks.length ∧ ks.length ≤ 15 ∧ ks.Nodup then .ok (.dct ks p.1, p.2) else .bad := by first | (rw [ev]; done) | (rw [ev]; rfl)
@[simp] theorem ev_bin_6 (op : Bop) (a b : Ex) : ev R pn (.bin op a b) ρ = (ev R pn a ρ).toD.bind fun p => (ev R pn b p.2).toD.bind fun q => (Res.of (binD op p.1 q.1)).bind fun o => .ok (o, q.2) := by first | (rw [ev]; done) | (rw [ev]; rfl)
@[simp] theorem ev_rep_7 (a b : Ex) : ev R pn (.rep a b) ρ = (ev R pn a ρ).bind fun p => (ev R pn b p.2).toD.bind fun q => match p.1, q.1 with
    | .lst os, .int k => (Res.of (plains os)).bind fun ds => if -(2 ^ 63) ≤ k ∧ k < 2 ^ 63 ∧ ds.length * k.toNat ≤ sizeLine then .ok (Ob.ls (List.replicate k.toNat ds).flatten, q.2) else .bad
    | _, _ => .bad := by first | (rw [ev]; done) | (rw [ev]; rfl)
@[simp] theorem ev_catp_8 (i : Nat) (b : Ex) : ev R pn (.catp i b) ρ = (Res.of (peek ρ i)).bind fun _ => (ev R pn b ρ).toD.bind fun q => (Res.of (peek q.2 i)).bind fun x => (Res.of (binD .add x q.1)).bind fun o => .ok (o, q.2) := by first | (rw [ev]; done) | (rw [ev]; rfl)
@[simp] theorem ev_neg_9 (a : Ex) : ev R pn (.neg a) ρ = (ev R pn a ρ).toD.bind fun p => match p.1 with
    | .int i => .ok (.d (.int (-i)), p.2)
    | _ => .bad := by first | (rw [ev]; done) | (rw [ev]; rfl)
@[simp] theorem ev_not_10 (a : Ex) : ev R pn (.not a) ρ = (ev R pn a ρ).toB.bind fun p => .ok (.d (.bool (!p.1)), p.2) := by first | (rw [ev]; done) | (rw [ev]; rfl)
@[simp] theorem ev_cmp_11 (op : Cop) (a b : Ex) : ev R pn (.cmp op a b) ρ = (ev R pn a ρ).toD.bind fun p => (ev R pn b p.2).toD.bind fun q => (Res.of (cmpD op p.1 q.1)).bind fun k => .ok (.d (.bool k), q.2) := by first | (rw [ev]; done) | (rw [ev]; rfl)
@[simp] theorem ev_cmp2_12 (op1 op2 : Cop) (a b c : Ex) : ev R pn (.cmp2 op1 op2 a b c) ρ = (ev R pn a ρ).toD.bind fun p => (ev R pn b p.2).toD.bind fun q => (Res.of (cmpD op1 p.1 q.1)).bind fun k => if k = true then
      (ev R pn c q.2).toD.bind fun r => (Res.of (cmpD op2 q.1 r.1)).bind fun m => .ok (.d (.bool m), r.2) else .ok (.d (.bool false), q.2) := by first | (rw [ev]; done) | (rw [ev]; rfl)
@[simp] theorem ev_and_13 (a b : Ex) : ev R pn (.and a b) ρ = (ev R pn a ρ).toB.bind fun p => if p.1 = true then ev R pn b p.2 else .ok (.d (.bool false), p.2) := by first | (rw [ev]; done) | (rw [ev]; rfl)
@[simp] theorem ev_or_14 (a b : Ex) : ev R pn (.or a b) ρ = (ev R pn a ρ).toB.bind fun p => if p.1 = true then .ok (.d (.bool true), p.2) else ev R pn b p.2 := by first | (rw [ev]; done) | (rw [ev]; rfl)
@[simp] theorem ev_ife_15 (c a b : Ex) : ev R pn (.ife c a b) ρ = (ev R pn c ρ).toB.bind fun p => if p.1 = true then ev R pn a p.2 else ev R pn b p.2 := by first | (rw [ev]; done) | (rw [ev]; rfl)
@[simp] theorem ev_call_16 (f : Nat) (es : Exs) : ev R pn (.call f es) ρ = (evA R pn es ρ).bind fun p => if (ioOf p.1).Nodup then (Res.of (fill p.2 p.1)).bind fun os => (R.run f os).bind fun r =>
      (Res.of (putBack r.2 0 p.1 p.2)).bind fun ρ2 => .ok (r.1, ρ2) else .bad := by first | (rw [ev]; done) | (rw [ev]; rfl)
@[simp] theorem ev_bi_17 (b : Bi) (a : Ex) : ev R pn (.bi b a) ρ = (ev R pn a ρ).toD.bind fun p => (Res.of (biD b p.1)).bind fun o => .ok (o, p.2) := by first | (rw [ev]; done) | (rw [ev]; rfl)
@[simp] theorem ev_lenp_18 (i : Nat) : ev R pn (.lenp i) ρ = (Res.of (get ρ i)).bind fun o => match o with
    | .d x => (Res.of (lenD x)).bind fun n => .ok (.d (.int n), ρ)
    | .lst os => .ok (.d (.int os.length), ρ)
    | _ => .bad := by first | (rw [ev]; done) | (rw [ev]; rfl)
@[simp] theorem ev_isi_19 (t : Ty) (a : Ex) : ev R pn (.isi t a) ρ = (ev R pn a ρ).toD.bind fun p => .ok (.d (.bool (isiD t p.1)), p.2) := by first | (rw [ev]; done) | (rw [ev]; rfl)
@[simp] theorem ev_item_20 (i : Nat) (e : Ex) : ev R pn (.item i e) ρ = (Res.of (get ρ i)).bind fun _ => (ev R pn e ρ).toD.bind fun p => (Res.of ((get p.2 i).bind fun o => itemO o p.1)).bind fun o => match o with
    | .d x => .ok (.d x, p.2)
    | _ => .bad := by first | (rw [ev]; done) | (rw [ev]; rfl)
@[simp] theorem ev_item2_21 (i : Nat) (e1 e2 : Ex) : ev R pn (.item2 i e1 e2) ρ = (Res.of (smp ρ e1)).bind fun k1 => (Res.of (smp ρ e2)).bind fun k2 => (Res.of ((get ρ i).bind fun o => (itemO o k1).bind fun o => itemO o k2)).bind fun o => match o with
    | .d x => .ok (.d x, ρ)
    | _ => .bad := by first | (rw [ev]; done) | (rw [ev]; rfl)
@[simp] theorem ev_sub_22 (a e : Ex) : ev R pn (.sub a e) ρ = (ev R pn a ρ).toD.bind fun p => (ev R pn e p.2).toD.bind fun q => (Res.of (subD p.1 q.1)).bind fun x => .ok (.d x, q.2) := by first | (rw [ev]; done) | (rw [ev]; rfl)
@[simp] theorem ev_slc_23 (a : Ex) (lo hi : Oe) : ev R pn (.slc a lo hi) ρ = (ev R pn a ρ).toD.bind fun p => (evO R pn lo p.2).bind fun q => (evO R pn hi q.2).bind fun r => (Res.of (slcD p.1 q.1 r.1)).bind fun o => .ok (o, r.2) := by first | (rw [ev]; done) | (rw [ev]; rfl)
@[simp] theorem ev_pop_24 (i : Nat) : ev R pn (.pop i) ρ = (Res.of (get ρ i)).bind fun o => match o with
    | .lst os => match os.getLast? with
      | some u => .ok (u, ρ.set i (some (.lst os.dropLast)))
      | none => .bad
    | _ => .bad := by first | (rw [ev]; done) | (rw [ev]; rfl)
@[simp] theorem evs_nil_25  : evs R pn (.nil) ρ = .ok ([], ρ) := by first | (rw [evs]; done) | (rw [evs]; rfl)
@[simp] theorem evs_cons_26 (e : Ex) (es : Exs) : evs R pn (.cons e es) ρ = (ev R pn e ρ).bind fun p => (evs R pn es p.2).bind fun q => .ok (p.1 :: q.1, q.2) := by first | (rw [evs]; done) | (rw [evs]; rfl)
@[simp] theorem evD_nil_27  : evD R pn (.nil) ρ = .ok ([], ρ) := by first | (rw [evD]; done) | (rw [evD]; rfl)
@[simp] theorem evD_cons_28 (e : Ex) (es : Exs) : evD R pn (.cons e es) ρ = (ev R pn e ρ).toD.bind fun p => (evD R pn es p.2).bind fun q => .ok (p.1 :: q.1, q.2) := by first | (rw [evD]; done) | (rw [evD]; rfl)
@[simp] theorem evO_none_29  : evO R pn (.none) ρ = .ok (none, ρ) := by first | (rw [evO]; done) | (rw [evO]; rfl)
@[simp] theorem evO_some_30 (e : Ex) : evO R pn (.some e) ρ = (ev R pn e ρ).toD.bind fun p => match p.1 with
    | .int i => .ok (some i, p.2)
    | _ => .bad := by first | (rw [evO]; done) | (rw [evO]; rfl)
@[simp] theorem evI_seq_31 (e : Ex) : evI R pn (.seq e) ρ = (ev R pn e ρ).toD.bind fun p => (Res.of (seqOf p.1)).bind fun ds => .ok (ds, p.2) := by first | (rw [evI]; done) | (rw [evI]; rfl)
@[simp] theorem evI_rng_32 (a : Ex) : evI R pn (.rng a) ρ = wInt (ev R pn a ρ).toD fun j ρ1 => if rngOk j = true then .ok (rngD 0 j.toNat, ρ1) else .bad := by first | (rw [evI]; done) | (rw [evI]; rfl)
@[simp] theorem evI_rng2_33 (a b : Ex) : evI R pn (.rng2 a b) ρ = wInt (ev R pn a ρ).toD fun i ρ1 => wInt (ev R pn b ρ1).toD fun j ρ2 => if rngOk i = true ∧ rngOk j = true then .ok (rngD i (j - i).toNat, ρ2) else .bad := by first | (rw [evI]; done) | (rw [evI]; rfl)
@[simp] theorem evI_zip_34 (a b : Ex) : evI R pn (.zip a b) ρ = (ev R pn a ρ).toD.bind fun p => (ev R pn b p.2).toD.bind fun q => match p.1, q.1 with
    | .list xs, .list ys => .ok ((xs.zip ys).map fun z => .tuple [z.1, z.2], q.2)
    | .tuple xs, .tuple ys => .ok ((xs.zip ys).map fun z => .tuple [z.1, z.2], q.2)
    | _, _ => .bad := by first | (rw [evI]; done) | (rw [evI]; rfl)
@[simp] theorem ex_asg_35 (i : Nat) (e : Ex) : ex R L pn (.asg i e) ρ = (ev R pn e ρ).bind fun p => toNx (st pn i p.1 p.2) := by first | (rw [ex]; done) | (rw [ex]; rfl)
@[simp] theorem ex_asgT_36 (ts : Tgs) (e : Ex) : ex R L pn (.asgT ts e) ρ = (ev R pn e ρ).toD.bind fun p => toNx (bindT pn (.tup ts) p.1 p.2) := by first | (rw [ex]; done) | (rw [ex]; rfl)
@[simp] theorem ex_par_37 (is : List Nat) (es : Exs) : ex R L pn (.par is es) ρ = (evs R pn es ρ).bind fun p => if is.Nodup then toNx (stAll pn is p.1 p.2) else .bad := by first | (rw [ex]; done) | (rw [ex]; rfl)
@[simp] theorem ex_aug_38 (i : Nat) (op : Bop) (e : Ex) : ex R L pn (.aug i op e) ρ = (Res.of (get ρ i)).bind fun o => match o with
    | .d (.int x) => (ev R pn e ρ).toD.bind fun p => (Res.of (binD op (.int x) p.1)).bind fun u => match u with
      | .d (.int y) => toNx (st pn i (.d (.int y)) p.2)
      | _ => .bad
    | _ => .bad := by first | (rw [ex]; done) | (rw [ex]; rfl)
@[simp] theorem ex_setI_39 (i : Nat) (e1 e2 : Ex) : ex R L pn (.setI i e1 e2) ρ = (ev R pn e2 ρ).bind fun p => (Res.of (get p.2 i)).bind fun _ => (ev R pn e1 p.2).toD.bind fun q => (Res.of ((get q.2 i).bind fun o => setO o q.1 p.1)).bind fun o => .ok (.nx (q.2.set i (some o))) := by first | (rw [ex]; done) | (rw [ex]; rfl)
@[simp] theorem ex_set2_40 (i : Nat) (e0 e1 e2 : Ex) : ex R L pn (.set2 i e0 e1 e2) ρ = (ev R pn e2 ρ).bind fun p => (Res.of (smp p.2 e0)).bind fun k0 => (Res.of (smp p.2 e1)).bind fun k1 =>
      (Res.of ((get p.2 i).bind fun o => (itemO o k0).bind fun o1 => (setO o1 k1 p.1).bind fun o2 => setO o k0 o2)).bind fun o => .ok (.nx (p.2.set i (some o))) := by first | (rw [ex]; done) | (rw [ex]; rfl)
@[simp] theorem ex_augI_41 (i : Nat) (e1 : Ex) (op : Bop) (e2 : Ex) : ex R L pn (.augI i e1 op e2) ρ = (Res.of (smp ρ e1)).bind fun k => (Res.of (smp ρ e2)).bind fun y => (Res.of ((get ρ i).bind fun o => (itemO o k).bind fun o1 => match o1 with
      | .d x => (binD op x y).bind fun u => match x, u with
        | .int _, .d (.int z) => setO o k (.d (.int z))
        | _, _ => none
      | _ => none)).bind fun o => .ok (.nx (ρ.set i (some o))) := by first | (rw [ex]; done) | (rw [ex]; rfl)
@[simp] theorem ex_aug2_42 (i : Nat) (e0 e1 : Ex) (op : Bop) (e2 : Ex) : ex R L pn (.aug2 i e0 e1 op e2) ρ = (Res.of (smp ρ e0)).bind fun k0 => (Res.of (smp ρ e1)).bind fun k1 => (Res.of (smp ρ e2)).bind fun y =>
      (Res.of ((get ρ i).bind fun o => (itemO o k0).bind fun o0 => (itemO o0 k1).bind fun o1 => match o1 with
      | .d x => (binD op x y).bind fun u => match x, u with
        | .int _, .d (.int z) => (setO o0 k1 (.d (.int z))).bind fun o2 => setO o k0 o2
        | _, _ => none
      | _ => none)).bind fun o => .ok (.nx (ρ.set i (some o))) := by first | (rw [ex]; done) | (rw [ex]; rfl)
@[simp] theorem ex_app_43 (i : Nat) (e : Ex) : ex R L pn (.app i e) ρ = (Res.of (get ρ i)).bind fun o => match o with
    | .lst _ => (ev R pn e ρ).bind fun p => (Res.of (get p.2 i)).bind fun u => match u with
      | .lst os => if os.length < sizeLine then .ok (.nx (p.2.set i (some (.lst (os ++ [p.1]))))) else .bad
      | _ => .bad
    | _ => .bad := by first | (rw [ex]; done) | (rw [ex]; rfl)
@[simp] theorem ex_ext_44 (i : Nat) (e : Ex) : ex R L pn (.ext i e) ρ = (Res.of (get ρ i)).bind fun o => match o with
    | .lst _ => (ev R pn e ρ).bind fun p => (Res.of (get p.2 i)).bind fun u => match u, p.1 with
      | .lst os, .lst xs => if os.length + xs.length ≤ sizeLine then .ok (.nx (p.2.set i (some (.lst (os ++ xs))))) else .bad
      | _, _ => .bad
    | _ => .bad := by first | (rw [ex]; done) | (rw [ex]; rfl)
@[simp] theorem ex_expr_45 (e : Ex) : ex R L pn (.expr e) ρ = (ev R pn e ρ).bind fun p => .ok (.nx p.2) := by first | (rw [ex]; done) | (rw [ex]; rfl)
@[simp] theorem ex_ret_46 (e : Ex) : ex R L pn (.ret e) ρ = (ev R pn e ρ).bind fun p => .ok (.rt p.1 p.2) := by first | (rw [ex]; done) | (rw [ex]; rfl)
@[simp] theorem ex_ife_47 (c : Ex) (a b : Sms) : ex R L pn (.ife c a b) ρ = (ev R pn c ρ).toB.bind fun p => if p.1 = true then exs R L pn a p.2 else exs R L pn b p.2 := by first | (rw [ex]; done) | (rw [ex]; rfl)
@[simp] theorem ex_brk_48  : ex R L pn (.brk) ρ = .ok (.bk ρ) := by first | (rw [ex]; done) | (rw [ex]; rfl)
@[simp] theorem ex_cont_49  : ex R L pn (.cont) ρ = .ok (.ct ρ) := by first | (rw [ex]; done) | (rw [ex]; rfl)
@[simp] theorem ex_pass_50  : ex R L pn (.pass) ρ = .ok (.nx ρ) := by first | (rw [ex]; done) | (rw [ex]; rfl)
@[simp] theorem ex_raise_51 (c : Nat) (es : Exs) : ex R L pn (.raise c es) ρ = (evD R pn es ρ).bind fun p => .exc c p.1 := by first | (rw [ex]; done) | (rw [ex]; rfl)
@[simp] theorem exs_nil_52  : exs R L pn (.nil) ρ = .ok (.nx ρ) := by first | (rw [exs]; done) | (rw [exs]; rfl)
@[simp] theorem exs_cons_53 (s : Sm) (r : Sms) : exs R L pn (.cons s r) ρ = (ex R L pn s ρ).bind fun f => match f with
    | .nx ρ1 => exs R L pn r ρ1
    | f => .ok f := by first | (rw [exs]; done) | (rw [exs]; rfl)
@[simp] theorem evC_nil_ : evC R pn .nil ρ = .ok (true, ρ) := by rw [evC]
@[simp] theorem evC_one_ (e : Ex) : evC R pn (.cons e .nil) ρ = (ev R pn e ρ).toB := by rw [evC]
@[simp] theorem evA_nil_ : evA R pn .nil ρ = .ok ([], ρ) := by rw [evA]
@[simp] theorem evA_io_ (i : Nat) (es : Exs) : evA R pn (.cons (.io i) es) ρ = (Res.of (get ρ i)).bind fun _ => (evA R pn es ρ).bind fun q => .ok (.io i :: q.1, q.2) := by rw [evA]
@[simp] theorem evA_var_ (i : Nat) (es : Exs) : evA R pn (.cons (.var i) es) ρ = (ev R pn (.var i) ρ).toD.bind fun p => (evA R pn es p.2).bind fun q => .ok (.val p.1 :: q.1, q.2) := by rw [evA]; intro i h; cases h
@[simp] theorem evA_cst_ (d : Dt) (es : Exs) : evA R pn (.cons (.cst d) es) ρ = (ev R pn (.cst d) ρ).toD.bind fun p => (evA R pn es p.2).bind fun q => .ok (.val p.1 :: q.1, q.2) := by rw [evA]; intro i h; cases h
@[simp] theorem evA_tup_ (es0 : Exs) (es : Exs) : evA R pn (.cons (.tup es0) es) ρ = (ev R pn (.tup es0) ρ).toD.bind fun p => (evA R pn es p.2).bind fun q => .ok (.val p.1 :: q.1, q.2) := by rw [evA]; intro i h; cases h
@[simp] theorem evA_lst_ (es0 : Exs) (es : Exs) : evA R pn (.cons (.lst es0) es) ρ = (ev R pn (.lst es0) ρ).toD.bind fun p => (evA R pn es p.2).bind fun q => .ok (.val p.1 :: q.1, q.2) := by rw [evA]; intro i h; cases h
@[simp] theorem evA_dct_ (ks : List Key) (es0 : Exs) (es : Exs) : evA R pn (.cons (.dct ks es0) es) ρ = (ev R pn (.dct ks es0) ρ).toD.bind fun p => (evA R pn es p.2).bind fun q => .ok (.val p.1 :: q.1, q.2) := by rw [evA]; intro i h; cases h
@[simp] theorem evA_bin_ (op : Bop) (a b : Ex) (es : Exs) : evA R pn (.cons (.bin op a b) es) ρ = (ev R pn (.bin op a b) ρ).toD.bind fun p => (evA R pn es p.2).bind fun q => .ok (.val p.1 :: q.1, q.2) := by rw [evA]; intro i h; cases h
@[simp] theorem evA_rep_ (a b : Ex) (es : Exs) : evA R pn (.cons (.rep a b) es) ρ = (ev R pn (.rep a b) ρ).toD.bind fun p => (evA R pn es p.2).bind fun q => .ok (.val p.1 :: q.1, q.2) := by rw [evA]; intro i h; cases h
@[simp] theorem evA_catp_ (i : Nat) (b : Ex) (es : Exs) : evA R pn (.cons (.catp i b) es) ρ = (ev R pn (.catp i b) ρ).toD.bind fun p => (evA R pn es p.2).bind fun q => .ok (.val p.1 :: q.1, q.2) := by rw [evA]; intro i h; cases h
@[simp] theorem evA_neg_ (a : Ex) (es : Exs) : evA R pn (.cons (.neg a) es) ρ = (ev R pn (.neg a) ρ).toD.bind fun p => (evA R pn es p.2).bind fun q => .ok (.val p.1 :: q.1, q.2) := by rw [evA]; intro i h; cases h
@[simp] theorem evA_not_ (a : Ex) (es : Exs) : evA R pn (.cons (.not a) es) ρ = (ev R pn (.not a) ρ).toD.bind fun p => (evA R pn es p.2).bind fun q => .ok (.val p.1 :: q.1, q.2) := by rw [evA]; intro i h; cases h
@[simp] theorem evA_cmp_ (op : Cop) (a b : Ex) (es : Exs) : evA R pn (.cons (.cmp op a b) es) ρ = (ev R pn (.cmp op a b) ρ).toD.bind fun p => (evA R pn es p.2).bind fun q => .ok (.val p.1 :: q.1, q.2) := by rw [evA]; intro i h; cases h
@[simp] theorem evA_cmp2_ (op1 op2 : Cop) (a b c : Ex) (es : Exs) : evA R pn (.cons (.cmp2 op1 op2 a b c) es) ρ = (ev R pn (.cmp2 op1 op2 a b c) ρ).toD.bind fun p => (evA R pn es p.2).bind fun q => .ok (.val p.1 :: q.1, q.2) := by rw [evA]; intro i h; cases h
@[simp] theorem evA_and_ (a b : Ex) (es : Exs) : evA R pn (.cons (.and a b) es) ρ = (ev R pn (.and a b) ρ).toD.bind fun p => (evA R pn es p.2).bind fun q => .ok (.val p.1 :: q.1, q.2) := by rw [evA]; intro i h; cases h
@[simp] theorem evA_or_ (a b : Ex) (es : Exs) : evA R pn (.cons (.or a b) es) ρ = (ev R pn (.or a b) ρ).toD.bind fun p => (evA R pn es p.2).bind fun q => .ok (.val p.1 :: q.1, q.2) := by rw [evA]; intro i h; cases h
@[simp] theorem evA_ife_ (c a b : Ex) (es : Exs) : evA R pn (.cons (.ife c a b) es) ρ = (ev R pn (.ife c a b) ρ).toD.bind fun p => (evA R pn es p.2).bind fun q => .ok (.val p.1 :: q.1, q.2) := by rw [evA]; intro i h; cases h
@[simp] theorem evA_call_ (f : Nat) (es0 : Exs) (es : Exs) : evA R pn (.cons (.call f es0) es) ρ = (ev R pn (.call f es0) ρ).toD.bind fun p => (evA R pn es p.2).bind fun q => .ok (.val p.1 :: q.1, q.2) := by rw [evA]; intro i h; cases h
@[simp] theorem evA_bi_ (b : Bi) (a : Ex) (es : Exs) : evA R pn (.cons (.bi b a) es) ρ = (ev R pn (.bi b a) ρ).toD.bind fun p => (evA R pn es p.2).bind fun q => .ok (.val p.1 :: q.1, q.2) := by rw [evA]; intro i h; cases h
@[simp] theorem evA_lenp_ (i : Nat) (es : Exs) : evA R pn (.cons (.lenp i) es) ρ = (ev R pn (.lenp i) ρ).toD.bind fun p => (evA R pn es p.2).bind fun q => .ok (.val p.1 :: q.1, q.2) := by rw [evA]; intro i h; cases h
@[simp] theorem evA_isi_ (t : Ty) (a : Ex) (es : Exs) : evA R pn (.cons (.isi t a) es) ρ = (ev R pn (.isi t a) ρ).toD.bind fun p => (evA R pn es p.2).bind fun q => .ok (.val p.1 :: q.1, q.2) := by rw [evA]; intro i h; cases h
@[simp] theorem evA_item_ (i : Nat) (e0 : Ex) (es : Exs) : evA R pn (.cons (.item i e0) es) ρ = (ev R pn (.item i e0) ρ).toD.bind fun p => (evA R pn es p.2).bind fun q => .ok (.val p.1 :: q.1, q.2) := by rw [evA]; intro i h; cases h
@[simp] theorem evA_item2_ (i : Nat) (e1 e2 : Ex) (es : Exs) : evA R pn (.cons (.item2 i e1 e2) es) ρ = (ev R pn (.item2 i e1 e2) ρ).toD.bind fun p => (evA R pn es p.2).bind fun q => .ok (.val p.1 :: q.1, q.2) := by rw [evA]; intro i h; cases h
@[simp] theorem evA_sub_ (a e : Ex) (es : Exs) : evA R pn (.cons (.sub a e) es) ρ = (ev R pn (.sub a e) ρ).toD.bind fun p => (evA R pn es p.2).bind fun q => .ok (.val p.1 :: q.1, q.2) := by rw [evA]; intro i h; cases h
@[simp] theorem evA_slc_ (a : Ex) (lo hi : Oe) (es : Exs) : evA R pn (.cons (.slc a lo hi) es) ρ = (ev R pn (.slc a lo hi) ρ).toD.bind fun p => (evA R pn es p.2).bind fun q => .ok (.val p.1 :: q.1, q.2) := by rw [evA]; intro i h; cases h
@[simp] theorem evA_pop_ (i : Nat) (es : Exs) : evA R pn (.cons (.pop i) es) ρ = (ev R pn (.pop i) ρ).toD.bind fun p => (evA R pn es p.2).bind fun q => .ok (.val p.1 :: q.1, q.2) := by rw [evA]; intro i h; cases h
theorem evA_comp_ (own : List Nat) (tg : Tg) (it : AM.It) (cs : Exs) (e : Ex) (es : Exs) : evA R pn (.cons (.comp own tg it cs e) es) ρ = (ev R pn (.comp own tg it cs e) ρ).toD.bind fun p => (evA R pn es p.2).bind fun q => .ok (.val p.1 :: q.1, q.2) := by rw [evA]; intro i h; cases h
@[simp] theorem ev_tab_ (kvs : List (Str × Dt)) (e : Ex) : ev R pn (.tab kvs e) ρ = (ev R pn e ρ).toD.bind fun p => (Res.of (tabD kvs p.1)).bind fun d => .ok (.d d, p.2) := by rw [ev]
@[simp] theorem ev_mx_ (big : Bool) (a b : Ex) : ev R pn (.mx big a b) ρ = (ev R pn a ρ).toD.bind fun p => (ev R pn b p.2).toD.bind fun q => (Res.of (mxD big p.1 q.1)).bind fun d => .ok (.d d, q.2) := by rw [ev]
@[simp] theorem evA_tab_ (kvs : List (Str × Dt)) (e : Ex) (es : Exs) : evA R pn (.cons (.tab kvs e) es) ρ = (ev R pn (.tab kvs e) ρ).toD.bind fun p => (evA R pn es p.2).bind fun q => .ok (.val p.1 :: q.1, q.2) := by rw [evA]; intro i h; cases h
@[simp] theorem evA_mx_ (big : Bool) (a b : Ex) (es : Exs) : evA R pn (.cons (.mx big a b) es) ρ = (ev R pn (.mx big a b) ρ).toD.bind fun p => (evA R pn es p.2).bind fun q => .ok (.val p.1 :: q.1, q.2) := by rw [evA]; intro i h; cases h
@[simp] theorem evI_enum_ (a : Ex) : evI R pn (.enum a) ρ = (ev R pn a ρ).toD.bind fun p => match p.1 with
    | .list xs => .ok (enumD 0 xs, p.2)
    | _ => .bad := by first | (rw [evI]; done) | (rw [evI]; rfl)
@[simp] theorem evI_rev_ (a : Ex) : evI R pn (.rev a) ρ = (ev R pn a ρ).toD.bind fun p => (Res.of (seqOf p.1)).bind fun ds => .ok (ds.reverse, p.2) := by rw [evI]
theorem ex_setRet_ {i : Nat} {e a : Ex} {x : Dt} {ρ1 ρ2 : Env} {zs : List Dt} {y : Dt} (h1 : (ev R pn e ρ).toD = .ok (x, ρ1)) (h2 : biD .sset x = some (Ob.ls zs)) (h3 : pn.contains i = false) (h4 : (ev R pn a (ρ1.set i none)).toD = .ok (y, ρ2)) (h5 : i < ρ1.length) : ex R L pn (.setRet i e a) ρ = .ok (.rt (.d (.tuple [y, .tuple zs])) ρ2) := by
  have fz : frz (Ob.ls zs) = some (.list zs) := by unfold Ob.ls; show (frzs (zs.map Ob.d)).map _ = _; rw [frzs_plain]; rfl
  rw [ex, h1, bind_ok', h2, of_some', bind_ok', fz, of_some', bind_ok']
  have c : ¬ (pn.contains i = true ∨ ρ1.length ≤ i) := by rw [h3]; simp; omega
  simp only [if_neg c, h4, bind_ok']
theorem ev_comp_ {own : List Nat} {tg : Tg} {it : AM.It} {cs : Exs} {e : Ex} {ds : List Dt} {ρ1 ρ2 : Env} {os : List Ob} (h1 : evI R pn it ρ = .ok (ds, ρ1)) (h2 : ownOk pn own ρ1 = true ∧ tgIn own tg = true) (h3 : compL (fun d r => bindT pn tg d (wipeE own r)) (evC R pn cs) (ev R pn e) ds (wipeE own ρ1) = .ok (os, ρ2)) (h4 : os.length ≤ sizeLine) :
    ev R pn (.comp own tg it cs e) ρ = .ok (.lst os, backE own ρ1 ρ2) := by
  rw [ev, h1, bind_ok', if_pos h2, h3]
  show (if os.length ≤ sizeLine then _ else _) = _
  rw [if_pos h4]
theorem ex_for_ {tg : Tg} {it : AM.It} {b : Sms} {ds : List Dt} {ρ1 : Env} (h1 : evI R pn it ρ = .ok (ds, ρ1)) : ex R L pn (.for_ tg it b) ρ = forL (bindT pn tg) (exs R L pn b) ds ρ1 := by
  rw [ex, h1, bind_ok']
theorem ex_while_ {c : Ex} {b : Sms} : ex R L pn (.while_ c b) ρ = whlL (fun r => (ev R pn c r).toB) (exs R L pn b) L ρ := by first | (rw [ex]; done) | (rw [ex]; rfl)
end
theorem rng_small {i : Int} (h : -1000000000 ≤ i ∧ i ≤ 1000000000) : rngOk i = true := by
  unfold rngOk
  exact decide_eq_true ⟨by omega, by omega⟩
theorem ev_rep_ok {R : Fns} {pn : List Nat} {ρ ρ1 ρ2 : Env} {a b : Ex} {os : List Ob} {ds : List Dt} {k : Int} (h1 : ev R pn a ρ = .ok (.lst os, ρ1)) (h2 : (ev R pn b ρ1).toD = .ok (.int k, ρ2)) (h3 : plains os = some ds) (h4 : 0 ≤ k ∧ k ≤ 1000000000) (h5 : ds.length * k.toNat ≤ sizeLine) :
    ev R pn (.rep a b) ρ = .ok (Ob.ls (List.replicate k.toNat ds).flatten, ρ2) := by
  rw [ev, h1, bind_ok', h2, bind_ok']
  simp only [h3, of_some', bind_ok']
  exact if_pos ⟨by omega, by omega, h5⟩
theorem run_succ {tbl : List Df} {L n f : Nat} {df : Df} {os : List Ob} (e : tbl[f]? = some df) : (run tbl L (n + 1)).run f os = runBody (run tbl L n) L df os := by
  show (match tbl[f]? with | some df => runBody (run tbl L n) L df os | none => .bad) = _
  rw [e]
end AM
/-! Sm1: the laws' own draws. -/
namespace AM
open PySem PySem.Spec PyProof.Rows L2
@[simp] theorem of_bind (o : Option Dt) : (Res.of o).bind (fun x => (Res.ok x : Res Dt)) = Res.of o := by cases o <;> rfl
/-- what a script's state holds -/
structure DS where
  cells : List Int
  lefts : List Int
  at_ : Nat
def DS.ob (s : DS) : Ob := .dct [.inr "cells", .inr "lefts", .inr "at"] [.d (.list (s.cells.map PyData.int)), Ob.ls (s.lefts.map PyData.int), .d (.int s.at_)]
structure DS.Ok (s : DS) (k : Nat) : Prop where
  ne : s.cells ≠ []
  len : s.lefts.length = s.cells.length
  le : s.at_ ≤ k
theorem DS.Ok.mono {s : DS} {j k : Nat} (h : s.Ok j) (e : j ≤ k) : s.Ok k := ⟨h.ne, h.len, Nat.le_trans h.le e⟩
def mixB : Sms := .cons (.asg 0 (.bin .mod (.bi .int (.var 0)) (.cst (.int 2147483647)))) (.cons (.ret (.bin .mod (.bin .mul (.bin .mod (.bin .add (.bin .add (.bin .mul (.var 0) (.bin .add (.cst (.int 48271)) (.bin .mul (.bin .mul (.cst (.int 2)) (.var 1)) (.var 1)))) (.bin .mul (.cst (.int 69621)) (.var 1))) (.cst (.int 11))) (.cst (.int 2147483647))) (.cst (.int 69621))) (.cst (.int 2147483629)))) (.nil))
def mixF : Df := ⟨2, 2, [], mixB⟩
def drawB (m : Nat) : Sms := .cons (.asg 2 (.item 0 (.cst (.str "at")))) (.cons (.setI 0 (.cst (.str "at")) (.bin .add (.var 2) (.cst (.int 1)))) (.cons (.asg 3 (.bin .mod (.bi .int (.var 2)) (.bi .len (.item 0 (.cst (.str "cells")))))) (.cons (.asg 4 (.item2 0 (.cst (.str "lefts")) (.var 3))) (.cons (.ife (.cmp .gt (.var 4) (.cst (.int 0))) (.cons (.set2 0 (.cst (.str "lefts")) (.var 3) (.bin .fdiv (.var 4) (.var 1))) (.cons (.ret (.bin .mod (.bi .int (.var 4)) (.var 1))) (.nil))) (.nil)) (.cons (.asg 5 (.call m (.cons (.call m (.cons (.item2 0 (.cst (.str "cells")) (.var 3)) (.cons (.var 2) (.nil)))) (.cons (.bin .add (.cst (.int 40)) (.var 2)) (.nil))))) (.cons (.ret (.bin .mod (.bin .fdiv (.bi .int (.bin .add (.bin .mul (.var 5) (.cst (.int 2147483647))) (.call m (.cons (.var 5) (.cons (.bin .add (.cst (.int 7)) (.var 2)) (.nil)))))) (.cst (.int 64))) (.var 1))) (.nil)))))))
def drawF (m : Nat) : Df := ⟨6, 2, [0], drawB m⟩
section
variable {tbl : List Df} {L n m d : Nat}
def mixV (a k : Int) : Int := (a % 2147483647 * (48271 + 2 * k * k) + 69621 * k + 11) % 2147483647 * 69621 % 2147483629
theorem mixV_nn (a k : Int) : 0 ≤ mixV a k := Int.emod_nonneg _ (by decide)
theorem mixV_lt (a k : Int) : mixV a k < 2147483629 := Int.emod_lt_of_pos _ (by decide)
theorem run_mix (hm : tbl[m]? = some mixF) (a k : Int) (hk : 0 ≤ k ∧ k < 2 ^ 60) : (run tbl L (n + 1)).run m [.d (.int a), .d (.int k)] = .ok (.d (.int (mixV a k)), []) := by
  rw [run_succ hm]
  have c1 : Sm64 k := ⟨by omega, by omega⟩
  have c2 : Sm64 (2 : Int) := ⟨by decide, by decide⟩
  have c3 : Sm64 (69621 : Int) := ⟨by decide, by decide⟩
  have h1 := Int.emod_nonneg a (show (2147483647 : Int) ≠ 0 by decide)
  have h2 := Int.emod_lt_of_pos a (show (0 : Int) < 2147483647 by decide)
  have c4 : Sm64 (a % 2147483647) := ⟨by omega, by omega⟩
  have p1 : (0 : Int) < 2147483647 := by decide
  have p2 : (0 : Int) < 2147483629 := by decide
  unfold runBody mixF mixB
  simp [exs, ex, ev, use, outs, st, bin_mod p1, bin_mod p2, bin_mulL c2, bin_mulR c1, bin_mulL c4, bin_mulL c3, bin_mulR c3, mixV]
@[simp] theorem item_at (s : DS) : itemO s.ob (.str "at") = some (.d (.int s.at_)) := id rfl
@[simp] theorem item_cells (s : DS) : itemO s.ob (.str "cells") = some (.d (.list (s.cells.map PyData.int))) := id rfl
@[simp] theorem item_lefts (s : DS) : itemO s.ob (.str "lefts") = some (Ob.ls (s.lefts.map PyData.int)) := id rfl
@[simp] theorem set_at (s : DS) : setO s.ob (.str "at") (.d (.int (s.at_ + 1))) = some (DS.ob ⟨s.cells, s.lefts, s.at_ + 1⟩) := id rfl
theorem set_lefts (s : DS) (ls : List Int) (j : Nat) (y : Int) : setO s.ob (.str "lefts") (Ob.ls ((ls.map PyData.int).set j (.int y))) = some (DS.ob ⟨s.cells, ls.set j y, s.at_⟩) := by
  rw [← List.map_set (f := PyData.int)]
  rfl
theorem atI_nat' {α : Type} {xs : List α} {j : Nat} (h : j < xs.length) : atI xs (j : Int) = some xs[j] := by
  rw [atI_nat (List.getElem?_eq_getElem h)]
theorem item_lsI {xs : List Int} {j : Nat} (h : j < xs.length) : itemO (Ob.ls (xs.map PyData.int)) (.int (j : Int)) = some (.d (.int xs[j])) := by
  show atI ((xs.map PyData.int).map Ob.d) (j : Int) = _
  rw [atI_nat' (by simpa using h)]
  simp
theorem item_dlI {xs : List Int} {j : Nat} (h : j < xs.length) : itemO (.d (.list (xs.map PyData.int))) (.int (j : Int)) = some (.d (.int xs[j])) := by
  show (atI (xs.map PyData.int) (j : Int)).map Ob.d = _
  rw [atI_nat' (by simpa using h)]
  simp
theorem set_lsI {xs : List Int} {j : Nat} {y : Int} (h : j < xs.length) : setO (Ob.ls (xs.map PyData.int)) (.int (j : Int)) (.d (.int y)) = some (Ob.ls ((xs.map PyData.int).set j (.int y))) := by
  show (ixN ((xs.map PyData.int).map Ob.d).length (j : Int)).map (fun i => Ob.lst (((xs.map PyData.int).map Ob.d).set i (.d (.int y)))) = _
  have e : ixN ((xs.map PyData.int).map Ob.d).length (j : Int) = some j := by
    unfold ixN
    rw [if_pos (by omega), if_pos (by simpa using h)]
    simp
  rw [e]
  simp [Ob.ls, List.map_set]
theorem run_draw (hm : tbl[m]? = some mixF) (hd : tbl[d]? = some (drawF m)) {s : DS} {k : Nat} (ok : s.Ok k) (hk : k < 2 ^ 59) {lim : Int} (l1 : 0 < lim) (l2 : lim < 1073741824) :
    ∃ (v : Int) (s' : DS), (run tbl L (n + 2)).run d [s.ob, .d (.int lim)] = .ok (.d (.int v), [(0, s'.ob)]) ∧ 0 ≤ v ∧ v < lim ∧ s'.Ok (k + 1) := by
  rw [run_succ hd]
  have lp : 0 < s.cells.length := List.length_pos_iff.mpr ok.ne
  have lpi : (0 : Int) < (s.cells.length : Int) := by omega
  have jl : s.at_ % s.cells.length < s.cells.length := Nat.mod_lt _ lp
  have jl2 : s.at_ % s.cells.length < s.lefts.length := by rw [ok.len]; exact jl
  have em : (s.at_ : Int) % (s.cells.length : Int) = ((s.at_ % s.cells.length : Nat) : Int) := rfl
  generalize s.at_ % s.cells.length = j at jl jl2 em
  have ka := ok.le
  have c0 : Sm64 (2147483647 : Int) := ⟨by decide, by decide⟩
  have p64 : (0 : Int) < 64 := by decide
  have q64 : (64 : Int) < 1073741824 := by decide
  by_cases hl : 0 < s.lefts[j]
  · refine ⟨s.lefts[j] % lim, ⟨s.cells, s.lefts.set j (s.lefts[j] / lim), s.at_ + 1⟩, ?_, Int.emod_nonneg _ (by omega), Int.emod_lt_of_pos _ l1, ⟨ok.ne, by simpa using ok.len, by show s.at_ + 1 ≤ k + 1; omega⟩⟩
    unfold runBody drawF drawB
    simp [exs, ex, ev, use, outs, st, smp, atom, bin_mod lpi, em, item_lsI jl2, hl, bin_fdiv l1 l2, set_lsI jl2, set_lefts, bin_mod l1]
  · have k1 : (0 : Int) ≤ (s.at_ : Int) ∧ (s.at_ : Int) < 2 ^ 60 := ⟨by omega, by omega⟩
    have k2 : (0 : Int) ≤ 40 + (s.at_ : Int) ∧ 40 + (s.at_ : Int) < 2 ^ 60 := ⟨by omega, by omega⟩
    have k3 : (0 : Int) ≤ 7 + (s.at_ : Int) ∧ 7 + (s.at_ : Int) < 2 ^ 60 := ⟨by omega, by omega⟩
    refine ⟨(mixV (mixV s.cells[j] s.at_) (40 + s.at_) * 2147483647 + mixV (mixV (mixV s.cells[j] s.at_) (40 + s.at_)) (7 + s.at_)) / 64 % lim, ⟨s.cells, s.lefts, s.at_ + 1⟩, ?_, Int.emod_nonneg _ (by omega), Int.emod_lt_of_pos _ l1, ⟨ok.ne, ok.len, by show s.at_ + 1 ≤ k + 1; omega⟩⟩
    unfold runBody drawF drawB
    simp [exs, ex, ev, evA, use, outs, st, smp, atom, bin_mod lpi, em, item_lsI jl2, item_dlI jl, hl, bin_fdiv p64 q64, bin_mod l1, bin_mulR c0, ioOf, fill, putBack, run_mix hm _ _ k1, run_mix hm _ _ k2, run_mix hm _ _ k3]
end
end AM
/-! Sm2: loops by what stays true; the state's making. -/
namespace AM
open PySem PySem.Spec PyProof.Rows L2
theorem forL_inv {bnd : Dt → Env → Option Env} {b : Env → Res Fl} (P : Nat → Env → Prop) : ∀ (ds : List Dt) (k : Nat) (ρ : Env), P k ρ →
    (∀ i d ρ, ds[i]? = some d → P (k + i) ρ → ∃ ρ1 ρ2, bnd d ρ = some ρ1 ∧ (b ρ1 = .ok (.nx ρ2) ∨ b ρ1 = .ok (.ct ρ2)) ∧ P (k + i + 1) ρ2) →
    ∃ ρ', forL bnd b ds ρ = .ok (.nx ρ') ∧ P (k + ds.length) ρ'
  | [], k, ρ, h0, _ => ⟨ρ, rfl, h0⟩
  | d :: ds, k, ρ, h0, step => by
    obtain ⟨ρ1, ρ2, e1, e2, h2⟩ := step 0 d ρ rfl h0
    obtain ⟨ρ', e3, h3⟩ := forL_inv P ds (k + 1) ρ2 h2 fun i d' ρ hd hp => by
      have q := step (i + 1) d' ρ (by simpa using hd) (by rw [show k + (i + 1) = k + 1 + i by omega]; exact hp)
      rw [show k + (i + 1) + 1 = k + 1 + i + 1 by omega] at q
      exact q
    refine ⟨ρ', ?_, by rw [List.length_cons, show k + (ds.length + 1) = k + 1 + ds.length by omega]; exact h3⟩
    rw [forL, e1, of_some', bind_ok']
    rcases e2 with e2 | e2 <;> rw [e2, bind_ok'] <;> exact e3
/-- a loop that leaves its state as it was, but for the places that it alone uses -/
theorem forL_keep {bnd : Dt → Env → Option Env} {b : Env → Res Fl} (P : Env → Prop) {ds : List Dt} {ρ : Env} (h0 : P ρ)
    (step : ∀ d ∈ ds, ∀ ρ, P ρ → ∃ ρ1 ρ2, bnd d ρ = some ρ1 ∧ (b ρ1 = .ok (.nx ρ2) ∨ b ρ1 = .ok (.ct ρ2)) ∧ P ρ2) : ∃ ρ', forL bnd b ds ρ = .ok (.nx ρ') ∧ P ρ' :=
  forL_inv (fun _ => P) ds 0 ρ h0 fun i d ρ hd hp => step d (List.mem_of_getElem? hd) ρ hp
theorem compL_inv {bnd : Dt → Env → Option Env} {c : Env → Res (Bool × Env)} {e : Env → Res (Ob × Env)} (P : Nat → List Ob → Env → Prop) : ∀ (ds : List Dt) (k : Nat) (acc : List Ob) (ρ : Env), P k acc ρ →
    (∀ i d acc ρ, ds[i]? = some d → P (k + i) acc ρ → ∃ ρ1 ρ2 t, bnd d ρ = some ρ1 ∧ c ρ1 = .ok (t, ρ2) ∧ ((t = true ∧ ∃ o ρ3, e ρ2 = .ok (o, ρ3) ∧ P (k + i + 1) (acc ++ [o]) ρ3) ∨ (t = false ∧ P (k + i + 1) acc ρ2))) →
    ∃ os ρ', compL bnd c e ds ρ = .ok (os, ρ') ∧ P (k + ds.length) (acc ++ os) ρ'
  | [], k, acc, ρ, h0, _ => ⟨[], ρ, rfl, by rw [List.append_nil]; exact h0⟩
  | d :: ds, k, acc, ρ, h0, step => by
    obtain ⟨ρ1, ρ2, t, e1, e2, h2⟩ := step 0 d acc ρ rfl h0
    have next : ∀ acc ρ, P (k + 1) acc ρ → ∃ os ρ', compL bnd c e ds ρ = .ok (os, ρ') ∧ P (k + 1 + ds.length) (acc ++ os) ρ' := fun acc ρ h => compL_inv P ds (k + 1) acc ρ h fun i d' acc ρ hd hp => by
      have q := step (i + 1) d' acc ρ (by simpa using hd) (by rw [show k + (i + 1) = k + 1 + i by omega]; exact hp)
      rw [show k + (i + 1) + 1 = k + 1 + i + 1 by omega] at q
      exact q
    rw [List.length_cons, show k + (ds.length + 1) = k + 1 + ds.length by omega]
    rw [compL, e1, of_some', bind_ok', e2, bind_ok']
    rcases h2 with ⟨rfl, o, ρ3, e3, h3⟩ | ⟨rfl, h3⟩
    · obtain ⟨os, ρ', e4, h4⟩ := next (acc ++ [o]) ρ3 h3
      refine ⟨o :: os, ρ', ?_, by rw [List.append_assoc] at h4; exact h4⟩
      simp only [if_true, e3, bind_ok', e4]
    · obtain ⟨os, ρ', e4, h4⟩ := next acc ρ2 h3
      refine ⟨os, ρ', ?_, h4⟩
      simp only [Bool.false_eq_true, if_false, e4]
/-- a comprehension without state: what each item gives -/
theorem compL_map {bnd : Dt → Env → Option Env} {c : Env → Res (Bool × Env)} {e : Env → Res (Ob × Env)} (f : Dt → Option Ob) (P : Env → Prop) {ds : List Dt} {ρ : Env} (h0 : P ρ)
    (step : ∀ d ∈ ds, ∀ ρ, P ρ → ∃ ρ1 ρ2 t, bnd d ρ = some ρ1 ∧ c ρ1 = .ok (t, ρ2) ∧ ((t = true ∧ ∃ o ρ3, e ρ2 = .ok (o, ρ3) ∧ f d = some o ∧ P ρ3) ∨ (t = false ∧ f d = none ∧ P ρ2))) :
    ∃ ρ', compL bnd c e ds ρ = .ok (ds.filterMap f, ρ') ∧ P ρ' := by
  induction ds generalizing ρ with
  | nil => exact ⟨ρ, rfl, h0⟩
  | cons d ds ih =>
    obtain ⟨ρ1, ρ2, t, e1, e2, h2⟩ := step d List.mem_cons_self ρ h0
    have st := fun d' h => step d' (List.mem_cons_of_mem d h)
    rw [compL, e1, of_some', bind_ok', e2, bind_ok']
    rcases h2 with ⟨rfl, o, ρ3, e3, e4, h3⟩ | ⟨rfl, e4, h3⟩
    · obtain ⟨ρ', e5, h5⟩ := ih h3 st
      refine ⟨ρ', ?_, h5⟩
      simp only [if_true, e3, bind_ok', e5, List.filterMap_cons, e4]
    · obtain ⟨ρ', e5, h5⟩ := ih h3 st
      refine ⟨ρ', ?_, h5⟩
      simp only [Bool.false_eq_true, if_false, e5, List.filterMap_cons, e4]
theorem shaped_list_ints (ns : List Int) : SeqAt.shaped (.list (ns.map PyData.int)) = true := by
  unfold SeqAt.shaped
  rw [Bool.and_eq_true]
  refine ⟨?_, decide_eq_true ?_⟩
  · have : ∀ ns : List Int, PyData.canLayAll0 (ns.map PyData.int) = true := by
      intro ns
      induction ns with
      | nil => rfl
      | cons n r ih => simp [PyData.canLayAll0, PyData.canLay0, ih]
    rw [PyData.canLay0]
    exact this ns
  · rw [PyData.depth, PySem.W.depth_ints ns]
    decide
theorem cmp_ne_nil (ns : List Int) : cmpD .ne (.list (ns.map PyData.int)) (.list []) = some (!ns.isEmpty) := by
  show (eqS _ _).map not = _
  unfold eqS
  rw [if_pos ⟨shaped_list_ints ns, shaped_list_ints []⟩]
  cases ns <;> rfl
def beginB : Sms := .cons (.asg 1 (.ife (.cmp .ne (.var 0) (.lst (.nil))) (.bi .list (.var 0)) (.lst (.cons (.cst (.int 0)) .nil)))) (.cons (.ret (.dct [.inr "cells", .inr "lefts", .inr "at"] (.cons (.var 1) (.cons (.comp [2] (.name 2) (.seq (.var 1)) (.nil) (.ife (.cmp .ge (.var 2) (.bin .pow (.cst (.int 10)) (.cst (.int 18)))) (.var 2) (.cst (.int 0)))) (.cons (.cst (.int 0)) (.nil)))))) (.nil))
def beginF : Df := ⟨3, 1, [], beginB⟩
section
variable {tbl : List Df} {L n m d : Nat}
theorem pow18 : binD .pow (.int 10) (.int 18) = some (.d (.int 1000000000000000000)) := rfl
def cellsOf (ns : List Int) : List Int := if ns = [] then [0] else ns
@[simp] theorem use1 (a : Option Ob) (x : Dt) (ρ : Env) : use (a :: some (.d x) :: ρ) 1 = some (x, a :: some (.d x) :: ρ) := id rfl
theorem use1_ls (a : Option Ob) (xs : List Dt) (ρ : Env) : use (a :: some (Ob.ls xs) :: ρ) 1 = some (.list xs, a :: some (.d (.list xs)) :: ρ) := by
  unfold use
  have : frz (Ob.ls xs) = some (.list xs) := by unfold Ob.ls; show (frzs (xs.map Ob.d)).map _ = _; rw [frzs_plain]; rfl
  simp only [getS, get0, Ob.ls] at this ⊢
  rw [this]
  rfl
@[simp] theorem use2 (a b : Option Ob) (x : Dt) (ρ : Env) : use (a :: b :: some (.d x) :: ρ) 2 = some (x, a :: b :: some (.d x) :: ρ) := id rfl
@[simp] theorem use3 (a b c : Option Ob) (x : Dt) (ρ : Env) : use (a :: b :: c :: some (.d x) :: ρ) 3 = some (x, a :: b :: c :: some (.d x) :: ρ) := id rfl
@[simp] theorem use4 (a b c d : Option Ob) (x : Dt) (ρ : Env) : use (a :: b :: c :: d :: some (.d x) :: ρ) 4 = some (x, a :: b :: c :: d :: some (.d x) :: ρ) := id rfl
@[simp] theorem use5 (a b c d e : Option Ob) (x : Dt) (ρ : Env) : use (a :: b :: c :: d :: e :: some (.d x) :: ρ) 5 = some (x, a :: b :: c :: d :: e :: some (.d x) :: ρ) := id rfl
@[simp] theorem use6 (a b c d e f : Option Ob) (x : Dt) (ρ : Env) : use (a :: b :: c :: d :: e :: f :: some (.d x) :: ρ) 6 = some (x, a :: b :: c :: d :: e :: f :: some (.d x) :: ρ) := id rfl
@[simp] theorem use7 (a b c d e f g : Option Ob) (x : Dt) (ρ : Env) : use (a :: b :: c :: d :: e :: f :: g :: some (.d x) :: ρ) 7 = some (x, a :: b :: c :: d :: e :: f :: g :: some (.d x) :: ρ) := id rfl
def lefF : Dt → Option Ob
  | .int i => some (Ob.d (.int (if 1000000000000000000 ≤ i then i else 0)))
  | _ => none
theorem s_cl : ¬ (Str.ofString "cells" = Str.ofString "lefts") := by decide
theorem s_ca : ¬ (Str.ofString "cells" = Str.ofString "at") := by decide
theorem s_la : ¬ (Str.ofString "lefts" = Str.ofString "at") := by decide
theorem ev_lefts (R : Fns) (a : Ob) (cs : List Int) (hz : cs.length ≤ 63) : ∃ ls : List Int, ls.length = cs.length ∧
    ev R [] (.comp [2] (.name 2) (.seq (.var 1)) (.nil) (.ife (.cmp .ge (.var 2) (.bin .pow (.cst (.int 10)) (.cst (.int 18)))) (.var 2) (.cst (.int 0)))) [some a, some (.d (.list (cs.map PyData.int))), none] = .ok (Ob.ls (ls.map PyData.int), [some a, some (.d (.list (cs.map PyData.int))), none]) := by
  obtain ⟨ρ', e, y, rfl⟩ := compL_map (bnd := fun d r => bindT [] (.name 2) d (wipeE [2] r)) (c := evC R [] .nil) (e := ev R [] (.ife (.cmp .ge (.var 2) (.bin .pow (.cst (.int 10)) (.cst (.int 18)))) (.var 2) (.cst (.int 0))))
    lefF (fun ρ => ∃ y, ρ = [some a, some (.d (.list (cs.map PyData.int))), y]) (ds := cs.map PyData.int) (ρ := [some a, some (.d (.list (cs.map PyData.int))), none]) ⟨none, rfl⟩ (fun d hd ρ hρ => by
      obtain ⟨y, rfl⟩ := hρ
      obtain ⟨i, _, rfl⟩ := List.mem_map.mp hd
      refine ⟨_, _, true, rfl, rfl, .inl ⟨rfl, ?_⟩⟩
      by_cases h : (1000000000000000000 : Int) ≤ i
      · exact ⟨.d (.int i), [some a, some (.d (.list (cs.map PyData.int))), some (.d (.int i))], by simp [wipeE, pow18, h], by simp only [lefF, if_pos h], _, rfl⟩
      · exact ⟨.d (.int 0), [some a, some (.d (.list (cs.map PyData.int))), some (.d (.int i))], by simp [wipeE, pow18, h], by simp only [lefF, if_neg h], _, rfl⟩)
  refine ⟨cs.map fun i => if 1000000000000000000 ≤ i then i else 0, by simp, ?_⟩
  have this : ∀ l : List Int, (l.map PyData.int).filterMap lefF = ((l.map fun i => if 1000000000000000000 ≤ i then i else 0).map PyData.int).map Ob.d := by
    intro l
    induction l with
    | nil => rfl
    | cons i r ih => rw [List.map_cons, List.map_cons, List.map_cons, List.map_cons, ← ih]; rfl
  rw [this] at e
  have sl : cs.length ≤ sizeLine := Nat.le_trans hz (by decide)
  rw [ev_comp_ (ds := cs.map PyData.int) (ρ1 := [some a, some (.d (.list (cs.map PyData.int))), none]) (by simp [seqOf]) ⟨rfl, rfl⟩ e (by simpa using sl)]
  rfl
theorem run_begin (hb : tbl[d]? = some beginF) {ns : List Int} (hz : ns.length ≤ 63) : ∃ s : DS, (run tbl L (n + 1)).run d [.d (scr ns)] = .ok (s.ob, []) ∧ s.Ok 0 := by
  rw [run_succ hb]
  have z3 : 3 ≤ sizeLine := by decide
  have z1 : 1 ≤ sizeLine := by decide
  by_cases h : ns = []
  · subst h
    obtain ⟨ls, hl, e1⟩ := ev_lefts (run tbl L n) (.d (scr [])) [0] (by decide)
    refine ⟨⟨[0], ls, 0⟩, ?_, ⟨by simp, hl, Nat.le_refl _⟩⟩
    have c0 := cmp_ne_nil []
    have u : use [some (Ob.d (.list [])), some (Ob.lst [Ob.d (.int 0)]), none] 1 = some (.list [.int 0], [some (Ob.d (.list [])), some (Ob.d (.list [.int 0])), none]) := rfl
    unfold runBody beginF beginB
    simp [scr] at c0 e1 ⊢
    simp [c0, u, e1, z1, z3, st, s_cl, s_ca, s_la, outs, DS.ob]
  · obtain ⟨ls, hl, e1⟩ := ev_lefts (run tbl L n) (.d (scr ns)) ns hz
    refine ⟨⟨ns, ls, 0⟩, ?_, ⟨h, hl, Nat.le_refl _⟩⟩
    have c0 := cmp_ne_nil ns
    have u := use1_ls (some (.d (scr ns))) (ns.map PyData.int) [none]
    have e : ns.isEmpty = false := by cases ns with | nil => exact absurd rfl h | cons _ _ => rfl
    rw [e] at c0
    unfold runBody beginF beginB
    simp [scr] at c0 e1 u ⊢
    simp [c0, u, e1, z1, z3, st, s_cl, s_ca, s_la, outs, DS.ob]
end
end AM
/-! Sm3: webs: is_from, is_arrow, is_web, check_web. -/
namespace AM
open PySem PySem.Spec PyProof.Rows L2
abbrev Arr := Int × Int × Int
def arrD (p : Arr) : Dt := .tuple [.int p.1, .int p.2.1, .int p.2.2]
def webD (s : Int) (as : List Arr) : Dt := .tuple [.int s, .tuple (as.map arrD)]
def arrLt (p q : Arr) : Prop := p.1 < q.1 ∨ (p.1 = q.1 ∧ (p.2.1 < q.2.1 ∨ (p.2.1 = q.2.1 ∧ p.2.2 < q.2.2)))
instance (p q : Arr) : Decidable (arrLt p q) := by unfold arrLt; infer_instance
def ArrOk (s : Int) (p : Arr) : Prop := (0 ≤ p.1 ∧ p.1 ≤ 2) ∧ (0 ≤ p.2.1 ∧ p.2.1 ≤ s - 1) ∧ (0 ≤ p.2.2 ∧ p.2.2 ≤ s - 1)
structure WebOk (s : Int) (as : List Arr) : Prop where
  size : 1 ≤ s ∧ s ≤ 200
  few : as.length ≤ 1000
  each : ∀ p ∈ as, ArrOk s p
  asc : as.Pairwise arrLt
def fromB : Sms := .cons (.ret (.and (.isi .int (.var 0)) (.and (.not (.isi .bool (.var 0))) (.cmp2 .le .le (.var 1) (.var 0) (.var 2))))) (.nil)
def fromF : Df := ⟨3, 3, [], fromB⟩
def arrB (f : Nat) : Sms := .cons (.ife (.or (.not (.isi .tuple (.var 1))) (.or (.cmp .ne (.bi .len (.var 1)) (.cst (.int 3))) (.not (.call f (.cons (.sub (.var 1) (.cst (.int 0))) (.cons (.cst (.int 0)) (.cons (.cst (.int 2)) (.nil)))))))) (.cons (.ret (.cst (.bool false))) (.nil)) (.nil)) (.cons (.ret (.and (.call f (.cons (.sub (.var 1) (.cst (.int 1))) (.cons (.cst (.int 0)) (.cons (.bin .sub (.var 0) (.cst (.int 1))) (.nil))))) (.call f (.cons (.sub (.var 1) (.cst (.int 2))) (.cons (.cst (.int 0)) (.cons (.bin .sub (.var 0) (.cst (.int 1))) (.nil))))))) (.nil))
def arrF (f : Nat) : Df := ⟨2, 2, [], arrB f⟩
def webB (f a : Nat) : Sms := .cons (.ife (.or (.not (.isi .tuple (.var 0))) (.or (.cmp .ne (.bi .len (.var 0)) (.cst (.int 2))) (.not (.call f (.cons (.sub (.var 0) (.cst (.int 0))) (.cons (.cst (.int 1)) (.cons (.cst (.int 200)) (.nil)))))))) (.cons (.ret (.cst (.bool false))) (.nil)) (.nil)) (.cons (.asgT (.cons (.name 1) (.cons (.name 2) (.nil))) (.var 0)) (.cons (.ife (.or (.not (.isi .tuple (.var 2))) (.cmp .gt (.bi .len (.var 2)) (.cst (.int 1000)))) (.cons (.ret (.cst (.bool false))) (.nil)) (.nil)) (.cons (.for_ (.name 3) (.seq (.var 2)) (.cons (.ife (.not (.call a (.cons (.var 1) (.cons (.var 3) (.nil))))) (.cons (.ret (.cst (.bool false))) (.nil)) (.nil)) (.nil))) (.cons (.for_ (.tup (.cons (.name 4) (.cons (.name 5) (.nil)))) (.zip (.var 2) (.slc (.var 2) (.some (.cst (.int 1))) (.none))) (.cons (.ife (.cmp .ge (.var 4) (.var 5)) (.cons (.ret (.cst (.bool false))) (.nil)) (.nil)) (.nil))) (.cons (.ret (.cst (.bool true))) (.nil))))))
def webF (f a : Nat) : Df := ⟨6, 1, [], webB f a⟩
def chkB (w c : Nat) : Sms := .cons (.ife (.not (.call w (.cons (.var 0) (.nil)))) (.cons (.raise c (.cons (.var 0) .nil)) (.nil)) (.nil)) (.cons (.ret (.var 0)) (.nil))
def chkF (w c : Nat) : Df := ⟨1, 1, [], chkB w c⟩
section
variable {tbl : List Df} {L n f a w c d : Nat}
@[simp] theorem isi_int (i : Int) : isiD .int (.int i) = true := id rfl
@[simp] theorem isi_bool (i : Int) : isiD .bool (.int i) = false := id rfl
@[simp] theorem isi_tup (xs : List Dt) : isiD .tuple (.tuple xs) = true := id rfl
theorem run_from (hf : tbl[f]? = some fromF) (v a b : Int) : (run tbl L (n + 1)).run f [.d (.int v), .d (.int a), .d (.int b)] = .ok (.d (.bool (decide (a ≤ v ∧ v ≤ b))), []) := by
  rw [run_succ hf]
  unfold runBody fromF fromB
  by_cases h1 : a ≤ v <;> by_cases h2 : v ≤ b <;> simp [outs, h1, h2]
@[simp] theorem sub_t0 (x : Dt) (xs : List Dt) : subD (.tuple (x :: xs)) (.int 0) = some x := by
  show atI (x :: xs) ((0 : Nat) : Int) = _
  rw [atI_nat (v := x) rfl]
@[simp] theorem sub_t1 (x y : Dt) (xs : List Dt) : subD (.tuple (x :: y :: xs)) (.int 1) = some y := by
  show atI (x :: y :: xs) ((1 : Nat) : Int) = _
  rw [atI_nat (v := y) rfl]
@[simp] theorem sub_t2 (x y z : Dt) (xs : List Dt) : subD (.tuple (x :: y :: z :: xs)) (.int 2) = some z := by
  show atI (x :: y :: z :: xs) ((2 : Nat) : Int) = _
  rw [atI_nat (v := z) rfl]
theorem run_arr (hf : tbl[f]? = some fromF) (ha : tbl[a]? = some (arrF f)) {s : Int} {p : Arr} (h : ArrOk s p) : (run tbl L (n + 2)).run a [.d (.int s), .d (arrD p)] = .ok (.d (.bool true), []) := by
  rw [run_succ ha]
  obtain ⟨⟨a1, a2⟩, ⟨a3, a4⟩, a5, a6⟩ := h
  unfold runBody arrF arrB arrD
  simp [outs, ioOf, fill, putBack, run_from hf, a1, a2, a3, a4, a5, a6]
theorem shaped_arr (p : Arr) : SeqAt.shaped (arrD p) = true := by
  unfold arrD SeqAt.shaped
  simp [PyData.canLay0, PyData.canLayAll0, PyData.depth, PyData.depthAll]
theorem ge_arr {p q : Arr} (h : arrLt p q) : cmpD .ge (arrD p) (arrD q) = some false := by
  show relQ .ge (arrD p) (arrD q) = _
  unfold relQ
  rw [if_pos ⟨shaped_arr p, shaped_arr q⟩]
  unfold arrD
  obtain ⟨p1, p2, p3⟩ := p
  obtain ⟨q1, q2, q3⟩ := q
  unfold arrLt at h
  simp only at h
  simp only [relD, relDs, PyData.eqv, relI, List.length_nil, relN]
  by_cases e1 : p1 = q1 <;> by_cases e2 : p2 = q2 <;> by_cases e3 : p3 = q3 <;> simp [e1, e2, e3] <;> omega
theorem cut1 (xs : List Dt) : cutD xs (some 1) none = xs.drop 1 := by
  unfold cutD
  rw [show HT.sIx xs.length 0 (some 1) = min 1 xs.length from HT.sIx_nat xs.length 0 1, HT.sIx_none]
  cases xs with
  | nil => rfl
  | cons x r =>
    rw [List.length_cons, show min 1 (r.length + 1) = 1 by omega, Nat.add_sub_cancel]
    exact List.take_length
theorem run_web (hf : tbl[f]? = some fromF) (ha : tbl[a]? = some (arrF f)) (hw : tbl[w]? = some (webF f a)) {s : Int} {as : List Arr} (h : WebOk s as) : (run tbl L (n + 3)).run w [.d (webD s as)] = .ok (.d (.bool true), []) := by
  rw [run_succ hw]
  obtain ⟨ρ1, e1, x1, rfl⟩ := forL_keep (bnd := bindT [] (.name 3)) (b := exs (run tbl L (n + 2)) L [] (.cons (.ife (.not (.call a (.cons (.var 1) (.cons (.var 3) (.nil))))) (.cons (.ret (.cst (.bool false))) (.nil)) (.nil)) (.nil)))
    (fun ρ => ∃ x, ρ = [some (.d (webD s as)), some (.d (.int s)), some (.d (.tuple (as.map arrD))), x, none, none]) (ds := as.map arrD) ⟨none, rfl⟩ (fun d hd ρ hρ => by
      obtain ⟨x, rfl⟩ := hρ
      obtain ⟨p, hp, rfl⟩ := List.mem_map.mp hd
      refine ⟨[some (.d (webD s as)), some (.d (.int s)), some (.d (.tuple (as.map arrD))), some (.d (arrD p)), none, none], [some (.d (webD s as)), some (.d (.int s)), some (.d (.tuple (as.map arrD))), some (.d (arrD p)), none, none], rfl, .inl ?_, ⟨_, rfl⟩⟩
      simp [ioOf, fill, putBack, run_arr hf ha (h.each p hp)])
  obtain ⟨ρ2, e2, x2, x3, rfl⟩ := forL_keep (bnd := bindT [] (.tup (.cons (.name 4) (.cons (.name 5) (.nil))))) (b := exs (run tbl L (n + 2)) L [] (.cons (.ife (.cmp .ge (.var 4) (.var 5)) (.cons (.ret (.cst (.bool false))) (.nil)) (.nil)) (.nil)))
    (fun ρ => ∃ y z, ρ = [some (.d (webD s as)), some (.d (.int s)), some (.d (.tuple (as.map arrD))), x1, y, z]) (ds := ((as.map arrD).zip ((as.map arrD).drop 1)).map fun z => .tuple [z.1, z.2]) ⟨none, none, rfl⟩ (fun d hd ρ hρ => by
      obtain ⟨y, z, rfl⟩ := hρ
      obtain ⟨⟨u, v⟩, huv, rfl⟩ := List.mem_map.mp hd
      obtain ⟨i, hi, e⟩ := List.getElem_of_mem huv
      have e := (List.getElem?_eq_some_iff.mpr ⟨hi, e⟩)
      obtain ⟨h1, h2⟩ := List.getElem?_zip_eq_some.mp e
      rw [List.getElem?_drop, List.getElem?_map] at h2
      rw [List.getElem?_map] at h1
      obtain ⟨p, hp, rfl⟩ := Option.map_eq_some_iff.mp h1
      obtain ⟨q, hq, rfl⟩ := Option.map_eq_some_iff.mp h2
      have lt : arrLt p q := by
        obtain ⟨l1, g1⟩ := List.getElem?_eq_some_iff.mp hp
        obtain ⟨l2, g2⟩ := List.getElem?_eq_some_iff.mp hq
        rw [← g1, ← g2]
        exact List.pairwise_iff_getElem.mp h.asc i (1 + i) l1 l2 (by omega)
      refine ⟨[some (.d (webD s as)), some (.d (.int s)), some (.d (.tuple (as.map arrD))), x1, some (.d (arrD p)), some (.d (arrD q))], [some (.d (webD s as)), some (.d (.int s)), some (.d (.tuple (as.map arrD))), x1, some (.d (arrD p)), some (.d (arrD q))], rfl, .inl ?_, ⟨_, _, rfl⟩⟩
      simp [ge_arr lt])
  have hs := h.size
  have few := h.few
  unfold runBody webF webB
  have eI : ∀ x1, evI (run tbl L (n + 2)) [] (.zip (.var 2) (.slc (.var 2) (.some (.cst (.int 1))) (.none))) [some (.d (webD s as)), some (.d (.int s)), some (.d (.tuple (as.map arrD))), x1, none, none] = .ok (((as.map arrD).zip ((as.map arrD).drop 1)).map fun z => .tuple [z.1, z.2], [some (.d (webD s as)), some (.d (.int s)), some (.d (.tuple (as.map arrD))), x1, none, none]) := fun x1 => by
    simp [slcD, cut1]
  have eS : evI (run tbl L (n + 2)) [] (.seq (.var 2)) [some (.d (webD s as)), some (.d (.int s)), some (.d (.tuple (as.map arrD))), none, none, none] = .ok (as.map arrD, [some (.d (webD s as)), some (.d (.int s)), some (.d (.tuple (as.map arrD))), none, none, none]) := by
    simp [seqOf]
  have f1 := ex_for_ (R := run tbl L (n + 2)) (L := L) (pn := []) (tg := .name 3) (b := (.cons (.ife (.not (.call a (.cons (.var 1) (.cons (.var 3) (.nil))))) (.cons (.ret (.cst (.bool false))) (.nil)) (.nil)) (.nil))) eS
  have f2 := ex_for_ (R := run tbl L (n + 2)) (L := L) (pn := []) (tg := .tup (.cons (.name 4) (.cons (.name 5) (.nil)))) (b := (.cons (.ife (.cmp .ge (.var 4) (.var 5)) (.cons (.ret (.cst (.bool false))) (.nil)) (.nil)) (.nil))) (eI x1)
  rw [e1] at f1
  rw [e2] at f2
  have few' : ¬ (1000 : Int) < (as.length : Int) := by omega
  have bt : bindT [] (.tup (.cons (.name 1) (.cons (.name 2) (.nil)))) (webD s as) [some (.d (webD s as)), none, none, none, none, none] = some [some (.d (webD s as)), some (.d (.int s)), some (.d (.tuple (as.map arrD))), none, none, none] := rfl
  have i0 : isiD .tuple (webD s as) = true := rfl
  have l0 : biD .len (webD s as) = some (.d (.int 2)) := rfl
  have s0 : subD (webD s as) (.int 0) = some (.int s) := rfl
  simp [outs, ioOf, fill, putBack, run_from hf, hs.1, hs.2, bt, i0, l0, s0, few', f1, f2]
theorem run_chk (hf : tbl[f]? = some fromF) (ha : tbl[a]? = some (arrF f)) (hw : tbl[w]? = some (webF f a)) (hc : tbl[d]? = some (chkF w c)) {s : Int} {as : List Arr} (h : WebOk s as) : (run tbl L (n + 4)).run d [.d (webD s as)] = .ok (.d (webD s as), []) := by
  rw [run_succ hc]
  unfold runBody chkF chkB
  simp [outs, ioOf, fill, putBack, run_web hf ha hw h]
end
end AM
/-! Sm4: arrows_so, spots_so. -/
namespace AM
open PySem PySem.Spec PyProof.Rows L2
/-- six rows of numbers, by a function -/
def rowD (s : Nat) (B : Nat → Nat → Nat) (w : Nat) : List Dt := (List.range s).map fun x => PyData.int (B w x : Nat)
def tab (s : Nat) (B : Nat → Nat → Nat) : Ob := .lst ((List.range 6).map fun w => Ob.ls (rowD s B w))
def upB (B : Nat → Nat → Nat) (i j c : Nat) : Nat → Nat → Nat := fun w x => if w = i ∧ x = j then B w x ||| c else B w x
theorem range_set {α : Type} {n i : Nat} {f g : Nat → α} (h : ∀ j, j ≠ i → g j = f j) : ((List.range n).map f).set i (g i) = (List.range n).map g := by
  refine List.ext_getElem? fun m => ?_
  by_cases e : i = m
  · subst e
    by_cases hi : i < n
    · rw [List.getElem?_set_self (by simpa using hi)]
      simp [hi]
    · rw [List.getElem?_eq_none (by simp; omega), List.getElem?_eq_none (by simp; omega)]
  · rw [List.getElem?_set_ne e]
    by_cases hm : m < n
    · simp [hm, h m (Ne.symm e)]
    · rw [List.getElem?_eq_none (by simp; omega), List.getElem?_eq_none (by simp; omega)]
theorem row_up {s i j c w : Nat} {B : Nat → Nat → Nat} (h : w ≠ i) : rowD s (upB B i j c) w = rowD s B w := by
  unfold rowD upB
  refine List.map_congr_left fun x _ => ?_
  rw [if_neg (fun z => h z.1)]
theorem row_set {s i j c : Nat} {B : Nat → Nat → Nat} : (rowD s B i).set j (.int ((B i j ||| c : Nat) : Int)) = rowD s (upB B i j c) i := by
  have := range_set (n := s) (i := j) (f := fun x => PyData.int (B i x : Nat)) (g := fun x => PyData.int (upB B i j c i x : Nat)) (fun x hx => by
    show PyData.int _ = _
    unfold upB
    rw [if_neg (fun z => hx z.2)])
  unfold rowD
  rw [← this]
  congr 2
  unfold upB
  rw [if_pos ⟨rfl, rfl⟩]
section
variable {s : Nat} {B : Nat → Nat → Nat} {R : Fns} {L : Nat} {pn : List Nat} {ρ : Env}
theorem tab_at {k : Int} {i : Nat} (hk : ixN 6 k = some i) : itemO (tab s B) (.int k) = some (Ob.ls (rowD s B i)) := by
  have hi := ixN_lt hk
  show atI ((List.range 6).map fun w => Ob.ls (rowD s B w)) k = _
  unfold atI
  rw [List.length_map, List.length_range, hk]
  show ((List.range 6).map fun w => Ob.ls (rowD s B w))[i]? = _
  simp [hi]
theorem row_at {i j : Nat} (hj : j < s) : itemO (Ob.ls (rowD s B i)) (.int (j : Int)) = some (.d (.int (B i j : Nat))) := by
  show atI ((rowD s B i).map Ob.d) (j : Int) = _
  rw [atI_nat (v := Ob.d (.int (B i j : Nat))) (by simp [rowD, hj])]
theorem set_row {i j : Nat} {y : Int} (hj : j < s) : setO (Ob.ls (rowD s B i)) (.int (j : Int)) (.d (.int y)) = some (Ob.ls ((rowD s B i).set j (.int y))) := by
  show (ixN ((rowD s B i).map Ob.d).length (j : Int)).map (fun m => Ob.lst (((rowD s B i).map Ob.d).set m (.d (.int y)))) = _
  have e : ixN ((rowD s B i).map Ob.d).length (j : Int) = some j := by
    unfold ixN
    rw [if_pos (by omega), if_pos (by simp [rowD]; exact hj)]
    simp
  rw [e]
  simp [Ob.ls, List.map_set]
theorem set_tab {k : Int} {i j c : Nat} (hk : ixN 6 k = some i) : setO (tab s B) (.int k) (Ob.ls (rowD s (upB B i j c) i)) = some (tab s (upB B i j c)) := by
  show (ixN ((List.range 6).map fun w => Ob.ls (rowD s B w)).length k).map (fun m => Ob.lst (((List.range 6).map fun w => Ob.ls (rowD s B w)).set m (Ob.ls (rowD s (upB B i j c) i)))) = _
  rw [List.length_map, List.length_range, hk]
  show some (Ob.lst _) = _
  rw [range_set (g := fun w => Ob.ls (rowD s (upB B i j c) w)) fun w hw => by rw [row_up hw]]
  rfl
theorem or_nat (a c : Nat) : Builtin.bitOr (a : Int) (c : Int) = ((a ||| c : Nat) : Int) := by
  rw [bitOr_nn (by omega) (by omega)]
  simp
theorem ex_aug_tab {q : Nat} {e0 e1 e2 : Ex} {k : Int} {i j c : Nat} (h0 : smp ρ e0 = some (.int k)) (h1 : smp ρ e1 = some (.int (j : Int))) (h2 : smp ρ e2 = some (.int (c : Int))) (hg : get ρ q = some (tab s B)) (hk : ixN 6 k = some i) (hj : j < s) :
    ex R L pn (.aug2 q e0 e1 .bor e2) ρ = .ok (.nx (ρ.set q (some (tab s (upB B i j c))))) := by
  rw [ex, h0, of_some', bind_ok', h1, of_some', bind_ok', h2, of_some', bind_ok', hg]
  simp only [Option.bind_some, tab_at hk, row_at hj, bin_bor, or_nat, set_row hj, row_set, set_tab hk, of_some', bind_ok']
end
def kN (p : Arr) : Nat := p.1.toNat
def aN (p : Arr) : Nat := p.2.1.toNat
def bN (p : Arr) : Nat := p.2.2.toNat
def upA (B : Nat → Nat → Nat) (p : Arr) : Nat → Nat → Nat := upB (upB B (kN p) (aN p) (2 ^ bN p)) (5 - kN p) (bN p) (2 ^ aN p)
def bits (as : List Arr) : Nat → Nat → Nat := as.foldl upA fun _ _ => 0
theorem bits_snoc (as : List Arr) (p : Arr) : bits (as ++ [p]) = upA (bits as) p := by
  unfold bits
  rw [List.foldl_append]
  rfl
/-- what a bit of a row tells -/
theorem bit_iff (as : List Arr) : ∀ w x j, (bits as w x).testBit j = true ↔ ∃ p ∈ as, (kN p = w ∧ aN p = x ∧ bN p = j) ∨ (5 - kN p = w ∧ bN p = x ∧ aN p = j) := by
  have up : ∀ (B : Nat → Nat → Nat) (i y c w x j : Nat), (upB B i y (2 ^ c) w x).testBit j = true ↔ (B w x).testBit j = true ∨ (i = w ∧ y = x ∧ c = j) := by
    intro B i y c w x j
    unfold upB
    by_cases h : w = i ∧ x = y
    · obtain ⟨rfl, rfl⟩ := h
      rw [if_pos ⟨rfl, rfl⟩, Nat.testBit_or, Bool.or_eq_true, Nat.testBit_two_pow]
      simp
    · rw [if_neg h]
      constructor
      · exact .inl
      · rintro (z | ⟨rfl, rfl, _⟩)
        · exact z
        · exact absurd ⟨rfl, rfl⟩ h
  have key : ∀ (l : List Arr) w x j, (bits l.reverse w x).testBit j = true ↔ ∃ p ∈ l, (kN p = w ∧ aN p = x ∧ bN p = j) ∨ (5 - kN p = w ∧ bN p = x ∧ aN p = j) := by
    intro l
    induction l with
    | nil => intro w x j; simp [bits]
    | cons p r ih =>
      intro w x j
      rw [List.reverse_cons, bits_snoc]
      unfold upA
      rw [up, up, ih]
      constructor
      · rintro ((⟨q, hq, h⟩ | h) | h)
        · exact ⟨q, List.mem_cons_of_mem _ hq, h⟩
        · exact ⟨p, List.mem_cons_self, .inl h⟩
        · exact ⟨p, List.mem_cons_self, .inr h⟩
      · rintro ⟨q, hq, h⟩
        rcases List.mem_cons.mp hq with rfl | hq
        · rcases h with h | h
          · exact .inl (.inr h)
          · exact .inr h
        · exact .inl (.inl ⟨q, hq, h⟩)
  intro w x j
  have := key as.reverse w x j
  rw [List.reverse_reverse] at this
  rw [this]
  simp only [List.mem_reverse]
def rowsB : Ex := .rep (.lst (.cons (.cst (.int 0)) .nil)) (.var 1)
theorem rows_flat (s : Nat) : (List.replicate s [PyData.int 0]).flatten = rowD s (fun _ _ => 0) 0 := by
  unfold rowD
  rw [List.flatten_replicate_singleton]
  exact (List.eq_replicate_iff.mpr ⟨by simp, fun b hb => by obtain ⟨_, _, rfl⟩ := List.mem_map.mp hb; rfl⟩).symm
theorem tab_zero (s : Nat) : Ob.lst ((rngD 0 6).filterMap fun _ => some (Ob.ls (rowD s (fun _ _ => 0) 0))) = tab s fun _ _ => 0 := by
  unfold tab rngD
  rw [List.filterMap_map]
  have this : ∀ l : List Nat, l.filterMap ((fun _ => some (Ob.ls (rowD s (fun _ _ => 0) 0))) ∘ fun (i : Nat) => PyData.int (0 + (i : Int))) = l.map fun w => Ob.ls (rowD s (fun _ _ => 0) w) := by
    intro l
    induction l with
    | nil => rfl
    | cons x r ih => rw [List.map_cons, ← ih]; rfl
  rw [this]
theorem ev_row {R : Fns} {s : Nat} {a b : Ob} (hs : s ≤ 200) (y : Option Ob) : ev R [] rowsB [some a, some (.d (.int (s : Int))), some b, none, none, none, none, y] = .ok (Ob.ls (rowD s (fun _ _ => 0) 0), [some a, some (.d (.int (s : Int))), some b, none, none, none, none, y]) := by
  unfold rowsB
  have z1 : 1 ≤ sizeLine := by decide
  rw [ev_rep_ok (os := [.d (.int 0)]) (ds := [.int 0]) (k := (s : Int)) (ρ1 := [some a, some (.d (.int (s : Int))), some b, none, none, none, none, y]) (ρ2 := [some a, some (.d (.int (s : Int))), some b, none, none, none, none, y]) (by simp [z1]) (by simp) rfl ⟨by omega, by omega⟩ (by
    rw [Int.toNat_natCast, List.length_singleton, sizeLine_eq]
    omega), Int.toNat_natCast, rows_flat]
theorem ev_rows {R : Fns} {s : Nat} {a b : Ob} (hs : s ≤ 200) : ev R [] (.comp [7] (.name 7) (.rng (.cst (.int 6))) (.nil) rowsB) [some a, some (.d (.int (s : Int))), some b, none, none, none, none, none]
      = .ok (tab s fun _ _ => 0, [some a, some (.d (.int (s : Int))), some b, none, none, none, none, none]) := by
  obtain ⟨ρ', e, y, rfl⟩ := compL_map (bnd := fun d r => bindT [] (.name 7) d (wipeE [7] r)) (c := evC R [] .nil) (e := ev R [] rowsB)
    (fun _ => some (Ob.ls (rowD s (fun _ _ => 0) 0))) (fun ρ => ∃ y, ρ = [some a, some (.d (.int (s : Int))), some b, none, none, none, none, y]) (ds := rngD 0 6) (ρ := [some a, some (.d (.int (s : Int))), some b, none, none, none, none, none]) ⟨none, rfl⟩ (fun d hd ρ hρ => by
      obtain ⟨y, rfl⟩ := hρ
      exact ⟨[some a, some (.d (.int (s : Int))), some b, none, none, none, none, some (.d d)], [some a, some (.d (.int (s : Int))), some b, none, none, none, none, some (.d d)], true, rfl, rfl, .inl ⟨rfl, _, [some a, some (.d (.int (s : Int))), some b, none, none, none, none, some (.d d)], ev_row hs _, rfl, _, rfl⟩⟩)
  rw [ev_comp_ (ds := rngD 0 6) (ρ1 := [some a, some (.d (.int (s : Int))), some b, none, none, none, none, none]) (by simp [wInt, rng_small (i := 6) ⟨by decide, by decide⟩]) ⟨rfl, rfl⟩ e (show (6 : Nat) ≤ sizeLine by decide), tab_zero]
  rfl
def arrsL : Sms := .cons (.aug2 3 (.var 4) (.var 5) .bor (.bin .shl (.cst (.int 1)) (.var 6))) (.cons (.aug2 3 (.bin .sub (.neg (.cst (.int 1))) (.var 4)) (.var 6) .bor (.bin .shl (.cst (.int 1)) (.var 5))) (.nil))
def arrsB : Sms := .cons (.asgT (.cons (.name 1) (.cons (.name 2) (.nil))) (.var 0)) (.cons (.asg 3 (.comp [7] (.name 7) (.rng (.cst (.int 6))) (.nil) rowsB)) (.cons (.for_ (.tup (.cons (.name 4) (.cons (.name 5) (.cons (.name 6) (.nil))))) (.seq (.var 2)) arrsL) (.cons (.ret (.var 3)) (.nil))))
def arrsF : Df := ⟨8, 1, [], arrsB⟩
section
variable {tbl : List Df} {L n d : Nat}
theorem shl_one {c : Nat} (h : c ≤ 1000) : binD .shl (.int 1) (.int (c : Int)) = some (.d (.int ((2 ^ c : Nat) : Int))) := by
  rw [bin_shl ⟨by omega, by omega, by decide⟩]
  simp
def arrsE (s : Nat) (a b : Ob) (B : Nat → Nat → Nat) (x y z : Option Ob) : Env := [some a, some (.d (.int (s : Int))), some b, some (tab s B), x, y, z, none]
theorem ixn_k {k : Nat} (h : k ≤ 2) : ixN 6 (k : Int) = some k := by
  unfold ixN
  rw [if_pos (by omega), if_pos (by omega)]
  simp
theorem ixn_b {k : Nat} (h : k ≤ 2) : ixN 6 (-1 - (k : Int)) = some (5 - k) := by
  unfold ixN
  rw [if_neg (by omega), if_pos (by omega)]
  exact congrArg some (by omega)
theorem smp_shl {ρ : Env} {i c : Nat} (h : get ρ i = some (.d (.int (c : Int)))) (hc : c ≤ 1000) : smp ρ (.bin .shl (.cst (.int 1)) (.var i)) = some (.int ((2 ^ c : Nat) : Int)) := by
  simp only [smp, h, atom, if_true, shl_one hc]
theorem smp_back {ρ : Env} {i : Nat} {k : Int} (h : get ρ i = some (.d (.int k))) : smp ρ (.bin .sub (.neg (.cst (.int 1))) (.var i)) = some (.int (-1 - k)) := by
  simp only [smp, h, atom, if_true, bin_sub]
theorem arrs_step {R : Fns} {s : Nat} {a b : Ob} {B : Nat → Nat → Nat} {k x y : Nat} (hk : k ≤ 2) (hx : x < s) (hy : y < s) (hs : s ≤ 200) :
    exs R L [] arrsL (arrsE s a b B (some (.d (.int (k : Int)))) (some (.d (.int (x : Int)))) (some (.d (.int (y : Int))))) = .ok (.nx (arrsE s a b (upB (upB B k x (2 ^ y)) (5 - k) y (2 ^ x)) (some (.d (.int (k : Int)))) (some (.d (.int (x : Int)))) (some (.d (.int (y : Int)))))) := by
  have g1 := ex_aug_tab (R := R) (L := L) (pn := []) (q := 3) (e0 := .var 4) (e1 := .var 5) (e2 := .bin .shl (.cst (.int 1)) (.var 6)) (ρ := arrsE s a b B (some (.d (.int (k : Int)))) (some (.d (.int (x : Int)))) (some (.d (.int (y : Int))))) (k := k) (i := k) (j := x) (c := 2 ^ y) (s := s) (B := B) rfl rfl (smp_shl rfl (by omega)) rfl (ixn_k hk) hx
  have g2 := ex_aug_tab (R := R) (L := L) (pn := []) (q := 3) (e0 := .bin .sub (.neg (.cst (.int 1))) (.var 4)) (e1 := .var 6) (e2 := .bin .shl (.cst (.int 1)) (.var 5)) (ρ := arrsE s a b (upB B k x (2 ^ y)) (some (.d (.int (k : Int)))) (some (.d (.int (x : Int)))) (some (.d (.int (y : Int))))) (k := -1 - k) (i := 5 - k) (j := y) (c := 2 ^ x) (s := s) (B := upB B k x (2 ^ y)) (smp_back rfl) rfl (smp_shl rfl (by omega)) rfl (ixn_b hk) hy
  unfold arrsL
  rw [exs, g1, bind_ok']
  have e1 : (arrsE s a b B (some (.d (.int (k : Int)))) (some (.d (.int (x : Int)))) (some (.d (.int (y : Int))))).set 3 (some (tab s (upB B k x (2 ^ y)))) = arrsE s a b (upB B k x (2 ^ y)) (some (.d (.int (k : Int)))) (some (.d (.int (x : Int)))) (some (.d (.int (y : Int)))) := rfl
  simp only [e1]
  rw [exs, g2, bind_ok']
  simp only [exs]
  rfl
theorem frz_tab (s : Nat) (B : Nat → Nat → Nat) : frz (tab s B) = some (.list ((List.range 6).map fun w => PyData.list (rowD s B w))) := by
  have : ∀ l : List Nat, frzs (l.map fun w => Ob.ls (rowD s B w)) = some (l.map fun w => PyData.list (rowD s B w)) := by
    intro l
    induction l with
    | nil => rfl
    | cons w r ih =>
      have e1 : frz (Ob.ls (rowD s B w)) = some (.list (rowD s B w)) := by unfold Ob.ls; show (frzs ((rowD s B w).map Ob.d)).map _ = _; rw [frzs_plain]; rfl
      show (match frz (Ob.ls (rowD s B w)), frzs (r.map fun w => Ob.ls (rowD s B w)) with | some d, some ds => some (d :: ds) | _, _ => none) = _
      rw [e1, ih]
      rfl
  show (frzs _).map _ = _
  rw [this]
  rfl
theorem arrs_loop {R : Fns} {s : Nat} {a b : Ob} {as : List Arr} (h : WebOk (s : Int) as) : ∃ x y z, forL (bindT [] (.tup (.cons (.name 4) (.cons (.name 5) (.cons (.name 6) (.nil)))))) (exs R L [] arrsL) (as.map arrD) (arrsE s a b (fun _ _ => 0) none none none) = .ok (.nx (arrsE s a b (bits as) x y z)) := by
  have hs := h.size
  obtain ⟨ρ2, e2, x, y, z, e3⟩ := forL_inv (bnd := bindT [] (.tup (.cons (.name 4) (.cons (.name 5) (.cons (.name 6) (.nil)))))) (b := exs R L [] arrsL)
    (fun i ρ => ∃ x y z, ρ = arrsE s a b (bits (as.take i)) x y z) (as.map arrD) 0 (arrsE s a b (fun _ _ => 0) none none none) ⟨none, none, none, rfl⟩ (fun i d ρ hd hρ => by
      obtain ⟨x, y, z, rfl⟩ := hρ
      rw [List.getElem?_map] at hd
      obtain ⟨p, hp, rfl⟩ := Option.map_eq_some_iff.mp hd
      obtain ⟨⟨a1, a2⟩, ⟨a3, a4⟩, a5, a6⟩ := h.each p (List.mem_of_getElem? hp)
      have e1 : p.1 = (kN p : Int) := by unfold kN; omega
      have e2 : p.2.1 = (aN p : Int) := by unfold aN; omega
      have e3 : p.2.2 = (bN p : Int) := by unfold bN; omega
      have k2 : kN p ≤ 2 := by unfold kN; omega
      have al : aN p < s := by unfold aN; omega
      have bl : bN p < s := by unfold bN; omega
      have tk : as.take (0 + i + 1) = as.take (0 + i) ++ [p] := by rw [List.take_add_one, Nat.zero_add, hp]; rfl
      refine ⟨arrsE s a b (bits (as.take (0 + i))) (some (.d (.int p.1))) (some (.d (.int p.2.1))) (some (.d (.int p.2.2))), arrsE s a b (bits (as.take (0 + i + 1))) (some (.d (.int p.1))) (some (.d (.int p.2.1))) (some (.d (.int p.2.2))), rfl, .inl ?_, ⟨_, _, _, rfl⟩⟩
      rw [tk, bits_snoc, e1, e2, e3, arrs_step k2 al bl (by omega)]
      rfl)
  refine ⟨x, y, z, ?_⟩
  rw [e2, e3, Nat.zero_add, List.length_map, List.take_length]
theorem run_arrs (ha : tbl[d]? = some arrsF) {s : Nat} {as : List Arr} (h : WebOk (s : Int) as) :
    (run tbl L (n + 1)).run d [.d (webD s as)] = .ok (.d (.list ((List.range 6).map fun w => PyData.list (rowD s (bits as) w))), []) := by
  rw [run_succ ha]
  have hs := h.size
  have c0 := ev_rows (R := run tbl L n) (a := .d (webD s as)) (b := .d (.tuple (as.map arrD))) (s := s) (by omega)
  obtain ⟨x, y, z, lp⟩ := arrs_loop (R := run tbl L n) (L := L) (a := .d (webD s as)) (b := .d (.tuple (as.map arrD))) h
  have eS : evI (run tbl L n) [] (.seq (.var 2)) (arrsE s (.d (webD s as)) (.d (.tuple (as.map arrD))) (fun _ _ => 0) none none none) = .ok (as.map arrD, arrsE s (.d (webD s as)) (.d (.tuple (as.map arrD))) (fun _ _ => 0) none none none) := by
    simp [seqOf, arrsE]
  have f1 := ex_for_ (R := run tbl L n) (L := L) (pn := []) (tg := .tup (.cons (.name 4) (.cons (.name 5) (.cons (.name 6) (.nil))))) (b := arrsL) eS
  rw [lp] at f1
  have bt : bindT [] (.tup (.cons (.name 1) (.cons (.name 2) (.nil)))) (webD s as) [some (.d (webD s as)), none, none, none, none, none, none, none] = some [some (.d (webD s as)), some (.d (.int s)), some (.d (.tuple (as.map arrD))), none, none, none, none, none] := rfl
  have u3 : use (arrsE s (.d (webD s as)) (.d (.tuple (as.map arrD))) (bits as) x y z) 3 = some (.list ((List.range 6).map fun w => PyData.list (rowD s (bits as) w)), (arrsE s (.d (webD s as)) (.d (.tuple (as.map arrD))) (bits as) x y z).set 3 (some (.d (.list ((List.range 6).map fun w => PyData.list (rowD s (bits as) w)))))) := by
    show (frz (tab s (bits as))).map _ = _
    rw [frz_tab]
    rfl
  unfold runBody arrsF arrsB
  simp only [arrsE] at f1 u3
  simp [outs, bt, c0, st, f1, u3]
end
end AM
/-! Sm5: spots_so; led_to. -/
namespace AM
open PySem PySem.Spec PyProof.Rows L2
/-- the places of the ones among the first m -/
def ones (m b : Nat) : List Nat := (List.range m).filter fun i => b.testBit i
def natsD (l : List Nat) : List Dt := l.map fun (i : Nat) => PyData.int i
def spW : Sms := .cons (.ife (.cmp .eq (.bin .mod (.var 0) (.cst (.int 2))) (.cst (.int 1))) (.cons (.app 1 (.var 2)) (.nil)) (.nil)) (.cons (.par [0, 2] (.cons (.bin .fdiv (.var 0) (.cst (.int 2))) (.cons (.bin .add (.var 2) (.cst (.int 1))) .nil))) (.nil))
def spotsB : Sms := .cons (.par [1, 2] (.cons (.lst (.nil)) (.cons (.cst (.int 0)) .nil))) (.cons (.while_ (.cmp .gt (.var 0) (.cst (.int 0))) spW) (.cons (.ret (.bi .tuple (.var 1))) (.nil)))
def spotsF : Df := ⟨3, 1, [], spotsB⟩
theorem ones_succ (m b w : Nat) : (ones (m + 1) b).map (· + w) = (if b % 2 = 1 then [w] else []) ++ (ones m (b / 2)).map (· + (w + 1)) := by
  unfold ones
  rw [List.range_succ_eq_map, List.filter_cons, List.filter_map]
  have e0 : b.testBit 0 = decide (b % 2 = 1) := by rw [Nat.testBit_zero]
  have e1 : ((fun i => b.testBit i) ∘ Nat.succ) = fun i => (b / 2).testBit i := by
    funext i
    show b.testBit (i + 1) = _
    rw [Nat.testBit_succ]
  rw [e1]
  by_cases h : b % 2 = 1
  · rw [if_pos (by rw [e0]; simpa using h), if_pos h]
    simp only [List.map_cons, List.map_map, List.singleton_append, Nat.zero_add]
    congr 1
    refine List.map_congr_left fun i _ => ?_
    simp only [Function.comp]
    omega
  · rw [if_neg (by rw [e0]; simpa using h), if_neg h, List.nil_append, List.map_map]
    refine List.map_congr_left fun i _ => ?_
    simp only [Function.comp]
    omega
theorem ones_zero (m : Nat) : ones m 0 = [] := by
  unfold ones
  rw [List.filter_eq_nil_iff]
  intro i _
  simp
section
variable {tbl : List Df} {L n d : Nat} {R : Fns}
theorem ev_cmp_gt0 (x : Int) (o p : Option Ob) : (ev R [] (.cmp .gt (.var 0) (.cst (.int 0))) [some (.d (.int x)), o, p]).toB = .ok (decide (0 < x), [some (.d (.int x)), o, p]) := by
  simp
theorem spots_turn {b w : Nat} {acc : List Nat} (hl : acc.length < 1000) (y : Option Ob) :
    exs R L [] spW [some (.d (.int (b : Int))), some (Ob.ls (natsD acc)), some (.d (.int (w : Int)))] = .ok (.nx [some (.d (.int ((b / 2 : Nat) : Int))), some (Ob.ls (natsD (acc ++ if b % 2 = 1 then [w] else []))), some (.d (.int ((w + 1 : Nat) : Int)))]) := by
  have p2 : (0 : Int) < 2 := by decide
  have q2 : (2 : Int) < 1073741824 := by decide
  have sl : acc.length < sizeLine := by rw [sizeLine_eq]; omega
  unfold spW
  by_cases h : b % 2 = 1
  · have h2 : (b : Int) % 2 = 1 := by omega
    rw [if_pos h]
    simp [bin_mod p2, bin_fdiv p2 q2, h2, natsD, Ob.ls, sl, stAll, st]
  · have h2 : ¬ (b : Int) % 2 = 1 := by omega
    rw [if_neg h]
    simp [bin_mod p2, bin_fdiv p2 q2, h2, natsD, Ob.ls, sl, stAll, st]
theorem spots_loop : ∀ (m b w L2 : Nat) (acc : List Nat), b < 2 ^ m → m < L2 → acc.length + m < 1000 → ∃ w' : Nat,
    whlL (fun r => (ev R [] (.cmp .gt (.var 0) (.cst (.int 0))) r).toB) (exs R L [] spW) L2 [some (.d (.int (b : Int))), some (Ob.ls (natsD acc)), some (.d (.int (w : Int)))] = .ok (.nx [some (.d (.int 0)), some (Ob.ls (natsD (acc ++ (ones m b).map (· + w)))), some (.d (.int (w' : Int)))])
  | m, 0, w, L2 + 1, acc, h1, h2, h3 => by
    refine ⟨w, ?_⟩
    rw [whlL, ones_zero]
    simp
  | 0, b + 1, w, L2 + 1, acc, h1, h2, h3 => by simp at h1
  | m + 1, b + 1, w, L2 + 1, acc, h1, h2, h3 => by
    have hb : (b + 1) / 2 < 2 ^ m := by
      rw [Nat.pow_succ] at h1
      omega
    have la : (acc ++ if (b + 1) % 2 = 1 then [w] else []).length + m < 1000 := by
      rw [List.length_append]
      split <;> simp <;> omega
    obtain ⟨w', e⟩ := spots_loop m ((b + 1) / 2) (w + 1) L2 (acc ++ if (b + 1) % 2 = 1 then [w] else []) hb (by omega) la
    refine ⟨w', ?_⟩
    have pos : (0 : Int) < ((b + 1 : Nat) : Int) := by omega
    rw [whlL]
    have tst : (ev R [] (.cmp .gt (.var 0) (.cst (.int 0))) [some (.d (.int ((b + 1 : Nat) : Int))), some (Ob.ls (natsD acc)), some (.d (.int (w : Int)))]).toB = .ok (true, [some (.d (.int ((b + 1 : Nat) : Int))), some (Ob.ls (natsD acc)), some (.d (.int (w : Int)))]) := by
      have : decide ((0 : Int) < ((b + 1 : Nat) : Int)) = true := decide_eq_true pos
      simp only [ev_cmp_gt0, this]
    rw [tst, bind_ok']
    simp only [if_true]
    rw [spots_turn (by omega) none, bind_ok']
    show whlL _ _ L2 _ = _
    rw [e, ones_succ, List.append_assoc]
  | _, _, _, 0, _, _, h2, _ => by omega
theorem run_spots (hs : tbl[d]? = some spotsF) {b m : Nat} (hb : b < 2 ^ m) (hm : m < L) (hm2 : m < 1000) : (run tbl L (n + 1)).run d [.d (.int (b : Int))] = .ok (.d (.tuple (natsD (ones m b))), []) := by
  rw [run_succ hs]
  obtain ⟨w', e⟩ := spots_loop (R := run tbl L n) (L := L) m b 0 L [] hb hm (by simpa using hm2)
  have e0 : (ones m b).map (· + 0) = ones m b := by
    have : (fun i : Nat => i + 0) = id := rfl
    rw [this, List.map_id]
  rw [e0, List.nil_append] at e
  have wh := ex_while_ (R := run tbl L n) (L := L) (pn := []) (c := .cmp .gt (.var 0) (.cst (.int 0))) (b := spW) (ρ := [some (.d (.int (b : Int))), some (Ob.ls (natsD [])), some (.d (.int ((0 : Nat) : Int)))])
  rw [e] at wh
  have wh2 : ex (run tbl L n) L [] (.while_ (.cmp .gt (.var 0) (.cst (.int 0))) spW) [some (.d (.int (b : Int))), some (.lst []), some (.d (.int 0))] = .ok (.nx [some (.d (.int 0)), some (Ob.ls (natsD (ones m b))), some (.d (.int (w' : Int)))]) := wh
  have u := use1_ls (some (.d (.int 0))) (natsD (ones m b)) [some (.d (.int (w' : Int)))]
  have z : 0 ≤ sizeLine := Nat.zero_le _
  unfold runBody spotsF spotsB
  simp [stAll, st, wh2, u, outs]
end
end AM
/-! Sm6: sorted, sorted(set(..)) of ints and of arrows. -/
namespace AM
open PySem PySem.Spec PyProof.Rows L2
section
variable {α : Type} {lt : α → α → Prop}
/-- two ascending lists with the same members are one -/
theorem asc_ext (irr : ∀ a, ¬ lt a a) (tr : ∀ a b c, lt a b → lt b c → lt a c) : ∀ {l m : List α}, l.Pairwise lt → m.Pairwise lt → (∀ a, a ∈ l ↔ a ∈ m) → l = m
  | [], [], _, _, _ => rfl
  | [], b :: m, _, _, h => by have := (h b).mpr List.mem_cons_self; cases this
  | a :: l, [], _, _, h => by have := (h a).mp List.mem_cons_self; cases this
  | a :: l, b :: m, hl, hm, h => by
    have hl' := List.pairwise_cons.mp hl
    have hm' := List.pairwise_cons.mp hm
    have e : a = b := by
      rcases List.mem_cons.mp ((h a).mp List.mem_cons_self) with e | e
      · exact e
      · rcases List.mem_cons.mp ((h b).mpr List.mem_cons_self) with e2 | e2
        · exact e2.symm
        · exact absurd (tr _ _ _ (hm'.1 a e) (hl'.1 b e2)) (irr b)
    subst e
    congr 1
    refine asc_ext irr tr hl'.2 hm'.2 fun c => ⟨fun hc => ?_, fun hc => ?_⟩
    · rcases List.mem_cons.mp ((h c).mp (List.mem_cons_of_mem _ hc)) with e | e
      · exact absurd (hl'.1 c hc) (by rw [e]; exact irr a)
      · exact e
    · rcases List.mem_cons.mp ((h c).mpr (List.mem_cons_of_mem _ hc)) with e | e
      · exact absurd (hm'.1 c hc) (by rw [e]; exact irr a)
      · exact e
end
theorem arrLt_irr (a : Arr) : ¬ arrLt a a := by
  unfold arrLt
  omega
theorem arrLt_tr (a b c : Arr) (h1 : arrLt a b) (h2 : arrLt b c) : arrLt a c := by
  unfold arrLt at *
  omega
theorem arrLt_tri (a b : Arr) : arrLt a b ∨ a = b ∨ arrLt b a := by
  obtain ⟨a1, a2, a3⟩ := a
  obtain ⟨b1, b2, b3⟩ := b
  unfold arrLt
  simp only [Prod.mk.injEq]
  omega
def arrLe (p q : Arr) : Bool := !decide (arrLt q p)
theorem dataLt_arr (p q : Arr) : PySem.W.dataLt (arrD p) (arrD q) = decide (arrLt p q) := by
  have al : ∀ x y : Int, PySem.W.alike (.int x) (.int y) = true := fun x y => by simp [PySem.W.alike]
  have e0 : PyProof.Rows.lexLt itemOrd (PySem.W.keyToksAll []) (PySem.W.keyToksAll []) = false := lex_irrefl _
  unfold arrD
  rw [PySem.W.dataLt_tuple, PySem.W.dataLt_cons (al _ _), PySem.W.dataLt_cons (al _ _), PySem.W.dataLt_cons (al _ _), e0, PySem.W.dataLt_int, PySem.W.dataLt_int, PySem.W.dataLt_int]
  obtain ⟨p1, p2, p3⟩ := p
  obtain ⟨q1, q2, q3⟩ := q
  unfold arrLt
  simp only [PyData.eqv, beq_iff_eq]
  by_cases h1 : p1 = q1 <;> by_cases h2 : p2 = q2 <;> by_cases h3 : p3 = q3 <;> simp [h1, h2, h3] <;> omega
theorem dataLe_arr (p q : Arr) : PySem.W.dataLe false id (arrD p) (arrD q) = arrLe p q := by
  rw [PySem.W.dataLe_eq]
  show (!PySem.W.dataLt (arrD q) (arrD p)) = _
  rw [dataLt_arr]
  rfl
theorem sortD_arr (as : List Arr) : sortD (as.map arrD) = some ((as.mergeSort arrLe).map arrD) := by
  unfold sortD
  have : sortable (as.map arrD) = true := by
    unfold sortable
    rw [Bool.or_eq_true]
    right
    rw [List.all_eq_true]
    intro d hd
    obtain ⟨p, _, rfl⟩ := List.mem_map.mp hd
    rfl
  rw [if_pos this, PySem.W.sort_maps (s := PySem.W.dataLe false id) arrD fun a _ b _ => (dataLe_arr a b).symm]
theorem eqv_arr (p q : Arr) : PyData.eqv (arrD p) (arrD q) = decide (p = q) := by
  obtain ⟨p1, p2, p3⟩ := p
  obtain ⟨q1, q2, q3⟩ := q
  unfold arrD
  rw [Bool.eq_iff_iff]
  simp [PyData.eqv, PyData.eqvAll]
def sortA (as : List Arr) : List Arr := as.mergeSort arrLe
theorem mem_sortA {as : List Arr} {p : Arr} : p ∈ sortA as ↔ p ∈ as := List.mem_mergeSort
theorem sortA_asc {as : List Arr} (h : as.Nodup) : (sortA as).Pairwise arrLt := by
  have s := List.pairwise_mergeSort (le := arrLe) (fun a b c h1 h2 => by
    unfold arrLe at *
    simp only [Bool.not_eq_true', decide_eq_false_iff_not] at *
    intro z
    rcases arrLt_tri a b with k | k | k
    · rcases arrLt_tri b c with q | q | q
      · exact arrLt_irr _ (arrLt_tr _ _ _ (arrLt_tr _ _ _ z k) q)
      · subst q; exact h1 z
      · exact h2 q
    · subst k; exact h2 z
    · exact h1 k) (fun a b => by
    unfold arrLe
    rcases arrLt_tri a b with k | k | k
    · have : ¬ arrLt b a := fun z => arrLt_irr _ (arrLt_tr _ _ _ k z)
      simp [this]
    · subst k; simp [arrLt_irr]
    · have : ¬ arrLt a b := fun z => arrLt_irr _ (arrLt_tr _ _ _ k z)
      simp [this]) as
  have nd : (sortA as).Nodup := (List.mergeSort_perm as arrLe).nodup_iff.mpr h
  refine (s.and nd).imp fun {a b} ⟨h1, h2⟩ => ?_
  unfold arrLe at h1
  simp only [Bool.not_eq_true', decide_eq_false_iff_not] at h1
  rcases arrLt_tri a b with k | k | k
  · exact k
  · exact absurd k h2
  · exact absurd k h1
def sortI (ns : List Int) : List Int := (ded ns).mergeSort fun a b => decide (a ≤ b)
theorem mem_sortI {ns : List Int} {k : Int} : k ∈ sortI ns ↔ k ∈ ns := List.mem_mergeSort.trans mem_ded
theorem sortI_asc (ns : List Int) : (sortI ns).Pairwise (· < ·) := by
  have s := List.pairwise_mergeSort (le := fun (a b : Int) => decide (a ≤ b)) (fun a b c h1 h2 => by
    simp only [decide_eq_true_eq] at *
    omega) (fun a b => by
    simp only [Bool.or_eq_true, decide_eq_true_eq]
    omega) (ded ns)
  have nd : (sortI ns).Nodup := (List.mergeSort_perm (ded ns) _).nodup_iff.mpr (nodup_ded ns)
  refine (s.and nd).imp fun {a b} ⟨h1, h2⟩ => ?_
  simp only [decide_eq_true_eq] at h1
  omega
theorem sset_int {ns : List Int} (h : ns.length ≤ 1000) : (setD (ns.map PyData.int)).bind sortD = some ((sortI ns).map PyData.int) := by
  unfold setD
  have : (ns.map PyData.int).all isI = true := by
    rw [List.all_eq_true]
    intro d hd
    obtain ⟨p, _, rfl⟩ := List.mem_map.mp hd
    rfl
  rw [if_pos (.inl ⟨this, by rw [List.length_map]; exact h⟩), Option.bind_some, dedD_map PyData.int eqv_int, sortD_int]
  rfl
theorem sset_arr {as : List Arr} (h : as.length ≤ 76) : (setD (as.map arrD)).bind sortD = some ((sortA (ded as)).map arrD) := by
  unfold setD
  have : (as.map arrD).all tupI = true := by
    rw [List.all_eq_true]
    intro d hd
    obtain ⟨p, _, rfl⟩ := List.mem_map.mp hd
    rfl
  rw [if_pos (.inr ⟨this, by rw [List.length_map]; exact h⟩), Option.bind_some, dedD_map arrD eqv_arr, sortD_arr]
  rfl
end AM
/-! Sm7: led_to, and what the laws say of it. -/
namespace AM
open PySem PySem.Spec PyProof.Rows L2
theorem compL_on {α : Type} (g : α → Dt) {bnd : Dt → Env → Option Env} {c : Env → Res (Bool × Env)} {e : Env → Res (Ob × Env)} (f : α → Option Ob) (P : Env → Prop) {as : List α} {ρ : Env} (h0 : P ρ)
    (step : ∀ a ∈ as, ∀ ρ, P ρ → ∃ ρ1 ρ2 t, bnd (g a) ρ = some ρ1 ∧ c ρ1 = .ok (t, ρ2) ∧ ((t = true ∧ ∃ o ρ3, e ρ2 = .ok (o, ρ3) ∧ f a = some o ∧ P ρ3) ∨ (t = false ∧ f a = none ∧ P ρ2))) :
    ∃ ρ', compL bnd c e (as.map g) ρ = .ok (as.filterMap f, ρ') ∧ P ρ' := by
  induction as generalizing ρ with
  | nil => exact ⟨ρ, rfl, h0⟩
  | cons d ds ih =>
    obtain ⟨ρ1, ρ2, t, e1, e2, h2⟩ := step d List.mem_cons_self ρ h0
    have st := fun d' h => step d' (List.mem_cons_of_mem d h)
    rw [List.map_cons, compL, e1, of_some', bind_ok', e2, bind_ok']
    rcases h2 with ⟨rfl, o, ρ3, e3, e4, h3⟩ | ⟨rfl, e4, h3⟩
    · obtain ⟨ρ', e5, h5⟩ := ih h3 st
      refine ⟨ρ', ?_, h5⟩
      simp only [if_true, e3, bind_ok', e5, List.filterMap_cons, e4]
    · obtain ⟨ρ', e5, h5⟩ := ih h3 st
      refine ⟨ρ', ?_, h5⟩
      simp only [Bool.false_eq_true, if_false, e5, List.filterMap_cons, e4]
theorem filterMap_if {α β : Type} (p : α → Bool) (h : α → β) : ∀ l : List α, l.filterMap (fun a => if p a = true then some (h a) else none) = (l.filter p).map h
  | [] => rfl
  | a :: r => by
    rw [List.filterMap_cons, List.filter_cons]
    by_cases e : p a = true
    · rw [if_pos e, if_pos e, List.map_cons, filterMap_if p h r]
    · rw [if_neg e, if_neg e, filterMap_if p h r]
def wayB (f c : Nat) : Sms := .cons (.ife (.not (.call f (.cons (.var 0) (.cons (.neg (.cst (.int 3))) (.cons (.cst (.int 2)) (.nil)))))) (.cons (.raise c (.cons (.var 0) .nil)) (.nil)) (.nil)) (.cons (.ret (.var 0)) (.nil))
def wayF (f c : Nat) : Df := ⟨1, 1, [], wayB f c⟩
def worldB (f c : Nat) : Sms := .cons (.ife (.not (.call f (.cons (.var 1) (.cons (.cst (.int 0)) (.cons (.bin .sub (.sub (.var 0) (.cst (.int 0))) (.cst (.int 1))) (.nil)))))) (.cons (.raise c (.cons (.var 1) .nil)) (.nil)) (.nil)) (.cons (.ret (.var 1)) (.nil))
def worldF (f c : Nat) : Df := ⟨2, 2, [], worldB f c⟩
def ledB (c w x a p : Nat) : Sms := .cons (.expr (.call c (.cons (.var 0) (.nil)))) (.cons (.expr (.call w (.cons (.var 1) (.nil)))) (.cons (.expr (.call x (.cons (.var 0) (.cons (.var 2) (.nil))))) (.cons (.ret (.call p (.cons (.sub (.sub (.call a (.cons (.var 0) (.nil))) (.var 1)) (.var 2)) (.nil)))) (.nil))))
def ledF (c w x a p : Nat) : Df := ⟨3, 3, [], ledB c w x a p⟩
theorem bits_lt {s : Nat} {as : List Arr} (h : WebOk (s : Int) as) (w x : Nat) : bits as w x < 2 ^ s := by
  refine Nat.lt_pow_two_of_testBit _ fun j hj => ?_
  cases q : (bits as w x).testBit j with
  | false => rfl
  | true =>
    obtain ⟨p, hp, h2⟩ := (bit_iff as w x j).mp q
    obtain ⟨_, ⟨a3, a4⟩, a5, a6⟩ := h.each p hp
    exfalso
    rcases h2 with ⟨_, _, rfl⟩ | ⟨_, _, rfl⟩
    · unfold bN at hj; omega
    · unfold aN at hj; omega
section
variable {tbl : List Df} {L n f a w c d x p l c2 c3 : Nat}
@[simp] theorem subL_i {xs : List Dt} {i : Int} : subD (.list xs) (.int i) = atI xs i := id rfl
/-- the rows' places by the way -/
def rowOf (t : Int) : Nat := if 0 ≤ t then t.toNat else (t + 6).toNat
theorem rowOf_ix {t : Int} (h : -3 ≤ t ∧ t ≤ 2) : ixN 6 t = some (rowOf t) := by
  unfold ixN rowOf
  by_cases z : 0 ≤ t
  · rw [if_pos z, if_pos z, if_pos (by omega)]
  · rw [if_neg z, if_neg z, if_pos (by omega)]
    rfl
theorem run_led (hf : tbl[f]? = some fromF) (ha : tbl[a]? = some (arrF f)) (hw : tbl[w]? = some (webF f a)) (hc : tbl[c]? = some (chkF w c2)) (hy : tbl[d]? = some (wayF f c3)) (hx : tbl[x]? = some (worldF f n)) (hr : tbl[p]? = some arrsF) {q m k : Nat} (hs : tbl[q]? = some spotsF) (hl : tbl[l]? = some (ledF c d x p q)) (hL : 200 < L)
    {s : Nat} {as : List Arr} (h : WebOk (s : Int) as) {t v : Int} (ht : -3 ≤ t ∧ t ≤ 2) (hv : 0 ≤ v ∧ v < s) :
    (run tbl L (k + 5)).run l [.d (webD s as), .d (.int t), .d (.int v)] = .ok (.d (.tuple (natsD (ones s (bits as (rowOf t) v.toNat)))), []) := by
  rw [run_succ hl]
  have h1 := run_chk (L := L) (n := k) hf ha hw hc h
  have h2 : (run tbl L (k + 4)).run d [.d (.int t)] = .ok (.d (.int t), []) := by
    rw [run_succ hy]
    unfold runBody wayF wayB
    simp [outs, ioOf, fill, putBack, run_from hf, ht.1, ht.2]
  have sz := h.size
  have v2 : v ≤ (s : Int) - 1 := by omega
  have s0 : subD (webD s as) (.int 0) = some (.int s) := id rfl
  have h3 : (run tbl L (k + 4)).run x [.d (webD s as), .d (.int v)] = .ok (.d (.int v), []) := by
    rw [run_succ hx]
    unfold runBody worldF worldB
    simp [outs, ioOf, fill, putBack, run_from hf, hv.1, v2, s0]
  have h4 := run_arrs (L := L) (n := k + 3) hr h
  have h5 := run_spots (tbl := tbl) (L := L) (n := k + 3) hs (bits_lt h (rowOf t) v.toNat) (by omega) (by omega)
  have r6 : rowOf t < 6 := ixN_lt (rowOf_ix ht)
  have e1 : atI ((List.range 6).map fun w => PyData.list (rowD s (bits as) w)) t = some (.list (rowD s (bits as) (rowOf t))) := by
    unfold atI
    rw [List.length_map, List.length_range, rowOf_ix ht, Option.bind_some]
    simp [r6]
  have ev : v = ((v.toNat : Nat) : Int) := by omega
  have vl : v.toNat < s := by omega
  have e2 : atI (rowD s (bits as) (rowOf t)) v = some (.int (bits as (rowOf t) v.toNat : Nat)) := by
    have : atI (rowD s (bits as) (rowOf t)) ((v.toNat : Nat) : Int) = some (.int (bits as (rowOf t) v.toNat : Nat)) := atI_nat (by simp [rowD, vl])
    rw [← ev] at this
    exact this
  generalize (List.map (fun w => PyData.list (rowD s (bits as) w)) (List.range 6)) = Z at *
  generalize rowD s (bits as) (rowOf t) = Y at *
  unfold runBody ledF ledB
  simp [outs, ioOf, fill, putBack, h1, h2, h3, h4, e1, e2, h5]
/-! ### the law's own -/
def selE : Ex := .var 6
def selP : Exs := .cons (.and (.cmp .eq (.var 4) (.var 1)) (.cmp .eq (.var 5) (.var 2))) .nil
def selN : Exs := .cons (.and (.cmp .eq (.var 4) (.bin .sub (.neg (.cst (.int 1))) (.var 1))) (.cmp .eq (.var 6) (.var 2))) .nil
def selT : Tg := .tup (.cons (.name 4) (.cons (.name 5) (.cons (.name 6) (.nil))))
def lledB : Sms := .cons (.ife (.cmp .ge (.var 1) (.cst (.int 0))) (.cons (.asg 3 (.comp [4, 5, 6] selT (.seq (.sub (.var 0) (.cst (.int 1)))) selP (.var 6))) (.nil)) (.cons (.asg 3 (.comp [4, 5, 6] selT (.seq (.sub (.var 0) (.cst (.int 1)))) selN (.var 5))) (.nil))) (.cons (.ret (.bi .tuple (.bi .sset (.var 3)))) (.nil))
def lledF : Df := ⟨7, 3, [], lledB⟩
/-- what stands at the far end (or the near one) of the arrows that are asked for -/
def farsOf (as : List Arr) (t v : Int) : List Int := if 0 ≤ t then (as.filter fun p => p.1 == t && p.2.1 == v).map (·.2.2) else (as.filter fun p => p.1 == -1 - t && p.2.2 == v).map (·.2.1)
theorem ev_sel {R : Fns} {s : Int} {as : List Arr} (cs : Exs) (xe : Ex) (pr : Arr → Bool) (val : Arr → Int) {t v : Int} (hz : as.length ≤ sizeLine)
    (step : ∀ (q : Arr) (e : Env), e = [some (.d (webD s as)), some (.d (.int t)), some (.d (.int v)), none, some (.d (.int q.1)), some (.d (.int q.2.1)), some (.d (.int q.2.2))] → evC R [] cs e = .ok (pr q, e) ∧ ev R [] xe e = .ok (.d (.int (val q)), e)) :
    ev R [] (.comp [4, 5, 6] selT (.seq (.sub (.var 0) (.cst (.int 1)))) cs xe) [some (.d (webD s as)), some (.d (.int t)), some (.d (.int v)), none, none, none, none] = .ok (Ob.ls (((as.filter pr).map val).map PyData.int), [some (.d (webD s as)), some (.d (.int t)), some (.d (.int v)), none, none, none, none]) := by
  obtain ⟨ρ', e, y1, y2, y3, rfl⟩ := compL_on arrD (bnd := fun d r => bindT [] selT d (wipeE [4, 5, 6] r)) (c := evC R [] cs) (e := ev R [] xe) (fun q => if pr q = true then some (Ob.d (.int (val q))) else none)
    (fun ρ => ∃ y1 y2 y3, ρ = [some (.d (webD s as)), some (.d (.int t)), some (.d (.int v)), none, y1, y2, y3]) (as := as) (ρ := [some (.d (webD s as)), some (.d (.int t)), some (.d (.int v)), none, none, none, none]) ⟨none, none, none, rfl⟩ (fun q hq ρ hρ => by
      obtain ⟨y1, y2, y3, rfl⟩ := hρ
      obtain ⟨g1, g2⟩ := step q _ rfl
      refine ⟨[some (.d (webD s as)), some (.d (.int t)), some (.d (.int v)), none, some (.d (.int q.1)), some (.d (.int q.2.1)), some (.d (.int q.2.2))], _, pr q, rfl, g1, ?_⟩
      cases h : pr q with
      | true => exact .inl ⟨rfl, _, _, g2, rfl, _, _, _, rfl⟩
      | false => exact .inr ⟨rfl, rfl, _, _, _, rfl⟩)
  have s1 : subD (webD s as) (.int 1) = some (.tuple (as.map arrD)) := sub_t1 _ _ _
  rw [filterMap_if] at e
  rw [ev_comp_ (ds := as.map arrD) (ρ1 := [some (.d (webD s as)), some (.d (.int t)), some (.d (.int v)), none, none, none, none]) (by simp [seqOf, s1]) ⟨rfl, rfl⟩ e (by
    rw [List.length_map]
    exact Nat.le_trans (List.length_filter_le _ _) hz)]
  simp only [Ob.ls, List.map_map]
  rfl
theorem run_lled (hl : tbl[l]? = some lledF) {k : Nat} {s : Int} {as : List Arr} (hz : as.length ≤ sizeLine) {t v : Int} (few : (farsOf as t v).length < 63) :
    (run tbl L (k + 1)).run l [.d (webD s as), .d (.int t), .d (.int v)] = .ok (.d (.tuple ((sortI (farsOf as t v)).map PyData.int)), []) := by
  rw [run_succ hl]
  have u3 : ∀ (a b c : Option Ob) (xs : List Dt) (ρ : Env), use (a :: b :: c :: some (Ob.ls xs) :: ρ) 3 = some (.list xs, a :: b :: c :: some (.d (.list xs)) :: ρ) := fun a b c xs ρ => by
    unfold use
    have : frz (Ob.ls xs) = some (.list xs) := by unfold Ob.ls; show (frzs (xs.map Ob.d)).map _ = _; rw [frzs_plain]; rfl
    simp only [getS, get0, Ob.ls] at this ⊢
    rw [this]
    rfl
  have bs : ∀ ns : List Int, ns.length < 63 → biD .sset (.list (ns.map PyData.int)) = some (Ob.ls ((sortI ns).map PyData.int)) := fun ns hn => by
    show ((setD _).bind sortD).map Ob.ls = _
    rw [sset_int (by omega)]
    rfl
  have few2 := bs _ few
  unfold runBody lledF lledB
  by_cases h : 0 ≤ t
  · have e := ev_sel (R := run tbl L k) (s := s) (as := as) selP (.var 6) (fun p => p.1 == t && p.2.1 == v) (·.2.2) (t := t) (v := v) hz (fun q e he => by
      subst he
      unfold selP
      by_cases h1 : q.1 = t <;> by_cases h2 : q.2.1 = v <;> simp [h1, h2])
    have ef : farsOf as t v = (as.filter fun p => p.1 == t && p.2.1 == v).map (·.2.2) := if_pos h
    rw [← ef] at e
    generalize farsOf as t v = ns at *
    simp [h, e, st, outs, u3, few2]
  · have e := ev_sel (R := run tbl L k) (s := s) (as := as) selN (.var 5) (fun p => p.1 == -1 - t && p.2.2 == v) (·.2.1) (t := t) (v := v) hz (fun q e he => by
      subst he
      unfold selN
      by_cases h1 : q.1 = -1 - t <;> by_cases h2 : q.2.2 = v <;> simp [h1, h2])
    have ef : farsOf as t v = (as.filter fun p => p.1 == -1 - t && p.2.2 == v).map (·.2.1) := if_neg h
    rw [← ef] at e
    generalize farsOf as t v = ns at *
    simp [h, e, st, outs, u3, few2]
end
end AM
/-! Sm8: led_to answers as the law's own; web_turned; the same text. -/
namespace AM
open PySem PySem.Spec PyProof.Rows L2
theorem mem_fars {as : List Arr} {t v k : Int} : k ∈ farsOf as t v ↔ ∃ p ∈ as, if 0 ≤ t then p.1 = t ∧ p.2.1 = v ∧ p.2.2 = k else p.1 = -1 - t ∧ p.2.2 = v ∧ p.2.1 = k := by
  unfold farsOf
  by_cases h : 0 ≤ t
  · simp only [if_pos h, List.mem_map, List.mem_filter, Bool.and_eq_true, beq_iff_eq]
    constructor
    · rintro ⟨p, ⟨h1, h2, h3⟩, rfl⟩
      exact ⟨p, h1, h2, h3, rfl⟩
    · rintro ⟨p, h1, h2, h3, rfl⟩
      exact ⟨p, ⟨h1, h2, h3⟩, rfl⟩
  · simp only [if_neg h, List.mem_map, List.mem_filter, Bool.and_eq_true, beq_iff_eq]
    constructor
    · rintro ⟨p, ⟨h1, h2, h3⟩, rfl⟩
      exact ⟨p, h1, h2, h3, rfl⟩
    · rintro ⟨p, h1, h2, h3, rfl⟩
      exact ⟨p, ⟨h1, h2, h3⟩, rfl⟩
theorem ones_asc (m b : Nat) : ((ones m b).map fun (i : Nat) => (i : Int)).Pairwise (· < ·) := by
  unfold ones
  rw [List.pairwise_map]
  exact (List.pairwise_lt_range.filter _).imp fun h => by omega
theorem led_eq {s : Nat} {as : List Arr} (h : WebOk (s : Int) as) {t v : Int} (ht : -3 ≤ t ∧ t ≤ 2) (hv : 0 ≤ v ∧ v < s) : (sortI (farsOf as t v)).map PyData.int = natsD (ones s (bits as (rowOf t) v.toNat)) := by
  have key : sortI (farsOf as t v) = (ones s (bits as (rowOf t) v.toNat)).map fun (i : Nat) => (i : Int) := by
    refine asc_ext (fun a => Int.lt_irrefl a) (fun a b c => Int.lt_trans) (sortI_asc _) (ones_asc _ _) fun k => ?_
    rw [mem_sortI, mem_fars, List.mem_map]
    unfold ones
    simp only [List.mem_filter, List.mem_range, bit_iff]
    constructor
    · rintro ⟨p, hp, q⟩
      obtain ⟨⟨a1, a2⟩, ⟨a3, a4⟩, a5, a6⟩ := h.each p hp
      by_cases z : 0 ≤ t
      · rw [if_pos z] at q
        obtain ⟨q1, q2, q3⟩ := q
        refine ⟨k.toNat, ⟨by omega, p, hp, .inl ⟨?_, ?_, ?_⟩⟩, by omega⟩
        · unfold kN rowOf; rw [if_pos z, q1]
        · unfold aN; rw [q2]
        · unfold bN; rw [q3]
      · rw [if_neg z] at q
        obtain ⟨q1, q2, q3⟩ := q
        refine ⟨k.toNat, ⟨by omega, p, hp, .inr ⟨?_, ?_, ?_⟩⟩, by omega⟩
        · unfold kN rowOf; rw [if_neg z]; omega
        · unfold bN; rw [q2]
        · unfold aN; rw [q3]
    · rintro ⟨j, ⟨hj, p, hp, q⟩, rfl⟩
      obtain ⟨⟨a1, a2⟩, ⟨a3, a4⟩, a5, a6⟩ := h.each p hp
      refine ⟨p, hp, ?_⟩
      unfold kN aN bN rowOf at q
      by_cases z : 0 ≤ t
      · rw [if_pos z] at q ⊢
        rcases q with ⟨q1, q2, q3⟩ | ⟨q1, q2, q3⟩
        · exact ⟨by omega, by omega, by omega⟩
        · omega
      · rw [if_neg z] at q ⊢
        rcases q with ⟨q1, q2, q3⟩ | ⟨q1, q2, q3⟩
        · omega
        · exact ⟨by omega, by omega, by omega⟩
  rw [key]
  unfold natsD
  rw [List.map_map]
  rfl
theorem asc_len : ∀ {l : List Int} {a b : Int}, l.Pairwise (· < ·) → (∀ x ∈ l, a ≤ x ∧ x < b) → a ≤ b → (l.length : Int) ≤ b - a
  | [], a, b, _, _, h => by simp; omega
  | x :: r, a, b, hp, hm, _ => by
    have hp' := List.pairwise_cons.mp hp
    have hx := hm x List.mem_cons_self
    have := asc_len (a := x + 1) (b := b) hp'.2 (fun y hy => ⟨by have := hp'.1 y hy; omega, (hm y (List.mem_cons_of_mem _ hy)).2⟩) (by omega)
    rw [List.length_cons]
    omega
theorem fars_asc {as : List Arr} (h : as.Pairwise arrLt) (t v : Int) : (farsOf as t v).Pairwise (· < ·) := by
  unfold farsOf
  split
  · rw [List.pairwise_map]
    refine (h.filter _).imp_of_mem fun {p q} hp hq hlt => ?_
    have h1 := (List.mem_filter.mp hp).2
    have h2 := (List.mem_filter.mp hq).2
    simp only [Bool.and_eq_true, beq_iff_eq] at h1 h2
    unfold arrLt at hlt
    omega
  · rw [List.pairwise_map]
    refine (h.filter _).imp_of_mem fun {p q} hp hq hlt => ?_
    have h1 := (List.mem_filter.mp hp).2
    have h2 := (List.mem_filter.mp hq).2
    simp only [Bool.and_eq_true, beq_iff_eq] at h1 h2
    unfold arrLt at hlt
    omega
theorem fars_len {s : Int} {as : List Arr} (h : WebOk s as) (t v : Int) : ((farsOf as t v).length : Int) ≤ s := by
  have := asc_len (a := 0) (b := s) (fars_asc h.asc t v) (fun k hk => by
    obtain ⟨p, hp, q⟩ := mem_fars.mp hk
    obtain ⟨⟨a1, a2⟩, ⟨a3, a4⟩, a5, a6⟩ := h.each p hp
    split at q <;> omega) (by have := h.size; omega)
  omega
/-! ### web_turned -/
def swp (p : Arr) : Arr := (p.1, p.2.2, p.2.1)
def turn (as : List Arr) : List Arr := sortA (as.map swp)
theorem arr_nodup {as : List Arr} (h : as.Pairwise arrLt) : as.Nodup := h.imp fun {a b} hlt e => by subst e; exact arrLt_irr _ hlt
theorem swp_nodup {as : List Arr} (h : as.Nodup) : (as.map swp).Nodup := by
  refine List.pairwise_map.mpr (h.imp fun {a b} hne e => hne ?_)
  obtain ⟨a1, a2, a3⟩ := a
  obtain ⟨b1, b2, b3⟩ := b
  unfold swp at e
  simp only [Prod.mk.injEq] at e ⊢
  exact ⟨e.1, e.2.2, e.2.1⟩
theorem mem_turn {as : List Arr} {p : Arr} : p ∈ turn as ↔ swp p ∈ as := by
  unfold turn
  rw [mem_sortA, List.mem_map]
  constructor
  · rintro ⟨q, hq, rfl⟩
    exact hq
  · exact fun h => ⟨_, h, rfl⟩
theorem turn_len (as : List Arr) : (turn as).length = as.length := by
  unfold turn sortA
  rw [(List.mergeSort_perm _ _).length_eq, List.length_map]
theorem turn_ok {s : Int} {as : List Arr} (h : WebOk s as) : WebOk s (turn as) := by
  refine ⟨h.size, by rw [turn_len]; exact h.few, fun p hp => ?_, sortA_asc (swp_nodup (arr_nodup h.asc))⟩
  obtain ⟨h1, h2, h3⟩ := h.each _ (mem_turn.mp hp)
  exact ⟨h1, h3, h2⟩
theorem turn_turn {s : Int} {as : List Arr} (h : WebOk s as) : turn (turn as) = as :=
  asc_ext arrLt_irr arrLt_tr (turn_ok (turn_ok h)).asc h.asc fun a => by rw [mem_turn, mem_turn]; exact Iff.rfl
def turnB (c : Nat) : Sms := .cons (.expr (.call c (.cons (.var 0) (.nil)))) (.cons (.ret (.tup (.cons (.sub (.var 0) (.cst (.int 0))) (.cons (.bi .tuple (.bi .sorted (.comp [1, 2, 3] (.tup (.cons (.name 1) (.cons (.name 2) (.cons (.name 3) (.nil))))) (.seq (.sub (.var 0) (.cst (.int 1)))) (.nil) (.tup (.cons (.var 1) (.cons (.var 3) (.cons (.var 2) .nil))))))) .nil)))) (.nil))
def turnF (c : Nat) : Df := ⟨4, 1, [], turnB c⟩
def likeB : Sms := .cons (.ret (.cmp .eq (.bi .repr (.var 0)) (.bi .repr (.var 1)))) (.nil)
def likeF : Df := ⟨2, 2, [], likeB⟩
section
variable {tbl : List Df} {L f a w c d l c2 : Nat}
theorem ev_swp {R : Fns} {s : Int} {as : List Arr} (hz : as.length ≤ 1000) : ev R [] (.comp [1, 2, 3] (.tup (.cons (.name 1) (.cons (.name 2) (.cons (.name 3) (.nil))))) (.seq (.sub (.var 0) (.cst (.int 1)))) (.nil) (.tup (.cons (.var 1) (.cons (.var 3) (.cons (.var 2) .nil))))) [some (.d (webD s as)), none, none, none]
    = .ok (Ob.ls ((as.map swp).map arrD), [some (.d (webD s as)), none, none, none]) := by
  have z3 : 3 ≤ sizeLine := by decide
  obtain ⟨ρ', e, y1, y2, y3, rfl⟩ := compL_on arrD (bnd := fun d r => bindT [] (.tup (.cons (.name 1) (.cons (.name 2) (.cons (.name 3) (.nil))))) d (wipeE [1, 2, 3] r)) (c := evC R [] .nil) (e := ev R [] (.tup (.cons (.var 1) (.cons (.var 3) (.cons (.var 2) .nil))))) (fun q => if (fun _ => true) q = true then some (Ob.d (arrD (swp q))) else none)
    (fun ρ => ∃ y1 y2 y3, ρ = [some (.d (webD s as)), y1, y2, y3]) (as := as) (ρ := [some (.d (webD s as)), none, none, none]) ⟨none, none, none, rfl⟩ (fun q hq ρ hρ => by
      obtain ⟨y1, y2, y3, rfl⟩ := hρ
      refine ⟨[some (.d (webD s as)), some (.d (.int q.1)), some (.d (.int q.2.1)), some (.d (.int q.2.2))], _, true, rfl, evC_nil_, .inl ⟨rfl, .d (arrD (swp q)), [some (.d (webD s as)), some (.d (.int q.1)), some (.d (.int q.2.1)), some (.d (.int q.2.2))], ?_, rfl, _, _, _, rfl⟩⟩
      simp [arrD, swp, z3])
  have s1 : subD (webD s as) (.int 1) = some (.tuple (as.map arrD)) := sub_t1 _ _ _
  rw [filterMap_if] at e
  rw [ev_comp_ (ds := as.map arrD) (ρ1 := [some (.d (webD s as)), none, none, none]) (by simp [seqOf, s1]) ⟨rfl, rfl⟩ e (by
    rw [List.length_map]
    exact Nat.le_trans (List.length_filter_le _ _) (Nat.le_trans hz (by decide)))]
  rw [show as.filter (fun _ => true) = as from List.filter_eq_self.mpr fun _ _ => rfl]
  simp only [Ob.ls, List.map_map]
  rfl
theorem run_turn (hf : tbl[f]? = some fromF) (ha : tbl[a]? = some (arrF f)) (hw : tbl[w]? = some (webF f a)) (hc : tbl[c]? = some (chkF w c2)) (hl : tbl[l]? = some (turnF c)) {s : Int} {as : List Arr} (h : WebOk s as) {k : Nat} :
    (run tbl L (k + 5)).run l [.d (webD s as)] = .ok (.d (webD s (turn as)), []) := by
  rw [run_succ hl]
  have h1 := run_chk (L := L) (n := k) hf ha hw hc h
  have e := ev_swp (R := run tbl L (k + 4)) (s := s) h.few
  have s0 : subD (webD s as) (.int 0) = some (.int s) := id rfl
  have so : biD .sorted (.list ((as.map swp).map arrD)) = some (Ob.ls ((turn as).map arrD)) := by
    show (sortD _).map Ob.ls = _
    rw [sortD_arr]
    rfl
  have z2 : 2 ≤ sizeLine := by decide
  have fin : webD s (turn as) = .tuple [.int s, .tuple ((turn as).map arrD)] := rfl
  rw [fin]
  generalize (as.map swp).map arrD = V at *
  unfold runBody turnF turnB
  simp [outs, ioOf, fill, putBack, h1, e, s0, so, z2]
theorem run_like (hl : tbl[l]? = some likeF) {x : Dt} {t : Str} (h : biD .repr x = some (.d (.str t))) {k : Nat} : (run tbl L (k + 1)).run l [.d x, .d x] = .ok (.d (.bool true), []) := by
  rw [run_succ hl]
  have e : cmpD .eq (.str t) (.str t) = some true := by
    show some (t == t) = _
    rw [beq_self_eq_true]
  unfold runBody likeF likeB
  simp [outs, h, e]
end
end AM
/-! Sm9: what has a text. -/
namespace AM
open PySem PySem.Spec PyProof.Rows L2
/-- small data without dicts: D deep, of weight W -/
structure Fn (D W : Nat) (d : Dt) : Prop where
  lay : d.canLay0 = true
  deep : d.depth ≤ D
  wt : d.weight ≤ W
  short : d.intsShort 13 = true
  show_ : d.showable = true
  nod : d.hasDict = false
structure Fns' (D W : Nat) (ds : List Dt) : Prop where
  lay : PyData.canLayAll0 ds = true
  deep : PyData.depthAll ds ≤ D
  wt : PyData.weightAll ds ≤ ds.length * (W + 1)
  short : PyData.intsShortAll 13 ds = true
  show_ : PyData.showableAll ds = true
  nod : PyData.hasDictAll ds = false
theorem Fn.mono {D D' W W' : Nat} {d : Dt} (h : Fn D W d) (h1 : D ≤ D') (h2 : W ≤ W') : Fn D' W' d := ⟨h.lay, Nat.le_trans h.deep h1, Nat.le_trans h.wt h2, h.short, h.show_, h.nod⟩
theorem fns {D W : Nat} : ∀ {ds : List Dt}, (∀ d ∈ ds, Fn D W d) → Fns' D W ds
  | [], _ => ⟨rfl, Nat.zero_le _, Nat.zero_le _, rfl, rfl, rfl⟩
  | d :: ds, h => by
    have a := h d List.mem_cons_self
    have b := fns fun x hx => h x (List.mem_cons_of_mem _ hx)
    refine ⟨?_, ?_, ?_, ?_, ?_, ?_⟩
    · rw [PyData.canLayAll0, a.lay, b.lay]; rfl
    · rw [PyData.depthAll]
      exact Nat.max_le.mpr ⟨a.deep, b.deep⟩
    · rw [PyData.weightAll, List.length_cons, Nat.succ_mul]
      have := a.wt
      have := b.wt
      omega
    · rw [PyData.intsShortAll, a.short, b.short]; rfl
    · rw [PyData.showableAll, a.show_, b.show_]; rfl
    · rw [PyData.hasDictAll, a.nod, b.nod]; rfl
theorem fn_int {i : Int} (h : 0 ≤ i ∧ i < 1000) : Fn 0 10 (.int i) := by
  have l : i.natAbs.log2 < 10 := by
    by_cases z : i.natAbs = 0
    · rw [z]; decide
    · rw [Nat.log2_lt z]
      omega
  refine ⟨rfl, Nat.zero_le _, ?_, ?_, ?_, rfl⟩
  · rw [PyData.weight]
    split <;> omega
  · rw [PyData.intsShort]
    exact decide_eq_true (PyData.shown_int_le (by omega))
  · rw [PyData.showable]
    exact decide_eq_true (by omega)
theorem fn_bool (b : Bool) : Fn 0 0 (.bool b) := ⟨rfl, Nat.zero_le _, Nat.zero_le _, rfl, rfl, rfl⟩
theorem fn_tup {D W : Nat} {ds : List Dt} (h : ∀ d ∈ ds, Fn D W d) : Fn (D + 1) (ds.length * (W + 1)) (.tuple ds) := by
  have b := fns h
  refine ⟨?_, ?_, ?_, ?_, ?_, ?_⟩
  · rw [PyData.canLay0]; exact b.lay
  · rw [PyData.depth]; exact Nat.succ_le_succ b.deep
  · rw [PyData.weight]; exact b.wt
  · rw [PyData.intsShort]; exact b.short
  · rw [PyData.showable]; exact b.show_
  · rw [PyData.hasDict]; exact b.nod
theorem fn_lst {D W : Nat} {ds : List Dt} (h : ∀ d ∈ ds, Fn D W d) : Fn (D + 1) (ds.length * (W + 1)) (.list ds) := by
  have b := fns h
  refine ⟨?_, ?_, ?_, ?_, ?_, ?_⟩
  · rw [PyData.canLay0]; exact b.lay
  · rw [PyData.depth]; exact Nat.succ_le_succ b.deep
  · rw [PyData.weight]; exact b.wt
  · rw [PyData.intsShort]; exact b.short
  · rw [PyData.showable]; exact b.show_
  · rw [PyData.hasDict]; exact b.nod
theorem fn_shw {d : Dt} (h : Fn 64 1048576 d) : shw d = some d.shown := by
  unfold shw
  have l : d.layable0 = true := by
    unfold PyData.layable0
    rw [h.lay, decide_eq_true h.deep, decide_eq_true (show d.weight ≤ 2 ^ 20 from h.wt)]
    rfl
  exact if_pos ⟨PyData.shown_fits_of_layable0 (B := 13) (by decide) (by decide) l h.short, h.show_, h.deep, h.nod⟩
theorem repr_tup {ds : List Dt} (h : Fn 64 1048576 (.tuple ds)) : ∃ t, biD .repr (.tuple ds) = some (.d (.str t)) := ⟨_, by
  show (shw (.tuple ds)).map _ = _
  rw [fn_shw h]
  rfl⟩
theorem repr_lst {ds : List Dt} (h : Fn 64 1048576 (.list ds)) : ∃ t, biD .repr (.list ds) = some (.d (.str t)) := ⟨_, by
  show (shw (.list ds)).map _ = _
  rw [fn_shw h]
  rfl⟩
theorem fn_nats {l : List Nat} (h : ∀ i ∈ l, i < 1000) (hl : l.length ≤ 1000) : Fn 1 11000 (.tuple (natsD l)) := by
  refine (fn_tup (D := 0) (W := 10) fun d hd => ?_).mono (Nat.le_refl _) ?_
  · obtain ⟨i, hi, rfl⟩ := List.mem_map.mp hd
    exact fn_int ⟨by omega, by have := h i hi; omega⟩
  · unfold natsD
    rw [List.length_map]
    omega
theorem fn_arr {s : Int} {p : Arr} (hs : s ≤ 200) (h : ArrOk s p) : Fn 1 33 (arrD p) := by
  obtain ⟨⟨a1, a2⟩, ⟨a3, a4⟩, a5, a6⟩ := h
  exact (fn_tup (D := 0) (W := 10) (ds := [.int p.1, .int p.2.1, .int p.2.2]) fun d hd => by
    simp only [List.mem_cons, List.not_mem_nil, or_false] at hd
    rcases hd with rfl | rfl | rfl
    · exact fn_int ⟨a1, by omega⟩
    · exact fn_int ⟨a3, by omega⟩
    · exact fn_int ⟨a5, by omega⟩).mono (Nat.le_refl _) (by simp)
theorem fn_web {s : Int} {as : List Arr} (h : WebOk s as) : Fn 3 68002 (webD s as) := by
  have hs := h.size
  have few := h.few
  have fa : Fn 2 34000 (.tuple (as.map arrD)) := (fn_tup (D := 1) (W := 33) fun d hd => by
    obtain ⟨p, hp, rfl⟩ := List.mem_map.mp hd
    exact fn_arr hs.2 (h.each p hp)).mono (Nat.le_refl _) (by rw [List.length_map]; omega)
  exact (fn_tup (D := 2) (W := 34000) (ds := [.int s, .tuple (as.map arrD)]) fun d hd => by
    simp only [List.mem_cons, List.not_mem_nil, or_false] at hd
    rcases hd with rfl | rfl
    · exact (fn_int ⟨by omega, by omega⟩).mono (by omega) (by omega)
    · exact fa).mono (Nat.le_refl _) (by simp)
end AM
/-! Sm10: a drawn web. -/
namespace AM
open PySem PySem.Spec PyProof.Rows L2
/-- by the first two parts -/
def before (p : Arr) (i j : Int) : Prop := p.1 < i ∨ (p.1 = i ∧ p.2.1 < j)
structure Drawn (z i j : Int) (as : List Arr) : Prop where
  each : ∀ p ∈ as, ArrOk z p ∧ before p i j
  asc : as.Pairwise arrLt
theorem Drawn.app {z i j : Int} {as bs : List Arr} (h : Drawn z i j as) (hb : ∀ p ∈ bs, ArrOk z p ∧ p.1 = i ∧ p.2.1 = j) (ha : bs.Pairwise arrLt) : Drawn z i (j + 1) (as ++ bs) := by
  refine ⟨fun p hp => ?_, List.pairwise_append.mpr ⟨h.asc, ha, fun p hp q hq => ?_⟩⟩
  · rcases List.mem_append.mp hp with hp | hp
    · obtain ⟨h1, h2⟩ := h.each p hp
      exact ⟨h1, by unfold before at *; omega⟩
    · obtain ⟨h1, h2, h3⟩ := hb p hp
      exact ⟨h1, by unfold before; omega⟩
  · obtain ⟨_, h2⟩ := h.each p hp
    obtain ⟨_, h3, h4⟩ := hb q hq
    unfold before at h2
    unfold arrLt
    omega
theorem Drawn.next {z i : Int} {as : List Arr} (h : Drawn z i z as) : Drawn z (i + 1) 0 as := ⟨fun p hp => by
  obtain ⟨h1, h2⟩ := h.each p hp
  exact ⟨h1, by unfold before at *; omega⟩, h.asc⟩
def dwC (d : Nat) : Exs := .cons (.cmp .eq (.call d (.cons (.io 0) (.cons (.cst (.int 3)) (.nil)))) (.cst (.int 0))) .nil
def dwE : Ex := .tup (.cons (.var 5) (.cons (.var 6) (.cons (.var 7) .nil)))
def dwL (d : Nat) : Sms := .cons (.asg 4 (.bin .add (.var 4) (.comp [7] (.name 7) (.rng (.var 3)) (dwC d) dwE))) (.nil)
def dwO (d : Nat) : Sms := .cons (.for_ (.name 6) (.rng (.var 3)) (dwL d)) (.nil)
def dwB (d : Nat) : Sms := .cons (.par [3, 4] (.cons (.bin .add (.cst (.int 1)) (.call d (.cons (.io 0) (.cons (.var 1) (.nil))))) (.cons (.lst (.nil)) .nil))) (.cons (.for_ (.name 5) (.rng (.var 2)) (dwO d)) (.cons (.ret (.tup (.cons (.var 3) (.cons (.bi .tuple (.var 4)) .nil)))) (.nil)))
def dwF (d : Nat) : Df := ⟨8, 3, [0], dwB d⟩
theorem rng_get {n i : Nat} {d : Dt} (h : (rngD 0 n)[i]? = some d) : i < n ∧ d = .int (i : Int) := by
  unfold rngD at h
  rw [List.getElem?_map] at h
  obtain ⟨j, h1, rfl⟩ := Option.map_eq_some_iff.mp h
  obtain ⟨h2, h3⟩ := List.getElem?_eq_some_iff.mp h1
  rw [List.getElem_range] at h3
  rw [List.length_range] at h2
  subst h3
  exact ⟨h2, by rw [Int.zero_add]⟩
theorem rng_len (n : Nat) : (rngD 0 n).length = n := by unfold rngD; rw [List.length_map, List.length_range]
section
variable {tbl : List Df} {L n m d l : Nat}
/-- the state in slot 0, six slots that stay, the slot of the turn -/
def dwV (s : DS) (M K z : Int) (as : List Arr) (i j : Int) (y : Option Ob) : Env := [some s.ob, some (.d (.int M)), some (.d (.int K)), some (.d (.int z)), some (.d (.list (as.map arrD))), some (.d (.int i)), some (.d (.int j)), y]
theorem ev_dw (hm : tbl[m]? = some mixF) (hd : tbl[d]? = some (drawF m)) {s : DS} {k : Nat} (ok : s.Ok k) {z : Nat} (hz : 1 ≤ z ∧ z ≤ 200) (hk : k + z < 2 ^ 59) {M K i j : Int} (hi : 0 ≤ i ∧ i ≤ 2) (hj : 0 ≤ j ∧ j < z) {as : List Arr} :
    ∃ (s' : DS) (bs : List Arr), ev (run tbl L (n + 2)) [0] (.comp [7] (.name 7) (.rng (.var 3)) (dwC d) dwE) (dwV s M K z as i j none) = .ok (Ob.ls (bs.map arrD), dwV s' M K z as i j none) ∧ s'.Ok (k + z) ∧ bs.length ≤ z ∧
      (∀ p ∈ bs, ArrOk z p ∧ p.1 = i ∧ p.2.1 = j) ∧ bs.Pairwise arrLt := by
  have z3 : 3 ≤ sizeLine := by decide
  obtain ⟨os, ρ', e, s', y, bs, eo, eρ, ok', lb, h1, h2⟩ := compL_inv (bnd := fun d r => bindT [0] (.name 7) d (wipeE [7] r)) (c := evC (run tbl L (n + 2)) [0] (dwC d)) (e := ev (run tbl L (n + 2)) [0] dwE)
    (fun q acc ρ => ∃ (s' : DS) (y : Option Ob) (bs : List Arr), acc = (bs.map arrD).map Ob.d ∧ ρ = dwV s' M K z as i j y ∧ s'.Ok (k + q) ∧ bs.length ≤ q ∧ (∀ p ∈ bs, ArrOk z p ∧ p.1 = i ∧ p.2.1 = j ∧ p.2.2 < q) ∧ bs.Pairwise arrLt)
    (rngD 0 z) 0 [] (dwV s M K z as i j none) ⟨s, none, [], rfl, rfl, ok, Nat.le_refl _, fun p hp => (by cases hp), .nil⟩ (fun q x acc ρ hx hρ => by
      obtain ⟨s1, y, bs, rfl, rfl, ok1, lb, h1, h2⟩ := hρ
      obtain ⟨hq, rfl⟩ := rng_get hx
      obtain ⟨v, s2, er, v0, v3, ok2⟩ := run_draw (L := L) (n := n) hm hd ok1 (by omega) (lim := 3) (by decide) (by decide)
      refine ⟨dwV s1 M K z as i j (some (.d (.int (q : Int)))), dwV s2 M K z as i j (some (.d (.int (q : Int)))), v == 0, rfl, ?_, ?_⟩
      · unfold dwC dwV
        simp [ioOf, fill, putBack, er]
      · rw [Nat.zero_add] at ok2 h1 lb ⊢
        by_cases hv : v = 0
        · refine .inl ⟨by rw [hv]; rfl, .d (arrD (i, j, (q : Int))), dwV s2 M K z as i j (some (.d (.int (q : Int)))), ?_, s2, some (.d (.int (q : Int))), bs ++ [(i, j, (q : Int))], by simp, rfl, ok2, by simp; exact lb, fun p hp => ?_, List.pairwise_append.mpr ⟨h2, List.pairwise_singleton _ _, fun p hp p' hp' => ?_⟩⟩
          · unfold dwE dwV
            simp [arrD, z3]
          · rcases List.mem_append.mp hp with hp | hp
            · obtain ⟨a1, a2, a3, a4⟩ := h1 p hp
              exact ⟨a1, a2, a3, by omega⟩
            · rw [List.mem_singleton.mp hp]
              exact ⟨⟨⟨hi.1, hi.2⟩, ⟨hj.1, by show j ≤ (z : Int) - 1; omega⟩, ⟨by show (0 : Int) ≤ (q : Int); omega, by show (q : Int) ≤ (z : Int) - 1; omega⟩⟩, rfl, rfl, by show (q : Int) < ((q + 1 : Nat) : Int); omega⟩
          · rw [List.mem_singleton.mp hp']
            obtain ⟨a1, a2, a3, a4⟩ := h1 p hp
            exact .inr ⟨a2, .inr ⟨a3, a4⟩⟩
        · refine .inr ⟨by simpa using hv, s2, some (.d (.int (q : Int))), bs, rfl, rfl, ok2, by omega, fun p hp => ?_, h2⟩
          obtain ⟨a1, a2, a3, a4⟩ := h1 p hp
          exact ⟨a1, a2, a3, by omega⟩)
  rw [Nat.zero_add, rng_len] at ok' lb
  rw [List.nil_append] at eo
  refine ⟨s', bs, ?_, ok', lb, fun p hp => ⟨(h1 p hp).1, (h1 p hp).2.1, (h1 p hp).2.2.1⟩, h2⟩
  have sl : os.length ≤ sizeLine := by
    rw [eo, List.length_map, List.length_map, sizeLine_eq]
    omega
  rw [ev_comp_ (ds := rngD 0 z) (ρ1 := dwV s M K z as i j none) (by
    unfold dwV
    simp [wInt, rng_small (i := (z : Int)) ⟨by omega, by omega⟩]) ⟨rfl, rfl⟩ e sl, eo, eρ]
  rfl
def dwU (s : DS) (M K z : Int) (as : List Arr) (a b : Option Ob) : Env := [some s.ob, some (.d (.int M)), some (.d (.int K)), some (.d (.int z)), some (Ob.ls (as.map arrD)), a, b, none]
theorem use4_ls (a b c d : Option Ob) (xs : List Dt) (ρ : Env) : use (a :: b :: c :: d :: some (Ob.ls xs) :: ρ) 4 = some (.list xs, a :: b :: c :: d :: some (.d (.list xs)) :: ρ) := by
  unfold use
  have : frz (Ob.ls xs) = some (.list xs) := by unfold Ob.ls; show (frzs (xs.map Ob.d)).map _ = _; rw [frzs_plain]; rfl
  simp only [getS, get0, Ob.ls] at this ⊢
  rw [this]
  rfl
theorem dw_step (hm : tbl[m]? = some mixF) (hd : tbl[d]? = some (drawF m)) {s : DS} {k : Nat} (ok : s.Ok k) {z : Nat} (hz : 1 ≤ z ∧ z ≤ 200) (hk : k + z < 2 ^ 59) {M K i j : Int} (hi : 0 ≤ i ∧ i ≤ 2) (hj : 0 ≤ j ∧ j < z) {as : List Arr} (dr : Drawn z i j as) (hl : as.length ≤ 1000000) :
    ∃ (s' : DS) (as' : List Arr), exs (run tbl L (n + 2)) L [0] (dwL d) (dwU s M K z as (some (.d (.int i))) (some (.d (.int j)))) = .ok (.nx (dwU s' M K z as' (some (.d (.int i))) (some (.d (.int j))))) ∧ s'.Ok (k + z) ∧ as'.length ≤ as.length + z ∧ Drawn z i (j + 1) as' := by
  obtain ⟨s', bs, e, ok', lb, h1, h2⟩ := ev_dw (L := L) (n := n) hm hd ok hz hk (M := M) (K := K) hi hj (as := as)
  refine ⟨s', as ++ bs, ?_, ok', by rw [List.length_append]; omega, dr.app h1 h2⟩
  have sl : (as.map arrD).length + (bs.map arrD).length ≤ sizeLine := by
    rw [List.length_map, List.length_map, sizeLine_eq]
    omega
  have u := use4_ls (some s.ob) (some (.d (.int M))) (some (.d (.int K))) (some (.d (.int z))) (as.map arrD) [some (.d (.int i)), some (.d (.int j)), none]
  have ad := bin_addL sl
  rw [← List.map_append] at ad
  unfold dwV at e
  unfold dwL dwU
  generalize (as ++ bs).map arrD = W at *
  generalize as.map arrD = V at *
  generalize bs.map arrD = V2 at *
  simp [u, e, ad, st]
theorem dw_inner (hm : tbl[m]? = some mixF) (hd : tbl[d]? = some (drawF m)) {s : DS} {k : Nat} (ok : s.Ok k) {z : Nat} (hz : 1 ≤ z ∧ z ≤ 200) (hk : k + z * z + z < 2 ^ 59) {M K i : Int} (hi : 0 ≤ i ∧ i ≤ 2) {as : List Arr} (dr : Drawn z i 0 as) (hl : as.length + z * z ≤ 1000000) (b : Option Ob) :
    ∃ (s' : DS) (as' : List Arr) (b' : Option Ob), exs (run tbl L (n + 2)) L [0] (dwO d) (dwU s M K z as (some (.d (.int i))) b) = .ok (.nx (dwU s' M K z as' (some (.d (.int i))) b')) ∧ s'.Ok (k + z * z) ∧ as'.length ≤ as.length + z * z ∧ Drawn z (i + 1) 0 as' := by
  obtain ⟨ρ', e, s', as', b', eρ, ok', l', d'⟩ := forL_inv (bnd := bindT [0] (.name 6)) (b := exs (run tbl L (n + 2)) L [0] (dwL d))
    (fun q ρ => ∃ (s' : DS) (as' : List Arr) (b' : Option Ob), ρ = dwU s' M K z as' (some (.d (.int i))) b' ∧ s'.Ok (k + z * q) ∧ as'.length ≤ as.length + z * q ∧ Drawn z i q as') (rngD 0 z) 0 (dwU s M K z as (some (.d (.int i))) b) ⟨s, as, b, rfl, ok, Nat.le_refl _, dr⟩ (fun q x ρ hx hρ => by
      obtain ⟨s1, as1, b1, rfl, ok1, l1, d1⟩ := hρ
      obtain ⟨hq, rfl⟩ := rng_get hx
      rw [Nat.zero_add] at ok1 l1 d1 ⊢
      have mq : z * q + z ≤ z * z := by
        have := Nat.mul_le_mul_left z (show q + 1 ≤ z from hq)
        rw [Nat.mul_succ] at this
        exact this
      obtain ⟨s2, as2, e2, ok2, l2, d2⟩ := dw_step (L := L) (n := n) hm hd ok1 hz (by omega) (M := M) (K := K) hi (j := (q : Int)) ⟨by omega, by omega⟩ d1 (by omega)
      exact ⟨dwU s1 M K z as1 (some (.d (.int i))) (some (.d (.int (q : Int)))), dwU s2 M K z as2 (some (.d (.int i))) (some (.d (.int (q : Int)))), rfl, .inl e2, s2, as2, some (.d (.int (q : Int))), rfl, by rw [Nat.mul_succ, ← Nat.add_assoc]; exact ok2, by rw [Nat.mul_succ]; omega, d2⟩)
  rw [Nat.zero_add, rng_len] at ok' l' d'
  refine ⟨s', as', b', ?_, ok', l', d'.next⟩
  have eI : evI (run tbl L (n + 2)) [0] (.rng (.var 3)) (dwU s M K z as (some (.d (.int i))) b) = .ok (rngD 0 z, dwU s M K z as (some (.d (.int i))) b) := by
    unfold dwU
    simp [wInt, rng_small (i := (z : Int)) ⟨by omega, by omega⟩]
  have f1 := ex_for_ (R := run tbl L (n + 2)) (L := L) (pn := [0]) (tg := .name 6) (b := dwL d) eI
  rw [e, eρ] at f1
  unfold dwO
  rw [exs, f1, bind_ok']
  simp only [exs]
theorem run_dw (hm : tbl[m]? = some mixF) (hd : tbl[d]? = some (drawF m)) (hl : tbl[l]? = some (dwF d)) {s : DS} {k : Nat} (ok : s.Ok k) {M : Nat} (hM : 1 ≤ M ∧ M ≤ 18) (hk : k + 2000 < 2 ^ 59) :
    ∃ (s' : DS) (z : Nat) (as : List Arr), (run tbl L (n + 3)).run l [s.ob, .d (.int (M : Int)), .d (.int 3)] = .ok (.d (webD z as), [(0, s'.ob)]) ∧ s'.Ok (k + 2000) ∧ z ≤ M ∧ WebOk z as ∧ as.length ≤ 3 * (z * z) := by
  rw [run_succ hl]
  obtain ⟨v, s1, e1, v0, vM, ok1⟩ := run_draw (L := L) (n := n) hm hd ok (by omega) (lim := (M : Int)) (by omega) (by omega)
  obtain ⟨z, hz⟩ : ∃ z : Nat, (1 : Int) + v = z := ⟨(1 + v).toNat, by omega⟩
  have z1 : 1 ≤ z ∧ z ≤ 200 := by omega
  have zM : z ≤ M := by omega
  have zz : z * z ≤ 18 * 18 := Nat.mul_le_mul (by omega) (by omega)
  obtain ⟨ρ', e, s', as', a', b', eρ, ok', l', d'⟩ := forL_inv (bnd := bindT [0] (.name 5)) (b := exs (run tbl L (n + 2)) L [0] (dwO d))
    (fun q ρ => ∃ (s' : DS) (as' : List Arr) (a' b' : Option Ob), ρ = dwU s' M 3 z as' a' b' ∧ s'.Ok (k + 1 + z * z * q) ∧ as'.length ≤ z * z * q ∧ Drawn z q 0 as') (rngD 0 3) 0 (dwU s1 M 3 z [] none none) ⟨s1, [], none, none, rfl, ok1, Nat.zero_le _, fun p hp => (by cases hp), .nil⟩ (fun q x ρ hx hρ => by
      obtain ⟨s2, as2, a2, b2, rfl, ok2, l2, d2⟩ := hρ
      obtain ⟨hq, rfl⟩ := rng_get hx
      rw [Nat.zero_add] at ok2 l2 d2 ⊢
      have m1 : z * z * q ≤ 18 * 18 * 2 := Nat.mul_le_mul zz (by omega)
      obtain ⟨s3, as3, b3, e3, ok3, l3, d3⟩ := dw_inner (L := L) (n := n) hm hd ok2 z1 (by omega) (M := M) (K := 3) (i := (q : Int)) ⟨by omega, by omega⟩ d2 (by omega) b2
      exact ⟨dwU s2 M 3 z as2 (some (.d (.int (q : Int)))) b2, dwU s3 M 3 z as3 (some (.d (.int (q : Int)))) b3, rfl, .inl e3, s3, as3, _, b3, rfl, by rw [Nat.mul_succ, ← Nat.add_assoc]; exact ok3, by rw [Nat.mul_succ]; omega, d3⟩)
  rw [Nat.zero_add, rng_len] at ok' l' d'
  have zz3 : z * z * 3 ≤ 18 * 18 * 3 := Nat.mul_le_mul_right 3 zz
  have wok : WebOk (z : Int) as' := ⟨⟨by omega, by omega⟩, by omega, fun p hp => (d'.each p hp).1, d'.asc⟩
  refine ⟨s', z, as', ?_, ok'.mono (by omega), zM, wok, by omega⟩
  have eI : evI (run tbl L (n + 2)) [0] (.rng (.var 2)) (dwU s1 M 3 z [] none none) = .ok (rngD 0 3, dwU s1 M 3 z [] none none) := by
    unfold dwU
    simp [wInt, rng_small (i := 3) ⟨by decide, by decide⟩]
  have f1 := ex_for_ (R := run tbl L (n + 2)) (L := L) (pn := [0]) (tg := .name 5) (b := dwO d) eI
  rw [e, eρ] at f1
  have u := use4_ls (some s'.ob) (some (.d (.int M))) (some (.d (.int 3))) (some (.d (.int z))) (as'.map arrD) [a', b', none]
  have z2 : 2 ≤ sizeLine := by decide
  have fin : webD (z : Int) as' = .tuple [.int z, .tuple (as'.map arrD)] := rfl
  rw [fin]
  unfold dwU at f1
  simp only [List.map_nil] at f1
  generalize as'.map arrD = V at *
  have el : Ob.ls [] = Ob.lst [] := rfl
  rw [el] at f1
  unfold runBody dwF dwB
  simp [ioOf, fill, putBack, e1, hz, stAll, st, f1, u, outs, z2]
end
end AM
/-! Sa0: sayings, and where they hold. -/
namespace AM
open PySem PySem.Spec PyProof.Rows L2
inductive Cn where
  | and | or | gives
def Cn.str : Cn → Str
  | .and => "and" | .or => "or" | .gives => "gives"
def Cn.op : Cn → Bool → Bool → Bool
  | .and, a, b => a && b | .or, a, b => a || b | .gives, a, b => !a || b
def fixS : Bool → Str
  | true => "yes" | false => "no"
def wayS : Bool → Str
  | true => "each" | false => "some"
inductive Say where
  | let_ (n : Nat) | fix (b : Bool) | neg (a : Say) | two (c : Cn) (a b : Say) | way (q : Bool) (t : Int) (a : Say)
def Say.D : Say → Dt
  | .let_ n => .tuple [.str "letter", .int n]
  | .fix b => .tuple [.str (fixS b)]
  | .neg a => .tuple [.str "not", a.D]
  | .two c a b => .tuple [.str c.str, a.D, b.D]
  | .way q t a => .tuple [.str (wayS q), .int t, a.D]
def Say.words : Say → Nat
  | .let_ _ => 1 | .fix _ => 1 | .neg a => 1 + a.words | .two _ a b => 1 + (a.words + b.words) | .way _ _ a => 1 + a.words
def Say.deep : Say → Nat
  | .let_ _ => 1 | .fix _ => 1 | .neg a => 1 + a.deep | .two _ a b => 1 + max a.deep b.deep | .way _ _ a => 1 + a.deep
def Say.lets : Say → List Int
  | .let_ n => [(n : Int)] | .fix _ => [] | .neg a => a.lets | .two _ a b => a.lets ++ b.lets | .way _ _ a => a.lets
def Say.Ok : Say → Prop
  | .let_ n => n ≤ 7 | .fix _ => True | .neg a => a.Ok | .two _ a b => a.Ok ∧ b.Ok | .way _ t a => (-3 ≤ t ∧ t ≤ 2) ∧ a.Ok
theorem Say.deep_pos : ∀ a : Say, 1 ≤ a.deep
  | .let_ _ => Nat.le_refl _ | .fix _ => Nat.le_refl _ | .neg a => by rw [Say.deep]; omega | .two _ a b => by rw [Say.deep]; omega | .way _ _ a => by rw [Say.deep]; omega
theorem Say.words_pos : ∀ a : Say, 1 ≤ a.words
  | .let_ _ => Nat.le_refl _ | .fix _ => Nat.le_refl _ | .neg a => by rw [Say.words]; omega | .two _ a b => by rw [Say.words]; omega | .way _ _ a => by rw [Say.words]; omega
/-- where a saying holds, the arrows as bits -/
def sat (s : Nat) (B : Nat → Nat → Nat) (mk : Nat → Nat → Bool) : Say → Nat → Bool
  | .let_ n => fun w => mk n w
  | .fix b => fun _ => b
  | .neg a => fun w => !sat s B mk a w
  | .two c a b => fun w => c.op (sat s B mk a w) (sat s B mk b w)
  | .way true t a => fun w => (List.range s).all fun j => !(B (rowOf t) w).testBit j || sat s B mk a j
  | .way false t a => fun w => (List.range s).any fun j => (B (rowOf t) w).testBit j && sat s B mk a j

/-! ### sets as numbers -/
def setN (s : Nat) (p : Nat → Bool) : Nat := (List.range s).foldl (fun b i => if p i = true then b ||| 2 ^ i else b) 0
theorem setN_succ (s : Nat) (p : Nat → Bool) : setN (s + 1) p = if p s = true then setN s p ||| 2 ^ s else setN s p := by
  unfold setN
  rw [List.range_succ, List.foldl_append]
  rfl
theorem setN_bit (p : Nat → Bool) (i : Nat) : ∀ s, (setN s p).testBit i = (decide (i < s) && p i)
  | 0 => by simp [setN]
  | s + 1 => by
    rw [setN_succ]
    by_cases h : p s = true
    · rw [if_pos h, Nat.testBit_or, setN_bit p i s, Nat.testBit_two_pow]
      by_cases e : s = i
      · subst e; simp [h]
      · have : decide (i < s + 1) = decide (i < s) := by
          rw [Bool.eq_iff_iff, decide_eq_true_iff, decide_eq_true_iff]; omega
        rw [this]
        simp [e]
    · rw [if_neg h, setN_bit p i s]
      by_cases e : s = i
      · subst e; simp [h]
      · have : decide (i < s + 1) = decide (i < s) := by
          rw [Bool.eq_iff_iff, decide_eq_true_iff, decide_eq_true_iff]; omega
        rw [this]
theorem setN_lt (s : Nat) (p : Nat → Bool) : setN s p < 2 ^ s := by
  refine Nat.lt_pow_two_of_testBit _ fun i hi => ?_
  rw [setN_bit]
  simp [Nat.not_lt.mpr hi]
theorem setN_congr {s : Nat} {p q : Nat → Bool} (h : ∀ i, i < s → p i = q i) : setN s p = setN s q := by
  refine Nat.eq_of_testBit_eq fun i => ?_
  rw [setN_bit, setN_bit]
  by_cases c : i < s
  · rw [h i c]
  · simp [c]
theorem setN_and (s : Nat) (p q : Nat → Bool) : setN s p &&& setN s q = setN s fun i => p i && q i := by
  refine Nat.eq_of_testBit_eq fun i => ?_
  rw [Nat.testBit_and, setN_bit, setN_bit, setN_bit]
  cases decide (i < s) <;> simp
theorem setN_or (s : Nat) (p q : Nat → Bool) : setN s p ||| setN s q = setN s fun i => p i || q i := by
  refine Nat.eq_of_testBit_eq fun i => ?_
  rw [Nat.testBit_or, setN_bit, setN_bit, setN_bit]
  cases decide (i < s) <;> simp
theorem setN_not (s : Nat) (p : Nat → Bool) : 2 ^ s - 1 - setN s p = setN s fun i => !p i := by
  refine Nat.eq_of_testBit_eq fun i => ?_
  have e : 2 ^ s - 1 - setN s p = 2 ^ s - (setN s p + 1) := by omega
  rw [e, Nat.testBit_two_pow_sub_succ (setN_lt s p), setN_bit, setN_bit]
  cases decide (i < s) <;> simp
theorem setN_all (s : Nat) : 2 ^ s - 1 = setN s fun _ => true := by
  refine Nat.eq_of_testBit_eq fun i => ?_
  rw [Nat.testBit_two_pow_sub_one, setN_bit, Bool.and_true]
theorem setN_no (s : Nat) : setN s (fun _ => false) = 0 := by
  refine Nat.eq_of_testBit_eq fun i => ?_
  rw [setN_bit]
  simp
theorem ones_setN (s : Nat) (p : Nat → Bool) : ones s (setN s p) = (List.range s).filter p := by
  unfold ones
  refine List.filter_congr fun i hi => ?_
  rw [setN_bit, decide_eq_true (List.mem_range.mp hi), Bool.true_and]
theorem and_nat (a c : Nat) : Builtin.bitAnd (a : Int) (c : Int) = ((a &&& c : Nat) : Int) := by
  unfold Builtin.bitAnd
  rfl
/-- all that is led to is in the set -/
theorem sub_iff {s b : Nat} {p : Nat → Bool} (h : b < 2 ^ s) : (b &&& setN s p = b) ↔ ((List.range s).all fun j => !b.testBit j || p j) = true := by
  rw [List.all_eq_true]
  constructor
  · intro e j hj
    have := congrArg (fun n => n.testBit j) e
    simp only [Nat.testBit_and, setN_bit] at this
    rw [decide_eq_true (List.mem_range.mp hj), Bool.true_and] at this
    cases h1 : b.testBit j <;> cases h2 : p j <;> simp_all
  · intro k
    refine Nat.eq_of_testBit_eq fun j => ?_
    rw [Nat.testBit_and, setN_bit]
    by_cases c : j < s
    · have := k j (List.mem_range.mpr c)
      rw [decide_eq_true c, Bool.true_and]
      cases h1 : b.testBit j <;> cases h2 : p j <;> simp_all
    · have : b.testBit j = false := Nat.testBit_lt_two_pow (Nat.lt_of_lt_of_le h (Nat.pow_le_pow_right (by omega) (by omega)))
      rw [this]
      rfl
theorem meet_iff {s b : Nat} {p : Nat → Bool} : (0 < b &&& setN s p) ↔ ((List.range s).any fun j => b.testBit j && p j) = true := by
  rw [List.any_eq_true]
  constructor
  · intro h
    obtain ⟨j, hj⟩ := Nat.exists_testBit_of_ne_zero (Nat.ne_of_gt h)
    rw [Nat.testBit_and, setN_bit] at hj
    simp only [Bool.and_eq_true, decide_eq_true_eq] at hj
    exact ⟨j, List.mem_range.mpr hj.2.1, by rw [hj.1, hj.2.2]; rfl⟩
  · rintro ⟨j, hj, e⟩
    refine Nat.pos_of_ne_zero fun z => ?_
    have := congrArg (fun n => n.testBit j) z
    simp only [Nat.testBit_and, setN_bit, Nat.zero_testBit] at this
    rw [decide_eq_true (List.mem_range.mp hj), Bool.true_and] at this
    rw [this] at e
    cases e
end AM
/-! Sa1: each_so, some_so, bits_so, marks_so. -/
namespace AM
open PySem PySem.Spec PyProof.Rows L2
def bodyL (c : Ex) : Sms := .cons (.ife c (.cons (.aug 2 .bor (.bin .shl (.cst (.int 1)) (.var 3))) (.nil)) (.nil)) (.nil)
def eachC : Ex := .cmp .eq (.bin .band (.var 4) (.var 1)) (.var 4)
def someC : Ex := .cmp .gt (.bin .band (.var 4) (.var 1)) (.cst (.int 0))
def goB (c : Ex) : Sms := .cons (.asg 2 (.cst (.int 0))) (.cons (.for_ (.tup (.cons (.name 3) (.cons (.name 4) (.nil)))) (.enum (.var 0)) (bodyL c)) (.cons (.ret (.var 2)) (.nil)))
def goF (c : Ex) : Df := ⟨5, 2, [], goB c⟩
section
variable {tbl : List Df} {L n f : Nat}
theorem row_get {s : Nat} {B : Nat → Nat → Nat} {w i : Nat} {d : Dt} (h : (rowD s B w)[i]? = some d) : i < s ∧ d = .int (B w i : Nat) := by
  unfold rowD at h
  rw [List.getElem?_map] at h
  obtain ⟨x, e, rfl⟩ := Option.map_eq_some_iff.mp h
  have hi : i < s := by
    have := (List.getElem?_eq_some_iff.mp e).1
    rwa [List.length_range] at this
  rw [List.getElem?_range hi] at e
  cases e
  exact ⟨hi, rfl⟩
theorem run_go (c : Ex) (q : Nat → Bool) (hg : tbl[f]? = some (goF c)) {s : Nat} (hs : s ≤ 200) {B : Nat → Nat → Nat} {w : Nat} {b : Int}
    (hc : ∀ (R : Fns) (i : Nat) (V : Dt) (o : Ob), i < s → (ev R [] c [some (.d V), some (.d (.int b)), some o, some (.d (.int (i : Int))), some (.d (.int (B w i : Nat)))]).toB = .ok (q i, [some (.d V), some (.d (.int b)), some o, some (.d (.int (i : Int))), some (.d (.int (B w i : Nat)))])) :
    (run tbl L (n + 1)).run f [.d (.list (rowD s B w)), .d (.int b)] = .ok (.d (.int ((setN s q : Nat) : Int)), []) := by
  rw [run_succ hg]
  obtain ⟨ρ', lp, y, z, e⟩ := forL_inv (bnd := bindT [] (.tup (.cons (.name 3) (.cons (.name 4) (.nil))))) (b := exs (run tbl L n) L [] (bodyL c)) (fun k ρ => ∃ y z, ρ = [some (.d (.list (rowD s B w))), some (.d (.int b)), some (.d (.int ((setN k q : Nat) : Int))), y, z]) (enumD 0 (rowD s B w)) 0
    [some (.d (.list (rowD s B w))), some (.d (.int b)), some (.d (.int 0)), none, none] ⟨none, none, rfl⟩ (fun i d ρ hd hp => by
      obtain ⟨y, z, rfl⟩ := hp
      rw [enumD_get] at hd
      obtain ⟨x, hx, rfl⟩ := Option.map_eq_some_iff.mp hd
      obtain ⟨hi, rfl⟩ := row_get hx
      rw [Nat.zero_add, Int.zero_add]
      refine ⟨[some (.d (.list (rowD s B w))), some (.d (.int b)), some (.d (.int ((setN i q : Nat) : Int))), some (.d (.int (i : Int))), some (.d (.int (B w i : Nat)))], [some (.d (.list (rowD s B w))), some (.d (.int b)), some (.d (.int ((setN (i + 1) q : Nat) : Int))), some (.d (.int (i : Int))), some (.d (.int (B w i : Nat)))], rfl, .inl ?_, _, _, rfl⟩
      have hq := hc (run tbl L n) i (.list (rowD s B w)) (.d (.int ((setN i q : Nat) : Int))) hi
      have sh := shl_one (c := i) (by omega)
      rw [setN_succ]
      generalize rowD s B w = V at *
      unfold bodyL
      cases e : q i with
      | true =>
        rw [e] at hq
        rw [if_pos rfl]
        have on := or_nat (setN i q) (2 ^ i)
        rw [Int.natCast_pow] at on
        simp [hq, sh, st]
        exact on
      | false =>
        rw [e] at hq
        rw [if_neg (by simp)]
        simp [hq])
  rw [enumD_len, Nat.zero_add] at e
  have hl : (rowD s B w).length = s := by unfold rowD; rw [List.length_map, List.length_range]
  rw [hl] at e
  subst e
  have f1 := ex_for_ (R := run tbl L n) (L := L) (pn := []) (tg := .tup (.cons (.name 3) (.cons (.name 4) (.nil)))) (b := bodyL c) (it := .enum (.var 0)) (ds := enumD 0 (rowD s B w)) (ρ := [some (.d (.list (rowD s B w))), some (.d (.int b)), some (.d (.int 0)), none, none]) (ρ1 := [some (.d (.list (rowD s B w))), some (.d (.int b)), some (.d (.int 0)), none, none]) (by simp)
  rw [lp] at f1
  generalize rowD s B w = V at *
  unfold runBody goF goB
  simp [ioOf, fill, putBack, st, f1, outs]
theorem run_each (hg : tbl[f]? = some (goF eachC)) {s : Nat} (hs : s ≤ 200) {B : Nat → Nat → Nat} {w : Nat} (hB : ∀ i, B w i < 2 ^ s) (p : Nat → Bool) :
    (run tbl L (n + 1)).run f [.d (.list (rowD s B w)), .d (.int ((setN s p : Nat) : Int))] = .ok (.d (.int ((setN s (fun i => (List.range s).all fun j => !(B w i).testBit j || p j) : Nat) : Int)), []) := by
  refine run_go eachC _ hg hs fun R i V o hi => ?_
  have k := sub_iff (p := p) (hB i)
  unfold eachC
  have e : (((B w i &&& setN s p : Nat) : Int) == ((B w i : Nat) : Int)) = (List.range s).all fun j => !(B w i).testBit j || p j := by
    rw [Bool.eq_iff_iff, ← k, beq_iff_eq, Int.natCast_inj]
  simp [and_nat, ← e]
theorem run_some (hg : tbl[f]? = some (goF someC)) {s : Nat} (hs : s ≤ 200) {B : Nat → Nat → Nat} {w : Nat} (p : Nat → Bool) :
    (run tbl L (n + 1)).run f [.d (.list (rowD s B w)), .d (.int ((setN s p : Nat) : Int))] = .ok (.d (.int ((setN s (fun i => (List.range s).any fun j => (B w i).testBit j && p j) : Nat) : Int)), []) := by
  refine run_go someC _ hg hs fun R i V o hi => ?_
  have k := meet_iff (s := s) (b := B w i) (p := p)
  unfold someC
  have e : decide ((0 : Int) < ((B w i &&& setN s p : Nat) : Int)) = (List.range s).any fun j => (B w i).testBit j && p j := by
    rw [Bool.eq_iff_iff, ← k, decide_eq_true_iff]
    omega
  simp [and_nat, ← e]
end
end AM
/-! Sa2: a comprehension without state; bits_so, marks_so, is_row_of, check_marking. -/
namespace AM
open PySem PySem.Spec PyProof.Rows L2
theorem comp_on {α : Type} {R : Fns} {pn own : List Nat} {tg : Tg} {it : AM.It} {cs : Exs} {e : Ex} {ρ ρ1 W : Env} (g : α → Dt) (as : List α) (pr : α → Bool) (val : α → Ob) (E : α → Env) (hI : evI R pn it ρ = .ok (as.map g, ρ1)) (ok : ownOk pn own ρ1 = true ∧ tgIn own tg = true) (hW : wipeE own ρ1 = W)
    (hw : wipeE own W = W) (hb : ∀ a ∈ as, bindT pn tg (g a) W = some (E a)) (hE : ∀ a ∈ as, wipeE own (E a) = W) (hc : ∀ a ∈ as, evC R pn cs (E a) = .ok (pr a, E a)) (he : ∀ a ∈ as, pr a = true → ev R pn e (E a) = .ok (val a, E a))
    (back : ∀ a ∈ as, backE own ρ1 (E a) = ρ1) (back0 : backE own ρ1 W = ρ1) (len : as.length ≤ sizeLine) : ev R pn (.comp own tg it cs e) ρ = .ok (.lst ((as.filter pr).map val), ρ1) := by
  obtain ⟨ρ', h3, h4, h5⟩ := compL_on g (bnd := fun d r => bindT pn tg d (wipeE own r)) (c := evC R pn cs) (e := ev R pn e) (fun a => if pr a = true then some (val a) else none) (fun r => wipeE own r = W ∧ backE own ρ1 r = ρ1) (as := as) (ρ := W) ⟨hw, back0⟩ (fun a ha r hr => by
    refine ⟨E a, E a, pr a, by rw [hr.1]; exact hb a ha, hc a ha, ?_⟩
    cases q : pr a with
    | true => exact .inl ⟨rfl, val a, E a, he a ha q, rfl, hE a ha, back a ha⟩
    | false => exact .inr ⟨rfl, rfl, hE a ha, back a ha⟩)
  rw [filterMap_if] at h3
  rw [ev_comp_ hI ok (by rw [hW]; exact h3) (by rw [List.length_map]; exact Nat.le_trans (List.length_filter_le _ _) len), h5]
/-- the bits of a row of worlds -/
def bitsOf (l : List Nat) : Nat := l.foldl (fun b i => b ||| 2 ^ i) 0
theorem bitsOf_snoc (l : List Nat) (i : Nat) : bitsOf (l ++ [i]) = bitsOf l ||| 2 ^ i := by
  unfold bitsOf
  rw [List.foldl_append]
  rfl
theorem bitsOf_bit (j : Nat) : ∀ (l : List Nat) (b : Nat), (l.foldl (fun b i => b ||| 2 ^ i) b).testBit j = (b.testBit j || decide (j ∈ l))
  | [], b => by simp
  | i :: l, b => by
    rw [List.foldl_cons, bitsOf_bit j l, Nat.testBit_or, Nat.testBit_two_pow]
    by_cases e : i = j
    · subst e; simp
    · have : ¬ j = i := fun z => e z.symm
      simp [e, this]
theorem bitsOf_set {s : Nat} {l : List Nat} (h : ∀ i ∈ l, i < s) : bitsOf l = setN s fun i => decide (i ∈ l) := by
  refine Nat.eq_of_testBit_eq fun j => ?_
  rw [setN_bit]
  unfold bitsOf
  rw [bitsOf_bit, Nat.zero_testBit, Bool.false_or]
  by_cases c : j ∈ l
  · simp [c, h j c]
  · simp [c]
def bitsL : Sms := .cons (.aug 1 .bor (.bin .shl (.cst (.int 1)) (.var 2))) (.nil)
def bitsB : Sms := .cons (.asg 1 (.cst (.int 0))) (.cons (.for_ (.name 2) (.seq (.var 0)) bitsL) (.cons (.ret (.var 1)) (.nil)))
def bitsF : Df := ⟨3, 1, [], bitsB⟩
section
variable {tbl : List Df} {L n f : Nat}
theorem nats_get {l : List Nat} {i : Nat} {d : Dt} (h : (natsD l)[i]? = some d) : ∃ x, l[i]? = some x ∧ d = .int (x : Int) := by
  unfold natsD at h
  rw [List.getElem?_map] at h
  obtain ⟨x, e, rfl⟩ := Option.map_eq_some_iff.mp h
  exact ⟨x, e, rfl⟩
theorem run_bits (hg : tbl[f]? = some bitsF) {l : List Nat} (hl : ∀ i ∈ l, i < 1000) : (run tbl L (n + 1)).run f [.d (.tuple (natsD l))] = .ok (.d (.int ((bitsOf l : Nat) : Int)), []) := by
  rw [run_succ hg]
  obtain ⟨ρ', lp, y, e⟩ := forL_inv (bnd := bindT [] (.name 2)) (b := exs (run tbl L n) L [] bitsL) (fun k ρ => ∃ y, ρ = [some (.d (.tuple (natsD l))), some (.d (.int ((bitsOf (l.take k) : Nat) : Int))), y]) (natsD l) 0 [some (.d (.tuple (natsD l))), some (.d (.int 0)), none] ⟨none, rfl⟩ (fun i d ρ hd hp => by
    obtain ⟨y, rfl⟩ := hp
    obtain ⟨x, hx, rfl⟩ := nats_get hd
    rw [Nat.zero_add]
    have tk : l.take (i + 1) = l.take i ++ [x] := by rw [List.take_add_one, hx]; rfl
    have sh := shl_one (c := x) (by have := hl x (List.mem_of_getElem? hx); omega)
    have on := or_nat (bitsOf (l.take i)) (2 ^ x)
    refine ⟨[some (.d (.tuple (natsD l))), some (.d (.int ((bitsOf (l.take i) : Nat) : Int))), some (.d (.int (x : Int)))], [some (.d (.tuple (natsD l))), some (.d (.int ((bitsOf (l.take (i + 1)) : Nat) : Int))), some (.d (.int (x : Int)))], rfl, .inl ?_, _, rfl⟩
    rw [tk, bitsOf_snoc]
    rw [Int.natCast_pow] at on
    generalize natsD l = V at *
    unfold bitsL
    simp [sh, st]
    exact on)
  rw [Nat.zero_add, show (natsD l).length = l.length from List.length_map _, List.take_length] at e
  subst e
  have f1 := ex_for_ (R := run tbl L n) (L := L) (pn := []) (tg := .name 2) (b := bitsL) (it := .seq (.var 0)) (ds := natsD l) (ρ := [some (.d (.tuple (natsD l))), some (.d (.int 0)), none]) (ρ1 := [some (.d (.tuple (natsD l))), some (.d (.int 0)), none]) (by simp [seqOf])
  rw [lp] at f1
  generalize natsD l = V at *
  unfold runBody bitsF bitsB
  simp [ioOf, fill, putBack, st, f1, outs]
end
/-- a marking -/
def markD (ms : List (List Nat)) : Dt := .tuple (ms.map fun l => .tuple (natsD l))
structure MarkOk (s : Nat) (ms : List (List Nat)) : Prop where
  few : ms.length ≤ 8
  asc : ∀ l ∈ ms, l.Pairwise (· < ·)
  low : ∀ l ∈ ms, ∀ i ∈ l, i < s
def mkB (ms : List (List Nat)) (n i : Nat) : Bool := decide (i ∈ ms.getD n [])
def marksD (s : Nat) (ms : List (List Nat)) : List Dt := (List.range 8).map fun n => PyData.int ((setN s (mkB ms n) : Nat) : Int)
def marksB (b : Nat) : Sms := .cons (.asg 1 (.comp [2] (.name 2) (.seq (.var 0)) (.nil) (.call b (.cons (.var 2) (.nil))))) (.cons (.ret (.bin .add (.var 1) (.rep (.lst (.cons (.cst (.int 0)) .nil)) (.bin .sub (.cst (.int 8)) (.bi .len (.var 1)))))) (.nil))
def marksF (b : Nat) : Df := ⟨3, 1, [], marksB b⟩
theorem use1_ls' (a : Option Ob) (xs : List Dt) (ρ : Env) : use (a :: some (Ob.ls xs) :: ρ) 1 = some (.list xs, a :: some (.d (.list xs)) :: ρ) := use1_ls a xs ρ
theorem flat_one (k : Nat) (d : Dt) : (List.replicate k [d]).flatten = List.replicate k d := by
  induction k with
  | zero => rfl
  | succ k ih => rw [List.replicate_succ, List.replicate_succ, List.flatten_cons, ih]; rfl
theorem marks_eq {s : Nat} {ms : List (List Nat)} (h : MarkOk s ms) : (ms.map fun l => PyData.int ((bitsOf l : Nat) : Int)) ++ List.replicate (8 - ms.length) (PyData.int 0) = marksD s ms := by
  have few := h.few
  refine List.ext_getElem? fun j => ?_
  unfold marksD
  rw [List.getElem?_map]
  by_cases c : j < ms.length
  · rw [List.getElem?_append_left (by rw [List.length_map]; exact c), List.getElem?_map, List.getElem?_eq_getElem c, List.getElem?_range (by omega)]
    have : mkB ms j = fun i => decide (i ∈ ms[j]) := by
      funext i
      unfold mkB
      rw [List.getD_eq_getElem?_getD, List.getElem?_eq_getElem c]
      rfl
    rw [Option.map_some, Option.map_some, this, bitsOf_set (h.low _ (List.getElem_mem c))]
  · rw [List.getElem?_append_right (by rw [List.length_map]; omega), List.length_map, List.getElem?_replicate]
    by_cases c2 : j < 8
    · rw [if_pos (by omega), List.getElem?_range c2]
      have : mkB ms j = fun _ => false := by
        funext i
        unfold mkB
        rw [List.getD_eq_getElem?_getD, List.getElem?_eq_none (by omega)]
        rfl
      rw [Option.map_some, this, setN_no]
      rfl
    · rw [if_neg (by omega), List.getElem?_eq_none (by rw [List.length_range]; omega)]
      rfl
section
variable {tbl : List Df} {L n f b : Nat}
theorem run_marks (hb : tbl[b]? = some bitsF) (hg : tbl[f]? = some (marksF b)) {s : Nat} (hs : s ≤ 200) {ms : List (List Nat)} (h : MarkOk s ms) : (run tbl L (n + 2)).run f [.d (markD ms)] = .ok (Ob.ls (marksD s ms), []) := by
  rw [run_succ hg]
  have few := h.few
  have c1 := comp_on (R := run tbl L (n + 1)) (pn := []) (own := [2]) (tg := .name 2) (it := .seq (.var 0)) (cs := .nil) (e := .call b (.cons (.var 2) (.nil))) (ρ := [some (.d (markD ms)), none, none]) (ρ1 := [some (.d (markD ms)), none, none]) (W := [some (.d (markD ms)), none, none])
    (fun l => PyData.tuple (natsD l)) ms (fun _ => true) (fun l => Ob.d (.int ((bitsOf l : Nat) : Int))) (fun l => [some (.d (markD ms)), none, some (.d (.tuple (natsD l)))]) (by simp [seqOf, markD]) ⟨rfl, rfl⟩ rfl rfl (fun _ _ => rfl) (fun _ _ => rfl) (fun _ _ => by simp)
    (fun l hl _ => by
      have := run_bits (L := L) (n := n) hb (l := l) fun i hi => by have := h.low l hl i hi; omega
      simp [ioOf, fill, putBack, this]) (fun _ _ => rfl) rfl (by rw [sizeLine_eq]; omega)
  rw [List.filter_eq_self.mpr fun _ _ => rfl] at c1
  have e1 : (ms.map fun l => Ob.d (.int ((bitsOf l : Nat) : Int))) = (ms.map fun l => PyData.int ((bitsOf l : Nat) : Int)).map Ob.d := by rw [List.map_map]; rfl
  rw [e1] at c1
  have c1 : ev (run tbl L (n + 1)) [] (.comp [2] (.name 2) (.seq (.var 0)) (.nil) (.call b (.cons (.var 2) (.nil)))) [some (.d (markD ms)), none, none] = .ok (Ob.ls (ms.map fun l => PyData.int ((bitsOf l : Nat) : Int)), [some (.d (markD ms)), none, none]) := c1
  have me := marks_eq h
  have ll : (ms.map fun l => PyData.int ((bitsOf l : Nat) : Int)).length = ms.length := List.length_map _
  have ad := bin_addL (xs := ms.map fun l => PyData.int ((bitsOf l : Nat) : Int)) (ys := List.replicate (8 - ms.length) (PyData.int 0)) (by rw [ll, List.length_replicate, sizeLine_eq]; omega)
  rw [me] at ad
  have rp : ev (run tbl L (n + 1)) [] (.rep (.lst (.cons (.cst (.int 0)) .nil)) (.bin .sub (.cst (.int 8)) (.bi .len (.var 1)))) [some (.d (markD ms)), some (.d (.list (ms.map fun l => PyData.int ((bitsOf l : Nat) : Int)))), none] = .ok (Ob.ls (List.replicate (8 - ms.length) (PyData.int 0)), [some (.d (markD ms)), some (.d (.list (ms.map fun l => PyData.int ((bitsOf l : Nat) : Int)))), none]) := by
    have t : (8 - (ms.length : Int)).toNat = 8 - ms.length := by omega
    have l1 : ev (run tbl L (n + 1)) [] (.lst (.cons (.cst (.int 0)) .nil)) [some (.d (markD ms)), some (.d (.list (ms.map fun l => PyData.int ((bitsOf l : Nat) : Int)))), none] = .ok (.lst [.d (.int 0)], [some (.d (markD ms)), some (.d (.list (ms.map fun l => PyData.int ((bitsOf l : Nat) : Int)))), none]) := by
      have s1 : 1 ≤ sizeLine := by decide
      simp [s1]
    have l2 : (ev (run tbl L (n + 1)) [] (.bin .sub (.cst (.int 8)) (.bi .len (.var 1))) [some (.d (markD ms)), some (.d (.list (ms.map fun l => PyData.int ((bitsOf l : Nat) : Int)))), none]).toD = .ok (.int (8 - (ms.length : Int)), [some (.d (markD ms)), some (.d (.list (ms.map fun l => PyData.int ((bitsOf l : Nat) : Int)))), none]) := by
      have bl := bi_len_l (ms.map fun l => PyData.int ((bitsOf l : Nat) : Int))
      rw [ll] at bl
      generalize (ms.map fun l => PyData.int ((bitsOf l : Nat) : Int)) = V at *
      simp [-bi_len_l, bl]
    have := ev_rep_ok l1 l2 (ds := [.int 0]) rfl ⟨by omega, by omega⟩ (by rw [t, sizeLine_eq]; simp; omega)
    rw [t, flat_one] at this
    exact this
  have u1 := use1_ls' (some (.d (markD ms))) (ms.map fun l => PyData.int ((bitsOf l : Nat) : Int)) [none]
  generalize (ms.map fun l => PyData.int ((bitsOf l : Nat) : Int)) = V at *
  generalize markD ms = M at *
  generalize marksD s ms = Z at *
  unfold runBody marksF marksB
  simp [-ev_rep_7, ioOf, fill, putBack, st, c1, u1, rp, ad, outs]
end
end AM
/-! Sa3: is_row_of, check_marking. -/
namespace AM
open PySem PySem.Spec PyProof.Rows L2
def rtNo : Sms := .cons (.ret (.cst (.bool false))) (.nil)
def rw1 (f : Nat) : Exs := .cons (.not (.call f (.cons (.var 2) (.cons (.cst (.int 0)) (.cons (.bin .sub (.var 0) (.cst (.int 1))) (.nil)))))) .nil
def tg34 : Tg := .tup (.cons (.name 3) (.cons (.name 4) (.nil)))
def zip1 : AM.It := .zip (.var 1) (.slc (.var 1) (.some (.cst (.int 1))) (.none))
def rwB (f : Nat) : Sms := .cons (.ife (.or (.not (.isi .tuple (.var 1))) (.cmp .gt (.bi .len (.var 1)) (.var 0))) rtNo (.nil)) (.cons (.ife (.cmp .gt (.bi .len (.comp [2] (.name 2) (.seq (.var 1)) (rw1 f) (.cst (.int 1)))) (.cst (.int 0))) rtNo (.nil)) (.cons (.ret (.cmp .eq (.bi .len (.comp [3, 4] tg34 zip1 (.cons (.cmp .ge (.var 3) (.var 4)) .nil) (.cst (.int 1)))) (.cst (.int 0)))) (.nil)))
def rwF (f : Nat) : Df := ⟨5, 2, [], rwB f⟩
theorem filter_no {α : Type} (l : List α) : (l.filter fun _ => false) = [] := List.filter_eq_nil_iff.mpr fun _ _ h => by cases h
theorem row_len {s : Nat} {l : List Nat} (ha : l.Pairwise (· < ·)) (hl : ∀ i ∈ l, i < s) : l.length ≤ s := by
  have := nat_nodup_len l (List.range s) (ha.imp fun h => Nat.ne_of_lt h) fun x hx => List.mem_range.mpr (hl x hx)
  rwa [List.length_range] at this
theorem nats_zip (l : List Nat) : (((natsD l).zip ((natsD l).drop 1)).map fun z => PyData.tuple [z.1, z.2]) = (l.zip (l.drop 1)).map fun z => PyData.tuple [.int (z.1 : Int), .int (z.2 : Int)] := by
  unfold natsD
  rw [← List.map_drop, List.zip_map, List.map_map]
  rfl
theorem zip_asc {l : List Nat} (ha : l.Pairwise (· < ·)) : ∀ z ∈ l.zip (l.drop 1), z.1 < z.2 := by
  rintro ⟨u, v⟩ huv
  obtain ⟨i, hi, e⟩ := List.getElem_of_mem huv
  obtain ⟨h1, h2⟩ := List.getElem?_zip_eq_some.mp (List.getElem?_eq_some_iff.mpr ⟨hi, e⟩)
  rw [List.getElem?_drop] at h2
  obtain ⟨l1, g1⟩ := List.getElem?_eq_some_iff.mp h1
  obtain ⟨l2, g2⟩ := List.getElem?_eq_some_iff.mp h2
  have := List.pairwise_iff_getElem.mp ha i (1 + i) l1 l2 (by omega)
  rw [g1, g2] at this
  exact this
section
variable {tbl : List Df} {L n f r : Nat}
theorem run_row (hf : tbl[f]? = some fromF) (hr : tbl[r]? = some (rwF f)) {s : Nat} (hs : s ≤ 200) {l : List Nat} (ha : l.Pairwise (· < ·)) (hl : ∀ i ∈ l, i < s) : (run tbl L (n + 2)).run r [.d (.int (s : Int)), .d (.tuple (natsD l))] = .ok (.d (.bool true), []) := by
  rw [run_succ hr]
  have len := row_len ha hl
  have c1 := comp_on (R := run tbl L (n + 1)) (pn := []) (own := [2]) (tg := .name 2) (it := .seq (.var 1)) (cs := rw1 f) (e := .cst (.int 1)) (ρ := [some (.d (.int (s : Int))), some (.d (.tuple (natsD l))), none, none, none]) (ρ1 := [some (.d (.int (s : Int))), some (.d (.tuple (natsD l))), none, none, none]) (W := [some (.d (.int (s : Int))), some (.d (.tuple (natsD l))), none, none, none])
    (fun (i : Nat) => PyData.int (i : Int)) l (fun _ => false) (fun _ => Ob.d (.int 1)) (fun i => [some (.d (.int (s : Int))), some (.d (.tuple (natsD l))), some (.d (.int (i : Int))), none, none]) (by simp [seqOf, natsD]) ⟨rfl, rfl⟩ rfl rfl (fun _ _ => rfl) (fun _ _ => rfl)
    (fun i hi => by
      have lt := hl i hi
      have fr := run_from (L := L) (n := n) hf (i : Int) 0 ((s : Int) - 1)
      rw [decide_eq_true (by omega)] at fr
      unfold rw1
      simp [ioOf, fill, putBack, fr]) (fun _ _ h => by cases h) (fun _ _ => rfl) rfl (by rw [sizeLine_eq]; omega)
  have c2 := comp_on (R := run tbl L (n + 1)) (pn := []) (own := [3, 4]) (tg := tg34) (it := zip1) (cs := .cons (.cmp .ge (.var 3) (.var 4)) .nil) (e := .cst (.int 1)) (ρ := [some (.d (.int (s : Int))), some (.d (.tuple (natsD l))), none, none, none]) (ρ1 := [some (.d (.int (s : Int))), some (.d (.tuple (natsD l))), none, none, none]) (W := [some (.d (.int (s : Int))), some (.d (.tuple (natsD l))), none, none, none])
    (fun (z : Nat × Nat) => PyData.tuple [.int (z.1 : Int), .int (z.2 : Int)]) (l.zip (l.drop 1)) (fun _ => false) (fun _ => Ob.d (.int 1)) (fun z => [some (.d (.int (s : Int))), some (.d (.tuple (natsD l))), none, some (.d (.int (z.1 : Int))), some (.d (.int (z.2 : Int)))]) (by
      rw [← nats_zip]
      unfold zip1
      simp [slcD, cut1]) ⟨rfl, rfl⟩ rfl rfl (fun _ _ => rfl) (fun _ _ => rfl)
    (fun z hz => by
      have lt := zip_asc ha z hz
      have : ¬ ((z.2 : Int) ≤ (z.1 : Int)) := by omega
      simp [this]) (fun _ _ h => by cases h) (fun _ _ => rfl) rfl (by rw [List.length_zip, sizeLine_eq]; omega)
  rw [filter_no, List.map_nil] at c1 c2
  have gt : ¬ ((s : Int) < (l.length : Int)) := by omega
  have ll : biD .len (.tuple (natsD l)) = some (.d (.int (l.length : Int))) := by
    rw [bi_len_t]
    unfold natsD
    rw [List.length_map]
  generalize natsD l = V at *
  unfold runBody rwF rwB rtNo
  simp [-bi_len_t, ioOf, fill, putBack, outs, isiD, ll, gt, c1, c2]
def bad1 (c : Nat) : Sms := .cons (.raise c (.cons (.var 1) .nil)) (.nil)
def cm1 (r : Nat) : Exs := .cons (.not (.call r (.cons (.sub (.var 0) (.cst (.int 0))) (.cons (.var 2) (.nil))))) .nil
def cmB (r c : Nat) : Sms := .cons (.ife (.or (.not (.isi .tuple (.var 1))) (.cmp .gt (.bi .len (.var 1)) (.cst (.int 8)))) (bad1 c) (.nil)) (.cons (.ife (.cmp .gt (.bi .len (.comp [2] (.name 2) (.seq (.var 1)) (cm1 r) (.cst (.int 1)))) (.cst (.int 0))) (bad1 c) (.nil)) (.cons (.ret (.var 1)) (.nil)))
def cmF (r c : Nat) : Df := ⟨3, 2, [], cmB r c⟩
theorem run_cm {c g : Nat} (hf : tbl[f]? = some fromF) (hr : tbl[r]? = some (rwF f)) (hg : tbl[g]? = some (cmF r c)) {s : Nat} (hs : s ≤ 200) {as : List Arr} {ms : List (List Nat)} (h : MarkOk s ms) :
    (run tbl L (n + 3)).run g [.d (webD (s : Int) as), .d (markD ms)] = .ok (.d (markD ms), []) := by
  rw [run_succ hg]
  have few := h.few
  have s0 : subD (webD (s : Int) as) (.int 0) = some (.int (s : Int)) := rfl
  have c1 := comp_on (R := run tbl L (n + 2)) (pn := []) (own := [2]) (tg := .name 2) (it := .seq (.var 1)) (cs := cm1 r) (e := .cst (.int 1)) (ρ := [some (.d (webD (s : Int) as)), some (.d (markD ms)), none]) (ρ1 := [some (.d (webD (s : Int) as)), some (.d (markD ms)), none]) (W := [some (.d (webD (s : Int) as)), some (.d (markD ms)), none])
    (fun l => PyData.tuple (natsD l)) ms (fun _ => false) (fun _ => Ob.d (.int 1)) (fun l => [some (.d (webD (s : Int) as)), some (.d (markD ms)), some (.d (.tuple (natsD l)))]) (by simp [seqOf, markD]) ⟨rfl, rfl⟩ rfl rfl (fun _ _ => rfl) (fun _ _ => rfl)
    (fun l hl => by
      have rr := run_row (L := L) (n := n) hf hr hs (h.asc l hl) (h.low l hl)
      unfold cm1
      generalize natsD l = V at *
      generalize webD (s : Int) as = A at *
      simp [ioOf, fill, putBack, s0, rr]) (fun _ _ h => by cases h) (fun _ _ => rfl) rfl (by rw [sizeLine_eq]; omega)
  rw [filter_no, List.map_nil] at c1
  have ll : biD .len (markD ms) = some (.d (.int (ms.length : Int))) := by
    unfold markD
    rw [bi_len_t, List.length_map]
  have i1 : isiD .tuple (markD ms) = true := rfl
  have gt : ¬ ((8 : Int) < (ms.length : Int)) := by omega
  generalize markD ms = M at *
  generalize webD (s : Int) as = A at *
  unfold runBody cmF cmB bad1
  simp [ioOf, fill, putBack, outs, i1, ll, gt, c1]
end
end AM
/-! Sa4: is_worded, check_saying. -/
namespace AM
open PySem PySem.Spec PyProof.Rows L2
def sizesT : List (Str × Dt) := [("letter", .int 2), ("yes", .int 1), ("no", .int 1), ("not", .int 2), ("and", .int 3), ("or", .int 3), ("gives", .int 3), ("each", .int 3), ("some", .int 3)]
def partsT : List (Str × Dt) := [("letter", .tuple []), ("yes", .tuple []), ("no", .tuple []), ("not", .tuple [.int 1]), ("and", .tuple [.int 1, .int 2]), ("or", .tuple [.int 1, .int 2]), ("gives", .tuple [.int 1, .int 2]), ("each", .tuple [.int 2]), ("some", .tuple [.int 2]), ("here", .tuple [])]
def Say.hd : Say → Str
  | .let_ _ => "letter" | .fix b => fixS b | .neg _ => "not" | .two c _ _ => c.str | .way q _ _ => wayS q
def Say.parts : Say → List (Int × Say)
  | .let_ _ => [] | .fix _ => [] | .neg a => [(1, a)] | .two _ a b => [(1, a), (2, b)] | .way _ _ a => [(2, a)]
def Say.len : Say → Nat
  | .let_ _ => 2 | .fix _ => 1 | .neg _ => 2 | .two _ _ _ => 3 | .way _ _ _ => 3
def Say.isLet : Say → Bool
  | .let_ _ => true | _ => false
def Say.isWay : Say → Bool
  | .way _ _ _ => true | _ => false
theorem say_isT (a : Say) : isiD .tuple a.D = true := by cases a <;> rfl
theorem say_len (a : Say) : biD .len a.D = some (.d (.int (a.len : Int))) := by cases a <;> rfl
theorem say_hd (a : Say) : subD a.D (.int 0) = some (.str a.hd) := by cases a <;> rfl
theorem say_size (a : Say) : tabD sizesT (.str a.hd) = some (.int (a.len : Int)) := by
  cases a with
  | fix b => cases b <;> rfl
  | two c _ _ => cases c <;> rfl
  | way q _ _ => cases q <;> rfl
  | _ => rfl
theorem say_tab (a : Say) : tabD partsT (.str a.hd) = some (.tuple (a.parts.map fun q => PyData.int q.1)) := by
  cases a with
  | fix b => cases b <;> rfl
  | two c _ _ => cases c <;> rfl
  | way q _ _ => cases q <;> rfl
  | _ => rfl
theorem say_sub (a : Say) : ∀ q ∈ a.parts, subD a.D (.int q.1) = some q.2.D := by
  intro q hq
  cases a with
  | neg b => simp only [Say.parts, List.mem_cons, List.not_mem_nil, or_false] at hq; subst hq; rfl
  | two c b d => simp only [Say.parts, List.mem_cons, List.not_mem_nil, or_false] at hq; rcases hq with rfl | rfl <;> rfl
  | way _ _ b => simp only [Say.parts, List.mem_cons, List.not_mem_nil, or_false] at hq; subst hq; rfl
  | _ => cases hq
theorem say_let (a : Say) : cmpD .eq (.str a.hd) (.str "letter") = some a.isLet := by
  cases a with
  | fix b => cases b <;> rfl
  | two c _ _ => cases c <;> rfl
  | way q _ _ => cases q <;> rfl
  | _ => rfl
theorem shaped_str {x : Str} (h : PyData.strOk x = true) : SeqAt.shaped (.str x) = true := by simp [SeqAt.shaped, PyData.canLay0, PyData.depth, h]
theorem lay_strs : ∀ {ys : List Str}, ys.all PyData.strOk = true → PyData.canLayAll0 (ys.map PyData.str) = true
  | [], _ => rfl
  | a :: r, h => by
    rw [List.all_cons, Bool.and_eq_true] at h
    simp [PyData.canLayAll0, PyData.canLay0, h.1, lay_strs h.2]
theorem deep_strs : ∀ ys : List Str, PyData.depthAll (ys.map PyData.str) = 0
  | [] => rfl
  | a :: r => by simp [PyData.depthAll, PyData.depth, deep_strs r]
theorem shaped_strs {ys : List Str} (h : ys.all PyData.strOk = true) : SeqAt.shaped (.list (ys.map PyData.str)) = true := by
  unfold SeqAt.shaped
  rw [Bool.and_eq_true]
  refine ⟨?_, decide_eq_true ?_⟩
  · rw [PyData.canLay0]
    exact lay_strs h
  · rw [PyData.depth, deep_strs]
    decide
theorem in_strs {x : Str} {ys : List Str} (h1 : PyData.strOk x = true) (h2 : ys.all PyData.strOk = true) : inD (.str x) (ys.map PyData.str) = some (ys.any fun y => y == x) := by
  unfold inD
  rw [if_pos ⟨shaped_str h1, shaped_strs h2⟩, List.any_map]
  refine congrArg some (congrArg (fun f => ys.any f) (funext fun y => ?_))
  show PyData.eqv (.str y) (.str x) = _
  simp only [PyData.eqv]
theorem fix_ok : ∀ b, PyData.strOk (fixS b) = true := by decide +kernel
theorem wayS_ok : ∀ b, PyData.strOk (wayS b) = true := by decide +kernel
theorem cn_ok (c : Cn) : PyData.strOk c.str = true := by cases c <;> decide +kernel
theorem hd_ok (a : Say) : PyData.strOk a.hd = true := by
  cases a with
  | fix b => exact fix_ok b
  | two c _ _ => exact cn_ok c
  | way q _ _ => exact wayS_ok q
  | let_ _ => show PyData.strOk (Str.ofString "letter") = true; decide +kernel
  | neg _ => show PyData.strOk (Str.ofString "not") = true; decide +kernel
def wEach : Str := "each"
def wSome : Str := "some"
theorem say_way (a : Say) : cmpD .nin (.str a.hd) (.tuple [.str "each", .str "some"]) = some (!a.isWay) := by
  show (inD (.str a.hd) ([wEach, wSome].map PyData.str)).map not = _
  rw [in_strs (hd_ok a) (by decide +kernel)]
  cases a with
  | fix b => cases b <;> rfl
  | two c _ _ => cases c <;> rfl
  | way q _ _ => cases q <;> rfl
  | _ => rfl
theorem say_words (a : Say) : a.words = 1 + (a.parts.map fun q => q.2.words).sum := by
  cases a <;> simp [Say.words, Say.parts]
theorem say_deep (a : Say) : ∀ q ∈ a.parts, q.2.deep + 1 ≤ a.deep := by
  intro q hq
  cases a with
  | neg b => simp only [Say.parts, List.mem_cons, List.not_mem_nil, or_false] at hq; subst hq; simp only [Say.deep]; omega
  | two c b d => simp only [Say.parts, List.mem_cons, List.not_mem_nil, or_false] at hq; rcases hq with rfl | rfl <;> simp only [Say.deep] <;> omega
  | way _ _ b => simp only [Say.parts, List.mem_cons, List.not_mem_nil, or_false] at hq; subst hq; simp only [Say.deep]; omega
  | _ => cases hq
theorem say_ok {a : Say} (h : a.Ok) : ∀ q ∈ a.parts, q.2.Ok := by
  intro q hq
  cases a with
  | neg b => simp only [Say.parts, List.mem_cons, List.not_mem_nil, or_false] at hq; subst hq; exact h
  | two c b d => simp only [Say.parts, List.mem_cons, List.not_mem_nil, or_false] at hq; exact hq.elim (fun e => e ▸ h.1) fun e => e ▸ h.2
  | way _ _ b => simp only [Say.parts, List.mem_cons, List.not_mem_nil, or_false] at hq; subst hq; exact h.2
  | _ => cases hq
def wdB (f : Nat) : Sms := .cons (.ife (.or (.not (.isi .tuple (.var 0))) (.or (.cmp .eq (.bi .len (.var 0)) (.cst (.int 0))) (.not (.isi .str (.sub (.var 0) (.cst (.int 0))))))) rtNo (.nil)) (.cons (.ife (.cmp .ne (.tab sizesT (.sub (.var 0) (.cst (.int 0)))) (.bi .len (.var 0))) rtNo (.nil)) (.cons (.ife (.cmp .eq (.sub (.var 0) (.cst (.int 0))) (.cst (.str "letter"))) (.cons (.ret (.call f (.cons (.sub (.var 0) (.cst (.int 1))) (.cons (.cst (.int 0)) (.cons (.cst (.int 7)) (.nil)))))) (.nil)) (.nil)) (.cons (.ret (.or (.cmp .nin (.sub (.var 0) (.cst (.int 0))) (.tup (.cons (.cst (.str "each")) (.cons (.cst (.str "some")) .nil)))) (.call f (.cons (.sub (.var 0) (.cst (.int 1))) (.cons (.neg (.cst (.int 3))) (.cons (.cst (.int 2)) (.nil))))))) (.nil))))
def wdF (f : Nat) : Df := ⟨1, 1, [], wdB f⟩
section
variable {tbl : List Df} {L n f r : Nat}
theorem run_wd (hf : tbl[f]? = some fromF) (hr : tbl[r]? = some (wdF f)) {a : Say} (h : a.Ok) : (run tbl L (n + 2)).run r [.d a.D] = .ok (.d (.bool true), []) := by
  rw [run_succ hr]
  have h1 := say_isT a
  have h2 := say_len a
  have h3 := say_hd a
  have h4 := say_size a
  have h5 := say_let a
  have h6 := say_way a
  have l0 : ¬ (a.len = 0) := by cases a <;> simp [Say.len]
  have t2 : 2 ≤ sizeLine := by decide
  have h8 : a.isLet = true → ∃ m : Nat, m ≤ 7 ∧ subD a.D (.int 1) = some (.int (m : Int)) := by
    cases a with
    | let_ m => exact fun _ => ⟨m, h, rfl⟩
    | _ => intro e; cases e
  have h9 : a.isWay = true → ∃ t : Int, (-3 ≤ t ∧ t ≤ 2) ∧ subD a.D (.int 1) = some (.int t) := by
    cases a with
    | way q t b => exact fun _ => ⟨t, h.1, rfl⟩
    | _ => intro e; cases e
  have hs : isiD .str (.str a.hd) = true := rfl
  generalize a.D = A at *
  generalize a.hd = Z at *
  unfold runBody wdF wdB rtNo
  cases e1 : a.isLet with
  | true =>
    obtain ⟨m, hm, e⟩ := h8 e1
    rw [e1] at h5
    have fr := run_from (L := L) (n := n) hf (m : Int) 0 7
    rw [decide_eq_true (by omega)] at fr
    simp [ioOf, fill, putBack, outs, h1, h2, h3, h4, h5, hs, l0, e, fr]
  | false =>
    rw [e1] at h5
    cases e2 : a.isWay with
    | true =>
      obtain ⟨t, ht, e⟩ := h9 e2
      rw [e2] at h6
      have fr := run_from (L := L) (n := n) hf t (-3) 2
      rw [decide_eq_true (by omega)] at fr
      simp [ioOf, fill, putBack, outs, h1, h2, h3, h4, h5, h6, hs, l0, e, fr, t2]
    | false =>
      rw [e2] at h6
      simp [ioOf, fill, putBack, outs, h1, h2, h3, h4, h5, h6, hs, l0, t2]
end
end AM
/-! Sa5: check_saying. -/
namespace AM
open PySem PySem.Spec PyProof.Rows L2
def itemS (p : Say × List Int) : Dt := .tuple [p.1.D, .tuple (p.2.map PyData.int)]
def csC : Ex := .cmp .gt (.lenp 1) (.cst (.int 0))
def csT : Tg := .tup (.cons (.name 3) (.cons (.name 4) (.nil)))
def csE : Ex := .tup (.cons (.sub (.var 3) (.var 5)) (.cons (.bin .add (.var 4) (.tup (.cons (.var 5) .nil))) .nil))
def csI : AM.It := .rev (.tab partsT (.sub (.var 3) (.cst (.int 0))))
def csL (w c c2 : Nat) : Sms := .cons (.asgT (.cons (.name 3) (.cons (.name 4) (.nil))) (.pop 1)) (.cons (.aug 2 .add (.cst (.int 1))) (.cons (.ife (.cmp .gt (.bi .len (.var 4)) (.cst (.int 39))) (.cons (.raise c (.cons (.cst (.int 40)) .nil)) (.nil)) (.nil)) (.cons (.ife (.cmp .gt (.var 2) (.cst (.int 400))) (.cons (.raise c (.cons (.cst (.int 400)) .nil)) (.nil)) (.nil)) (.cons (.ife (.not (.call w (.cons (.var 3) (.nil)))) (.cons (.raise c2 (.cons (.var 4) .nil)) (.nil)) (.nil)) (.cons (.ext 1 (.comp [5] (.name 5) csI (.nil) csE)) (.nil))))))
def csB (w c c2 : Nat) : Sms := .cons (.par [1, 2] (.cons (.lst (.cons (.tup (.cons (.var 0) (.cons (.tup (.nil)) .nil))) .nil)) (.cons (.cst (.int 0)) .nil))) (.cons (.while_ csC (csL w c c2)) (.cons (.ret (.var 0)) (.nil)))
def csF (w c c2 : Nat) : Df := ⟨6, 1, [], csB w c c2⟩
def csV (A : Dt) (st : List (Say × List Int)) (met : Nat) (x y : Option Ob) : Env := [some (.d A), some (Ob.ls (st.map itemS)), some (.d (.int (met : Int))), x, y, none]
def wsum (st : List (Say × List Int)) : Nat := (st.map fun p => p.1.words).sum
section
variable {tbl : List Df} {L n f w c c2 : Nat}
theorem bin_addP {ps : List Int} {q : Int} (h : ps.length ≤ 100) : binD .add (.tuple (ps.map PyData.int)) (.tuple [.int q]) = some (.d (.tuple ((ps ++ [q]).map PyData.int))) := by
  rw [bin_addT (by rw [List.length_map, sizeLine_eq]; simp; omega), List.map_append]
  rfl
/-- one turn -/
theorem cs_turn (hf : tbl[f]? = some fromF) (hw : tbl[w]? = some (wdF f)) {A : Dt} {st : List (Say × List Int)} {p : Say × List Int} {met : Nat} {x y : Option Ob} (ok : p.1.Ok) (pl : p.2.length ≤ 39) (hm : met + 1 ≤ 400) (few : st.length ≤ 1000) :
    exs (run tbl L (n + 2)) L [] (csL w c c2) (csV A (st ++ [p]) met x y) = .ok (.nx (csV A (st ++ p.1.parts.reverse.map fun q => (q.2, p.2 ++ [q.1])) (met + 1) (some (.d p.1.D)) (some (.d (.tuple (p.2.map PyData.int)))))) := by
  obtain ⟨a, ps⟩ := p
  have h1 := run_wd (L := L) (n := n) hf hw ok
  have hh := say_hd a
  have ht := say_tab a
  have sub := say_sub a
  have plen : a.parts.length ≤ 2 := by cases a <;> simp [Say.parts]
  let ρ : Env := [some (.d A), some (Ob.ls (st.map itemS)), some (.d (.int ((met + 1 : Nat) : Int))), some (.d a.D), some (.d (.tuple (ps.map PyData.int))), none]
  have z2 : 2 ≤ sizeLine := by decide
  have z1 : 1 ≤ sizeLine := by decide
  have hI : evI (run tbl L (n + 2)) [] csI ρ = .ok (a.parts.reverse.map (fun q => PyData.int q.1), ρ) := by
    have e : (PyData.tuple (a.parts.map fun q => PyData.int q.1)) = .tuple (a.parts.map fun q => PyData.int q.1) := rfl
    rw [List.map_reverse]
    unfold csI
    generalize (a.parts.map fun q => PyData.int q.1) = V at *
    generalize a.hd = Z at *
    simp [ρ, hh, ht, seqOf]
  have c1 := comp_on (R := run tbl L (n + 2)) (pn := []) (own := [5]) (tg := .name 5) (it := csI) (cs := .nil) (e := csE) (ρ := ρ) (ρ1 := ρ) (W := ρ) (fun q => PyData.int q.1) a.parts.reverse (fun _ => true) (fun q => Ob.d (itemS (q.2, ps ++ [q.1])))
    (fun q => [some (.d A), some (Ob.ls (st.map itemS)), some (.d (.int ((met + 1 : Nat) : Int))), some (.d a.D), some (.d (.tuple (ps.map PyData.int))), some (.d (.int q.1))]) hI ⟨rfl, rfl⟩ rfl rfl (fun _ _ => rfl) (fun _ _ => rfl) (fun _ _ => by simp)
    (fun q hq _ => by
      have sb := sub q (List.mem_reverse.mp hq)
      have ad := bin_addP (ps := ps) (q := q.1) (by have : ps.length ≤ 39 := pl; omega)
      unfold csE itemS
      generalize (ps ++ [q.1]).map PyData.int = W2 at *
      generalize ps.map PyData.int = W1 at *
      generalize Ob.ls (st.map itemS) = W3 at *
      simp [sb, ad, z1, z2]) (fun _ _ => rfl) rfl (by rw [List.length_reverse, sizeLine_eq]; omega)
  rw [List.filter_eq_self.mpr fun _ _ => rfl] at c1
  have e1 : (a.parts.reverse.map fun q => Ob.d (itemS (q.2, ps ++ [q.1]))) = ((a.parts.reverse.map fun q => (q.2, ps ++ [q.1])).map itemS).map Ob.d := by rw [List.map_map, List.map_map]; rfl
  rw [e1] at c1
  have pe : ev (run tbl L (n + 2)) [] (.pop 1) (csV A (st ++ [(a, ps)]) met x y) = .ok (.d (itemS (a, ps)), csV A st met x y) := by
    rw [ev]
    show (Res.of (some (Ob.ls ((st ++ [(a, ps)]).map itemS)))).bind _ = _
    rw [of_some', bind_ok']
    unfold Ob.ls
    rw [List.map_append, List.map_append]
    rw [show ([(a, ps)].map itemS).map Ob.d = [Ob.d (itemS (a, ps))] from rfl]
    dsimp only
    rw [List.getLast?_concat]
    dsimp only
    rw [List.dropLast_concat]
    rfl
  have b1 : bindT [] (.tup (.cons (.name 3) (.cons (.name 4) (.nil)))) (itemS (a, ps)) (csV A st met x y) = some [some (.d A), some (Ob.ls (st.map itemS)), some (.d (.int (met : Int))), some (.d a.D), some (.d (.tuple (ps.map PyData.int))), none] := rfl
  have l1 : biD .len (.tuple (ps.map PyData.int)) = some (.d (.int (ps.length : Int))) := by rw [bi_len_t, List.length_map]
  have g1 : ¬ ((39 : Int) < (ps.length : Int)) := by have : ps.length ≤ 39 := pl; omega
  have g2 : ¬ ((400 : Int) < ((met : Int) + 1)) := by omega
  have ex1 : ex (run tbl L (n + 2)) L [] (.ext 1 (.comp [5] (.name 5) csI .nil csE)) ρ = .ok (.nx (csV A (st ++ a.parts.reverse.map fun q => (q.2, ps ++ [q.1])) (met + 1) (some (.d a.D)) (some (.d (.tuple (ps.map PyData.int)))))) := by
    rw [ex]
    show (Res.of (some (Ob.ls (st.map itemS)))).bind _ = _
    rw [of_some', bind_ok']
    show (ev (run tbl L (n + 2)) [] (.comp [5] (.name 5) csI .nil csE) ρ).bind _ = _
    rw [c1, bind_ok']
    show (Res.of (some (Ob.ls (st.map itemS)))).bind _ = _
    rw [of_some', bind_ok']
    show (if ((st.map itemS).map Ob.d).length + (((a.parts.reverse.map fun q => (q.2, ps ++ [q.1])).map itemS).map Ob.d).length ≤ sizeLine then _ else _) = _
    rw [if_pos (by simp only [List.length_map, List.length_reverse]; rw [sizeLine_eq]; omega)]
    unfold csV Ob.ls
    rw [List.map_append, List.map_append]
    rfl
  unfold csL
  rw [exs_cons_53, ex_asgT_36, pe, toD_d, bind_ok', b1, toNx_some, bind_ok']
  have st2 : (((met + 1 : Nat)) : Int) = (met : Int) + 1 := by omega
  simp only [ρ, st2] at ex1
  clear c1 hI e1 pe b1
  clear_value ρ
  generalize Ob.ls (st.map itemS) = W3 at *
  generalize ps.map PyData.int = W1 at *
  generalize csV A (st ++ a.parts.reverse.map fun q => (q.2, ps ++ [q.1])) (met + 1) (some (.d a.D)) (some (.d (.tuple W1))) = FIN at *
  simp [AM.st, l1, g1, g2, ioOf, fill, putBack, h1, -ex_ext_44, ex1]
end
end AM
/-! Sa6: check_saying, whole; words, depth, letters. -/
namespace AM
open PySem PySem.Spec PyProof.Rows L2
theorem wsum_app (a b : List (Say × List Int)) : wsum (a ++ b) = wsum a + wsum b := by
  unfold wsum
  rw [List.map_append, List.sum_append]
theorem wsum_len : ∀ st : List (Say × List Int), st.length ≤ wsum st
  | [] => Nat.zero_le _
  | p :: st => by
    have h1 := wsum_len st
    have h2 := p.1.words_pos
    unfold wsum at *
    rw [List.map_cons, List.sum_cons, List.length_cons]
    omega
theorem wsum_parts (a : Say) (ps : List Int) : wsum (a.parts.reverse.map fun q => (q.2, ps ++ [q.1])) + 1 = a.words := by
  have h := say_words a
  unfold wsum
  rw [List.map_map]
  have e : (a.parts.reverse.map ((fun p : Say × List Int => p.1.words) ∘ fun q => (q.2, ps ++ [q.1]))) = (a.parts.map fun q => q.2.words).reverse := by
    rw [← List.map_reverse]
    rfl
  rw [e, List.sum_reverse]
  omega
section
variable {tbl : List Df} {L n f w c c2 : Nat}
theorem cs_loop (hf : tbl[f]? = some fromF) (hw : tbl[w]? = some (wdF f)) {A : Dt} : ∀ (N : Nat) (st : List (Say × List Int)) (met : Nat) (x y : Option Ob), wsum st < N → (∀ p ∈ st, p.1.Ok ∧ p.2.length + p.1.deep ≤ 40) → met + wsum st ≤ 400 →
    ∃ met' x' y', whlL (fun r => (ev (run tbl L (n + 2)) [] csC r).toB) (exs (run tbl L (n + 2)) L [] (csL w c c2)) N (csV A st met x y) = .ok (.nx (csV A [] met' x' y'))
  | 0, _, _, _, _, h, _, _ => absurd h (Nat.not_lt_zero _)
  | N + 1, st, met, x, y, h, ok, hm => by
    have tst : (ev (run tbl L (n + 2)) [] csC (csV A st met x y)).toB = .ok (decide (0 < st.length), csV A st met x y) := by
      have e1 : get (csV A st met x y) 1 = some (Ob.lst ((st.map itemS).map Ob.d)) := rfl
      have e2 : ((st.map itemS).map Ob.d).length = st.length := by rw [List.length_map, List.length_map]
      have e3 : decide ((0 : Int) < (st.length : Int)) = decide (0 < st.length) := by rw [Bool.eq_iff_iff, decide_eq_true_iff, decide_eq_true_iff]; omega
      unfold csC
      generalize csV A st met x y = ρ at *
      simp only [ev_cmp_11, ev_lenp_18, e1, of_some', bind_ok', toD_d, ev_cst_2, cmp_gt, e2, e3, toB_b]
    rw [whlL, tst, bind_ok']
    rcases List.eq_nil_or_concat st with rfl | ⟨st0, p, rfl⟩
    · exact ⟨met, x, y, rfl⟩
    · rw [List.concat_eq_append] at *
      have lp : decide (0 < (st0 ++ [p]).length) = true := by simp
      rw [lp]
      simp only [if_true]
      have ws : wsum (st0 ++ [p]) = wsum st0 + p.1.words := by rw [wsum_app]; simp [wsum]
      have pp := ok p (by simp)
      have dp := p.1.deep_pos
      have wp := p.1.words_pos
      have le := wsum_len st0
      rw [cs_turn (L := L) (n := n) hf hw (A := A) (st := st0) (p := p) (met := met) (x := x) (y := y) (c := c) (c2 := c2) pp.1 (by omega) (by omega) (by omega), bind_ok']
      have wn := wsum_parts p.1 p.2
      refine cs_loop hf hw N _ (met + 1) _ _ (by rw [wsum_app]; omega) (fun q hq => ?_) (by rw [wsum_app]; omega)
      rcases List.mem_append.mp hq with hq | hq
      · exact ok q (List.mem_append_left _ hq)
      · obtain ⟨z, hz, rfl⟩ := List.mem_map.mp hq
        have hz := List.mem_reverse.mp hz
        have := say_deep p.1 z hz
        refine ⟨say_ok pp.1 z hz, ?_⟩
        show (p.2 ++ [z.1]).length + z.2.deep ≤ 40
        rw [List.length_append, List.length_singleton]
        omega
theorem run_cs {g : Nat} (hf : tbl[f]? = some fromF) (hw : tbl[w]? = some (wdF f)) (hg : tbl[g]? = some (csF w c c2)) (hL : 400 < L) {a : Say} (ok : a.Ok) (dp : a.deep ≤ 40) (wd : a.words ≤ 400) : (run tbl L (n + 3)).run g [.d a.D] = .ok (.d a.D, []) := by
  rw [run_succ hg]
  obtain ⟨m, x, y, e⟩ := cs_loop (L := L) (n := n) (c := c) (c2 := c2) hf hw (A := a.D) L [(a, [])] 0 none none (by simp [wsum]; omega) (fun p hp => by simp only [List.mem_cons, List.not_mem_nil, or_false] at hp; subst hp; exact ⟨ok, by show 0 + a.deep ≤ 40; omega⟩) (by simp [wsum]; omega)
  have z1 : 1 ≤ sizeLine := by decide
  have z2 : 2 ≤ sizeLine := by decide
  have f1 := ex_while_ (R := run tbl L (n + 2)) (L := L) (pn := []) (c := csC) (b := csL w c c2) (ρ := csV a.D [(a, [])] 0 none none)
  rw [e] at f1
  have v0 : csV a.D [(a, [])] 0 none none = [some (.d a.D), some (.lst [.d (.tuple [a.D, .tuple []])]), some (.d (.int 0)), none, none, none] := rfl
  have v1 : csV a.D [] m x y = [some (.d a.D), some (.lst []), some (.d (.int (m : Int))), x, y, none] := rfl
  rw [v0, v1] at f1
  generalize a.D = A at *
  unfold runBody csF csB
  simp [ioOf, fill, putBack, stAll, st, f1, outs, z1, z2]
end
end AM
/-! Sa7: words_so, deep_so, letters_so. -/
namespace AM
open PySem PySem.Spec PyProof.Rows L2
def recI : AM.It := .seq (.tab partsT (.sub (.var 0) (.cst (.int 0))))
def recC (f : Nat) : Ex := .comp [1] (.name 1) recI (.nil) (.call f (.cons (.sub (.var 0) (.var 1)) (.nil)))
def woB (f : Nat) : Sms := .cons (.ret (.bin .add (.cst (.int 1)) (.bi .sum (recC f)))) (.nil)
def woF (f : Nat) : Df := ⟨2, 1, [], woB f⟩
def dpB (f : Nat) : Sms := .cons (.ret (.bin .add (.cst (.int 1)) (.bi .max (.bin .add (.lst (.cons (.cst (.int 0)) .nil)) (recC f))))) (.nil)
def dpF (f : Nat) : Df := ⟨2, 1, [], dpB f⟩
theorem pInts_of : ∀ ns : List Int, pInts (ns.map PyData.int) = some ns
  | [] => rfl
  | n :: r => by
    show (pInts (r.map PyData.int)).map (n :: ·) = _
    rw [pInts_of r]
    rfl
section
variable {tbl : List Df} {L n f : Nat}
/-- what each part gives, in order -/
theorem ev_rec {R : Fns} {a : Say} (v : Say → Int) (h : ∀ q ∈ a.parts, R.run f [.d q.2.D] = .ok (.d (.int (v q.2)), [])) : ev R [] (recC f) [some (.d a.D), none] = .ok (Ob.ls ((a.parts.map fun q => v q.2).map PyData.int), [some (.d a.D), none]) := by
  have hh := say_hd a
  have ht := say_tab a
  have sub := say_sub a
  have plen : a.parts.length ≤ 2 := by cases a <;> simp [Say.parts]
  have hI : evI R [] recI [some (.d a.D), none] = .ok (a.parts.map (fun q => PyData.int q.1), [some (.d a.D), none]) := by
    unfold recI
    generalize (a.parts.map fun q => PyData.int q.1) = V at *
    simp [hh, ht, seqOf]
  have c1 := comp_on (R := R) (pn := []) (own := [1]) (tg := .name 1) (it := recI) (cs := .nil) (e := .call f (.cons (.sub (.var 0) (.var 1)) (.nil))) (ρ := [some (.d a.D), none]) (ρ1 := [some (.d a.D), none]) (W := [some (.d a.D), none]) (fun q => PyData.int q.1) a.parts (fun _ => true) (fun q => Ob.d (.int (v q.2)))
    (fun q => [some (.d a.D), some (.d (.int q.1))]) hI ⟨rfl, rfl⟩ rfl rfl (fun _ _ => rfl) (fun _ _ => rfl) (fun _ _ => by simp)
    (fun q hq _ => by
      have sb := sub q hq
      have r := h q hq
      simp [ioOf, fill, putBack, sb, r]) (fun _ _ => rfl) rfl (by rw [sizeLine_eq]; omega)
  rw [List.filter_eq_self.mpr fun _ _ => rfl] at c1
  have e1 : (a.parts.map fun q => Ob.d (.int (v q.2))) = ((a.parts.map fun q => v q.2).map PyData.int).map Ob.d := by rw [List.map_map, List.map_map]; rfl
  rw [e1] at c1
  exact c1
theorem sum_cast (l : List Nat) : (l.map fun (i : Nat) => (i : Int)).sum = (l.sum : Int) := by
  induction l with
  | nil => rfl
  | cons a l ih => rw [List.map_cons, List.sum_cons, List.sum_cons, ih]; omega
theorem run_words (hg : tbl[f]? = some (woF f)) : ∀ (k : Nat) (a : Say), a.deep ≤ k → (run tbl L k).run f [.d a.D] = .ok (.d (.int (a.words : Int)), [])
  | 0, a, h => by have := a.deep_pos; omega
  | k + 1, a, h => by
    rw [run_succ hg]
    have r := ev_rec (R := run tbl L k) (f := f) (a := a) (fun b => (b.words : Int)) fun q hq => run_words hg k q.2 (by have := say_deep a q hq; omega)
    have s1 : (a.parts.map fun q => (q.2.words : Int)).sum + 1 = (a.words : Int) := by
      have := sum_cast (a.parts.map fun q => q.2.words)
      rw [List.map_map] at this
      rw [say_words a]
      rw [show (a.parts.map fun q => (q.2.words : Int)) = a.parts.map ((fun (i : Nat) => (i : Int)) ∘ fun q => q.2.words) from rfl, this]
      omega
    have bs : biD .sum (.list ((a.parts.map fun q => (q.2.words : Int)).map PyData.int)) = some (.d (.int (a.parts.map fun q => (q.2.words : Int)).sum)) := by
      show (pInts _).map _ = _
      rw [pInts_of]
      rfl
    have fin : (1 : Int) + (a.parts.map fun q => (q.2.words : Int)).sum = (a.words : Int) := by omega
    generalize ((a.parts.map fun q => (q.2.words : Int)).map PyData.int) = V at *
    generalize (a.parts.map fun q => (q.2.words : Int)).sum = S at *
    unfold runBody woF woB
    simp [ioOf, fill, putBack, outs, r, bs, fin]
theorem deep_max (a : Say) : (1 : Int) + (a.parts.map fun q => (q.2.deep : Int)).foldl max 0 = (a.deep : Int) := by
  cases a with
  | neg b => simp only [Say.parts, Say.deep, List.map_cons, List.map_nil, List.foldl_cons, List.foldl_nil]; omega
  | two c b d => simp only [Say.parts, Say.deep, List.map_cons, List.map_nil, List.foldl_cons, List.foldl_nil]; omega
  | way _ _ b => simp only [Say.parts, Say.deep, List.map_cons, List.map_nil, List.foldl_cons, List.foldl_nil]; omega
  | _ => rfl
theorem run_deep (hg : tbl[f]? = some (dpF f)) : ∀ (k : Nat) (a : Say), a.deep ≤ k → (run tbl L k).run f [.d a.D] = .ok (.d (.int (a.deep : Int)), [])
  | 0, a, h => by have := a.deep_pos; omega
  | k + 1, a, h => by
    rw [run_succ hg]
    have r := ev_rec (R := run tbl L k) (f := f) (a := a) (fun b => (b.deep : Int)) fun q hq => run_deep hg k q.2 (by have := say_deep a q hq; omega)
    have plen : a.parts.length ≤ 2 := by cases a <;> simp [Say.parts]
    have ad := bin_addL (xs := [PyData.int 0]) (ys := ((a.parts.map fun q => (q.2.deep : Int)).map PyData.int)) (by rw [List.length_map, List.length_map, sizeLine_eq]; simp; omega)
    have bs : biD .max (.list ([PyData.int 0] ++ ((a.parts.map fun q => (q.2.deep : Int)).map PyData.int))) = some (.d (.int ((a.parts.map fun q => (q.2.deep : Int)).foldl max 0))) := by
      show ((pInts ((0 :: (a.parts.map fun q => (q.2.deep : Int))).map PyData.int)).bind maxI).map _ = _
      rw [pInts_of]
      rfl
    have fin := deep_max a
    have z1 : 1 ≤ sizeLine := by decide
    have l1 : (Res.ok (Ob.lst [Ob.d (PyData.int 0)], ([some (.d a.D), none] : Env))).toD = .ok (.list [.int 0], [some (.d a.D), none]) := rfl
    generalize ([PyData.int 0] ++ ((a.parts.map fun q => (q.2.deep : Int)).map PyData.int)) = U at *
    generalize ((a.parts.map fun q => (q.2.deep : Int)).map PyData.int) = V at *
    generalize ((a.parts.map fun q => (q.2.deep : Int)).foldl max 0) = S at *
    generalize a.D = A at *
    unfold runBody dpF dpB
    simp [ioOf, fill, putBack, outs, r, bs, fin, z1, l1, ad]
end
end AM
/-! Sa8: letters_so. -/
namespace AM
open PySem PySem.Spec PyProof.Rows L2
theorem sortI_ext {a b : List Int} (h : ∀ k, k ∈ a ↔ k ∈ b) : sortI a = sortI b :=
  asc_ext (lt := (· < ·)) (fun _ => Int.lt_irrefl _) (fun _ _ _ => Int.lt_trans) (sortI_asc a) (sortI_asc b) fun k => (mem_sortI.trans (h k)).trans mem_sortI.symm
theorem ded_len {α : Type} [DecidableEq α] : ∀ l : List α, (ded l).length ≤ l.length
  | [] => Nat.le_refl _
  | x :: r => by
    have := ded_len r
    unfold ded
    split
    · exact Nat.le_succ_of_le this
    · exact Nat.succ_le_succ this
theorem sortI_len (l : List Int) : (sortI l).length ≤ l.length := by
  unfold sortI
  rw [List.length_mergeSort]
  exact ded_len l
theorem sortI_one (n : Int) : sortI [n] = [n] := by
  unfold sortI ded ded
  simp
theorem le_sum : ∀ {l : List Nat} {x : Nat}, x ∈ l → x ≤ l.sum
  | y :: l, x, h => by
    rw [List.sum_cons]
    rcases List.mem_cons.mp h with rfl | h
    · omega
    · have := le_sum h; omega
def flatL (ps : List (Int × Say)) : List Int := ps.flatMap fun q => sortI q.2.lets
theorem lets_parts {a : Say} (h : a.isLet = false) (k : Int) : k ∈ flatL a.parts ↔ k ∈ a.lets := by
  unfold flatL
  cases a with
  | let_ n => cases h
  | fix b => simp [Say.parts, Say.lets]
  | neg b => simp [Say.parts, Say.lets, mem_sortI]
  | two c b d => simp [Say.parts, Say.lets, mem_sortI]
  | way q t b => simp [Say.parts, Say.lets, mem_sortI]
theorem lets_len : ∀ a : Say, a.lets.length ≤ a.words
  | .let_ _ => Nat.le_refl _
  | .fix _ => Nat.zero_le _
  | .neg a => by have := lets_len a; simp only [Say.lets, Say.words]; omega
  | .two _ a b => by have := lets_len a; have := lets_len b; simp only [Say.lets, Say.words, List.length_append]; omega
  | .way _ _ a => by have := lets_len a; simp only [Say.lets, Say.words]; omega
theorem flatL_len : ∀ ps : List (Int × Say), (flatL ps).length ≤ (ps.map fun q => q.2.words).sum
  | [] => Nat.le_refl _
  | p :: ps => by
    have h1 := flatL_len ps
    have h2 := sortI_len p.2.lets
    have h3 := lets_len p.2
    unfold flatL at *
    rw [List.flatMap_cons, List.length_append, List.map_cons, List.sum_cons]
    omega
def ltL (f : Nat) : Sms := .cons (.ext 1 (.call f (.cons (.sub (.var 0) (.var 2)) (.nil)))) (.nil)
def ltB (f : Nat) : Sms := .cons (.ife (.cmp .eq (.sub (.var 0) (.cst (.int 0))) (.cst (.str "letter"))) (.cons (.ret (.lst (.cons (.sub (.var 0) (.cst (.int 1))) .nil))) (.nil)) (.nil)) (.cons (.asg 1 (.lst (.nil))) (.cons (.for_ (.name 2) recI (ltL f)) (.cons (.ret (.bi .sset (.var 1))) (.nil))))
def ltF (f : Nat) : Df := ⟨3, 1, [], ltB f⟩
section
variable {tbl : List Df} {L n f : Nat}
theorem run_lets (hg : tbl[f]? = some (ltF f)) : ∀ (k : Nat) (a : Say), a.deep ≤ k → a.words ≤ 400 → (run tbl L k).run f [.d a.D] = .ok (Ob.ls ((sortI a.lets).map PyData.int), [])
  | 0, a, h, _ => by have := a.deep_pos; omega
  | k + 1, a, h, hw => by
    rw [run_succ hg]
    have hh := say_hd a
    have ht := say_tab a
    have hl := say_let a
    have z1 : 1 ≤ sizeLine := by decide
    cases e : a.isLet with
    | true =>
      cases a with
      | let_ m =>
        have e1 : subD (Say.let_ m).D (.int 1) = some (.int (m : Int)) := rfl
        have e2 : sortI (Say.let_ m).lets = [(m : Int)] := sortI_one _
        rw [e] at hl
        rw [e2]
        generalize (Say.let_ m).D = A at *
        generalize (Say.let_ m).hd = Z at *
        unfold runBody ltF ltB
        simp [ioOf, fill, putBack, outs, hh, hl, e1, z1]
        rfl
      | _ => cases e
    | false =>
      rw [e] at hl
      have sub := say_sub a
      have wp := say_words a
      obtain ⟨ρ', lp, y, eρ⟩ := forL_inv (bnd := bindT [] (.name 2)) (b := exs (run tbl L k) L [] (ltL f)) (fun i ρ => ∃ y, ρ = [some (.d a.D), some (Ob.ls ((flatL (a.parts.take i)).map PyData.int)), y]) (a.parts.map fun q => PyData.int q.1) 0 [some (.d a.D), some (.lst []), none] ⟨none, rfl⟩ (fun i d ρ hd hp => by
        obtain ⟨y, rfl⟩ := hp
        rw [List.getElem?_map] at hd
        obtain ⟨q, hq, rfl⟩ := Option.map_eq_some_iff.mp hd
        have mq := List.mem_of_getElem? hq
        rw [Nat.zero_add]
        have dq := say_deep a q mq
        have wq : q.2.words ≤ 400 := by
          have : q.2.words ≤ (a.parts.map fun q => q.2.words).sum := le_sum (List.mem_map.mpr ⟨q, mq, rfl⟩)
          omega
        have ih := run_lets hg k q.2 (by omega) wq
        have sb := sub q mq
        have tk : flatL (a.parts.take (i + 1)) = flatL (a.parts.take i) ++ sortI q.2.lets := by
          unfold flatL
          rw [List.take_add_one, hq, List.flatMap_append]
          simp
        have l1 := flatL_len (a.parts.take i)
        have l2 : ((a.parts.take i).map fun q => q.2.words).sum ≤ 400 := by
          have e2 := congrArg List.sum (List.map_take (f := fun q : Int × Say => q.2.words) (i := i) (l := a.parts))
          have e3 := List.take_append_drop i (a.parts.map fun q => q.2.words)
          have e4 := congrArg List.sum e3
          rw [List.sum_append] at e4
          rw [e2]
          omega
        have l3 := sortI_len q.2.lets
        have l4 := lets_len q.2
        refine ⟨[some (.d a.D), some (Ob.ls ((flatL (a.parts.take i)).map PyData.int)), some (.d (.int q.1))], [some (.d a.D), some (Ob.ls ((flatL (a.parts.take (i + 1))).map PyData.int)), some (.d (.int q.1))], rfl, .inl ?_, _, rfl⟩
        have cl : ev (run tbl L k) [] (.call f (.cons (.sub (.var 0) (.var 2)) (.nil))) [some (.d a.D), some (Ob.ls ((flatL (a.parts.take i)).map PyData.int)), some (.d (.int q.1))] = .ok (Ob.ls ((sortI q.2.lets).map PyData.int), [some (.d a.D), some (Ob.ls ((flatL (a.parts.take i)).map PyData.int)), some (.d (.int q.1))]) := by
          generalize ((sortI q.2.lets).map PyData.int) = V at *
          generalize Ob.ls ((flatL (a.parts.take i)).map PyData.int) = U at *
          generalize a.D = A at *
          simp [ioOf, fill, putBack, sb, ih]
        rw [tk]
        unfold ltL
        rw [exs_cons_53, ex]
        show ((Res.of (some (Ob.ls ((flatL (a.parts.take i)).map PyData.int)))).bind _).bind _ = _
        rw [of_some', bind_ok']
        show ((ev (run tbl L k) [] (.call f (.cons (.sub (.var 0) (.var 2)) (.nil))) _).bind _).bind _ = _
        rw [cl, bind_ok']
        show ((Res.of (some (Ob.ls ((flatL (a.parts.take i)).map PyData.int)))).bind _).bind _ = _
        rw [of_some', bind_ok']
        show (if (((flatL (a.parts.take i)).map PyData.int).map Ob.d).length + (((sortI q.2.lets).map PyData.int).map Ob.d).length ≤ sizeLine then Res.ok (Fl.nx _) else Res.bad).bind _ = _
        rw [if_pos (by simp only [List.length_map]; rw [sizeLine_eq]; omega), bind_ok']
        unfold Ob.ls
        rw [List.map_append, List.map_append]
        rfl)
      rw [Nat.zero_add, List.length_map, List.take_length] at eρ
      subst eρ
      have ml := flatL_len a.parts
      have bs : biD .sset (.list ((flatL a.parts).map PyData.int)) = some (Ob.ls ((sortI a.lets).map PyData.int)) := by
        show ((setD _).bind sortD).map Ob.ls = _
        rw [sset_int (by omega), sortI_ext (lets_parts e)]
        rfl
      have hI : evI (run tbl L k) [] recI [some (.d a.D), some (.lst []), none] = .ok (a.parts.map (fun q => PyData.int q.1), [some (.d a.D), some (.lst []), none]) := by
        unfold recI
        generalize (a.parts.map fun q => PyData.int q.1) = V at *
        simp [hh, ht, seqOf]
      have f1 := ex_for_ (R := run tbl L k) (L := L) (pn := []) (tg := .name 2) (b := ltL f) hI
      rw [lp] at f1
      have u1 := use1_ls' (some (.d a.D)) ((flatL a.parts).map PyData.int) [y]
      generalize ((flatL a.parts).map PyData.int) = V at *
      generalize ((sortI a.lets).map PyData.int) = U at *
      generalize a.D = A at *
      generalize a.hd = Z at *
      unfold runBody ltF ltB
      simp [ioOf, fill, putBack, st, outs, hh, hl, f1, u1, bs]
end
end AM
/-! Sa9: holds_so. -/
namespace AM
open PySem PySem.Spec PyProof.Rows L2
def hoA (h : Nat) : Ex := .call h (.cons (.var 0) (.cons (.sub (.var 1) (.sub (.tab partsT (.var 3)) (.cst (.int 0)))) (.cons (.var 2) (.nil))))
def hoZ (h : Nat) : Ex := .call h (.cons (.var 0) (.cons (.sub (.var 1) (.cst (.int 2))) (.cons (.var 2) (.nil))))
def hoQ (e : Nat) : Sms := .cons (.ret (.call e (.cons (.sub (.var 0) (.sub (.var 1) (.cst (.int 1)))) (.cons (.var 5) (.nil))))) (.nil)
def hoP : Sm := .par [3, 4] (.cons (.sub (.var 1) (.cst (.int 0))) (.cons (.bin .sub (.bin .shl (.cst (.int 1)) (.bi .len (.sub (.var 0) (.cst (.int 0))))) (.cst (.int 1))) .nil))
def hoR (h e m : Nat) : Sms := .cons (.ife (.cmp .eq (.var 3) (.cst (.str "letter"))) (.cons (.ret (.sub (.var 2) (.sub (.var 1) (.cst (.int 1))))) (.nil)) (.nil)) (.cons (.ife (.cmp .inn (.var 3) (.tup (.cons (.cst (.str "yes")) (.cons (.cst (.str "no")) .nil)))) (.cons (.ret (.ife (.cmp .eq (.var 3) (.cst (.str "yes"))) (.var 4) (.cst (.int 0)))) (.nil)) (.nil)) (.cons (.asg 5 (hoA h)) (.cons (.ife (.cmp .eq (.var 3) (.cst (.str "each"))) (hoQ e) (.nil)) (.cons (.ife (.cmp .eq (.var 3) (.cst (.str "some"))) (hoQ m) (.nil)) (.cons (.ife (.cmp .eq (.var 3) (.cst (.str "not"))) (.cons (.ret (.bin .sub (.var 4) (.var 5))) (.nil)) (.nil)) (.cons (.asg 6 (hoZ h)) (.cons (.ife (.cmp .eq (.var 3) (.cst (.str "and"))) (.cons (.ret (.bin .band (.var 5) (.var 6))) (.nil)) (.nil)) (.cons (.ret (.ife (.cmp .eq (.var 3) (.cst (.str "or"))) (.bin .bor (.var 5) (.var 6)) (.bin .bor (.bin .sub (.var 4) (.var 5)) (.var 6)))) (.nil)))))))))
def hoB (h e m : Nat) : Sms := .cons hoP (hoR h e m)
def hoF (h e m : Nat) : Df := ⟨7, 3, [], hoB h e m⟩
def arwD (s : Nat) (B : Nat → Nat → Nat) : Dt := .list ((List.range 6).map fun w => PyData.list (rowD s B w))
def Say.isFix : Say → Bool
  | .fix _ => true | _ => false
def Say.isNot : Say → Bool
  | .neg _ => true | _ => false
def Say.isQ (b : Bool) : Say → Bool
  | .way q _ _ => q == b | _ => false
def Say.isC (c : Cn) : Say → Bool
  | .two .and _ _ => (match c with | .and => true | _ => false) | .two .or _ _ => (match c with | .or => true | _ => false) | .two .gives _ _ => (match c with | .gives => true | _ => false) | _ => false
theorem hd_fix (a : Say) : cmpD .inn (.str a.hd) (.tuple [.str "yes", .str "no"]) = some a.isFix := by
  show inD (.str a.hd) ([fixS true, fixS false].map PyData.str) = _
  rw [in_strs (hd_ok a) (by decide +kernel)]
  cases a with
  | fix b => cases b <;> rfl
  | two c _ _ => cases c <;> rfl
  | way q _ _ => cases q <;> rfl
  | _ => rfl
theorem hd_yes (b : Bool) : cmpD .eq (.str (fixS b)) (.str "yes") = some b := by cases b <;> rfl
theorem hd_each (a : Say) : cmpD .eq (.str a.hd) (.str "each") = some (a.isQ true) := by
  cases a with
  | fix b => cases b <;> rfl
  | two c _ _ => cases c <;> rfl
  | way q _ _ => cases q <;> rfl
  | _ => rfl
theorem hd_some (a : Say) : cmpD .eq (.str a.hd) (.str "some") = some (a.isQ false) := by
  cases a with
  | fix b => cases b <;> rfl
  | two c _ _ => cases c <;> rfl
  | way q _ _ => cases q <;> rfl
  | _ => rfl
theorem hd_not (a : Say) : cmpD .eq (.str a.hd) (.str "not") = some a.isNot := by
  cases a with
  | fix b => cases b <;> rfl
  | two c _ _ => cases c <;> rfl
  | way q _ _ => cases q <;> rfl
  | _ => rfl
theorem hd_and (a : Say) : cmpD .eq (.str a.hd) (.str "and") = some (a.isC .and) := by
  cases a with
  | fix b => cases b <;> rfl
  | two c _ _ => cases c <;> rfl
  | way q _ _ => cases q <;> rfl
  | _ => rfl
theorem hd_or (a : Say) : cmpD .eq (.str a.hd) (.str "or") = some (a.isC .or) := by
  cases a with
  | fix b => cases b <;> rfl
  | two c _ _ => cases c <;> rfl
  | way q _ _ => cases q <;> rfl
  | _ => rfl
theorem arw_at {s : Nat} {B : Nat → Nat → Nat} {t : Int} {i : Nat} (h : ixN 6 t = some i) : subD (arwD s B) (.int t) = some (.list (rowD s B i)) := by
  have hi : i < 6 := by
    unfold ixN at h
    repeat' split at h
    all_goals first | (cases h; omega) | cases h
  show (ixN ((List.range 6).map fun w => PyData.list (rowD s B w)).length t).bind _ = _
  rw [List.length_map, List.length_range, h]
  simp [hi]
section
variable {tbl : List Df} {L n h e m : Nat}
theorem marks_at {s : Nat} {ms : List (List Nat)} {j : Nat} (hj : j ≤ 7) : subD (.list (marksD s ms)) (.int (j : Int)) = some (.int ((setN s (mkB ms j) : Nat) : Int)) := by
  have l : (marksD s ms).length = 8 := by unfold marksD; rw [List.length_map, List.length_range]
  show atI (marksD s ms) (j : Int) = _
  rw [atI_nat' (by omega)]
  simp [marksD]
end
end AM
/-! Sa10: holds_so, run. -/
namespace AM
open PySem PySem.Spec PyProof.Rows L2
section
variable {tbl : List Df} {L n h e m : Nat}
theorem int_not {s : Nat} (p : Nat → Bool) : ((setN s (fun _ => true) : Nat) : Int) - ((setN s p : Nat) : Int) = ((setN s (fun i => !p i) : Nat) : Int) := by
  have h1 := setN_not s p
  have h2 := setN_all s
  have h3 := setN_lt s p
  rw [← h1, ← h2]
  omega
theorem run_holds (hh : tbl[h]? = some (hoF h e m)) (he : tbl[e]? = some (goF eachC)) (hm : tbl[m]? = some (goF someC)) {s : Nat} (hs : 1 ≤ s ∧ s ≤ 200) {B : Nat → Nat → Nat} (hB : ∀ w i, B w i < 2 ^ s) (ms : List (List Nat)) :
    ∀ (k : Nat) (a : Say), a.Ok → a.deep + 1 ≤ k → (run tbl L k).run h [.d (arwD s B), .d a.D, .d (.list (marksD s ms))] = .ok (.d (.int ((setN s (sat s B (mkB ms) a) : Nat) : Int)), [])
  | 0, a, _, hk => by omega
  | k + 1, a, ok, hk => by
    have dp := a.deep_pos
    rw [run_succ hh]
    have h0 := say_hd a
    have ht := say_tab a
    have hl := say_let a
    have hf := hd_fix a
    have q1 := hd_each a
    have q2 := hd_some a
    have q3 := hd_not a
    have q4 := hd_and a
    have q5 := hd_or a
    have a0 : subD (arwD s B) (.int 0) = some (.list (rowD s B 0)) := arw_at (i := 0) (by rfl)
    have rl : biD .len (.list (rowD s B 0)) = some (.d (.int (s : Int))) := by
      rw [bi_len_l]
      unfold rowD
      rw [List.length_map, List.length_range]
    have sh := shl_one (c := s) (by omega)
    have wh : ((2 ^ s : Nat) : Int) - 1 = ((setN s (fun _ => true) : Nat) : Int) := by
      rw [← setN_all]
      have := Nat.one_le_two_pow (n := s)
      omega
    have st1 : ex (run tbl L k) L [] hoP [some (.d (arwD s B)), some (.d a.D), some (.d (.list (marksD s ms))), none, none, none, none] = .ok (.nx [some (.d (arwD s B)), some (.d a.D), some (.d (.list (marksD s ms))), some (.d (.str a.hd)), some (.d (.int ((setN s (fun _ => true) : Nat) : Int))), none, none]) := by
      generalize rowD s B 0 = R0 at *
      generalize arwD s B = AR at *
      generalize marksD s ms = MK at *
      generalize a.D = A at *
      simp only [← wh]
      unfold hoP
      rw [Int.natCast_pow] at sh ⊢
      simp [-bi_len_l, h0, a0, rl, sh, stAll, st]
    have t2 : 2 ≤ sizeLine := by decide
    suffices body : ∃ ρ, exs (run tbl L k) L [] (hoR h e m) [some (.d (arwD s B)), some (.d a.D), some (.d (.list (marksD s ms))), some (.d (.str a.hd)), some (.d (.int ((setN s (fun _ => true) : Nat) : Int))), none, none] = .ok (.rt (.d (.int ((setN s (sat s B (mkB ms) a) : Nat) : Int))) ρ) by
      obtain ⟨ρ, body⟩ := body
      unfold runBody hoF hoB
      simp [st1, body, outs]
    clear st1
    cases a with
    | let_ j =>
      have ma := marks_at (s := s) (ms := ms) (j := j) ok
      have e1 : subD (Say.let_ j).D (.int 1) = some (.int (j : Int)) := rfl
      have fin : setN s (sat s B (mkB ms) (.let_ j)) = setN s (mkB ms j) := setN_congr fun i _ => by rw [sat]
      rw [fin]
      have hl : cmpD .eq (.str (Say.let_ j).hd) (.str "letter") = some true := hl
      refine ⟨[some (.d (arwD s B)), some (.d (Say.let_ j).D), some (.d (.list (marksD s ms))), some (.d (.str (Say.let_ j).hd)), some (.d (.int ((setN s (fun _ => true) : Nat) : Int))), none, none], ?_⟩
      generalize (Say.let_ j).D = A at *
      generalize (Say.let_ j).hd = Z at *
      generalize arwD s B = AR at *
      generalize marksD s ms = MK at *
      unfold hoR
      simp [hl, e1, ma]
    | fix b =>
      have k1 : cmpD .eq (.str (fixS b)) (.str "letter") = some false := hl
      have k2 : cmpD .inn (.str (fixS b)) (.tuple [.str "yes", .str "no"]) = some true := hf
      have k3 := hd_yes b
      refine ⟨[some (.d (arwD s B)), some (.d (Say.fix b).D), some (.d (.list (marksD s ms))), some (.d (.str (fixS b))), some (.d (.int ((setN s (fun _ => true) : Nat) : Int))), none, none], ?_⟩
      have fin : setN s (sat s B (mkB ms) (.fix b)) = if b = true then setN s (fun _ => true) else 0 := by
        cases b with
        | true => exact setN_congr fun i _ => by rw [sat]
        | false => rw [if_neg (by simp), ← setN_no s]; exact setN_congr fun i _ => by rw [sat]
      rw [fin]
      show exs (run tbl L k) L [] (hoR h e m) [some (.d (arwD s B)), some (.d (Say.fix b).D), some (.d (.list (marksD s ms))), some (.d (.str (fixS b))), some (.d (.int ((setN s (fun _ => true) : Nat) : Int))), none, none] = _
      generalize (Say.fix b).D = A at *
      generalize fixS b = Z at *
      generalize arwD s B = AR at *
      generalize marksD s ms = MK at *
      generalize setN s (fun _ => true) = WH at *
      unfold hoR
      cases b <;> simp [k1, k2, k3, t2]
    | neg b =>
      have ih := run_holds hh he hm hs hB ms k b ok (by simp only [Say.deep] at hk; omega)
      have k1 : cmpD .eq (.str (Say.neg b).hd) (.str "letter") = some false := hl
      have k2 : cmpD .inn (.str (Say.neg b).hd) (.tuple [.str "yes", .str "no"]) = some false := hf
      have k3 : cmpD .eq (.str (Say.neg b).hd) (.str "each") = some false := q1
      have k4 : cmpD .eq (.str (Say.neg b).hd) (.str "some") = some false := q2
      have k5 : cmpD .eq (.str (Say.neg b).hd) (.str "not") = some true := q3
      have k6 : tabD partsT (.str (Say.neg b).hd) = some (.tuple [.int 1]) := ht
      have k7 : subD (Say.neg b).D (.int 1) = some b.D := rfl
      have k8 : subD (.tuple [.int 1]) (.int 0) = some (.int 1) := rfl
      have fin : sat s B (mkB ms) (.neg b) = fun i => !sat s B (mkB ms) b i := by funext i; rw [sat]
      have nt := int_not (s := s) (sat s B (mkB ms) b)
      rw [fin, ← nt]
      refine ⟨[some (.d (arwD s B)), some (.d (Say.neg b).D), some (.d (.list (marksD s ms))), some (.d (.str (Say.neg b).hd)), some (.d (.int ((setN s (fun _ => true) : Nat) : Int))), some (.d (.int ((setN s (sat s B (mkB ms) b) : Nat) : Int))), none], ?_⟩
      generalize (Say.neg b).D = A at *
      generalize (Say.neg b).hd = Z at *
      generalize arwD s B = AR at *
      generalize marksD s ms = MK at *
      generalize setN s (fun _ => true) = WH at *
      generalize setN s (sat s B (mkB ms) b) = S1 at *
      unfold hoR hoA
      simp [k1, k2, k3, k4, k5, k6, k7, k8, t2, ioOf, fill, putBack, ih, st]
    | way q t b =>
      have ih := run_holds hh he hm hs hB ms k b ok.2 (by simp only [Say.deep] at hk; omega)
      have k1 : cmpD .eq (.str (Say.way q t b).hd) (.str "letter") = some false := hl
      have k2 : cmpD .inn (.str (Say.way q t b).hd) (.tuple [.str "yes", .str "no"]) = some false := hf
      have k6 : tabD partsT (.str (Say.way q t b).hd) = some (.tuple [.int 2]) := ht
      have k7 : subD (Say.way q t b).D (.int 2) = some b.D := rfl
      have k8 : subD (.tuple [.int 2]) (.int 0) = some (.int 2) := rfl
      have k9 : subD (Say.way q t b).D (.int 1) = some (.int t) := rfl
      have k10 := arw_at (s := s) (B := B) (rowOf_ix ok.1)
      obtain ⟨k', rfl⟩ : ∃ k', k = k' + 1 := ⟨k - 1, by simp only [Say.deep] at hk; have := b.deep_pos; omega⟩
      refine ⟨[some (.d (arwD s B)), some (.d (Say.way q t b).D), some (.d (.list (marksD s ms))), some (.d (.str (Say.way q t b).hd)), some (.d (.int ((setN s (fun _ => true) : Nat) : Int))), some (.d (.int ((setN s (sat s B (mkB ms) b) : Nat) : Int))), none], ?_⟩
      cases q with
      | true =>
        have k3 : cmpD .eq (.str (Say.way true t b).hd) (.str "each") = some true := q1
        have re := run_each (L := L) (n := k') he hs.2 (w := rowOf t) (hB (rowOf t)) (sat s B (mkB ms) b)
        have fin : sat s B (mkB ms) (.way true t b) = fun i => (List.range s).all fun j => !(B (rowOf t) i).testBit j || sat s B (mkB ms) b j := by funext i; rw [sat]
        rw [fin]
        generalize setN s (fun i => (List.range s).all fun j => !(B (rowOf t) i).testBit j || sat s B (mkB ms) b j) = FIN at *
        generalize (Say.way true t b).D = A at *
        generalize (Say.way true t b).hd = Z at *
        generalize arwD s B = AR at *
        generalize marksD s ms = MK at *
        generalize rowD s B (rowOf t) = RW at *
        generalize setN s (fun _ => true) = WH at *
        generalize setN s (sat s B (mkB ms) b) = S1 at *
        unfold hoR hoA hoQ
        simp [k1, k2, k3, k6, k7, k8, k9, k10, t2, ioOf, fill, putBack, ih, st, re]
      | false =>
        have k3 : cmpD .eq (.str (Say.way false t b).hd) (.str "each") = some false := q1
        have k4 : cmpD .eq (.str (Say.way false t b).hd) (.str "some") = some true := q2
        have re := run_some (L := L) (n := k') hm hs.2 (B := B) (w := rowOf t) (sat s B (mkB ms) b)
        have fin : sat s B (mkB ms) (.way false t b) = fun i => (List.range s).any fun j => (B (rowOf t) i).testBit j && sat s B (mkB ms) b j := by funext i; rw [sat]
        rw [fin]
        generalize setN s (fun i => (List.range s).any fun j => (B (rowOf t) i).testBit j && sat s B (mkB ms) b j) = FIN at *
        generalize (Say.way false t b).D = A at *
        generalize (Say.way false t b).hd = Z at *
        generalize arwD s B = AR at *
        generalize marksD s ms = MK at *
        generalize rowD s B (rowOf t) = RW at *
        generalize setN s (fun _ => true) = WH at *
        generalize setN s (sat s B (mkB ms) b) = S1 at *
        unfold hoR hoA hoQ
        simp [k1, k2, k3, k4, k6, k7, k8, k9, k10, t2, ioOf, fill, putBack, ih, st, re]
    | two c b d =>
      have ih := run_holds hh he hm hs hB ms k b ok.1 (by simp only [Say.deep] at hk; omega)
      have ih2 := run_holds hh he hm hs hB ms k d ok.2 (by simp only [Say.deep] at hk; omega)
      have k1 : cmpD .eq (.str (Say.two c b d).hd) (.str "letter") = some false := by rw [hl]; rfl
      have k2 : cmpD .inn (.str (Say.two c b d).hd) (.tuple [.str "yes", .str "no"]) = some false := by rw [hf]; rfl
      have k3 : cmpD .eq (.str (Say.two c b d).hd) (.str "each") = some false := by rw [q1]; rfl
      have k4 : cmpD .eq (.str (Say.two c b d).hd) (.str "some") = some false := by rw [q2]; rfl
      have k5 : cmpD .eq (.str (Say.two c b d).hd) (.str "not") = some false := by rw [q3]; rfl
      have k6 : tabD partsT (.str (Say.two c b d).hd) = some (.tuple [.int 1, .int 2]) := ht
      have k7 : subD (Say.two c b d).D (.int 1) = some b.D := rfl
      have k9 : subD (Say.two c b d).D (.int 2) = some d.D := rfl
      have k8 : subD (.tuple [.int 1, .int 2]) (.int 0) = some (.int 1) := rfl
      have nt := int_not (s := s) (sat s B (mkB ms) b)
      have an := setN_and s (sat s B (mkB ms) b) (sat s B (mkB ms) d)
      have on := setN_or s (sat s B (mkB ms) b) (sat s B (mkB ms) d)
      have gn := setN_or s (fun i => !sat s B (mkB ms) b i) (sat s B (mkB ms) d)
      refine ⟨[some (.d (arwD s B)), some (.d (Say.two c b d).D), some (.d (.list (marksD s ms))), some (.d (.str (Say.two c b d).hd)), some (.d (.int ((setN s (fun _ => true) : Nat) : Int))), some (.d (.int ((setN s (sat s B (mkB ms) b) : Nat) : Int))), some (.d (.int ((setN s (sat s B (mkB ms) d) : Nat) : Int)))], ?_⟩
      have fin : sat s B (mkB ms) (.two c b d) = fun i => c.op (sat s B (mkB ms) b i) (sat s B (mkB ms) d i) := by funext i; rw [sat]
      rw [fin]
      cases c with
      | and =>
        have k10 : cmpD .eq (.str (Say.two .and b d).hd) (.str "and") = some true := q4
        show exs (run tbl L k) L [] (hoR h e m) _ = .ok (.rt (.d (.int ((setN s (fun i => sat s B (mkB ms) b i && sat s B (mkB ms) d i) : Nat) : Int))) _)
        rw [← an, ← and_nat]
        clear an on gn nt
        generalize (Say.two .and b d).D = A at *
        generalize (Say.two .and b d).hd = Z at *
        generalize arwD s B = AR at *
        generalize marksD s ms = MK at *
        generalize setN s (fun _ => true) = WH at *
        generalize setN s (sat s B (mkB ms) b) = S1 at *
        generalize setN s (sat s B (mkB ms) d) = S2 at *
        unfold hoR hoA hoZ
        simp [k1, k2, k3, k4, k5, k6, k7, k8, k9, k10, t2, ioOf, fill, putBack, ih, ih2, st]
      | or =>
        have k10 : cmpD .eq (.str (Say.two .or b d).hd) (.str "and") = some false := q4
        have k11 : cmpD .eq (.str (Say.two .or b d).hd) (.str "or") = some true := q5
        show exs (run tbl L k) L [] (hoR h e m) _ = .ok (.rt (.d (.int ((setN s (fun i => sat s B (mkB ms) b i || sat s B (mkB ms) d i) : Nat) : Int))) _)
        rw [← on, ← or_nat]
        clear an on gn nt
        generalize (Say.two .or b d).D = A at *
        generalize (Say.two .or b d).hd = Z at *
        generalize arwD s B = AR at *
        generalize marksD s ms = MK at *
        generalize setN s (fun _ => true) = WH at *
        generalize setN s (sat s B (mkB ms) b) = S1 at *
        generalize setN s (sat s B (mkB ms) d) = S2 at *
        unfold hoR hoA hoZ
        simp [k1, k2, k3, k4, k5, k6, k7, k8, k9, k10, k11, t2, ioOf, fill, putBack, ih, ih2, st]
      | gives =>
        have k10 : cmpD .eq (.str (Say.two .gives b d).hd) (.str "and") = some false := q4
        have k11 : cmpD .eq (.str (Say.two .gives b d).hd) (.str "or") = some false := q5
        show exs (run tbl L k) L [] (hoR h e m) _ = .ok (.rt (.d (.int ((setN s (fun i => !sat s B (mkB ms) b i || sat s B (mkB ms) d i) : Nat) : Int))) _)
        rw [← gn, ← or_nat, ← nt]
        clear an on gn nt
        generalize (Say.two .gives b d).D = A at *
        generalize (Say.two .gives b d).hd = Z at *
        generalize arwD s B = AR at *
        generalize marksD s ms = MK at *
        generalize setN s (fun _ => true) = WH at *
        generalize setN s (sat s B (mkB ms) b) = S1 at *
        generalize setN s (sat s B (mkB ms) d) = S2 at *
        unfold hoR hoA hoZ
        simp [k1, k2, k3, k4, k5, k6, k7, k8, k9, k10, k11, t2, ioOf, fill, putBack, ih, ih2, st]
end
end AM
/-! Sa11: what the program's own functions of sayings answer. -/
namespace AM
open PySem PySem.Spec PyProof.Rows L2
def ndB (cs : Nat) : Sms := .cons (.ret (.call cs (.cons (.var 0) (.nil)))) (.nil)
def ndF (cs : Nat) : Df := ⟨1, 1, [], ndB cs⟩
def wiB (wo cs : Nat) : Sms := .cons (.ret (.call wo (.cons (.call cs (.cons (.var 0) (.nil))) (.nil)))) (.nil)
def wiF (wo cs : Nat) : Df := ⟨1, 1, [], wiB wo cs⟩
def liB (lt cs : Nat) : Sms := .cons (.ret (.bi .tuple (.call lt (.cons (.call cs (.cons (.var 0) (.nil))) (.nil))))) (.nil)
def liF (lt cs : Nat) : Df := ⟨1, 1, [], liB lt cs⟩
def nmB (cw cm : Nat) : Sms := .cons (.expr (.call cw (.cons (.var 0) (.nil)))) (.cons (.ret (.call cm (.cons (.var 0) (.cons (.var 1) (.nil))))) (.nil))
def nmF (cw cm : Nat) : Df := ⟨2, 2, [], nmB cw cm⟩
def hoX (ho ar mk : Nat) : Ex := .call ho (.cons (.call ar (.cons (.var 0) (.nil))) (.cons (.var 2) (.cons (.call mk (.cons (.var 1) (.nil))) (.nil))))
def hgB (cw cm cs sp ho ar mk : Nat) : Sms := .cons (.expr (.call cw (.cons (.var 0) (.nil)))) (.cons (.expr (.call cm (.cons (.var 0) (.cons (.var 1) (.nil))))) (.cons (.expr (.call cs (.cons (.var 2) (.nil)))) (.cons (.ret (.call sp (.cons (hoX ho ar mk) (.nil)))) (.nil))))
def hgF (cw cm cs sp ho ar mk : Nat) : Df := ⟨3, 3, [], hgB cw cm cs sp ho ar mk⟩
def hwB (cw cm cs xw ho ar mk : Nat) : Sms := .cons (.expr (.call cw (.cons (.var 0) (.nil)))) (.cons (.expr (.call cm (.cons (.var 0) (.cons (.var 1) (.nil))))) (.cons (.expr (.call cs (.cons (.var 2) (.nil)))) (.cons (.expr (.call xw (.cons (.var 0) (.cons (.var 3) (.nil))))) (.cons (.ret (.cmp .eq (.bin .band (.bin .shr (hoX ho ar mk) (.var 3)) (.cst (.int 1))) (.cst (.int 1)))) (.nil)))))
def hwF (cw cm cs xw ho ar mk : Nat) : Df := ⟨4, 4, [], hwB cw cm cs xw ho ar mk⟩
section
variable {tbl : List Df} {L n g cs wo lt cw cm sp ho ar mk xw : Nat}
theorem run_nd {A : Dt} (hg : tbl[g]? = some (ndF cs)) (h : (run tbl L n).run cs [.d A] = .ok (.d A, [])) : (run tbl L (n + 1)).run g [.d A] = .ok (.d A, []) := by
  rw [run_succ hg]
  unfold runBody ndF ndB
  simp [ioOf, fill, putBack, outs, h]
theorem run_wi {A B : Dt} (hg : tbl[g]? = some (wiF wo cs)) (h : (run tbl L n).run cs [.d A] = .ok (.d A, [])) (h2 : (run tbl L n).run wo [.d A] = .ok (.d B, [])) : (run tbl L (n + 1)).run g [.d A] = .ok (.d B, []) := by
  rw [run_succ hg]
  unfold runBody wiF wiB
  simp [ioOf, fill, putBack, outs, h, h2]
theorem run_li {A : Dt} {V : List Dt} (hg : tbl[g]? = some (liF lt cs)) (h : (run tbl L n).run cs [.d A] = .ok (.d A, [])) (h2 : (run tbl L n).run lt [.d A] = .ok (Ob.ls V, [])) : (run tbl L (n + 1)).run g [.d A] = .ok (.d (.tuple V), []) := by
  rw [run_succ hg]
  unfold runBody liF liB
  simp [ioOf, fill, putBack, outs, h, h2]
theorem run_nm {A M : Dt} (hg : tbl[g]? = some (nmF cw cm)) (h : (run tbl L n).run cw [.d A] = .ok (.d A, [])) (h2 : (run tbl L n).run cm [.d A, .d M] = .ok (.d M, [])) : (run tbl L (n + 1)).run g [.d A, .d M] = .ok (.d M, []) := by
  rw [run_succ hg]
  unfold runBody nmF nmB
  simp [ioOf, fill, putBack, outs, h, h2]
theorem run_hg {A M S AR : Dt} {MK : List Dt} {b : Nat} {V : List Dt} (hg : tbl[g]? = some (hgF cw cm cs sp ho ar mk)) (h1 : (run tbl L n).run cw [.d A] = .ok (.d A, [])) (h2 : (run tbl L n).run cm [.d A, .d M] = .ok (.d M, [])) (h3 : (run tbl L n).run cs [.d S] = .ok (.d S, []))
    (h4 : (run tbl L n).run ar [.d A] = .ok (.d AR, [])) (h5 : (run tbl L n).run mk [.d M] = .ok (Ob.ls MK, [])) (h6 : (run tbl L n).run ho [.d AR, .d S, .d (.list MK)] = .ok (.d (.int (b : Int)), [])) (h7 : (run tbl L n).run sp [.d (.int (b : Int))] = .ok (.d (.tuple V), [])) :
    (run tbl L (n + 1)).run g [.d A, .d M, .d S] = .ok (.d (.tuple V), []) := by
  rw [run_succ hg]
  unfold runBody hgF hgB hoX
  simp [ioOf, fill, putBack, outs, h1, h2, h3, h4, h5, h6, h7]
theorem bit_test (b w : Nat) : (((b : Int) / 2 ^ w : Int) = ((b / 2 ^ w : Nat) : Int)) ∧ ((((b / 2 ^ w &&& 1 : Nat) : Int) == 1) = b.testBit w) := by
  refine ⟨by simp, ?_⟩
  rw [Nat.testBit_eq_decide_div_mod_eq, Nat.and_one_is_mod, Bool.eq_iff_iff, beq_iff_eq, decide_eq_true_iff]
  omega
theorem run_hw {A M S AR : Dt} {MK : List Dt} {b w : Nat} (hg : tbl[g]? = some (hwF cw cm cs xw ho ar mk)) (h1 : (run tbl L n).run cw [.d A] = .ok (.d A, [])) (h2 : (run tbl L n).run cm [.d A, .d M] = .ok (.d M, [])) (h3 : (run tbl L n).run cs [.d S] = .ok (.d S, []))
    (h0 : (run tbl L n).run xw [.d A, .d (.int (w : Int))] = .ok (.d (.int (w : Int)), [])) (h4 : (run tbl L n).run ar [.d A] = .ok (.d AR, [])) (h5 : (run tbl L n).run mk [.d M] = .ok (Ob.ls MK, [])) (h6 : (run tbl L n).run ho [.d AR, .d S, .d (.list MK)] = .ok (.d (.int (b : Int)), [])) :
    (run tbl L (n + 1)).run g [.d A, .d M, .d S, .d (.int (w : Int))] = .ok (.d (.bool (b.testBit w)), []) := by
  rw [run_succ hg]
  obtain ⟨e1, e2⟩ := bit_test b w
  have sh : binD .shr (.int (b : Int)) (.int (w : Int)) = some (.d (.int ((b / 2 ^ w : Nat) : Int))) := by
    have : binD .shr (.int (b : Int)) (.int (w : Int)) = some (.d (.int ((b : Int) / 2 ^ w))) := by
      show (if (0 : Int) ≤ (w : Int) then some (Ob.d (.int ((b : Int) / 2 ^ (w : Int).toNat))) else none) = _
      rw [if_pos (Int.natCast_nonneg w), Int.toNat_natCast]
    rw [this, e1]
  have an := and_nat (b / 2 ^ w) 1
  have bb : binD .band (.int ((b / 2 ^ w : Nat) : Int)) (.int 1) = some (.d (.int ((b / 2 ^ w &&& 1 : Nat) : Int))) := by
    rw [bin_band]
    exact congrArg (fun z => some (Ob.d (PyData.int z))) an
  have cq : cmpD .eq (.int ((b / 2 ^ w &&& 1 : Nat) : Int)) (.int 1) = some (b.testBit w) := by rw [cmp_eq, e2]
  generalize ((b / 2 ^ w &&& 1 : Nat) : Int) = Z at *
  generalize ((b / 2 ^ w : Nat) : Int) = Y at *
  generalize b.testBit w = TB at *
  generalize (b : Int) = X at *
  unfold runBody hwF hwB hoX
  simp [-bin_band, -cmp_eq, ioOf, fill, putBack, outs, h1, h2, h3, h0, h4, h5, h6, sh, bb, cq]
end
end AM
/-! Sa12: the law's own _law_led, _law_at. -/
namespace AM
open PySem PySem.Spec PyProof.Rows L2
def T345 : Tg := .tup (.cons (.name 3) (.cons (.name 4) (.cons (.name 5) (.nil))))
def llP : Exs := .cons (.and (.cmp .eq (.var 3) (.var 1)) (.cmp .eq (.var 4) (.var 2))) .nil
def llN : Exs := .cons (.and (.cmp .eq (.var 3) (.bin .sub (.neg (.cst (.int 1))) (.var 1))) (.cmp .eq (.var 5) (.var 2))) .nil
def llB : Sms := .cons (.ife (.cmp .ge (.var 1) (.cst (.int 0))) (.cons (.ret (.comp [3, 4, 5] T345 (.seq (.sub (.var 0) (.cst (.int 1)))) llP (.var 5))) (.nil)) (.nil)) (.cons (.ret (.comp [3, 4, 5] T345 (.seq (.sub (.var 0) (.cst (.int 1)))) llN (.var 4))) (.nil))
def llF : Df := ⟨6, 3, [], llB⟩
theorem ints_map {α : Type} (f : α → Int) (l : List α) : (l.map fun p => Ob.d (.int (f p))) = ((l.map f).map PyData.int).map Ob.d := by
  rw [List.map_map, List.map_map]
  rfl
section
variable {tbl : List Df} {L n g : Nat}
theorem run_ll (hg : tbl[g]? = some llF) {s : Int} {as : List Arr} (hz : as.length ≤ sizeLine) (t v : Int) : (run tbl L (n + 1)).run g [.d (webD s as), .d (.int t), .d (.int v)] = .ok (Ob.ls ((farsOf as t v).map PyData.int), []) := by
  rw [run_succ hg]
  have s1 : subD (webD s as) (.int 1) = some (.tuple (as.map arrD)) := sub_t1 _ _ _
  have hI : evI (run tbl L n) [] (.seq (.sub (.var 0) (.cst (.int 1)))) [some (.d (webD s as)), some (.d (.int t)), some (.d (.int v)), none, none, none] = .ok (as.map arrD, [some (.d (webD s as)), some (.d (.int t)), some (.d (.int v)), none, none, none]) := by
    simp [seqOf, s1]
  have c1 := comp_on (R := run tbl L n) (pn := []) (own := [3, 4, 5]) (tg := T345) (it := .seq (.sub (.var 0) (.cst (.int 1)))) (cs := llP) (e := .var 5) (ρ := [some (.d (webD s as)), some (.d (.int t)), some (.d (.int v)), none, none, none]) (ρ1 := [some (.d (webD s as)), some (.d (.int t)), some (.d (.int v)), none, none, none]) (W := [some (.d (webD s as)), some (.d (.int t)), some (.d (.int v)), none, none, none])
    arrD as (fun p => p.1 == t && p.2.1 == v) (fun p => Ob.d (.int p.2.2)) (fun p => [some (.d (webD s as)), some (.d (.int t)), some (.d (.int v)), some (.d (.int p.1)), some (.d (.int p.2.1)), some (.d (.int p.2.2))]) hI ⟨rfl, rfl⟩ rfl rfl (fun _ _ => rfl) (fun _ _ => rfl)
    (fun p _ => by
      unfold llP
      cases e : p.1 == t <;> cases e2 : p.2.1 == v <;> simp [e, e2]) (fun _ _ _ => by simp) (fun _ _ => rfl) rfl hz
  have c2 := comp_on (R := run tbl L n) (pn := []) (own := [3, 4, 5]) (tg := T345) (it := .seq (.sub (.var 0) (.cst (.int 1)))) (cs := llN) (e := .var 4) (ρ := [some (.d (webD s as)), some (.d (.int t)), some (.d (.int v)), none, none, none]) (ρ1 := [some (.d (webD s as)), some (.d (.int t)), some (.d (.int v)), none, none, none]) (W := [some (.d (webD s as)), some (.d (.int t)), some (.d (.int v)), none, none, none])
    arrD as (fun p => p.1 == -1 - t && p.2.2 == v) (fun p => Ob.d (.int p.2.1)) (fun p => [some (.d (webD s as)), some (.d (.int t)), some (.d (.int v)), some (.d (.int p.1)), some (.d (.int p.2.1)), some (.d (.int p.2.2))]) hI ⟨rfl, rfl⟩ rfl rfl (fun _ _ => rfl) (fun _ _ => rfl)
    (fun p _ => by
      unfold llN
      cases e : p.1 == -1 - t <;> cases e2 : p.2.2 == v <;> simp [e, e2]) (fun _ _ _ => by simp) (fun _ _ => rfl) rfl hz
  rw [ints_map] at c1 c2
  unfold farsOf
  by_cases h : 0 ≤ t
  · rw [if_pos h]
    have c1 : ev (run tbl L n) [] (.comp [3, 4, 5] T345 (.seq (.sub (.var 0) (.cst (.int 1)))) llP (.var 5)) [some (.d (webD s as)), some (.d (.int t)), some (.d (.int v)), none, none, none] = .ok (Ob.ls (((as.filter fun p => p.1 == t && p.2.1 == v).map fun p => p.2.2).map PyData.int), [some (.d (webD s as)), some (.d (.int t)), some (.d (.int v)), none, none, none]) := c1
    generalize (((as.filter fun p => p.1 == t && p.2.1 == v).map fun p => p.2.2).map PyData.int) = V at *
    generalize webD s as = A at *
    unfold runBody llF llB
    simp [ioOf, fill, putBack, outs, h, c1]
  · rw [if_neg h]
    have c2 : ev (run tbl L n) [] (.comp [3, 4, 5] T345 (.seq (.sub (.var 0) (.cst (.int 1)))) llN (.var 4)) [some (.d (webD s as)), some (.d (.int t)), some (.d (.int v)), none, none, none] = .ok (Ob.ls (((as.filter fun p => p.1 == -1 - t && p.2.2 == v).map fun p => p.2.1).map PyData.int), [some (.d (webD s as)), some (.d (.int t)), some (.d (.int v)), none, none, none]) := c2
    generalize (((as.filter fun p => p.1 == -1 - t && p.2.2 == v).map fun p => p.2.1).map PyData.int) = V at *
    generalize webD s as = A at *
    unfold runBody llF llB
    simp [ioOf, fill, putBack, outs, h, c2]
end
theorem fars_bits {s : Nat} {as : List Arr} (h : WebOk (s : Int) as) {t : Int} {w : Nat} (ht : -3 ≤ t ∧ t ≤ 2) (hw : w < s) (k : Int) : k ∈ farsOf as t (w : Int) ↔ ∃ j : Nat, j < s ∧ (bits as (rowOf t) w).testBit j = true ∧ k = (j : Int) := by
  have e := led_eq h ht (v := (w : Int)) ⟨by omega, by omega⟩
  rw [Int.toNat_natCast] at e
  have m : PyData.int k ∈ (sortI (farsOf as t (w : Int))).map PyData.int ↔ k ∈ farsOf as t (w : Int) := by
    rw [List.mem_map]
    constructor
    · rintro ⟨x, hx, e⟩
      cases e
      exact mem_sortI.mp hx
    · exact fun z => ⟨k, mem_sortI.mpr z, rfl⟩
  rw [← m, e]
  unfold natsD ones
  rw [List.mem_map]
  constructor
  · rintro ⟨j, hj, e⟩
    obtain ⟨h1, h2⟩ := List.mem_filter.mp hj
    cases e
    exact ⟨j, List.mem_range.mp h1, h2, rfl⟩
  · rintro ⟨j, h1, h2, rfl⟩
    exact ⟨j, List.mem_filter.mpr ⟨List.mem_range.mpr h1, h2⟩, rfl⟩
theorem in_nats (w : Nat) (l : List Nat) : cmpD .inn (.int (w : Int)) (.tuple (natsD l)) = some (decide (w ∈ l)) := by
  show inD (.int (w : Int)) (natsD l) = _
  have sh := shaped_list_ints (l.map fun (i : Nat) => (i : Int))
  have e : (l.map fun (i : Nat) => (i : Int)).map PyData.int = natsD l := by rw [List.map_map]; rfl
  rw [e] at sh
  unfold inD
  rw [if_pos ⟨by simp [SeqAt.shaped, PyData.canLay0, PyData.depth], sh⟩]
  refine congrArg some ?_
  unfold natsD
  rw [List.any_map, Bool.eq_iff_iff, List.any_eq_true, decide_eq_true_iff]
  constructor
  · rintro ⟨x, hx, e⟩
    have e : PyData.eqv (.int (x : Int)) (.int (w : Int)) = true := e
    rw [eqv_int, decide_eq_true_iff, Int.natCast_inj] at e
    exact e ▸ hx
  · exact fun hw => ⟨w, hw, by show PyData.eqv (.int (w : Int)) (.int (w : Int)) = true; rw [eqv_int]; simp⟩
theorem lay_bools : ∀ ys : List Bool, PyData.canLayAll0 (ys.map PyData.bool) = true
  | [] => rfl
  | a :: r => by simp [PyData.canLayAll0, PyData.canLay0, lay_bools r]
theorem deep_bools : ∀ ys : List Bool, PyData.depthAll (ys.map PyData.bool) = 0
  | [] => rfl
  | a :: r => by simp [PyData.depthAll, PyData.depth, deep_bools r]
theorem in_bools (b : Bool) (bs : List Bool) : inD (.bool b) (bs.map PyData.bool) = some (bs.any fun x => x == b) := by
  have sh : SeqAt.shaped (.list (bs.map PyData.bool)) = true := by
    unfold SeqAt.shaped
    rw [Bool.and_eq_true]
    refine ⟨?_, decide_eq_true ?_⟩
    · rw [PyData.canLay0]; exact lay_bools bs
    · rw [PyData.depth, deep_bools]; decide
  unfold inD
  rw [if_pos ⟨by simp [SeqAt.shaped, PyData.canLay0, PyData.depth], sh⟩, List.any_map]
  refine congrArg some (congrArg (fun f => bs.any f) (funext fun y => ?_))
  show PyData.eqv (.bool y) (.bool b) = _
  simp only [PyData.eqv]
end AM
/-! Sa13: _law_at. -/
namespace AM
open PySem PySem.Spec PyProof.Rows L2
def laZ (f : Nat) (i : Int) : Ex := .call f (.cons (.var 0) (.cons (.var 1) (.cons (.sub (.var 2) (.cst (.int i))) (.cons (.var 3) (.nil)))))
def laE (f : Nat) : Ex := .call f (.cons (.var 0) (.cons (.var 1) (.cons (.sub (.var 2) (.cst (.int 2))) (.cons (.var 8) (.nil)))))
def laI (l : Nat) : AM.It := .seq (.call l (.cons (.var 0) (.cons (.sub (.var 2) (.cst (.int 1))) (.cons (.var 3) (.nil)))))
def laB (f l : Nat) : Sms := .cons (.asg 4 (.sub (.var 2) (.cst (.int 0)))) (.cons (.ife (.cmp .eq (.var 4) (.cst (.str "letter"))) (.cons (.ret (.and (.cmp .lt (.sub (.var 2) (.cst (.int 1))) (.bi .len (.var 1))) (.cmp .inn (.var 3) (.sub (.var 1) (.sub (.var 2) (.cst (.int 1))))))) (.nil)) (.nil)) (.cons (.ife (.cmp .inn (.var 4) (.tup (.cons (.cst (.str "yes")) (.cons (.cst (.str "no")) .nil)))) (.cons (.ret (.cmp .eq (.var 4) (.cst (.str "yes")))) (.nil)) (.nil)) (.cons (.ife (.cmp .eq (.var 4) (.cst (.str "not"))) (.cons (.ret (.not (laZ f 1))) (.nil)) (.nil)) (.cons (.ife (.cmp .inn (.var 4) (.tup (.cons (.cst (.str "each")) (.cons (.cst (.str "some")) .nil)))) (.cons (.asg 5 (.comp [8] (.name 8) (laI l) (.nil) (laE f))) (.cons (.ret (.ife (.cmp .eq (.var 4) (.cst (.str "each"))) (.cmp .nin (.cst (.bool false)) (.var 5)) (.cmp .inn (.cst (.bool true)) (.var 5)))) (.nil))) (.nil)) (.cons (.par [6, 7] (.cons (laZ f 1) (.cons (laZ f 2) .nil))) (.cons (.ife (.cmp .eq (.var 4) (.cst (.str "and"))) (.cons (.ret (.and (.var 6) (.var 7))) (.nil)) (.nil)) (.cons (.ret (.ife (.cmp .eq (.var 4) (.cst (.str "or"))) (.or (.var 6) (.var 7)) (.or (.not (.var 6)) (.var 7)))) (.nil))))))))
def laF (f l : Nat) : Df := ⟨9, 4, [], laB f l⟩
section
variable {s : Nat} {B : Nat → Nat → Nat} {mk : Nat → Nat → Bool} {w : Nat}
theorem sat_let (n : Nat) : sat s B mk (.let_ n) w = mk n w := by rw [sat]
theorem sat_fix (b : Bool) : sat s B mk (.fix b) w = b := by rw [sat]
theorem sat_neg (a : Say) : sat s B mk (.neg a) w = !sat s B mk a w := by rw [sat]
theorem sat_two (c : Cn) (a b : Say) : sat s B mk (.two c a b) w = c.op (sat s B mk a w) (sat s B mk b w) := by rw [sat]
theorem sat_each (t : Int) (a : Say) : sat s B mk (.way true t a) w = (List.range s).all fun j => !(B (rowOf t) w).testBit j || sat s B mk a j := by rw [sat]
theorem sat_some (t : Int) (a : Say) : sat s B mk (.way false t a) w = (List.range s).any fun j => (B (rowOf t) w).testBit j && sat s B mk a j := by rw [sat]
end
@[simp] theorem use8s (a b c d e f g h : Option Ob) (x : Dt) (ρ : Env) : use (a :: b :: c :: d :: e :: f :: g :: h :: some (.d x) :: ρ) 8 = some (x, a :: b :: c :: d :: e :: f :: g :: h :: some (.d x) :: ρ) := id rfl
@[simp] theorem use9s (a b c d e f g h i : Option Ob) (x : Dt) (ρ : Env) : use (a :: b :: c :: d :: e :: f :: g :: h :: i :: some (.d x) :: ρ) 9 = some (x, a :: b :: c :: d :: e :: f :: g :: h :: i :: some (.d x) :: ρ) := id rfl
theorem hd_way (a : Say) : cmpD .inn (.str a.hd) (.tuple [.str "each", .str "some"]) = some a.isWay := by
  show inD (.str a.hd) ([wEach, wSome].map PyData.str) = _
  rw [in_strs (hd_ok a) (by decide +kernel)]
  cases a with
  | fix b => cases b <;> rfl
  | two c _ _ => cases c <;> rfl
  | way q _ _ => cases q <;> rfl
  | _ => rfl
section
variable {tbl : List Df} {L n f l : Nat}
theorem all_fars {s : Nat} {as : List Arr} (h : WebOk (s : Int) as) {t : Int} {w : Nat} (ht : -3 ≤ t ∧ t ≤ 2) (hw : w < s) (p : Nat → Bool) :
    (!(((farsOf as t (w : Int)).map fun k => p k.toNat).any fun x => x == false)) = (List.range s).all fun j => !(bits as (rowOf t) w).testBit j || p j := by
  rw [Bool.eq_iff_iff, List.all_eq_true, Bool.not_eq_true', List.any_eq_false]
  constructor
  · intro k j hj
    cases e : (bits as (rowOf t) w).testBit j with
    | false => rfl
    | true =>
      have := k (p j) (List.mem_map.mpr ⟨(j : Int), (fars_bits h ht hw _).mpr ⟨j, List.mem_range.mp hj, e, rfl⟩, by rw [Int.toNat_natCast]⟩)
      cases e2 : p j <;> simp_all
  · intro k x hx
    obtain ⟨z, hz, rfl⟩ := List.mem_map.mp hx
    obtain ⟨j, h1, h2, rfl⟩ := (fars_bits h ht hw z).mp hz
    have := k j (List.mem_range.mpr h1)
    rw [h2] at this
    rw [Int.toNat_natCast]
    simp_all
theorem any_fars {s : Nat} {as : List Arr} (h : WebOk (s : Int) as) {t : Int} {w : Nat} (ht : -3 ≤ t ∧ t ≤ 2) (hw : w < s) (p : Nat → Bool) :
    (((farsOf as t (w : Int)).map fun k => p k.toNat).any fun x => x == true) = (List.range s).any fun j => (bits as (rowOf t) w).testBit j && p j := by
  rw [Bool.eq_iff_iff, List.any_eq_true, List.any_eq_true]
  constructor
  · rintro ⟨x, hx, e⟩
    obtain ⟨z, hz, rfl⟩ := List.mem_map.mp hx
    obtain ⟨j, h1, h2, rfl⟩ := (fars_bits h ht hw z).mp hz
    rw [Int.toNat_natCast] at e
    exact ⟨j, List.mem_range.mpr h1, by rw [h2, eq_of_beq e]; rfl⟩
  · rintro ⟨j, hj, e⟩
    rw [Bool.and_eq_true] at e
    exact ⟨p j, List.mem_map.mpr ⟨(j : Int), (fars_bits h ht hw _).mpr ⟨j, List.mem_range.mp hj, e.1, rfl⟩, by rw [Int.toNat_natCast]⟩, by rw [e.2]; rfl⟩
theorem run_at (hf : tbl[f]? = some (laF f l)) (hl : tbl[l]? = some llF) {s : Nat} {as : List Arr} (h : WebOk (s : Int) as) (ms : List (List Nat)) (mlen : ms.length ≤ 8) :
    ∀ (k : Nat) (a : Say) (w : Nat), a.Ok → a.deep + 1 ≤ k → w < s → (run tbl L k).run f [.d (webD (s : Int) as), .d (markD ms), .d a.D, .d (.int (w : Int))] = .ok (.d (.bool (sat s (bits as) (mkB ms) a w)), [])
  | 0, a, w, _, hk, _ => by omega
  | k + 1, a, w, ok, hk, hw => by
    have dp := a.deep_pos
    rw [run_succ hf]
    have h0 := say_hd a
    have e1 := say_let a
    have e2 := hd_fix a
    have e3 := hd_not a
    have e4 := hd_way a
    have e5 := hd_each a
    have e6 := hd_and a
    have e7 := hd_or a
    have t2 : 2 ≤ sizeLine := by decide
    cases a with
    | let_ j =>
      have i1 : subD (Say.let_ j).D (.int 1) = some (.int (j : Int)) := rfl
      have ml : biD .len (markD ms) = some (.d (.int (ms.length : Int))) := by unfold markD; rw [bi_len_t, List.length_map]
      have k1 : cmpD .eq (.str (Say.let_ j).hd) (.str "letter") = some true := e1
      rw [sat_let]
      by_cases c : j < ms.length
      · have im : subD (markD ms) (.int (j : Int)) = some (.tuple (natsD (ms.getD j []))) := by
          unfold markD
          show atI (ms.map fun l => PyData.tuple (natsD l)) (j : Int) = _
          rw [atI_nat' (by rw [List.length_map]; exact c), List.getElem_map, List.getD_eq_getElem?_getD, List.getElem?_eq_getElem c]
          rfl
        have inn := in_nats w (ms.getD j [])
        have lt : (j : Int) < (ms.length : Int) := by omega
        unfold mkB
        generalize ms.getD j [] = LJ at *
        generalize (Say.let_ j).D = A at *
        generalize (Say.let_ j).hd = Z at *
        generalize markD ms = M at *
        generalize webD (s : Int) as = WB at *
        generalize decide (w ∈ LJ) = RB at *
        unfold runBody laF laB
        simp [ioOf, fill, putBack, outs, st, h0, k1, i1, ml, c, lt, im, inn]
      · have lt : ¬ ((j : Int) < (ms.length : Int)) := by omega
        have rb : mkB ms j w = false := by
          unfold mkB
          rw [List.getD_eq_getElem?_getD, List.getElem?_eq_none (by omega)]
          rfl
        rw [rb]
        generalize (Say.let_ j).D = A at *
        generalize (Say.let_ j).hd = Z at *
        generalize markD ms = M at *
        generalize webD (s : Int) as = WB at *
        unfold runBody laF laB
        simp [ioOf, fill, putBack, outs, st, h0, k1, i1, ml, c, lt]
    | fix b =>
      have k1 : cmpD .eq (.str (fixS b)) (.str "letter") = some false := e1
      have k2 : cmpD .inn (.str (fixS b)) (.tuple [.str "yes", .str "no"]) = some true := e2
      have k3 := hd_yes b
      have k0 : subD (Say.fix b).D (.int 0) = some (.str (fixS b)) := h0
      rw [sat_fix]
      clear e1 e2 e3 e4 e5 e6 e7 h0
      generalize (Say.fix b).D = A at *
      generalize fixS b = Z at *
      generalize markD ms = M at *
      generalize webD (s : Int) as = WB at *
      unfold runBody laF laB
      simp [ioOf, fill, putBack, outs, st, k0, k1, k2, k3, t2]
    | neg b =>
      have ih := run_at hf hl h ms mlen k b w ok (by simp only [Say.deep] at hk; omega) hw
      have k1 : cmpD .eq (.str (Say.neg b).hd) (.str "letter") = some false := e1
      have k2 : cmpD .inn (.str (Say.neg b).hd) (.tuple [.str "yes", .str "no"]) = some false := e2
      have k3 : cmpD .eq (.str (Say.neg b).hd) (.str "not") = some true := e3
      have k7 : subD (Say.neg b).D (.int 1) = some b.D := rfl
      rw [sat_neg]
      generalize (Say.neg b).D = A at *
      generalize (Say.neg b).hd = Z at *
      generalize markD ms = M at *
      generalize webD (s : Int) as = WB at *
      generalize sat s (bits as) (mkB ms) b w = RB at *
      unfold runBody laF laB laZ
      simp [ioOf, fill, putBack, outs, st, h0, k1, k2, k3, k7, t2, ih]
    | two c b d =>
      have ih := run_at hf hl h ms mlen k b w ok.1 (by simp only [Say.deep] at hk; omega) hw
      have ih2 := run_at hf hl h ms mlen k d w ok.2 (by simp only [Say.deep] at hk; omega) hw
      have k1 : cmpD .eq (.str (Say.two c b d).hd) (.str "letter") = some false := by rw [e1]; rfl
      have k2 : cmpD .inn (.str (Say.two c b d).hd) (.tuple [.str "yes", .str "no"]) = some false := by rw [e2]; rfl
      have k3 : cmpD .eq (.str (Say.two c b d).hd) (.str "not") = some false := by rw [e3]; rfl
      have k4 : cmpD .inn (.str (Say.two c b d).hd) (.tuple [.str "each", .str "some"]) = some false := by rw [e4]; rfl
      have k7 : subD (Say.two c b d).D (.int 1) = some b.D := rfl
      have k9 : subD (Say.two c b d).D (.int 2) = some d.D := rfl
      rw [sat_two]
      cases c with
      | and =>
        have k10 : cmpD .eq (.str (Say.two .and b d).hd) (.str "and") = some true := e6
        generalize (Say.two .and b d).D = A at *
        generalize (Say.two .and b d).hd = Z at *
        generalize markD ms = M at *
        generalize webD (s : Int) as = WB at *
        generalize sat s (bits as) (mkB ms) b w = RB at *
        generalize sat s (bits as) (mkB ms) d w = RD at *
        unfold runBody laF laB laZ
        cases RB <;> simp [ioOf, fill, putBack, outs, st, stAll, h0, k1, k2, k3, k4, k7, k9, k10, t2, ih, ih2, Cn.op]
      | or =>
        have k10 : cmpD .eq (.str (Say.two .or b d).hd) (.str "and") = some false := e6
        have k11 : cmpD .eq (.str (Say.two .or b d).hd) (.str "or") = some true := e7
        generalize (Say.two .or b d).D = A at *
        generalize (Say.two .or b d).hd = Z at *
        generalize markD ms = M at *
        generalize webD (s : Int) as = WB at *
        generalize sat s (bits as) (mkB ms) b w = RB at *
        generalize sat s (bits as) (mkB ms) d w = RD at *
        unfold runBody laF laB laZ
        cases RB <;> simp [ioOf, fill, putBack, outs, st, stAll, h0, k1, k2, k3, k4, k7, k9, k10, k11, t2, ih, ih2, Cn.op]
      | gives =>
        have k10 : cmpD .eq (.str (Say.two .gives b d).hd) (.str "and") = some false := e6
        have k11 : cmpD .eq (.str (Say.two .gives b d).hd) (.str "or") = some false := e7
        generalize (Say.two .gives b d).D = A at *
        generalize (Say.two .gives b d).hd = Z at *
        generalize markD ms = M at *
        generalize webD (s : Int) as = WB at *
        generalize sat s (bits as) (mkB ms) b w = RB at *
        generalize sat s (bits as) (mkB ms) d w = RD at *
        unfold runBody laF laB laZ
        cases RB <;> simp [ioOf, fill, putBack, outs, st, stAll, h0, k1, k2, k3, k4, k7, k9, k10, k11, t2, ih, ih2, Cn.op]
    | way q t b =>
      have k1 : cmpD .eq (.str (Say.way q t b).hd) (.str "letter") = some false := by rw [e1]; rfl
      have k2 : cmpD .inn (.str (Say.way q t b).hd) (.tuple [.str "yes", .str "no"]) = some false := by rw [e2]; rfl
      have k3 : cmpD .eq (.str (Say.way q t b).hd) (.str "not") = some false := by rw [e3]; rfl
      have k4 : cmpD .inn (.str (Say.way q t b).hd) (.tuple [.str "each", .str "some"]) = some true := by rw [e4]; rfl
      have k7 : subD (Say.way q t b).D (.int 1) = some (.int t) := rfl
      have k9 : subD (Say.way q t b).D (.int 2) = some b.D := rfl
      obtain ⟨k', rfl⟩ : ∃ k', k = k' + 1 := ⟨k - 1, by simp only [Say.deep] at hk; have := b.deep_pos; omega⟩
      have few := h.few
      have lr := run_ll (L := L) (n := k') hl (s := (s : Int)) (as := as) (by rw [sizeLine_eq]; omega) t (w : Int)
      have fl := fars_len h t (w : Int)
      have sz := h.size
      let ρ : Env := [some (.d (webD (s : Int) as)), some (.d (markD ms)), some (.d (Say.way q t b).D), some (.d (.int (w : Int))), some (.d (.str (Say.way q t b).hd)), none, none, none, none]
      have hI : evI (run tbl L (k' + 1)) [] (laI l) ρ = .ok ((farsOf as t (w : Int)).map PyData.int, ρ) := by
        unfold laI
        generalize (farsOf as t (w : Int)).map PyData.int = V at *
        simp [ρ, ioOf, fill, putBack, k7, lr, seqOf]
      have c1 := comp_on (R := run tbl L (k' + 1)) (pn := []) (own := [8]) (tg := .name 8) (it := laI l) (cs := .nil) (e := laE f) (ρ := ρ) (ρ1 := ρ) (W := ρ) PyData.int (farsOf as t (w : Int)) (fun _ => true) (fun z => Ob.d (.bool (sat s (bits as) (mkB ms) b z.toNat)))
        (fun z => [some (.d (webD (s : Int) as)), some (.d (markD ms)), some (.d (Say.way q t b).D), some (.d (.int (w : Int))), some (.d (.str (Say.way q t b).hd)), none, none, none, some (.d (.int z))]) hI ⟨rfl, rfl⟩ rfl rfl (fun _ _ => rfl) (fun _ _ => rfl) (fun _ _ => by simp)
        (fun z hz _ => by
          obtain ⟨j, h1, _, rfl⟩ := (fars_bits h ok.1 hw z).mp hz
          have ih := run_at hf hl h ms mlen (k' + 1) b j ok.2 (by simp only [Say.deep] at hk; omega) h1
          rw [Int.toNat_natCast]
          generalize sat s (bits as) (mkB ms) b j = RB at *
          generalize webD (s : Int) as = WB at *
          generalize markD ms = M at *
          unfold laE
          simp [ioOf, fill, putBack, k9, ih]) (fun _ _ => rfl) rfl (by rw [sizeLine_eq]; omega)
      rw [List.filter_eq_self.mpr fun _ _ => rfl] at c1
      have em : ((farsOf as t (w : Int)).map fun z => Ob.d (.bool (sat s (bits as) (mkB ms) b z.toNat))) = (((farsOf as t (w : Int)).map fun k => sat s (bits as) (mkB ms) b k.toNat).map PyData.bool).map Ob.d := by rw [List.map_map, List.map_map]; rfl
      rw [em] at c1
      have c1 : ev (run tbl L (k' + 1)) [] (.comp [8] (.name 8) (laI l) .nil (laE f)) ρ = .ok (Ob.ls (((farsOf as t (w : Int)).map fun k => sat s (bits as) (mkB ms) b k.toNat).map PyData.bool), ρ) := c1
      have u5 : ∀ (a1 a2 a3 a4 a5 : Option Ob) (xs : List Dt) (r : Env), use (a1 :: a2 :: a3 :: a4 :: a5 :: some (Ob.ls xs) :: r) 5 = some (.list xs, a1 :: a2 :: a3 :: a4 :: a5 :: some (.d (.list xs)) :: r) := fun a1 a2 a3 a4 a5 xs r => by
        unfold use
        have := frz_ls xs
        simp only [getS, get0, Ob.ls] at this ⊢
        rw [this]
        rfl
      have nn : cmpD .nin (.bool false) (.list (((farsOf as t (w : Int)).map fun k => sat s (bits as) (mkB ms) b k.toNat).map PyData.bool)) = some ((List.range s).all fun j => !(bits as (rowOf t) w).testBit j || sat s (bits as) (mkB ms) b j) := by
        show (inD _ _).map not = _
        rw [in_bools, ← all_fars h ok.1 hw]
        rfl
      have ni : cmpD .inn (.bool true) (.list (((farsOf as t (w : Int)).map fun k => sat s (bits as) (mkB ms) b k.toNat).map PyData.bool)) = some ((List.range s).any fun j => (bits as (rowOf t) w).testBit j && sat s (bits as) (mkB ms) b j) := by
        show inD _ _ = _
        rw [in_bools, ← any_fars h ok.1 hw]
      simp only [ρ] at c1
      clear hI em
      clear_value ρ
      generalize (((farsOf as t (w : Int)).map fun k => sat s (bits as) (mkB ms) b k.toNat).map PyData.bool) = V at *
      cases q with
      | true =>
        have k10 : cmpD .eq (.str (Say.way true t b).hd) (.str "each") = some true := e5
        rw [sat_each]
        generalize ((List.range s).all fun j => !(bits as (rowOf t) w).testBit j || sat s (bits as) (mkB ms) b j) = RB at *
        generalize (Say.way true t b).D = A at *
        generalize (Say.way true t b).hd = Z at *
        generalize markD ms = M at *
        generalize webD (s : Int) as = WB at *
        unfold runBody laF laB
        simp [ioOf, fill, putBack, outs, st, h0, k1, k2, k3, k4, k10, t2, c1, u5, nn]
      | false =>
        have k10 : cmpD .eq (.str (Say.way false t b).hd) (.str "each") = some false := e5
        rw [sat_some]
        generalize ((List.range s).any fun j => (bits as (rowOf t) w).testBit j && sat s (bits as) (mkB ms) b j) = RB at *
        generalize (Say.way false t b).D = A at *
        generalize (Say.way false t b).hd = Z at *
        generalize markD ms = M at *
        generalize webD (s : Int) as = WB at *
        unfold runBody laF laB
        simp [ioOf, fill, putBack, outs, st, h0, k1, k2, k3, k4, k10, t2, c1, u5, ni]
end
end AM
/-! Sa14: _law_inner, _law_sizes. -/
namespace AM
open PySem PySem.Spec PyProof.Rows L2
def inB : Sms := .cons (.ife (.cmp .inn (.sub (.var 0) (.cst (.int 0))) (.tup (.cons (.cst (.str "and")) (.cons (.cst (.str "or")) (.cons (.cst (.str "gives")) .nil))))) (.cons (.ret (.lst (.cons (.sub (.var 0) (.cst (.int 1))) (.cons (.sub (.var 0) (.cst (.int 2))) .nil)))) (.nil)) (.nil)) (.cons (.ret (.ife (.cmp .inn (.sub (.var 0) (.cst (.int 0))) (.tup (.cons (.cst (.str "not")) (.cons (.cst (.str "each")) (.cons (.cst (.str "some")) .nil))))) (.lst (.cons (.sub (.var 0) (.neg (.cst (.int 1)))) .nil)) (.lst (.nil)))) (.nil))
def inF : Df := ⟨1, 1, [], inB⟩
def Say.isTwo : Say → Bool
  | .two _ _ _ => true | _ => false
def Say.isOne : Say → Bool
  | .neg _ => true | .way _ _ _ => true | _ => false
theorem hd_two (a : Say) : cmpD .inn (.str a.hd) (.tuple [.str "and", .str "or", .str "gives"]) = some a.isTwo := by
  show inD (.str a.hd) ((([Cn.str .and, Cn.str .or, Cn.str .gives] : List Str)).map PyData.str) = _
  rw [in_strs (hd_ok a) (by decide +kernel)]
  cases a with
  | fix b => cases b <;> rfl
  | two c _ _ => cases c <;> rfl
  | way q _ _ => cases q <;> rfl
  | _ => rfl
theorem hd_one (a : Say) : cmpD .inn (.str a.hd) (.tuple [.str "not", .str "each", .str "some"]) = some a.isOne := by
  show inD (.str a.hd) ((([(Say.neg (.fix true)).hd, wEach, wSome] : List Str)).map PyData.str) = _
  rw [in_strs (hd_ok a) (by decide +kernel)]
  cases a with
  | fix b => cases b <;> rfl
  | two c _ _ => cases c <;> rfl
  | way q _ _ => cases q <;> rfl
  | _ => rfl
section
variable {tbl : List Df} {L n f g : Nat}
theorem run_in (hg : tbl[g]? = some inF) (a : Say) : (run tbl L (n + 1)).run g [.d a.D] = .ok (Ob.ls (a.parts.map fun q => q.2.D), []) := by
  rw [run_succ hg]
  have hh := say_hd a
  have h2 := hd_two a
  have h1 := hd_one a
  have z3 : 3 ≤ sizeLine := by decide
  have z2 : 2 ≤ sizeLine := by decide
  have z1 : 1 ≤ sizeLine := by decide
  cases a with
  | two c b d =>
    have k1 : subD (Say.two c b d).D (.int 1) = some b.D := rfl
    have k2 : subD (Say.two c b d).D (.int 2) = some d.D := rfl
    have h2 : cmpD .inn (.str (Say.two c b d).hd) (.tuple [.str "and", .str "or", .str "gives"]) = some true := h2
    show _ = Res.ok (Ob.lst [.d b.D, .d d.D], [])
    generalize (Say.two c b d).D = A at *
    generalize (Say.two c b d).hd = Z at *
    unfold runBody inF inB
    simp [ioOf, fill, putBack, outs, z3, hh, h2, k1, k2, z2]
  | neg b =>
    have k1 : subD (Say.neg b).D (.int (-1)) = some b.D := rfl
    have h2 : cmpD .inn (.str (Say.neg b).hd) (.tuple [.str "and", .str "or", .str "gives"]) = some false := h2
    have h1 : cmpD .inn (.str (Say.neg b).hd) (.tuple [.str "not", .str "each", .str "some"]) = some true := h1
    show _ = Res.ok (Ob.lst [.d b.D], [])
    generalize (Say.neg b).D = A at *
    generalize (Say.neg b).hd = Z at *
    unfold runBody inF inB
    simp [ioOf, fill, putBack, outs, z3, hh, h2, h1, k1, z1]
  | way q t b =>
    have k1 : subD (Say.way q t b).D (.int (-1)) = some b.D := rfl
    have h2 : cmpD .inn (.str (Say.way q t b).hd) (.tuple [.str "and", .str "or", .str "gives"]) = some false := h2
    have h1 : cmpD .inn (.str (Say.way q t b).hd) (.tuple [.str "not", .str "each", .str "some"]) = some true := h1
    show _ = Res.ok (Ob.lst [.d b.D], [])
    generalize (Say.way q t b).D = A at *
    generalize (Say.way q t b).hd = Z at *
    unfold runBody inF inB
    simp [ioOf, fill, putBack, outs, z3, hh, h2, h1, k1, z1]
  | let_ m =>
    have h2 : cmpD .inn (.str (Say.let_ m).hd) (.tuple [.str "and", .str "or", .str "gives"]) = some false := h2
    have h1 : cmpD .inn (.str (Say.let_ m).hd) (.tuple [.str "not", .str "each", .str "some"]) = some false := h1
    show _ = Res.ok (Ob.lst [], [])
    generalize (Say.let_ m).D = A at *
    generalize (Say.let_ m).hd = Z at *
    unfold runBody inF inB
    simp [ioOf, fill, putBack, outs, z3, hh, h2, h1]
  | fix m =>
    have h2 : cmpD .inn (.str (Say.fix m).hd) (.tuple [.str "and", .str "or", .str "gives"]) = some false := h2
    have h1 : cmpD .inn (.str (Say.fix m).hd) (.tuple [.str "not", .str "each", .str "some"]) = some false := h1
    show _ = Res.ok (Ob.lst [], [])
    generalize (Say.fix m).D = A at *
    generalize (Say.fix m).hd = Z at *
    unfold runBody inF inB
    simp [ioOf, fill, putBack, outs, z3, hh, h2, h1]
def szL (f : Nat) : Sms := .cons (.asg 5 (.call f (.cons (.var 4) (.nil)))) (.cons (.par [1, 2, 3] (.cons (.bin .add (.var 1) (.sub (.var 5) (.cst (.int 0)))) (.cons (.mx true (.var 2) (.sub (.var 5) (.cst (.int 1)))) (.cons (.bin .add (.var 3) (.sub (.var 5) (.cst (.int 2)))) .nil)))) (.nil))
def szB (f g : Nat) : Sms := .cons (.par [1, 2, 3] (.cons (.cst (.int 1)) (.cons (.cst (.int 0)) (.cons (.ife (.cmp .eq (.sub (.var 0) (.cst (.int 0))) (.cst (.str "letter"))) (.lst (.cons (.sub (.var 0) (.cst (.int 1))) .nil)) (.lst (.nil))) .nil)))) (.cons (.for_ (.name 4) (.seq (.call g (.cons (.var 0) (.nil)))) (szL f)) (.cons (.ret (.tup (.cons (.var 1) (.cons (.bin .add (.var 2) (.cst (.int 1))) (.cons (.var 3) .nil))))) (.nil)))
def szF (f g : Nat) : Df := ⟨6, 1, [], szB f g⟩
def szD (a : Say) : Dt := .tuple [.int (a.words : Int), .int (a.deep : Int), .list (a.lets.map PyData.int)]
theorem use3_ls (a b c : Option Ob) (xs : List Dt) (ρ : Env) : use (a :: b :: c :: some (Ob.ls xs) :: ρ) 3 = some (.list xs, a :: b :: c :: some (.d (.list xs)) :: ρ) := by
  unfold use
  have : frz (Ob.ls xs) = some (.list xs) := by unfold Ob.ls; show (frzs (xs.map Ob.d)).map _ = _; rw [frzs_plain]; rfl
  simp only [getS, get0, Ob.ls] at this ⊢
  rw [this]
  rfl
theorem mxD_nat (a b : Nat) : mxD true (.int (a : Int)) (.int (b : Int)) = some (.int ((max a b : Nat) : Int)) := by
  show some (PyData.int (if (b : Int) > (a : Int) then (b : Int) else (a : Int))) = _
  have : (if (b : Int) > (a : Int) then (b : Int) else (a : Int)) = ((max a b : Nat) : Int) := by
    by_cases h : (b : Int) > (a : Int)
    · rw [if_pos h]; omega
    · rw [if_neg h]; omega
  rw [this]
/-- one part more -/
theorem sz_step {A : Dt} {b : Say} {wd dp : Nat} {ls : List Int} {y5 : Option Ob} (ih : (run tbl L n).run f [.d b.D] = .ok (.d (szD b), [])) (hl : ls.length + b.lets.length ≤ 1000) :
    exs (run tbl L n) L [] (szL f) [some (.d A), some (.d (.int (wd : Int))), some (.d (.int (dp : Int))), some (Ob.ls (ls.map PyData.int)), some (.d b.D), y5] =
      .ok (.nx [some (.d A), some (.d (.int ((wd + b.words : Nat) : Int))), some (.d (.int ((max dp b.deep : Nat) : Int))), some (Ob.ls ((ls ++ b.lets).map PyData.int)), some (.d b.D), some (.d (szD b))]) := by
  have s0 : subD (szD b) (.int 0) = some (.int (b.words : Int)) := rfl
  have s1 : subD (szD b) (.int 1) = some (.int (b.deep : Int)) := rfl
  have s2 : subD (szD b) (.int 2) = some (.list (b.lets.map PyData.int)) := rfl
  have u3 := use3_ls (some (.d A)) (some (.d (.int (wd : Int)))) (some (.d (.int (dp : Int)))) (ls.map PyData.int) [some (.d b.D), some (.d (szD b))]
  have ad := bin_addL (xs := ls.map PyData.int) (ys := b.lets.map PyData.int) (by rw [List.length_map, List.length_map, sizeLine_eq]; omega)
  rw [← List.map_append] at ad
  have m := mxD_nat dp b.deep
  have pl : (wd : Int) + (b.words : Int) = ((wd + b.words : Nat) : Int) := by omega
  generalize szD b = SB at *
  generalize (ls ++ b.lets).map PyData.int = V at *
  generalize ls.map PyData.int = V1 at *
  generalize b.lets.map PyData.int = V2 at *
  generalize ((max dp b.deep : Nat) : Int) = MX at *
  generalize ((wd + b.words : Nat) : Int) = PL at *
  generalize (b.deep : Int) = BD at *
  generalize (b.words : Int) = BW at *
  generalize b.D = B at *
  unfold szL
  simp [ioOf, fill, putBack, st, stAll, ih, s0, s1, s2, u3, ad, m, pl]
theorem run_sz (hf : tbl[f]? = some (szF f g)) (hg : tbl[g]? = some inF) : ∀ (k : Nat) (a : Say), a.deep + 1 ≤ k → a.words ≤ 400 → (run tbl L k).run f [.d a.D] = .ok (.d (szD a), [])
  | 0, a, h, _ => by omega
  | k + 1, a, h, hw => by
    have dp := a.deep_pos
    obtain ⟨k', rfl⟩ : ∃ k', k = k' + 1 := ⟨k - 1, by omega⟩
    rw [run_succ hf]
    have hh := say_hd a
    have hl := say_let a
    have rin := run_in (L := L) (n := k') hg a
    have z3 : 3 ≤ sizeLine := by decide
    have z1 : 1 ≤ sizeLine := by decide
    have lw := lets_len a
    have fin : ∀ (ρ : Env) (y4 y5 : Option Ob) (dd : Nat), ρ = [some (.d a.D), some (.d (.int (a.words : Int))), some (.d (.int (dd : Int))), some (Ob.ls (a.lets.map PyData.int)), y4, y5] → dd + 1 = a.deep →
        exs (run tbl L (k' + 1)) L [] (.cons (.ret (.tup (.cons (.var 1) (.cons (.bin .add (.var 2) (.cst (.int 1))) (.cons (.var 3) .nil))))) (.nil)) ρ = .ok (.rt (.d (szD a)) [some (.d a.D), some (.d (.int (a.words : Int))), some (.d (.int (dd : Int))), some (.d (.list (a.lets.map PyData.int))), y4, y5]) := fun ρ y4 y5 dd e e2 => by
      subst e
      have u3 := use3_ls (some (.d a.D)) (some (.d (.int (a.words : Int)))) (some (.d (.int (dd : Int)))) (a.lets.map PyData.int) [y4, y5]
      have pl : (dd : Int) + 1 = (a.deep : Int) := by omega
      unfold szD
      generalize a.lets.map PyData.int = V at *
      generalize (a.deep : Int) = BD at *
      generalize (a.words : Int) = BW at *
      generalize a.D = B at *
      simp [u3, pl, z3]
    have start : ∀ ls : List Int, (if a.isLet = true then subD a.D (.int 1) = some (.int (ls.headD 0)) ∧ ls = [ls.headD 0] else ls = []) → evs (run tbl L (k' + 1)) [] (.cons (.cst (.int 1)) (.cons (.cst (.int 0)) (.cons (.ife (.cmp .eq (.sub (.var 0) (.cst (.int 0))) (.cst (.str "letter"))) (.lst (.cons (.sub (.var 0) (.cst (.int 1))) .nil)) (.lst (.nil))) .nil))) [some (.d a.D), none, none, none, none, none] = .ok ([.d (.int 1), .d (.int 0), Ob.ls (ls.map PyData.int)], [some (.d a.D), none, none, none, none, none]) := fun ls h => by
      cases e : a.isLet with
      | true =>
        rw [if_pos e] at h
        obtain ⟨h1, h2⟩ := h
        rw [e] at hl
        rw [h2]
        generalize ls.headD 0 = X at *
        show _ = Res.ok ([.d (.int 1), .d (.int 0), Ob.lst [.d (.int X)]], _)
        generalize a.D = A at *
        generalize a.hd = Z at *
        simp [hh, hl, h1, z1]
      | false =>
        rw [if_neg (by rw [e]; decide)] at h
        subst h
        rw [e] at hl
        show _ = Res.ok ([.d (.int 1), .d (.int 0), Ob.lst []], _)
        generalize a.D = A at *
        generalize a.hd = Z at *
        simp [hh, hl]
    have hI : ∀ ρ : Env, ρ.head? = some (some (.d a.D)) → evI (run tbl L (k' + 1)) [] (.seq (.call g (.cons (.var 0) (.nil)))) ρ = .ok (a.parts.map (fun q => q.2.D), ρ) := fun ρ h => by
      obtain ⟨o, r, rfl⟩ : ∃ o r, ρ = o :: r := by
        cases ρ with
        | nil => cases h
        | cons o r => exact ⟨o, r, rfl⟩
      cases h
      generalize (a.parts.map fun q => q.2.D) = V at *
      generalize a.D = A at *
      simp [ioOf, fill, putBack, rin, seqOf]
    obtain ⟨ls, ρ1, y4, y5, dd, hs, e1, e2, e3⟩ : ∃ (ls : List Int) (ρ1 : Env) (y4 y5 : Option Ob) (dd : Nat), (if a.isLet = true then subD a.D (.int 1) = some (.int (ls.headD 0)) ∧ ls = [ls.headD 0] else ls = []) ∧
        forL (bindT [] (.name 4)) (exs (run tbl L (k' + 1)) L [] (szL f)) (a.parts.map fun q => q.2.D) [some (.d a.D), some (.d (.int 1)), some (.d (.int 0)), some (Ob.ls (ls.map PyData.int)), none, none] = .ok (.nx ρ1) ∧
        ρ1 = [some (.d a.D), some (.d (.int (a.words : Int))), some (.d (.int (dd : Int))), some (Ob.ls (a.lets.map PyData.int)), y4, y5] ∧ dd + 1 = a.deep := by
      cases a with
      | let_ m => exact ⟨[(m : Int)], _, none, none, 0, by rw [if_pos (show (Say.let_ m).isLet = true from rfl)]; exact ⟨rfl, rfl⟩, rfl, rfl, rfl⟩
      | fix m => exact ⟨[], _, none, none, 0, by rw [if_neg (fun z => by cases z)], rfl, rfl, rfl⟩
      | neg b =>
        have ih := run_sz hf hg (k' + 1) b (by simp only [Say.deep] at h; omega) (by simp only [Say.words] at hw; omega)
        have lb := lets_len b
        have s := sz_step (L := L) (A := (Say.neg b).D) (wd := 1) (dp := 0) (ls := []) (y5 := none) ih (by simp only [Say.words] at hw; rw [List.length_nil]; omega)
        refine ⟨[], _, some (.d b.D), some (.d (szD b)), max 0 b.deep, by rw [if_neg (fun z => by cases z)], ?_, rfl, by simp only [Say.deep]; omega⟩
        show (Res.bind (exs _ _ _ _ _) _) = _
        exact (congrArg (fun z => Res.bind z _) s).trans rfl
      | way q t b =>
        have ih := run_sz hf hg (k' + 1) b (by simp only [Say.deep] at h; omega) (by simp only [Say.words] at hw; omega)
        have lb := lets_len b
        have s := sz_step (L := L) (A := (Say.way q t b).D) (wd := 1) (dp := 0) (ls := []) (y5 := none) ih (by simp only [Say.words] at hw; rw [List.length_nil]; omega)
        refine ⟨[], _, some (.d b.D), some (.d (szD b)), max 0 b.deep, by rw [if_neg (fun z => by cases z)], ?_, rfl, by simp only [Say.deep]; omega⟩
        show (Res.bind (exs _ _ _ _ _) _) = _
        exact (congrArg (fun z => Res.bind z _) s).trans rfl
      | two c b d =>
        have ih := run_sz hf hg (k' + 1) b (by simp only [Say.deep] at h; omega) (by simp only [Say.words] at hw; omega)
        have ih2 := run_sz hf hg (k' + 1) d (by simp only [Say.deep] at h; omega) (by simp only [Say.words] at hw; omega)
        have lb := lets_len b
        have ld := lets_len d
        have s := sz_step (L := L) (A := (Say.two c b d).D) (wd := 1) (dp := 0) (ls := []) (y5 := none) ih (by simp only [Say.words] at hw; rw [List.length_nil]; omega)
        have s2 := sz_step (L := L) (A := (Say.two c b d).D) (wd := 1 + b.words) (dp := max 0 b.deep) (ls := [] ++ b.lets) (y5 := some (.d (szD b))) ih2 (by simp only [Say.words] at hw; rw [List.nil_append]; omega)
        refine ⟨[], _, some (.d d.D), some (.d (szD d)), max (max 0 b.deep) d.deep, by rw [if_neg (fun z => by cases z)], ?_, by rw [show (Say.two c b d).words = 1 + b.words + d.words by simp only [Say.words]; omega, show (Say.two c b d).lets = [] ++ b.lets ++ d.lets from rfl], by simp only [Say.deep]; omega⟩
        show (Res.bind (exs _ _ _ _ _) _) = _
        refine (congrArg (fun z => Res.bind z _) s).trans ?_
        show (Res.bind (exs _ _ _ _ _) _) = _
        exact (congrArg (fun z => Res.bind z _) s2).trans rfl
    have hs := start ls hs
    have f1 := ex_for_ (R := run tbl L (k' + 1)) (L := L) (pn := []) (tg := .name 4) (b := szL f) (hI [some (.d a.D), some (.d (.int 1)), some (.d (.int 0)), some (Ob.ls (ls.map PyData.int)), none, none] rfl)
    rw [e1] at f1
    have f2 := fin ρ1 y4 y5 dd e2 e3
    generalize szD a = SA at *
    generalize a.D = A at *
    generalize ls.map PyData.int = V at *
    have sa : ∀ V : List Dt, stAll [] [1, 2, 3] [Ob.d (.int 1), Ob.d (.int 0), Ob.ls V] [some (.d A), none, none, none, none, none] = some [some (.d A), some (.d (.int 1)), some (.d (.int 0)), some (Ob.ls V), none, none] := fun _ => rfl
    have sa := sa V
    have nd : [1, 2, 3].Nodup := by decide
    have p1 : ex (run tbl L (k' + 1)) L [] (.par [1, 2, 3] (.cons (.cst (.int 1)) (.cons (.cst (.int 0)) (.cons (.ife (.cmp .eq (.sub (.var 0) (.cst (.int 0))) (.cst (.str "letter"))) (.lst (.cons (.sub (.var 0) (.cst (.int 1))) .nil)) (.lst (.nil))) .nil)))) [some (.d A), none, none, none, none, none] = .ok (.nx [some (.d A), some (.d (.int 1)), some (.d (.int 0)), some (Ob.ls V), none, none]) := by
      rw [ex_par_37, hs, bind_ok', if_pos nd, sa]
      rfl
    have body : exs (run tbl L (k' + 1)) L [] (szB f g) [some (.d A), none, none, none, none, none] = .ok (.rt (.d SA) [some (.d A), some (.d (.int (a.words : Int))), some (.d (.int (dd : Int))), some (.d (.list (a.lets.map PyData.int))), y4, y5]) := by
      unfold szB
      rw [exs_cons_53, p1, bind_ok']
      show exs _ _ _ _ _ = _
      rw [exs_cons_53, f1, bind_ok']
      exact f2
    unfold runBody szF
    simp [ioOf, fill, putBack, outs, body]
end
end AM
/-! Sa15: a drawn marking. -/
namespace AM
open PySem PySem.Spec PyProof.Rows L2
def mdC (d : Nat) : Exs := .cons (.cmp .eq (.call d (.cons (.io 0) (.cons (.cst (.int 2)) (.nil)))) (.cst (.int 0))) .nil
def mdL (d : Nat) : Sms := .cons (.asg 2 (.bin .add (.var 2) (.tup (.cons (.bi .tuple (.comp [4] (.name 4) (.rng (.var 1)) (mdC d) (.var 4))) .nil)))) (.nil)
def mdB (d : Nat) : Sms := .cons (.asg 2 (.tup (.nil))) (.cons (.for_ (.name 3) (.rng (.call d (.cons (.io 0) (.cons (.cst (.int 5)) (.nil))))) (mdL d)) (.cons (.ret (.var 2)) (.nil)))
def mdF (d : Nat) : Df := ⟨5, 2, [0], mdB d⟩
section
variable {tbl : List Df} {L n m d l : Nat}
theorem ev_md (hm : tbl[m]? = some mixF) (hd : tbl[d]? = some (drawF m)) {s : DS} {k : Nat} (ok : s.Ok k) {z : Nat} (hz : z ≤ 200) (hk : k + z < 2 ^ 59) (a b : Option Ob) :
    ∃ (s' : DS) (bs : List Nat), ev (run tbl L (n + 2)) [0] (.comp [4] (.name 4) (.rng (.var 1)) (mdC d) (.var 4)) [some s.ob, some (.d (.int (z : Int))), a, b, none] = .ok (Ob.ls (natsD bs), [some s'.ob, some (.d (.int (z : Int))), a, b, none]) ∧ s'.Ok (k + z) ∧
      (∀ p ∈ bs, p < z) ∧ bs.Pairwise (· < ·) := by
  obtain ⟨os, ρ', e, s', y, bs, eo, eρ, ok', lb, h1, h2⟩ := compL_inv (bnd := fun d r => bindT [0] (.name 4) d (wipeE [4] r)) (c := evC (run tbl L (n + 2)) [0] (mdC d)) (e := ev (run tbl L (n + 2)) [0] (.var 4))
    (fun q acc ρ => ∃ (s' : DS) (y : Option Ob) (bs : List Nat), acc = (natsD bs).map Ob.d ∧ ρ = [some s'.ob, some (.d (.int (z : Int))), a, b, y] ∧ s'.Ok (k + q) ∧ bs.length ≤ q ∧ (∀ p ∈ bs, p < q) ∧ bs.Pairwise (· < ·))
    (rngD 0 z) 0 [] [some s.ob, some (.d (.int (z : Int))), a, b, none] ⟨s, none, [], rfl, rfl, ok, Nat.le_refl _, fun p hp => (by cases hp), .nil⟩ (fun q x acc ρ hx hρ => by
      obtain ⟨s1, y, bs, rfl, rfl, ok1, lb, h1, h2⟩ := hρ
      obtain ⟨hq, rfl⟩ := rng_get hx
      obtain ⟨v, s2, er, v0, v3, ok2⟩ := run_draw (L := L) (n := n) hm hd ok1 (by omega) (lim := 2) (by decide) (by decide)
      refine ⟨[some s1.ob, some (.d (.int (z : Int))), a, b, some (.d (.int (q : Int)))], [some s2.ob, some (.d (.int (z : Int))), a, b, some (.d (.int (q : Int)))], v == 0, rfl, ?_, ?_⟩
      · unfold mdC
        simp [ioOf, fill, putBack, er]
      · rw [Nat.zero_add] at ok2 h1 lb ⊢
        by_cases hv : v = 0
        · refine .inl ⟨by rw [hv]; rfl, .d (.int (q : Int)), [some s2.ob, some (.d (.int (z : Int))), a, b, some (.d (.int (q : Int)))], by simp, s2, some (.d (.int (q : Int))), bs ++ [q], by unfold natsD; simp, rfl, ok2, by simp; exact lb, fun p hp => ?_, List.pairwise_append.mpr ⟨h2, List.pairwise_singleton _ _, fun p hp p' hp' => ?_⟩⟩
          · rcases List.mem_append.mp hp with hp | hp
            · have := h1 p hp; omega
            · rw [List.mem_singleton.mp hp]; omega
          · rw [List.mem_singleton.mp hp']
            exact h1 p hp
        · refine .inr ⟨by simpa using hv, s2, some (.d (.int (q : Int))), bs, rfl, rfl, ok2, by omega, fun p hp => ?_, h2⟩
          have := h1 p hp
          omega)
  rw [Nat.zero_add, rng_len] at ok' lb h1
  rw [List.nil_append] at eo
  refine ⟨s', bs, ?_, ok', h1, h2⟩
  have sl : os.length ≤ sizeLine := by
    rw [eo, List.length_map, sizeLine_eq]
    unfold natsD
    rw [List.length_map]
    omega
  rw [ev_comp_ (ds := rngD 0 z) (ρ1 := [some s.ob, some (.d (.int (z : Int))), a, b, none]) (by
    simp [wInt, rng_small (i := (z : Int)) ⟨by omega, by omega⟩]) ⟨rfl, rfl⟩ e sl, eo, eρ]
  rfl
theorem run_md (hm : tbl[m]? = some mixF) (hd : tbl[d]? = some (drawF m)) (hl : tbl[l]? = some (mdF d)) {s : DS} {k : Nat} (ok : s.Ok k) {z : Nat} (hz : z ≤ 200) (hk : k + 2000 < 2 ^ 59) :
    ∃ (s' : DS) (ms : List (List Nat)), (run tbl L (n + 3)).run l [s.ob, .d (.int (z : Int))] = .ok (.d (markD ms), [(0, s'.ob)]) ∧ s'.Ok (k + 2000) ∧ MarkOk z ms ∧ ms.length ≤ 4 := by
  rw [run_succ hl]
  obtain ⟨v, s1, e1, v0, vM, ok1⟩ := run_draw (L := L) (n := n) hm hd ok (by omega) (lim := 5) (by decide) (by decide)
  obtain ⟨c, rfl⟩ : ∃ c : Nat, v = c := ⟨v.toNat, by omega⟩
  obtain ⟨ρ', e, s', ms, y3, eρ, ok', lm, am, pm⟩ := forL_inv (bnd := bindT [0] (.name 3)) (b := exs (run tbl L (n + 2)) L [0] (mdL d))
    (fun q ρ => ∃ (s' : DS) (ms : List (List Nat)) (y3 : Option Ob), ρ = [some s'.ob, some (.d (.int (z : Int))), some (.d (markD ms)), y3, none] ∧ s'.Ok (k + 1 + z * q) ∧ ms.length = q ∧ (∀ l ∈ ms, ∀ i ∈ l, i < z) ∧ (∀ l ∈ ms, l.Pairwise (· < ·))) (rngD 0 c) 0 [some s1.ob, some (.d (.int (z : Int))), some (.d (markD [])), none, none] ⟨s1, [], none, rfl, ok1, rfl, fun p hp => (by cases hp), fun p hp => (by cases hp)⟩ (fun q x ρ hx hρ => by
      obtain ⟨s2, ms, y3, rfl, ok2, lm, am, pm⟩ := hρ
      obtain ⟨hq, rfl⟩ := rng_get hx
      rw [Nat.zero_add] at ok2 lm ⊢
      have m1 : z * q ≤ 200 * 4 := Nat.mul_le_mul hz (by omega)
      obtain ⟨s3, bs, e3, ok3, h1, h2⟩ := ev_md (L := L) (n := n) hm hd ok2 hz (by omega) (some (.d (markD ms))) (some (.d (.int (q : Int))))
      refine ⟨[some s2.ob, some (.d (.int (z : Int))), some (.d (markD ms)), some (.d (.int (q : Int))), none], [some s3.ob, some (.d (.int (z : Int))), some (.d (markD (ms ++ [bs]))), some (.d (.int (q : Int))), none], rfl, .inl ?_, s3, ms ++ [bs], some (.d (.int (q : Int))), rfl, by rw [Nat.mul_succ, ← Nat.add_assoc]; exact ok3, by simp; exact lm, fun l hl => ?_, fun l hl => ?_⟩
      · have ad := bin_addT (xs := ms.map fun l => PyData.tuple (natsD l)) (ys := [PyData.tuple (natsD bs)]) (by rw [List.length_map, List.length_singleton, sizeLine_eq]; omega)
        have fin : markD (ms ++ [bs]) = .tuple ((ms.map fun l => PyData.tuple (natsD l)) ++ [PyData.tuple (natsD bs)]) := by unfold markD; simp
        have st0 : markD ms = .tuple (ms.map fun l => PyData.tuple (natsD l)) := rfl
        have z1 : 1 ≤ sizeLine := by decide
        rw [fin]
        rw [st0] at e3 ⊢
        generalize (ms.map fun l => PyData.tuple (natsD l)) = V at *
        generalize natsD bs = W at *
        unfold mdL
        simp [e3, st, ad, z1]
      · rcases List.mem_append.mp hl with hl | hl
        · exact am l hl
        · rw [List.mem_singleton.mp hl]; exact h1
      · rcases List.mem_append.mp hl with hl | hl
        · exact pm l hl
        · rw [List.mem_singleton.mp hl]; exact h2)
  rw [Nat.zero_add, rng_len] at ok' lm
  have mz : z * c ≤ 200 * 4 := Nat.mul_le_mul hz (by omega)
  refine ⟨s', ms, ?_, ok'.mono (by omega), ?_, by omega⟩
  · have eI : evI (run tbl L (n + 2)) [0] (.rng (.call d (.cons (.io 0) (.cons (.cst (.int 5)) (.nil))))) [some s.ob, some (.d (.int (z : Int))), some (.d (.tuple [])), none, none] = .ok (rngD 0 c, [some s1.ob, some (.d (.int (z : Int))), some (.d (.tuple [])), none, none]) := by
      simp [ioOf, fill, putBack, e1, wInt, rng_small (i := (c : Int)) ⟨by omega, by omega⟩]
    have f1 := ex_for_ (R := run tbl L (n + 2)) (L := L) (pn := [0]) (tg := .name 3) (b := mdL d) eI
    have e0 : markD [] = .tuple [] := rfl
    rw [e0] at e
    rw [e, eρ] at f1
    generalize markD ms = M at *
    have z0 : 0 ≤ sizeLine := Nat.zero_le _
    unfold runBody mdF mdB
    simp [ioOf, fill, putBack, st, f1, outs, z0]
  · constructor
    · omega
    · exact pm
    · exact am
end
end AM
/-! Sa16: a drawn saying. -/
namespace AM
open PySem PySem.Spec PyProof.Rows L2
def dr (d : Nat) (l : Int) : Ex := .call d (.cons (.io 0) (.cons (.cst (.int l)) (.nil)))
def dyR (f : Nat) : Ex := .call f (.cons (.io 0) (.cons (.bin .sub (.var 1) (.cst (.int 1))) (.cons (.var 2) (.nil))))
def dy1 (d : Nat) : Sms := .cons (.ret (.tup (.cons (.cst (.str "letter")) (.cons (.call d (.cons (.io 0) (.cons (.var 2) (.nil)))) .nil)))) (.nil)
def dy2 (d : Nat) : Sms := .cons (.ret (.tup (.cons (.sub (.lst (.cons (.cst (.str "yes")) (.cons (.cst (.str "no")) .nil))) (dr d 2)) .nil))) (.nil)
def dy3 (f : Nat) : Sms := .cons (.ret (.tup (.cons (.cst (.str "not")) (.cons (dyR f) .nil)))) (.nil)
def dy4 (d f : Nat) : Sms := .cons (.asg 4 (.sub (.lst (.cons (.cst (.str "and")) (.cons (.cst (.str "or")) (.cons (.cst (.str "gives")) .nil)))) (dr d 3))) (.cons (.asg 5 (dyR f)) (.cons (.ret (.tup (.cons (.var 4) (.cons (.var 5) (.cons (dyR f) .nil))))) (.nil)))
def dy5 (d f : Nat) : Sms := .cons (.par [4, 6] (.cons (.sub (.lst (.cons (.cst (.str "each")) (.cons (.cst (.str "some")) .nil))) (dr d 2)) (.cons (.bin .sub (dr d 6) (.cst (.int 3))) .nil))) (.cons (.ret (.tup (.cons (.var 4) (.cons (.var 6) (.cons (dyR f) .nil))))) (.nil))
def dyB (d f : Nat) : Sms := .cons (.asg 3 (.ife (.cmp .gt (.var 1) (.cst (.int 1))) (dr d 9) (dr d 3))) (.cons (.ife (.cmp .lt (.var 3) (.cst (.int 2))) (dy1 d) (.nil)) (.cons (.ife (.cmp .eq (.var 3) (.cst (.int 2))) (dy2 d) (.nil)) (.cons (.ife (.cmp .eq (.var 3) (.cst (.int 3))) (dy3 f) (.nil)) (.cons (.ife (.cmp .lt (.var 3) (.cst (.int 6))) (dy4 d f) (.nil)) (dy5 d f)))))
def dyF (d f : Nat) : Df := ⟨7, 3, [0], dyB d f⟩
@[simp] theorem toD_l1 (x : Dt) (ρ : Env) : (Res.ok (Ob.lst [.d x], ρ)).toD = .ok (.list [x], ρ) := id rfl
@[simp] theorem toD_l2 (x y : Dt) (ρ : Env) : (Res.ok (Ob.lst [.d x, .d y], ρ)).toD = .ok (.list [x, y], ρ) := id rfl
@[simp] theorem toD_l3 (x y z : Dt) (ρ : Env) : (Res.ok (Ob.lst [.d x, .d y, .d z], ρ)).toD = .ok (.list [x, y, z], ρ) := id rfl
theorem l2_0 (x y : Str) : subD (.list [.str x, .str y]) (.int 0) = some (.str x) := rfl
theorem l2_1 (x y : Str) : subD (.list [.str x, .str y]) (.int 1) = some (.str y) := rfl
theorem l3_0 (x y z : Str) : subD (.list [.str x, .str y, .str z]) (.int 0) = some (.str x) := rfl
theorem l3_1 (x y z : Str) : subD (.list [.str x, .str y, .str z]) (.int 1) = some (.str y) := rfl
theorem l3_2 (x y z : Str) : subD (.list [.str x, .str y, .str z]) (.int 2) = some (.str z) := rfl
theorem cn_at {v : Int} (h : 0 ≤ v) (h2 : v < 3) : ∃ c : Cn, subD (.list [.str "and", .str "or", .str "gives"]) (.int v) = some (.str c.str) := by
  have : v = 0 ∨ v = 1 ∨ v = 2 := by omega
  rcases this with rfl | rfl | rfl
  · exact ⟨.and, l3_0 _ _ _⟩
  · exact ⟨.or, l3_1 _ _ _⟩
  · exact ⟨.gives, l3_2 _ _ _⟩
theorem fix_at {v : Int} (h : 0 ≤ v) (h2 : v < 2) : ∃ b : Bool, subD (.list [.str "yes", .str "no"]) (.int v) = some (.str (fixS b)) := by
  have : v = 0 ∨ v = 1 := by omega
  rcases this with rfl | rfl
  · exact ⟨true, l2_0 _ _⟩
  · exact ⟨false, l2_1 _ _⟩
theorem way_at {v : Int} (h : 0 ≤ v) (h2 : v < 2) : ∃ b : Bool, subD (.list [.str "each", .str "some"]) (.int v) = some (.str (wayS b)) := by
  have : v = 0 ∨ v = 1 := by omega
  rcases this with rfl | rfl
  · exact ⟨true, l2_0 _ _⟩
  · exact ⟨false, l2_1 _ _⟩
structure DrawnSay (dd N : Nat) (a : Say) : Prop where
  ok : a.Ok
  deep : a.deep ≤ dd
  words : a.words + 1 ≤ 2 ^ dd
  lets : ∀ x ∈ a.lets, x < N
section
variable {tbl : List Df} {L n m d f : Nat}
theorem run_dy (hm : tbl[m]? = some mixF) (hd : tbl[d]? = some (drawF m)) (hf : tbl[f]? = some (dyF d f)) {N : Nat} (hN : 1 ≤ N ∧ N ≤ 8) :
    ∀ (dd : Nat) (s : DS) (k : Nat), 1 ≤ dd → s.Ok k → k + 3 * 2 ^ dd < 2 ^ 59 →
      ∃ (s' : DS) (a : Say), (run tbl L (n + 2 + dd)).run f [s.ob, .d (.int (dd : Int)), .d (.int (N : Int))] = .ok (.d a.D, [(0, s'.ob)]) ∧ s'.Ok (k + 3 * 2 ^ dd - 3) ∧ DrawnSay dd N a
  | 0, s, k, h, _, _ => by omega
  | dd + 1, s, k, _, ok, hk => by
    have pw : 1 ≤ 2 ^ dd := Nat.one_le_two_pow
    have ps : 2 ^ (dd + 1) = 2 * 2 ^ dd := by rw [Nat.pow_succ]; omega
    rw [ps] at hk ⊢
    rw [show n + 2 + (dd + 1) = (n + 2 + dd) + 1 by omega, run_succ hf]
    have z1 : 1 ≤ sizeLine := by decide
    have z2 : 2 ≤ sizeLine := by decide
    have z3 : 3 ≤ sizeLine := by decide
    have dk : (((dd + 1 : Nat) : Int)) - 1 = (dd : Int) := by omega
    -- the first draw
    obtain ⟨v, s1, e1, v0, v9, v3, ok1⟩ : ∃ (v : Int) (s1 : DS), ev (run tbl L (n + 2 + dd)) [0] (.ife (.cmp .gt (.var 1) (.cst (.int 1))) (dr d 9) (dr d 3)) [some s.ob, some (.d (.int ((dd + 1 : Nat) : Int))), some (.d (.int (N : Int))), none, none, none, none] =
        .ok (.d (.int v), [some s1.ob, some (.d (.int ((dd + 1 : Nat) : Int))), some (.d (.int (N : Int))), none, none, none, none]) ∧ 0 ≤ v ∧ v < 9 ∧ (dd = 0 → v < 3) ∧ s1.Ok (k + 1) := by
      have ll : n + 2 + dd = (n + dd) + 2 := by omega
      by_cases c : dd = 0
      · obtain ⟨v, s1, e1, v0, v3, ok1⟩ := run_draw (L := L) (n := n + dd) hm hd ok (by omega) (lim := 3) (by decide) (by decide)
        rw [ll]
        have c1 : ¬ (1 : Int) < ((dd + 1 : Nat) : Int) := by omega
        refine ⟨v, s1, ?_, v0, by omega, fun _ => v3, ok1⟩
        generalize ((dd + 1 : Nat) : Int) = X at *
        unfold dr
        simp [ioOf, fill, putBack, e1, c1]
      · obtain ⟨v, s1, e1, v0, v3, ok1⟩ := run_draw (L := L) (n := n + dd) hm hd ok (by omega) (lim := 9) (by decide) (by decide)
        rw [ll]
        have c1 : (1 : Int) < ((dd + 1 : Nat) : Int) := by omega
        refine ⟨v, s1, ?_, v0, by omega, fun h => absurd h c, ok1⟩
        generalize ((dd + 1 : Nat) : Int) = X at *
        unfold dr
        simp [ioOf, fill, putBack, e1, c1]
    have dw := fun {s : DS} {k : Nat} (ok : s.Ok k) (hk : k < 2 ^ 59) {lim : Int} (l1 : 0 < lim) (l2 : lim < 1073741824) =>
      run_draw (L := L) (n := n + dd) hm hd ok hk l1 l2
    rw [show n + dd + 2 = n + 2 + dd by omega] at dw
    by_cases c1 : v < 2
    · obtain ⟨w, s2, e2, w0, wN, ok2⟩ := dw ok1 (by omega) (lim := (N : Int)) (by omega) (by omega)
      obtain ⟨w', rfl⟩ : ∃ w' : Nat, w = w' := ⟨w.toNat, by omega⟩
      refine ⟨s2, .let_ w', ?_, ok2.mono (by omega), by show w' ≤ 7; omega, by show 1 ≤ dd + 1; omega, by show 1 + 1 ≤ 2 ^ (dd + 1); omega, fun x hx => by rw [List.mem_singleton.mp hx]; omega⟩
      rw [Say.D]
      generalize ((dd + 1 : Nat) : Int) = X at *
      unfold runBody dyF dyB dy1
      simp [ioOf, fill, putBack, outs, st, e1, e2, c1, z2]
    have n1 : ¬ v < 2 := c1
    by_cases c2 : v = 2
    · obtain ⟨w, s2, e2, w0, w2, ok2⟩ := dw ok1 (by omega) (lim := 2) (by decide) (by decide)
      obtain ⟨b, sb⟩ := fix_at w0 w2
      refine ⟨s2, .fix b, ?_, ok2.mono (by omega), trivial, by show 1 ≤ dd + 1; omega, by show 1 + 1 ≤ 2 ^ (dd + 1); omega, fun x hx => by cases hx⟩
      rw [Say.D]
      generalize ((dd + 1 : Nat) : Int) = X at *
      generalize fixS b = FS at *
      subst c2
      unfold runBody dyF dyB dy2
      simp [ioOf, fill, putBack, outs, st, dr] at e1 e2 ⊢
      simp [ioOf, fill, putBack, outs, st, e1, e2, sb, z1, z2]
    have d0 : 1 ≤ dd := by
      rcases Nat.eq_zero_or_pos dd with h | h
      · have := v3 h; omega
      · exact h
    have b2 : (v == 2) = false := by rw [beq_eq_false_iff_ne]; exact c2
    have rec_ := fun (s : DS) (k' : Nat) (ok : s.Ok k') (h : k' + 3 * 2 ^ dd < 2 ^ 59) => run_dy hm hd hf hN dd s k' d0 ok h
    by_cases c3 : v = 3
    · obtain ⟨s2, a, e2, ok2, da⟩ := rec_ s1 (k + 1) ok1 (by omega)
      refine ⟨s2, .neg a, ?_, ok2.mono (by omega), da.ok, by have := da.deep; simp only [Say.deep]; omega, by have := da.words; simp only [Say.words]; omega, da.lets⟩
      rw [Say.D]
      generalize ((dd + 1 : Nat) : Int) = X at *
      generalize a.D = A at *
      subst c3
      unfold runBody dyF dyB dy3 dyR
      simp [ioOf, fill, putBack, outs, st, e1, e2, dk, z2]
    have b3 : (v == 3) = false := by rw [beq_eq_false_iff_ne]; exact c3
    by_cases c4 : v < 6
    · obtain ⟨w, s2, e2, w0, w3, ok2⟩ := dw ok1 (by omega) (lim := 3) (by decide) (by decide)
      obtain ⟨c, sc⟩ := cn_at w0 w3
      obtain ⟨s3, a, e3, ok3, da⟩ := rec_ s2 (k + 1 + 1) ok2 (by omega)
      obtain ⟨s4, b, e4, ok4, db⟩ := rec_ s3 (k + 1 + 1 + 3 * 2 ^ dd - 3) ok3 (by omega)
      refine ⟨s4, .two c a b, ?_, ok4.mono (by omega), ⟨da.ok, db.ok⟩, by have := da.deep; have := db.deep; simp only [Say.deep]; omega, by have := da.words; have := db.words; simp only [Say.words]; omega, fun x hx => ?_⟩
      · rw [Say.D]
        generalize ((dd + 1 : Nat) : Int) = X at *
        generalize a.D = A at *
        generalize b.D = B at *
        generalize c.str = CS at *
        unfold runBody dyF dyB dy4 dyR
        simp [ioOf, fill, putBack, outs, st, dr] at e1 e2 ⊢
        simp [ioOf, fill, putBack, outs, st, e1, e2, n1, b2, b3, c4, sc, e3, e4, dk, z3]
      · rcases List.mem_append.mp hx with hx | hx
        · exact da.lets x hx
        · exact db.lets x hx
    · obtain ⟨w, s2, e2, w0, w2, ok2⟩ := dw ok1 (by omega) (lim := 2) (by decide) (by decide)
      obtain ⟨q, sq⟩ := way_at w0 w2
      obtain ⟨t, s3, e3, t0, t6, ok3⟩ := dw ok2 (by omega) (lim := 6) (by decide) (by decide)
      obtain ⟨s4, a, e4, ok4, da⟩ := rec_ s3 (k + 1 + 1 + 1) ok3 (by omega)
      refine ⟨s4, .way q (t - 3) a, ?_, ok4.mono (by omega), ⟨⟨by omega, by omega⟩, da.ok⟩, by have := da.deep; simp only [Say.deep]; omega, by have := da.words; simp only [Say.words]; omega, da.lets⟩
      rw [Say.D]
      generalize ((dd + 1 : Nat) : Int) = X at *
      generalize a.D = A at *
      generalize wayS q = CS at *
      unfold runBody dyF dyB dy5 dyR
      simp [ioOf, fill, putBack, outs, st, dr] at e1 e2 e3 ⊢
      simp [ioOf, fill, putBack, outs, st, stAll, e1, e2, n1, b2, b3, c4, sq, e3, e4, dk, z3, z2]
end
end AM
/-! Sa17: texts of sayings. -/
namespace AM
open PySem PySem.Spec PyProof.Rows L2
theorem fn_intZ {i : Int} (h : -1000 < i ∧ i < 1000) : Fn 0 10 (.int i) := by
  have l : i.natAbs.log2 < 10 := by
    by_cases z : i.natAbs = 0
    · rw [z]; decide
    · rw [Nat.log2_lt z]
      omega
  refine ⟨rfl, Nat.zero_le _, ?_, ?_, ?_, rfl⟩
  · rw [PyData.weight]
    split <;> omega
  · rw [PyData.intsShort]
    exact decide_eq_true (PyData.shown_int_le (by omega))
  · rw [PyData.showable]
    exact decide_eq_true (by omega)
theorem fn_str {x : Str} {W : Nat} (h : PyData.strOk x = true) (l : x.length ≤ W) : Fn 0 W (.str x) := by
  refine ⟨?_, Nat.zero_le _, ?_, ?_, ?_, rfl⟩
  · rw [PyData.canLay0]; exact h
  · rw [PyData.weight]; exact l
  · rw [PyData.intsShort]
  · rw [PyData.showable]
theorem fn_t1 {D W : Nat} {a : Dt} (h : Fn D W a) : Fn (D + 1) (W + 1) (.tuple [a]) := by
  have := fn_tup (D := D) (W := W) (ds := [a]) fun d hd => by rw [List.mem_singleton.mp hd]; exact h
  rw [List.length_singleton, Nat.one_mul] at this
  exact this
theorem fn_t2 {D W1 W2 : Nat} {a b : Dt} (h : Fn D W1 a) (h2 : Fn D W2 b) : Fn (D + 1) (W1 + W2 + 2) (.tuple [a, b]) := by
  have w1 := h.wt
  have w2 := h2.wt
  refine ⟨?_, ?_, ?_, ?_, ?_, ?_⟩
  · rw [PyData.canLay0]; simp [PyData.canLayAll0, h.lay, h2.lay]
  · rw [PyData.depth]; simp only [PyData.depthAll]; have := h.deep; have := h2.deep; omega
  · rw [PyData.weight]; simp only [PyData.weightAll]; omega
  · rw [PyData.intsShort]; simp [PyData.intsShortAll, h.short, h2.short]
  · rw [PyData.showable]; simp [PyData.showableAll, h.show_, h2.show_]
  · rw [PyData.hasDict]; simp [PyData.hasDictAll, h.nod, h2.nod]
theorem fn_t3 {D W1 W2 W3 : Nat} {a b c : Dt} (h : Fn D W1 a) (h2 : Fn D W2 b) (h3 : Fn D W3 c) : Fn (D + 1) (W1 + W2 + W3 + 3) (.tuple [a, b, c]) := by
  have w1 := h.wt
  have w2 := h2.wt
  have w3 := h3.wt
  refine ⟨?_, ?_, ?_, ?_, ?_, ?_⟩
  · rw [PyData.canLay0]; simp [PyData.canLayAll0, h.lay, h2.lay, h3.lay]
  · rw [PyData.depth]; simp only [PyData.depthAll]; have := h.deep; have := h2.deep; have := h3.deep; omega
  · rw [PyData.weight]; simp only [PyData.weightAll]; omega
  · rw [PyData.intsShort]; simp [PyData.intsShortAll, h.short, h2.short, h3.short]
  · rw [PyData.showable]; simp [PyData.showableAll, h.show_, h2.show_, h3.show_]
  · rw [PyData.hasDict]; simp [PyData.hasDictAll, h.nod, h2.nod, h3.nod]
theorem fix_len (b : Bool) : (fixS b).length ≤ 3 := by cases b <;> decide
theorem way_len (b : Bool) : (wayS b).length ≤ 4 := by cases b <;> decide
theorem cn_len (c : Cn) : c.str.length ≤ 5 := by cases c <;> decide
theorem let_ok' : PyData.strOk (Say.let_ 0).hd = true := hd_ok _
theorem not_ok' : PyData.strOk (Say.neg (.fix true)).hd = true := hd_ok _
theorem let_len' : (Say.let_ 0).hd.length ≤ 6 := by decide
theorem not_len' : (Say.neg (.fix true)).hd.length ≤ 3 := by decide
theorem fn_say : ∀ {a : Say}, a.Ok → Fn a.deep (24 * a.words) a.D
  | .let_ n, h => (fn_t2 (D := 0) (fn_str let_ok' let_len') (fn_intZ (i := (n : Int)) (by have : n ≤ 7 := h; omega))).mono (by simp only [Say.deep]; omega) (by simp only [Say.words]; omega)
  | .fix b, _ => (fn_t1 (D := 0) (fn_str (fix_ok b) (fix_len b))).mono (by simp only [Say.deep]; omega) (by simp only [Say.words]; omega)
  | .neg a, h => (fn_t2 (D := a.deep) ((fn_str not_ok' not_len').mono (Nat.zero_le _) (Nat.le_refl _)) (fn_say (a := a) h)).mono (by simp only [Say.deep]; omega) (by simp only [Say.words]; omega)
  | .two c a b, h => (fn_t3 (D := max a.deep b.deep) ((fn_str (cn_ok c) (cn_len c)).mono (Nat.zero_le _) (Nat.le_refl _)) ((fn_say (a := a) h.1).mono (by omega) (Nat.le_refl _)) ((fn_say (a := b) h.2).mono (by omega) (Nat.le_refl _))).mono (by simp only [Say.deep]; omega) (by simp only [Say.words]; omega)
  | .way q t a, h => (fn_t3 (D := a.deep) ((fn_str (wayS_ok q) (way_len q)).mono (Nat.zero_le _) (Nat.le_refl _)) ((fn_intZ (i := t) (by have := h.1; omega)).mono (Nat.zero_le _) (Nat.le_refl _)) (fn_say (a := a) h.2)).mono (by simp only [Say.deep]; omega) (by simp only [Say.words]; omega)
theorem fn_mark {s : Nat} (hs : s ≤ 200) {ms : List (List Nat)} (h : MarkOk s ms) : Fn 2 88008 (markD ms) := by
  refine (fn_tup (D := 1) (W := 11000) fun d hd => ?_).mono (Nat.le_refl _) ?_
  · obtain ⟨l, hl, rfl⟩ := List.mem_map.mp hd
    exact fn_nats (fun i hi => by have := h.low l hl i hi; omega) (by have := row_len (h.asc l hl) (h.low l hl); omega)
  · have := h.few
    rw [List.length_map]
    omega
end AM
/-! Sa18: _law_right from its parts. -/
namespace AM
open PySem PySem.Spec PyProof.Rows L2
theorem exs_nx' {R : Fns} {L : Nat} {pn : List Nat} {s : Sm} {r : Sms} {ρ ρ1 : Env} {x : Res Fl} (h : ex R L pn s ρ = .ok (.nx ρ1)) (h2 : exs R L pn r ρ1 = x) : exs R L pn (.cons s r) ρ = x := by
  rw [exs_cons_53, h]
  exact h2
theorem use4_frz {o : Ob} {x : Dt} (h : frz o = some x) (a b c d : Option Ob) (ρ : Env) : use (a :: b :: c :: d :: some o :: ρ) 4 = some (x, a :: b :: c :: d :: some (.d x) :: ρ) := by
  cases o with
  | d y => cases h; rfl
  | _ =>
    unfold use
    simp only [getS, get0]
    rw [h]
    rfl
theorem use5_frz {o : Ob} {x : Dt} (h : frz o = some x) (a b c d e : Option Ob) (ρ : Env) : use (a :: b :: c :: d :: e :: some o :: ρ) 5 = some (x, a :: b :: c :: d :: e :: some (.d x) :: ρ) := by
  cases o with
  | d y => cases h; rfl
  | _ =>
    unfold use
    simp only [getS, get0]
    rw [h]
    rfl
theorem frz_d (x : Dt) : frz (.d x) = some x := rfl
def rngZ : AM.It := .rng (.sub (.var 1) (.cst (.int 0)))
def rtC (at_ : Nat) : Ex := .comp [9] (.name 9) rngZ (.nil) (.call at_ (.cons (.var 1) (.cons (.var 2) (.cons (.var 3) (.cons (.var 9) (.nil))))))
def rtP : Ex := .comp [9] (.name 9) rngZ (.cons (.sub (.var 4) (.var 9)) .nil) (.var 9)
def no_ : Sms := .cons (.ret (.cst (.bool false))) (.nil)
def rt1 (we : Nat) : Sm := .asg 1 (.call we (.cons (.io 0) (.cons (.cst (.int 4)) (.cons (.cst (.int 3)) (.nil)))))
def rt2 (mk sy : Nat) : Sm := .par [2, 3] (.cons (.call mk (.cons (.io 0) (.cons (.sub (.var 1) (.cst (.int 0))) (.nil)))) (.cons (.call sy (.cons (.io 0) (.cons (.cst (.int 5)) (.cons (.cst (.int 5)) (.nil))))) .nil))
def rt5 (lk hg : Nat) : Sm := .ife (.not (.call lk (.cons (.call hg (.cons (.var 1) (.cons (.var 2) (.cons (.var 3) (.nil))))) (.cons (.var 5) (.nil))))) no_ (.nil)
def rt6 (lk hw : Nat) : Sm := .ife (.not (.call lk (.cons (rtC hw) (.cons (.var 4) (.nil))))) no_ (.nil)
def rt7 (lk nm nd : Nat) : Sm := .ife (.not (.call lk (.cons (.lst (.cons (.call nm (.cons (.var 1) (.cons (.var 2) (.nil)))) (.cons (.call nd (.cons (.var 3) (.nil))) .nil))) (.cons (.lst (.cons (.var 2) (.cons (.var 3) .nil))) (.nil))))) no_ (.nil)
def rt8 (sz : Nat) : Sm := .asgT (.cons (.name 6) (.cons (.name 7) (.cons (.name 8) (.nil)))) (.call sz (.cons (.var 3) (.nil)))
def rt9 : Sm := .asg 5 (.lst (.cons (.var 6) (.cons (.var 7) (.cons (.bi .tuple (.bi .sset (.var 8))) .nil))))
def rt10 (lk wi di li : Nat) : Sm := .ret (.call lk (.cons (.lst (.cons (.call wi (.cons (.var 3) (.nil))) (.cons (.call di (.cons (.var 3) (.nil))) (.cons (.call li (.cons (.var 3) (.nil))) .nil)))) (.cons (.var 5) (.nil))))
def rtB (we mk sy at_ lk hg hw nm nd sz wi di li : Nat) : Sms :=
  .cons (rt1 we) (.cons (rt2 mk sy) (.cons (.asg 4 (rtC at_)) (.cons (.asg 5 (.bi .tuple rtP)) (.cons (rt5 lk hg) (.cons (rt6 lk hw) (.cons (rt7 lk nm nd) (.cons (rt8 sz) (.cons rt9 (.cons (rt10 lk wi di li) .nil)))))))))
def rtF (we mk sy at_ lk hg hw nm nd sz wi di li : Nat) : Df := ⟨10, 1, [0], rtB we mk sy at_ lk hg hw nm nd sz wi di li⟩
section
variable {R : Fns} {L : Nat} {s : DS} {WB M A : Dt} {z : Nat} {p : Nat → Bool} {at_ : Nat}
def rtE (s : DS) (WB M A : Dt) (o4 o5 o9 : Option Ob) : Env := [some s.ob, some (.d WB), some (.d M), some (.d A), o4, o5, none, none, none, o9]
theorem rng_ints (z : Nat) : rngD 0 z = (List.range z).map fun w : Nat => PyData.int (w : Int) := by
  unfold rngD
  exact List.map_congr_left fun i _ => by rw [Int.zero_add]
theorem rt_rng (hz : z ≤ 200) (w0 : subD WB (.int 0) = some (.int (z : Int))) (o4 o5 : Option Ob) : evI R [0] rngZ (rtE s WB M A o4 o5 none) = .ok ((List.range z).map (fun w : Nat => PyData.int (w : Int)), rtE s WB M A o4 o5 none) := by
  rw [← rng_ints]
  unfold rngZ rtE
  simp [w0, wInt, rng_small (i := (z : Int)) ⟨by omega, by omega⟩]
theorem rt_bools (hz : z ≤ 200) (w0 : subD WB (.int 0) = some (.int (z : Int))) (o4 o5 : Option Ob) (h : ∀ w : Nat, w < z → R.run at_ [.d WB, .d M, .d A, .d (.int (w : Int))] = .ok (.d (.bool (p w)), [])) :
    ev R [0] (rtC at_) (rtE s WB M A o4 o5 none) = .ok (Ob.ls ((List.range z).map fun w => PyData.bool (p w)), rtE s WB M A o4 o5 none) := by
  have c1 := comp_on (R := R) (pn := [0]) (own := [9]) (tg := .name 9) (it := rngZ) (cs := .nil) (e := .call at_ (.cons (.var 1) (.cons (.var 2) (.cons (.var 3) (.cons (.var 9) (.nil)))))) (ρ := rtE s WB M A o4 o5 none) (ρ1 := rtE s WB M A o4 o5 none) (W := rtE s WB M A o4 o5 none)
    (fun w : Nat => PyData.int (w : Int)) (List.range z) (fun _ => true) (fun w => Ob.d (.bool (p w))) (fun w => rtE s WB M A o4 o5 (some (.d (.int (w : Int))))) (rt_rng hz w0 o4 o5) ⟨rfl, rfl⟩ rfl rfl (fun _ _ => rfl) (fun _ _ => rfl) (fun _ _ => by simp)
    (fun w hw _ => by
      have := h w (List.mem_range.mp hw)
      unfold rtE
      simp [ioOf, fill, putBack, this]) (fun _ _ => rfl) rfl (by rw [List.length_range, sizeLine_eq]; omega)
  rw [List.filter_eq_self.mpr fun _ _ => rfl] at c1
  have em : ((List.range z).map fun w => Ob.d (.bool (p w))) = ((List.range z).map fun w => PyData.bool (p w)).map Ob.d := by rw [List.map_map]; rfl
  rw [em] at c1
  exact c1
theorem rt_picks (hz : z ≤ 200) (w0 : subD WB (.int 0) = some (.int (z : Int))) (o5 : Option Ob) :
    ∃ o4, frz o4 = some (.list ((List.range z).map fun w => PyData.bool (p w))) ∧
    ev R [0] rtP (rtE s WB M A (some (Ob.ls ((List.range z).map fun w => PyData.bool (p w)))) o5 none) = .ok (Ob.ls (natsD ((List.range z).filter p)), rtE s WB M A (some o4) o5 none) := by
  have fl := frz_ls ((List.range z).map fun w => PyData.bool (p w))
  have at1 : ∀ q : Nat, q < z → subD (.list ((List.range z).map fun w => PyData.bool (p w))) (.int (q : Int)) = some (.bool (p q)) := fun q hq => by
    show atI ((List.range z).map fun w => PyData.bool (p w)) (q : Int) = _
    rw [atI_nat' (by rw [List.length_map, List.length_range]; exact hq), List.getElem_map, List.getElem_range]
  obtain ⟨os, ρ', e, o4, y, fo, eo, eρ⟩ := compL_inv (bnd := fun d r => bindT [0] (.name 9) d (wipeE [9] r)) (c := evC R [0] (.cons (.sub (.var 4) (.var 9)) .nil)) (e := ev R [0] (.var 9))
    (fun q acc ρ => ∃ (o4 : Ob) (y : Option Ob), frz o4 = some (.list ((List.range z).map fun w => PyData.bool (p w))) ∧ acc = (natsD ((List.range q).filter p)).map Ob.d ∧ ρ = rtE s WB M A (some o4) o5 y)
    ((List.range z).map fun w : Nat => PyData.int (w : Int)) 0 [] (rtE s WB M A (some (Ob.ls ((List.range z).map fun w => PyData.bool (p w)))) o5 none) ⟨_, none, fl, rfl, rfl⟩ (fun q x acc ρ hx hρ => by
      obtain ⟨o4, y, fo, rfl, rfl⟩ := hρ
      rw [← rng_ints] at hx
      obtain ⟨hq, rfl⟩ := rng_get hx
      have a1 := at1 q hq
      rw [Nat.zero_add]
      have u4 := use4_frz fo (some s.ob) (some (.d WB)) (some (.d M)) (some (.d A)) [o5, none, none, none, some (.d (.int (q : Int)))]
      have fl' := frz_d (.list ((List.range z).map fun w => PyData.bool (p w)))
      have fs : (List.range (q + 1)).filter p = (List.range q).filter p ++ (if p q = true then [q] else []) := by
        rw [List.range_succ, List.filter_append]
        congr 1
        by_cases h : p q = true <;> simp [h]
      rw [fs]
      generalize ((List.range z).map fun w => PyData.bool (p w)) = V at *
      refine ⟨rtE s WB M A (some o4) o5 (some (.d (.int (q : Int)))), rtE s WB M A (some (.d (.list V))) o5 (some (.d (.int (q : Int)))), p q, rfl, ?_, ?_⟩
      · unfold rtE
        simp [u4, a1]
      · by_cases h : p q = true
        · refine .inl ⟨h, .d (.int (q : Int)), rtE s WB M A (some (.d (.list V))) o5 (some (.d (.int (q : Int)))), ?_, .d (.list V), some (.d (.int (q : Int))), fl', ?_, rfl⟩
          · unfold rtE; simp
          · rw [if_pos h]; unfold natsD; simp
        · refine .inr ⟨by simpa using h, .d (.list V), some (.d (.int (q : Int))), fl', ?_, rfl⟩
          rw [if_neg h, List.append_nil])
  rw [Nat.zero_add, List.length_map, List.length_range] at eo
  rw [List.nil_append] at eo
  refine ⟨o4, fo, ?_⟩
  have fll := List.length_filter_le p (List.range z)
  rw [List.length_range] at fll
  have sl : os.length ≤ sizeLine := by
    rw [eo, List.length_map, sizeLine_eq]
    unfold natsD
    rw [List.length_map]
    omega
  unfold rtP
  rw [ev_comp_ (rt_rng hz w0 _ o5) ⟨rfl, rfl⟩ e sl, eo, eρ]
  rfl
end
section
variable {tbl : List Df} {L n l we mk sy at_ lk hg hw nm nd sz wi di li : Nat}
theorem run_rt (hl : tbl[l]? = some (rtF we mk sy at_ lk hg hw nm nd sz wi di li)) {s s1 s2 s3 : DS} {WB M A : Dt} {z : Nat} {p : Nat → Bool} {wd dp : Int} {LS SL : List Dt} (hz : z ≤ 200)
    (h1 : (run tbl L n).run we [s.ob, .d (.int 4), .d (.int 3)] = .ok (.d WB, [(0, s1.ob)])) (w0 : subD WB (.int 0) = some (.int (z : Int)))
    (h2 : (run tbl L n).run mk [s1.ob, .d (.int (z : Int))] = .ok (.d M, [(0, s2.ob)])) (h3 : (run tbl L n).run sy [s2.ob, .d (.int 5), .d (.int 5)] = .ok (.d A, [(0, s3.ob)]))
    (h4 : ∀ w : Nat, w < z → (run tbl L n).run at_ [.d WB, .d M, .d A, .d (.int (w : Int))] = .ok (.d (.bool (p w)), []))
    (h5 : (run tbl L n).run hg [.d WB, .d M, .d A] = .ok (.d (.tuple (natsD ((List.range z).filter p))), []))
    (h6 : ∀ w : Nat, w < z → (run tbl L n).run hw [.d WB, .d M, .d A, .d (.int (w : Int))] = .ok (.d (.bool (p w)), []))
    (h7 : (run tbl L n).run nm [.d WB, .d M] = .ok (.d M, [])) (h8 : (run tbl L n).run nd [.d A] = .ok (.d A, []))
    (h9 : (run tbl L n).run sz [.d A] = .ok (.d (.tuple [.int wd, .int dp, .list LS]), [])) (h10 : biD .sset (.list LS) = some (Ob.ls SL))
    (h11 : (run tbl L n).run wi [.d A] = .ok (.d (.int wd), [])) (h12 : (run tbl L n).run di [.d A] = .ok (.d (.int dp), [])) (h13 : (run tbl L n).run li [.d A] = .ok (.d (.tuple SL), []))
    (k1 : (run tbl L n).run lk [.d (.tuple (natsD ((List.range z).filter p))), .d (.tuple (natsD ((List.range z).filter p)))] = .ok (.d (.bool true), []))
    (k2 : (run tbl L n).run lk [.d (.list ((List.range z).map fun w => PyData.bool (p w))), .d (.list ((List.range z).map fun w => PyData.bool (p w)))] = .ok (.d (.bool true), []))
    (k3 : (run tbl L n).run lk [.d (.list [M, A]), .d (.list [M, A])] = .ok (.d (.bool true), []))
    (k4 : (run tbl L n).run lk [.d (.list [.int wd, .int dp, .tuple SL]), .d (.list [.int wd, .int dp, .tuple SL])] = .ok (.d (.bool true), [])) :
    (run tbl L (n + 1)).run l [s.ob] = .ok (.d (.bool true), [(0, s3.ob)]) := by
  rw [run_succ hl]
  have c3 := rt_bools (R := run tbl L n) (s := s3) hz w0 none none h4
  obtain ⟨o4, fo, c4⟩ := rt_picks (R := run tbl L n) (s := s3) (M := M) (A := A) (p := p) hz w0 none
  have c6 := rt_bools (R := run tbl L n) (s := s3) hz w0 (some o4) (some (.d (.tuple (natsD ((List.range z).filter p))))) h6
  have u4 := use4_frz fo (some s3.ob) (some (.d WB)) (some (.d M)) (some (.d A)) [some (.d (.tuple (natsD ((List.range z).filter p)))), none, none, none, none]
  have u5 := fun (a b c d e : Option Ob) (ρ : Env) => use5_frz (o := Ob.lst [.d (.int wd), .d (.int dp), .d (.tuple SL)]) (x := .list [.int wd, .int dp, .tuple SL]) rfl a b c d e ρ
  have evA_comp6 : ∀ (R : Fns) (pn : List Nat) (ρ : Env) (es : Exs), evA R pn (.cons (rtC hw) es) ρ = (ev R pn (rtC hw) ρ).toD.bind fun p => (evA R pn es p.2).bind fun q => .ok (.val p.1 :: q.1, q.2) := fun R pn ρ es => evA_comp_ _ _ _ _ _ _
  have z2 : 2 ≤ sizeLine := by decide
  have z3 : 3 ≤ sizeLine := by decide
  generalize natsD ((List.range z).filter p) = U at *
  generalize ((List.range z).map fun w => PyData.bool (p w)) = V at *
  have body : ∃ ρ, exs (run tbl L n) L [0] (rtB we mk sy at_ lk hg hw nm nd sz wi di li) [some s.ob, none, none, none, none, none, none, none, none, none] = .ok (.rt (.d (.bool true)) (some s3.ob :: ρ)) := by
    refine ⟨[some (.d WB), some (.d M), some (.d A), some (.d (.list V)), some (.d (.list [.int wd, .int dp, .tuple SL])), some (.d (.int wd)), some (.d (.int dp)), some (.d (.list LS)), none], ?_⟩
    unfold rtB
    refine exs_nx' (ρ1 := [some s1.ob, some (.d WB), none, none, none, none, none, none, none, none]) (by unfold rt1; simp [ioOf, fill, putBack, st, h1]) ?_
    refine exs_nx' (ρ1 := rtE s3 WB M A none none none) (by unfold rt2 rtE; simp [ioOf, fill, putBack, st, stAll, w0, h2, h3]) ?_
    refine exs_nx' (ρ1 := rtE s3 WB M A (some (Ob.ls V)) none none) (by rw [ex_asg_35, c3]; rfl) ?_
    refine exs_nx' (ρ1 := rtE s3 WB M A (some o4) (some (.d (.tuple U))) none) (by simp [c4]; rfl) ?_
    refine exs_nx' (ρ1 := rtE s3 WB M A (some o4) (some (.d (.tuple U))) none) (by unfold rt5 rtE; simp [ioOf, fill, putBack, h5, k1]) ?_
    refine exs_nx' (ρ1 := rtE s3 WB M A (some (.d (.list V))) (some (.d (.tuple U))) none) (by unfold rt6; unfold rtE at c6 ⊢; simp [evA_comp6, c6, ioOf, fill, putBack, u4, k2]) ?_
    refine exs_nx' (ρ1 := rtE s3 WB M A (some (.d (.list V))) (some (.d (.tuple U))) none) (by unfold rt7 rtE; simp [ioOf, fill, putBack, h7, h8, k3, z2]) ?_
    refine exs_nx' (ρ1 := [some s3.ob, some (.d WB), some (.d M), some (.d A), some (.d (.list V)), some (.d (.tuple U)), some (.d (.int wd)), some (.d (.int dp)), some (.d (.list LS)), none]) (by unfold rt8 rtE; simp [ioOf, fill, putBack, h9]; rfl) ?_
    refine exs_nx' (ρ1 := [some s3.ob, some (.d WB), some (.d M), some (.d A), some (.d (.list V)), some (Ob.lst [.d (.int wd), .d (.int dp), .d (.tuple SL)]), some (.d (.int wd)), some (.d (.int dp)), some (.d (.list LS)), none]) (by unfold rt9; simp [ioOf, fill, putBack, st, h10, z3]) ?_
    rw [exs_cons_53]
    unfold rt10
    simp [ioOf, fill, putBack, h11, h12, h13, z3, u5, k4]
  obtain ⟨ρ, body⟩ := body
  unfold runBody rtF
  simp [ioOf, fill, putBack, outs, body]
end
end AM
/-! Sa19: a table that has the sayings' functions, and what they answer there. -/
namespace AM
open PySem PySem.Spec PyProof.Rows L2
structure SayT (tbl : List Df) where
  (f a w cw c1 xw c4 ar sp bt wd cs c5 c2 rw_ cm c3 wo dp lt mks ea so ho nd wi di li nm hg hw : Nat)
  hf : tbl[f]? = some fromF
  ha : tbl[a]? = some (arrF f)
  hw_ : tbl[w]? = some (webF f a)
  hcw : tbl[cw]? = some (chkF w c1)
  hxw : tbl[xw]? = some (worldF f c4)
  har : tbl[ar]? = some arrsF
  hsp : tbl[sp]? = some spotsF
  hbt : tbl[bt]? = some bitsF
  hwd : tbl[wd]? = some (wdF f)
  hcs : tbl[cs]? = some (csF wd c5 c2)
  hrw : tbl[rw_]? = some (rwF f)
  hcm : tbl[cm]? = some (cmF rw_ c3)
  hwo : tbl[wo]? = some (woF wo)
  hdp : tbl[dp]? = some (dpF dp)
  hlt : tbl[lt]? = some (ltF lt)
  hmk : tbl[mks]? = some (marksF bt)
  hea : tbl[ea]? = some (goF eachC)
  hso : tbl[so]? = some (goF someC)
  hho : tbl[ho]? = some (hoF ho ea so)
  hnd : tbl[nd]? = some (ndF cs)
  hwi : tbl[wi]? = some (wiF wo cs)
  hdi : tbl[di]? = some (wiF dp cs)
  hli : tbl[li]? = some (liF lt cs)
  hnm : tbl[nm]? = some (nmF cw cm)
  hhg : tbl[hg]? = some (hgF cw cm cs sp ho ar mks)
  hhw : tbl[hw]? = some (hwF cw cm cs xw ho ar mks)
theorem run_xw {tbl : List Df} {L f x n k : Nat} (hf : tbl[f]? = some fromF) (hx : tbl[x]? = some (worldF f n)) {s : Int} {as : List Arr} {v : Int} (hv : 0 ≤ v ∧ v < s) : (run tbl L (k + 2)).run x [.d (webD s as), .d (.int v)] = .ok (.d (.int v), []) := by
  rw [run_succ hx]
  have h1 := run_from (tbl := tbl) (L := L) (n := k) hf v 0 (s - 1)
  have e : decide (0 ≤ v ∧ v ≤ s - 1) = true := decide_eq_true ⟨hv.1, by omega⟩
  rw [e] at h1
  have s0 : subD (webD s as) (.int 0) = some (.int s) := rfl
  generalize webD s as = W at *
  unfold runBody worldF worldB
  simp [ioOf, fill, putBack, outs, h1, s0]
namespace SayT
variable {tbl : List Df} (T : SayT tbl) {L n : Nat}
def satD (s : Nat) (as : List Arr) (ms : List (List Nat)) (a : Say) : Nat → Bool := sat s (bits as) (mkB ms) a
theorem chk {s : Int} {as : List Arr} (hn : 50 ≤ n) (h : WebOk s as) : (run tbl L n).run T.cw [.d (webD s as)] = .ok (.d (webD s as), []) := by
  obtain ⟨k, rfl⟩ : ∃ k, n = k + 4 := ⟨n - 4, by omega⟩
  exact run_chk T.hf T.ha T.hw_ T.hcw h
theorem mark {s : Nat} (hn : 50 ≤ n) (hs : s ≤ 200) {as : List Arr} {ms : List (List Nat)} (h : MarkOk s ms) : (run tbl L n).run T.cm [.d (webD (s : Int) as), .d (markD ms)] = .ok (.d (markD ms), []) := by
  obtain ⟨k, rfl⟩ : ∃ k, n = k + 3 := ⟨n - 3, by omega⟩
  exact run_cm T.hf T.hrw T.hcm hs h
theorem say (hn : 50 ≤ n) (hL : 400 < L) {a : Say} (ok : a.Ok) (dp : a.deep ≤ 40) (wd : a.words ≤ 400) : (run tbl L n).run T.cs [.d a.D] = .ok (.d a.D, []) := by
  obtain ⟨k, rfl⟩ : ∃ k, n = k + 3 := ⟨n - 3, by omega⟩
  exact run_cs T.hf T.hwd T.hcs hL ok dp wd
theorem arrs (hn : 50 ≤ n) {s : Nat} {as : List Arr} (h : WebOk (s : Int) as) : (run tbl L n).run T.ar [.d (webD s as)] = .ok (.d (arwD s (bits as)), []) := by
  obtain ⟨k, rfl⟩ : ∃ k, n = k + 1 := ⟨n - 1, by omega⟩
  exact run_arrs T.har h
theorem marks (hn : 50 ≤ n) {s : Nat} (hs : s ≤ 200) {ms : List (List Nat)} (h : MarkOk s ms) : (run tbl L n).run T.mks [.d (markD ms)] = .ok (Ob.ls (marksD s ms), []) := by
  obtain ⟨k, rfl⟩ : ∃ k, n = k + 2 := ⟨n - 2, by omega⟩
  exact run_marks T.hbt T.hmk hs h
theorem hold (hn : 50 ≤ n) {s : Nat} {as : List Arr} (h : WebOk (s : Int) as) (ms : List (List Nat)) {a : Say} (ok : a.Ok) (dp : a.deep ≤ 40) :
    (run tbl L n).run T.ho [.d (arwD s (bits as)), .d a.D, .d (.list (marksD s ms))] = .ok (.d (.int ((setN s (satD s as ms a) : Nat) : Int)), []) := by
  have := h.size
  exact run_holds T.hho T.hea T.hso ⟨by omega, by omega⟩ (fun w i => bits_lt h w i) ms n a ok (by omega)
theorem spots (hn : 50 ≤ n) (hL : 400 < L) {s : Nat} (hs : s ≤ 200) (p : Nat → Bool) : (run tbl L n).run T.sp [.d (.int ((setN s p : Nat) : Int))] = .ok (.d (.tuple (natsD ((List.range s).filter p))), []) := by
  obtain ⟨k, rfl⟩ : ∃ k, n = k + 1 := ⟨n - 1, by omega⟩
  rw [← ones_setN]
  exact run_spots T.hsp (setN_lt s p) (by omega) (by omega)
theorem holding (hn : 51 ≤ n) (hL : 400 < L) {s : Nat} {as : List Arr} (h : WebOk (s : Int) as) {ms : List (List Nat)} (hm : MarkOk s ms) {a : Say} (ok : a.Ok) (dp : a.deep ≤ 40) (wd : a.words ≤ 400) :
    (run tbl L n).run T.hg [.d (webD (s : Int) as), .d (markD ms), .d a.D] = .ok (.d (.tuple (natsD ((List.range s).filter (satD s as ms a)))), []) := by
  have hs := h.size
  obtain ⟨k, rfl⟩ : ∃ k, n = k + 1 := ⟨n - 1, by omega⟩
  have hk : 50 ≤ k := by omega
  exact run_hg T.hhg (T.chk hk h) (T.mark hk (by omega) hm) (T.say hk hL ok dp wd) (T.arrs hk h) (T.marks hk (by omega) hm) (T.hold hk h ms ok dp) (T.spots hk hL (by omega) _)
theorem holds (hn : 51 ≤ n) (hL : 400 < L) {s : Nat} {as : List Arr} (h : WebOk (s : Int) as) {ms : List (List Nat)} (hm : MarkOk s ms) {a : Say} (ok : a.Ok) (dp : a.deep ≤ 40) (wd : a.words ≤ 400) {v : Nat} (hv : v < s) :
    (run tbl L n).run T.hw [.d (webD (s : Int) as), .d (markD ms), .d a.D, .d (.int (v : Int))] = .ok (.d (.bool (satD s as ms a v)), []) := by
  have hs := h.size
  obtain ⟨k, rfl⟩ : ∃ k, n = k + 1 := ⟨n - 1, by omega⟩
  have hk : 50 ≤ k := by omega
  obtain ⟨k2, e⟩ : ∃ k2, k = k2 + 2 := ⟨k - 2, by omega⟩
  have x := run_xw (tbl := tbl) (L := L) (k := k2) T.hf T.hxw (s := (s : Int)) (as := as) (v := (v : Int)) ⟨by omega, by omega⟩
  rw [← e] at x
  have r := run_hw T.hhw (T.chk hk h) (T.mark hk (by omega) hm) (T.say hk hL ok dp wd) x (T.arrs hk h) (T.marks (L := L) hk (by omega) hm) (T.hold hk h ms ok dp)
  rw [setN_bit, decide_eq_true hv, Bool.true_and] at r
  exact r
theorem needMark (hn : 51 ≤ n) {s : Nat} {as : List Arr} (h : WebOk (s : Int) as) {ms : List (List Nat)} (hm : MarkOk s ms) : (run tbl L n).run T.nm [.d (webD (s : Int) as), .d (markD ms)] = .ok (.d (markD ms), []) := by
  have hs := h.size
  obtain ⟨k, rfl⟩ : ∃ k, n = k + 1 := ⟨n - 1, by omega⟩
  exact run_nm T.hnm (T.chk (by omega) h) (T.mark (by omega) (by omega) hm)
theorem needSay (hn : 51 ≤ n) (hL : 400 < L) {a : Say} (ok : a.Ok) (dp : a.deep ≤ 40) (wd : a.words ≤ 400) : (run tbl L n).run T.nd [.d a.D] = .ok (.d a.D, []) := by
  obtain ⟨k, rfl⟩ : ∃ k, n = k + 1 := ⟨n - 1, by omega⟩
  exact run_nd T.hnd (T.say (by omega) hL ok dp wd)
theorem wordsIn (hn : 51 ≤ n) (hL : 400 < L) {a : Say} (ok : a.Ok) (dp : a.deep ≤ 40) (wd : a.words ≤ 400) : (run tbl L n).run T.wi [.d a.D] = .ok (.d (.int (a.words : Int)), []) := by
  obtain ⟨k, rfl⟩ : ∃ k, n = k + 1 := ⟨n - 1, by omega⟩
  exact run_wi T.hwi (T.say (by omega) hL ok dp wd) (run_words T.hwo k a (by omega))
theorem deepIn (hn : 51 ≤ n) (hL : 400 < L) {a : Say} (ok : a.Ok) (dp : a.deep ≤ 40) (wd : a.words ≤ 400) : (run tbl L n).run T.di [.d a.D] = .ok (.d (.int (a.deep : Int)), []) := by
  obtain ⟨k, rfl⟩ : ∃ k, n = k + 1 := ⟨n - 1, by omega⟩
  exact run_wi T.hdi (T.say (by omega) hL ok dp wd) (run_deep T.hdp k a (by omega))
theorem lettersIn (hn : 51 ≤ n) (hL : 400 < L) {a : Say} (ok : a.Ok) (dp : a.deep ≤ 40) (wd : a.words ≤ 400) : (run tbl L n).run T.li [.d a.D] = .ok (.d (.tuple ((sortI a.lets).map PyData.int)), []) := by
  obtain ⟨k, rfl⟩ : ∃ k, n = k + 1 := ⟨n - 1, by omega⟩
  exact run_li T.hli (T.say (by omega) hL ok dp wd) (run_lets T.hlt k a (by omega) wd)
end SayT
end AM
/-! Sa20: the line of 200 worlds: the plain part. -/
namespace AM
open PySem PySem.Spec PyProof.Rows L2
def lineA : List Arr := (List.range 199).map fun i : Nat => ((1 : Int), (i : Int), (i : Int) + 1)
theorem line_ok : WebOk ((200 : Nat) : Int) lineA := by
  refine ⟨⟨by decide, by decide⟩, by unfold lineA; rw [List.length_map, List.length_range]; decide, fun p hp => ?_, ?_⟩
  · obtain ⟨i, hi, rfl⟩ := List.mem_map.mp hp
    have := List.mem_range.mp hi
    exact ⟨⟨by show (0 : Int) ≤ 1; decide, by show (1 : Int) ≤ 2; decide⟩, ⟨by show (0 : Int) ≤ (i : Int); omega, by show (i : Int) ≤ ((200 : Nat) : Int) - 1; omega⟩, ⟨by show (0 : Int) ≤ (i : Int) + 1; omega, by show (i : Int) + 1 ≤ ((200 : Nat) : Int) - 1; omega⟩⟩
  · unfold lineA
    rw [List.pairwise_map]
    exact List.pairwise_lt_range.imp fun {a b} h => .inr ⟨rfl, .inl (by show (a : Int) < (b : Int); omega)⟩
def nest (t : Int) : Nat → Say
  | 0 => .let_ 7
  | q + 1 => .way false t (nest t q)
theorem nest_ok {t : Int} (h : -3 ≤ t ∧ t ≤ 2) : ∀ q, (nest t q).Ok
  | 0 => by show 7 ≤ 7; decide
  | q + 1 => ⟨h, nest_ok h q⟩
theorem nest_deep (t : Int) : ∀ q, (nest t q).deep = q + 1
  | 0 => rfl
  | q + 1 => by rw [nest, Say.deep, nest_deep t q]; omega
theorem nest_words (t : Int) : ∀ q, (nest t q).words = q + 1
  | 0 => rfl
  | q + 1 => by rw [nest, Say.words, nest_words t q]; omega
def lineM (v : Nat) : List (List Nat) := [[], [], [], [], [], [], [], [v]]
theorem lineM_ok {v : Nat} (h : v < 200) : MarkOk 200 (lineM v) := by
  refine ⟨Nat.le_refl 8, fun l hl => ?_, fun l hl i hi => ?_⟩
  · unfold lineM at hl
    simp only [List.mem_cons, List.not_mem_nil, or_false] at hl
    rcases hl with rfl | rfl | rfl | rfl | rfl | rfl | rfl | rfl <;> simp
  · unfold lineM at hl
    simp only [List.mem_cons, List.not_mem_nil, or_false] at hl
    rcases hl with rfl | rfl | rfl | rfl | rfl | rfl | rfl | rfl <;> first | (cases hi; done) | (rw [List.mem_singleton.mp hi]; exact h)
theorem line_fwd {w : Nat} (hw : w < 200) (j : Nat) (hj : j < 200) : (bits lineA (rowOf 1) w).testBit j = decide (j = w + 1) := by
  rw [Bool.eq_iff_iff, decide_eq_true_iff]
  have fb := fars_bits line_ok (t := 1) (w := w) (by omega) hw (j : Int)
  have e1 : (j : Int) ∈ farsOf lineA 1 (w : Int) ↔ (bits lineA (rowOf 1) w).testBit j = true := by
    rw [fb]
    constructor
    · rintro ⟨i, _, h2, h3⟩
      have : i = j := by omega
      rw [← this]; exact h2
    · exact fun h => ⟨j, hj, h, rfl⟩
  rw [← e1, mem_fars]
  constructor
  · rintro ⟨p, hp, q⟩
    obtain ⟨i, hi, rfl⟩ := List.mem_map.mp hp
    rw [if_pos (by decide)] at q
    obtain ⟨_, q2, q3⟩ := q
    have q2 : (i : Int) = (w : Int) := q2
    have q3 : (i : Int) + 1 = (j : Int) := q3
    omega
  · rintro rfl
    refine ⟨_, List.mem_map.mpr ⟨w, List.mem_range.mpr (by omega), rfl⟩, ?_⟩
    rw [if_pos (by decide)]
    exact ⟨rfl, rfl, by show (w : Int) + 1 = ((w + 1 : Nat) : Int); omega⟩
theorem line_bck {w : Nat} (hw : w < 200) (j : Nat) (hj : j < 200) : (bits lineA (rowOf (-2)) w).testBit j = decide (j + 1 = w) := by
  rw [Bool.eq_iff_iff, decide_eq_true_iff]
  have fb := fars_bits line_ok (t := -2) (w := w) (by omega) hw (j : Int)
  have e1 : (j : Int) ∈ farsOf lineA (-2) (w : Int) ↔ (bits lineA (rowOf (-2)) w).testBit j = true := by
    rw [fb]
    constructor
    · rintro ⟨i, _, h2, h3⟩
      have : i = j := by omega
      rw [← this]; exact h2
    · exact fun h => ⟨j, hj, h, rfl⟩
  rw [← e1, mem_fars]
  constructor
  · rintro ⟨p, hp, q⟩
    obtain ⟨i, hi, rfl⟩ := List.mem_map.mp hp
    rw [if_neg (by decide)] at q
    obtain ⟨_, q2, q3⟩ := q
    have q2 : (i : Int) + 1 = (w : Int) := q2
    have q3 : (i : Int) = (j : Int) := q3
    omega
  · intro e
    subst e
    refine ⟨_, List.mem_map.mpr ⟨j, List.mem_range.mpr (by omega), rfl⟩, ?_⟩
    rw [if_neg (by decide)]
    exact ⟨rfl, by show (j : Int) + 1 = ((j + 1 : Nat) : Int); omega, rfl⟩
theorem line_mk (v w : Nat) : mkB (lineM v) 7 w = decide (w = v) := by
  unfold mkB lineM
  show decide (w ∈ [v]) = _
  rw [Bool.eq_iff_iff, decide_eq_true_iff, decide_eq_true_iff, List.mem_singleton]
theorem nest_fwd {v : Nat} (hv : v < 200) : ∀ (q w : Nat), w < 200 → sat 200 (bits lineA) (mkB (lineM v)) (nest 1 q) w = decide (w + q = v)
  | 0, w, hw => by rw [nest, sat_let, line_mk]; rfl
  | q + 1, w, hw => by
    rw [nest, sat_some, Bool.eq_iff_iff, List.any_eq_true, decide_eq_true_iff]
    constructor
    · rintro ⟨j, hj, e⟩
      have hj := List.mem_range.mp hj
      rw [line_fwd hw j hj, nest_fwd hv q j hj, Bool.and_eq_true, decide_eq_true_iff, decide_eq_true_iff] at e
      omega
    · intro e
      refine ⟨w + 1, List.mem_range.mpr (by omega), ?_⟩
      rw [line_fwd hw _ (by omega), nest_fwd hv q _ (by omega), Bool.and_eq_true, decide_eq_true_iff, decide_eq_true_iff]
      omega
theorem nest_bck {v : Nat} (hv : v < 200) : ∀ (q w : Nat), w < 200 → sat 200 (bits lineA) (mkB (lineM v)) (nest (-2) q) w = decide (w = v + q)
  | 0, w, hw => by rw [nest, sat_let, line_mk]; rfl
  | q + 1, w, hw => by
    rw [nest, sat_some, Bool.eq_iff_iff, List.any_eq_true, decide_eq_true_iff]
    constructor
    · rintro ⟨j, hj, e⟩
      have hj := List.mem_range.mp hj
      rw [line_bck hw j hj, nest_bck hv q j hj, Bool.and_eq_true, decide_eq_true_iff, decide_eq_true_iff] at e
      omega
    · intro e
      refine ⟨w - 1, List.mem_range.mpr (by omega), ?_⟩
      rw [line_bck hw _ (by omega), nest_bck hv q _ (by omega), Bool.and_eq_true, decide_eq_true_iff, decide_eq_true_iff]
      omega
theorem filter_at (n : Nat) (x : Nat) : (List.range n).filter (fun w => decide (w = x)) = if x < n then [x] else [] := by
  induction n with
  | zero => rfl
  | succ n ih =>
    rw [List.range_succ, List.filter_append, ih]
    by_cases h : x < n
    · rw [if_pos h, if_pos (by omega)]
      have : decide (n = x) = false := by rw [decide_eq_false_iff_not]; omega
      simp [this]
    · rw [if_neg h]
      by_cases h2 : n = x
      · subst h2
        rw [if_pos (by omega)]
        simp
      · rw [if_neg (by omega)]
        simp [h2]
/-- the worlds from which so many steps lead there -/
def seenL (t : Int) (v k : Nat) : List Int :=
  let x : Int := if t = 1 then (v : Int) - k else (v : Int) + k
  if 0 ≤ x ∧ x < 200 then [x] else []
theorem line_due {t : Int} (ht : t = 1 ∨ t = -2) {v : Nat} (hv : v < 200) (k : Nat) : natsD ((List.range 200).filter (sat 200 (bits lineA) (mkB (lineM v)) (nest t k))) = (seenL t v k).map PyData.int := by
  rcases ht with rfl | rfl
  · have e : (List.range 200).filter (sat 200 (bits lineA) (mkB (lineM v)) (nest 1 k)) = (List.range 200).filter fun w => decide (w + k = v) :=
      List.filter_congr fun w hw => nest_fwd hv k w (List.mem_range.mp hw)
    rw [e]
    unfold seenL
    rw [if_pos rfl]
    by_cases c : k ≤ v
    · have e2 : (List.range 200).filter (fun w => decide (w + k = v)) = (List.range 200).filter fun w => decide (w = v - k) :=
        List.filter_congr fun w hw => by rw [decide_eq_decide]; omega
      rw [e2, filter_at, if_pos (by omega), if_pos (by omega)]
      unfold natsD
      rw [List.map_cons, List.map_nil, List.map_cons, List.map_nil]
      have : ((v - k : Nat) : Int) = (v : Int) - k := by omega
      rw [this]
    · have e2 : (List.range 200).filter (fun w => decide (w + k = v)) = [] :=
        List.filter_eq_nil_iff.mpr fun w hw => by rw [decide_eq_true_iff]; omega
      rw [e2, if_neg (by omega)]
      rfl
  · have e : (List.range 200).filter (sat 200 (bits lineA) (mkB (lineM v)) (nest (-2) k)) = (List.range 200).filter fun w => decide (w = v + k) :=
      List.filter_congr fun w hw => nest_bck hv k w (List.mem_range.mp hw)
    rw [e, filter_at]
    unfold seenL
    rw [if_neg (show ¬ ((-2 : Int) = 1) by decide)]
    by_cases c : v + k < 200
    · rw [if_pos c, if_pos (by omega)]
      rfl
    · rw [if_neg c, if_neg (by omega)]
      rfl
end AM
/-! Sa21: _law_line. -/
namespace AM
open PySem PySem.Spec PyProof.Rows L2
def ln1C : Ex := .comp [6] (.name 6) (.rng (.cst (.int 199))) (.nil) (.tup (.cons (.cst (.int 1)) (.cons (.var 6) (.cons (.bin .add (.var 6) (.cst (.int 1))) .nil))))
def ln1 : Sm := .asg 1 (.tup (.cons (.cst (.int 200)) (.cons (.bi .tuple ln1C) .nil)))
def ln2 (d : Nat) : Sm := .par [2, 3, 4] (.cons (.tup (.cons (.cst (.str "letter")) (.cons (.cst (.int 7)) .nil))) (.cons (.bin .add (.cst (.int 1)) (.call d (.cons (.io 0) (.cons (.cst (.int 39)) (.nil))))) (.cons (.sub (.lst (.cons (.cst (.int 1)) (.cons (.neg (.cst (.int 2))) .nil))) (.call d (.cons (.io 0) (.cons (.cst (.int 2)) (.nil))))) .nil)))
def ln3L : Sms := .cons (.asg 2 (.tup (.cons (.cst (.str "some")) (.cons (.var 4) (.cons (.var 2) .nil))))) (.nil)
def ln3 : Sm := .for_ (.name 5) (.rng (.var 3)) ln3L
def ln4 (d : Nat) : Sm := .asg 6 (.call d (.cons (.io 0) (.cons (.cst (.int 200)) (.nil))))
def ln5 : Sm := .asg 7 (.tup (.cons (.tup (.nil)) (.cons (.tup (.nil)) (.cons (.tup (.nil)) (.cons (.tup (.nil)) (.cons (.tup (.nil)) (.cons (.tup (.nil)) (.cons (.tup (.nil)) (.cons (.tup (.cons (.var 6) .nil)) .nil)))))))))
def ln6 : Sm := .asg 8 (.ife (.cmp .eq (.var 4) (.cst (.int 1))) (.bin .sub (.var 6) (.var 3)) (.bin .add (.var 6) (.var 3)))
def ln7 : Sm := .asg 9 (.ife (.cmp2 .le .lt (.cst (.int 0)) (.var 8) (.cst (.int 200))) (.tup (.cons (.var 8) .nil)) (.tup (.nil)))
def ln8 (lk hg di : Nat) : Sm := .ret (.call lk (.cons (.lst (.cons (.call hg (.cons (.var 1) (.cons (.var 7) (.cons (.var 2) (.nil))))) (.cons (.call di (.cons (.var 2) (.nil))) .nil))) (.cons (.lst (.cons (.var 9) (.cons (.bin .add (.var 3) (.cst (.int 1))) .nil))) (.nil))))
def lnB (d lk hg di : Nat) : Sms := .cons ln1 (.cons (ln2 d) (.cons ln3 (.cons (ln4 d) (.cons ln5 (.cons ln6 (.cons ln7 (.cons (ln8 lk hg di) (.nil))))))))
def lnF (d lk hg di : Nat) : Df := ⟨10, 1, [0], lnB d lk hg di⟩
theorem two_at {v : Int} (h : 0 ≤ v) (h2 : v < 2) : ∃ t : Int, (t = 1 ∨ t = -2) ∧ subD (.list [.int 1, .int (-2)]) (.int v) = some (.int t) := by
  have : v = 0 ∨ v = 1 := by omega
  rcases this with rfl | rfl
  · exact ⟨1, .inl rfl, rfl⟩
  · exact ⟨-2, .inr rfl, rfl⟩
theorem fn_l2 {D W : Nat} {a b : Dt} (h : Fn D W a) (h2 : Fn D W b) : Fn (D + 1) (2 * (W + 1)) (.list [a, b]) :=
  fn_lst (ds := [a, b]) fun d hd => by
    simp only [List.mem_cons, List.not_mem_nil, or_false] at hd
    rcases hd with rfl | rfl
    · exact h
    · exact h2
section
variable {tbl : List Df} {L n m d l lk : Nat}
theorem ev_line {R : Fns} (s : DS) : ev R [0] ln1C [some s.ob, none, none, none, none, none, none, none, none, none] = .ok (Ob.ls (lineA.map arrD), [some s.ob, none, none, none, none, none, none, none, none, none]) := by
  have z3 : 3 ≤ sizeLine := by decide
  have hI : evI R [0] (.rng (.cst (.int 199))) [some s.ob, none, none, none, none, none, none, none, none, none] = .ok ((List.range 199).map (fun w : Nat => PyData.int (w : Int)), [some s.ob, none, none, none, none, none, none, none, none, none]) := by
    rw [← rng_ints]
    simp [wInt, rng_small (i := 199) ⟨by decide, by decide⟩]
  have c1 := comp_on (R := R) (pn := [0]) (own := [6]) (tg := .name 6) (it := .rng (.cst (.int 199))) (cs := .nil) (e := .tup (.cons (.cst (.int 1)) (.cons (.var 6) (.cons (.bin .add (.var 6) (.cst (.int 1))) .nil)))) (ρ := [some s.ob, none, none, none, none, none, none, none, none, none]) (ρ1 := [some s.ob, none, none, none, none, none, none, none, none, none]) (W := [some s.ob, none, none, none, none, none, none, none, none, none])
    (fun w : Nat => PyData.int (w : Int)) (List.range 199) (fun _ => true) (fun w => Ob.d (arrD ((1 : Int), (w : Int), (w : Int) + 1))) (fun w => [some s.ob, none, none, none, none, none, some (.d (.int (w : Int))), none, none, none]) hI ⟨rfl, rfl⟩ rfl rfl (fun _ _ => rfl) (fun _ _ => rfl) (fun _ _ => by simp)
    (fun w hw _ => by simp [arrD, z3]) (fun _ _ => rfl) rfl (by rw [List.length_range]; decide)
  rw [List.filter_eq_self.mpr fun _ _ => rfl] at c1
  have em : ((List.range 199).map fun w : Nat => Ob.d (arrD ((1 : Int), (w : Int), (w : Int) + 1))) = (lineA.map arrD).map Ob.d := by unfold lineA; rw [List.map_map, List.map_map]; rfl
  rw [em] at c1
  exact c1
theorem run_line (T : SayT tbl) (hm : tbl[m]? = some mixF) (hd : tbl[d]? = some (drawF m)) (hk : tbl[lk]? = some likeF) (hl : tbl[l]? = some (lnF d lk T.hg T.di)) (hL : 400 < L) {s : DS} {k : Nat} (ok : s.Ok k) (hkk : k + 10 < 2 ^ 59) (hn : 51 ≤ n) :
    ∃ s' : DS, (run tbl L (n + 1)).run l [s.ob] = .ok (.d (.bool true), [(0, s'.ob)]) ∧ s'.Ok (k + 3) := by
  rw [run_succ hl]
  obtain ⟨n2, rfl⟩ : ∃ n2, n = n2 + 2 := ⟨n - 2, by omega⟩
  obtain ⟨v1, s1, e1, a1, b1, ok1⟩ := run_draw (L := L) (n := n2) hm hd ok (by omega) (lim := 39) (by decide) (by decide)
  obtain ⟨v2, s2, e2, a2, b2, ok2⟩ := run_draw (L := L) (n := n2) hm hd ok1 (by omega) (lim := 2) (by decide) (by decide)
  obtain ⟨v3, s3, e3, a3, b3, ok3⟩ := run_draw (L := L) (n := n2) hm hd ok2 (by omega) (lim := 200) (by decide) (by decide)
  obtain ⟨K, hK⟩ : ∃ K : Nat, (1 : Int) + v1 = K := ⟨(1 + v1).toNat, by omega⟩
  obtain ⟨v, rfl⟩ : ∃ v : Nat, v3 = v := ⟨v3.toNat, by omega⟩
  obtain ⟨t, ht, et⟩ := two_at a2 b2
  have hv : v < 200 := by omega
  have tr : -3 ≤ t ∧ t ≤ 2 := by omega
  have c1 := ev_line (R := run tbl L (n2 + 2)) s
  have ho := T.holding (L := L) (n := n2 + 2) hn hL line_ok (lineM_ok hv) (nest_ok tr K) (by rw [nest_deep]; omega) (by rw [nest_words]; omega)
  have di := T.deepIn (L := L) (n := n2 + 2) hn hL (nest_ok tr K) (by rw [nest_deep]; omega) (by rw [nest_words]; omega)
  rw [nest_deep] at di
  unfold SayT.satD at ho
  rw [line_due ht hv K] at ho
  have sl : (seenL t v K).length ≤ 1 := by unfold seenL; dsimp only; split <;> split <;> simp
  have fs : Fn 1 11 (.tuple ((seenL t v K).map PyData.int)) := (fn_tup (D := 0) (W := 10) fun x hx => by
    obtain ⟨i, hi, rfl⟩ := List.mem_map.mp hx
    refine fn_int ?_
    unfold seenL at hi
    dsimp only at hi
    split at hi <;> split at hi <;> first | (cases hi; done) | (rw [List.mem_singleton.mp hi]; omega)).mono (Nat.le_refl _) (by rw [List.length_map]; omega)
  obtain ⟨tx, rt⟩ := repr_lst (ds := [.tuple ((seenL t v K).map PyData.int), .int ((K + 1 : Nat) : Int)]) ((fn_l2 fs ((fn_int (i := ((K + 1 : Nat) : Int)) ⟨by omega, by omega⟩).mono (by omega) (by omega))).mono (by omega) (by omega))
  have like := run_like (L := L) hk rt (k := n2 + 1)
  have wb : PyData.tuple [.int 200, .tuple (lineA.map arrD)] = webD ((200 : Nat) : Int) lineA := rfl
  have md : PyData.tuple [.tuple [], .tuple [], .tuple [], .tuple [], .tuple [], .tuple [], .tuple [], .tuple [.int (v : Int)]] = markD (lineM v) := rfl
  have n0 : PyData.tuple [.str "letter", .int 7] = (nest t 0).D := rfl
  have d7 : (if t = 1 then (v : Int) - (K : Int) else (v : Int) + (K : Int)) = (if t = 1 then (v : Int) - (K : Int) else (v : Int) + (K : Int)) := rfl
  -- the nesting
  have loop : forL (bindT [0] (.name 5)) (exs (run tbl L (n2 + 2)) L [0] ln3L) (rngD 0 K) [some s2.ob, some (.d (webD ((200 : Nat) : Int) lineA)), some (.d (nest t 0).D), some (.d (.int (K : Int))), some (.d (.int t)), none, none, none, none, none] = .ok (.nx [some s2.ob, some (.d (webD ((200 : Nat) : Int) lineA)), some (.d (nest t K).D), some (.d (.int (K : Int))), some (.d (.int t)), some (.d (.int ((K - 1 : Nat) : Int))), none, none, none, none]) := by
    obtain ⟨ρ', e, y, eρ, ey⟩ := forL_inv (bnd := bindT [0] (.name 5)) (b := exs (run tbl L (n2 + 2)) L [0] ln3L)
      (fun q ρ => ∃ y : Option Ob, ρ = [some s2.ob, some (.d (webD ((200 : Nat) : Int) lineA)), some (.d (nest t q).D), some (.d (.int (K : Int))), some (.d (.int t)), y, none, none, none, none] ∧ (q ≠ 0 → y = some (.d (.int ((q - 1 : Nat) : Int))))) (rngD 0 K) 0 [some s2.ob, some (.d (webD ((200 : Nat) : Int) lineA)), some (.d (nest t 0).D), some (.d (.int (K : Int))), some (.d (.int t)), none, none, none, none, none] ⟨none, rfl, fun h => absurd rfl h⟩ (fun q x ρ hx hρ => by
        obtain ⟨y, rfl, _⟩ := hρ
        obtain ⟨hq, rfl⟩ := rng_get hx
        rw [Nat.zero_add]
        have nx : (nest t (q + 1)).D = .tuple [.str "some", .int t, (nest t q).D] := rfl
        have z3 : 3 ≤ sizeLine := by decide
        refine ⟨[some s2.ob, some (.d (webD ((200 : Nat) : Int) lineA)), some (.d (nest t q).D), some (.d (.int (K : Int))), some (.d (.int t)), some (.d (.int (q : Int))), none, none, none, none], [some s2.ob, some (.d (webD ((200 : Nat) : Int) lineA)), some (.d (nest t (q + 1)).D), some (.d (.int (K : Int))), some (.d (.int t)), some (.d (.int (q : Int))), none, none, none, none], rfl, .inl ?_, _, rfl, fun _ => rfl⟩
        rw [nx]
        generalize (nest t q).D = A at *
        generalize webD ((200 : Nat) : Int) lineA = WB at *
        unfold ln3L
        simp [st, z3])
    rw [Nat.zero_add, rng_len] at eρ ey
    rw [e, eρ, ey (by omega)]
  have hI : evI (run tbl L (n2 + 2)) [0] (.rng (.var 3)) [some s2.ob, some (.d (webD ((200 : Nat) : Int) lineA)), some (.d (nest t 0).D), some (.d (.int (K : Int))), some (.d (.int t)), none, none, none, none, none] = .ok (rngD 0 K, [some s2.ob, some (.d (webD ((200 : Nat) : Int) lineA)), some (.d (nest t 0).D), some (.d (.int (K : Int))), some (.d (.int t)), none, none, none, none, none]) := by
    simp [wInt, rng_small (i := (K : Int)) ⟨by omega, by omega⟩]
  have f1 := ex_for_ (R := run tbl L (n2 + 2)) (L := L) (pn := [0]) (tg := .name 5) (b := ln3L) hI
  rw [loop] at f1
  have z1 : 1 ≤ sizeLine := by decide
  have z2 : 2 ≤ sizeLine := by decide
  have z3 : 3 ≤ sizeLine := by decide
  have z8 : 8 ≤ sizeLine := by decide
  have pl : (K : Int) + 1 = ((K + 1 : Nat) : Int) := by omega
  have due : ∀ x : Int, x = (if t = 1 then (v : Int) - (K : Int) else (v : Int) + (K : Int)) → PyData.tuple ((seenL t v K).map PyData.int) = if 0 ≤ x ∧ x < 200 then PyData.tuple [.int x] else .tuple [] := fun x hx => by
    subst hx
    unfold seenL
    dsimp only
    generalize (if t = 1 then (v : Int) - (K : Int) else (v : Int) + (K : Int)) = X
    by_cases c : 0 ≤ X ∧ X < 200
    · rw [if_pos c, if_pos c]; rfl
    · rw [if_neg c, if_neg c]; rfl
  have due := due _ rfl
  rw [← wb] at f1 ho
  rw [← n0] at f1
  refine ⟨s3, ?_, ok3⟩
  have body : ∃ ρ, exs (run tbl L (n2 + 2)) L [0] (lnB d lk T.hg T.di) [some s.ob, none, none, none, none, none, none, none, none, none] = .ok (.rt (.d (.bool true)) (some s3.ob :: ρ)) := by
    refine ⟨[some (.d (.tuple [.int 200, .tuple (lineA.map arrD)])), some (.d (nest t K).D), some (.d (.int (K : Int))), some (.d (.int t)), some (.d (.int ((K - 1 : Nat) : Int))), some (.d (.int (v : Int))), some (.d (markD (lineM v))), some (.d (.int (if t = 1 then (v : Int) - (K : Int) else (v : Int) + (K : Int)))), some (.d (.tuple ((seenL t v K).map PyData.int)))], ?_⟩
    generalize (nest t K).D = A at *
    generalize lineA.map arrD = V at *
    generalize ((K + 1 : Nat) : Int) = K1 at *
    generalize (seenL t v K).map PyData.int = SL at *
    rw [← md] at *
    unfold lnB
    refine exs_nx' (ρ1 := [some s.ob, some (.d (.tuple [.int 200, .tuple V])), none, none, none, none, none, none, none, none]) (by unfold ln1; simp [c1, st, z2]) ?_
    refine exs_nx' (ρ1 := [some s2.ob, some (.d (.tuple [.int 200, .tuple V])), some (.d (.tuple [.str "letter", .int 7])), some (.d (.int (K : Int))), some (.d (.int t)), none, none, none, none, none]) (by unfold ln2; simp [ioOf, fill, putBack, st, stAll, e1, e2, hK, et, z2]) ?_
    refine exs_nx' (ρ1 := [some s2.ob, some (.d (.tuple [.int 200, .tuple V])), some (.d A), some (.d (.int (K : Int))), some (.d (.int t)), some (.d (.int ((K - 1 : Nat) : Int))), none, none, none, none]) f1 ?_
    refine exs_nx' (ρ1 := [some s3.ob, some (.d (.tuple [.int 200, .tuple V])), some (.d A), some (.d (.int (K : Int))), some (.d (.int t)), some (.d (.int ((K - 1 : Nat) : Int))), some (.d (.int (v : Int))), none, none, none]) (by unfold ln4; simp [ioOf, fill, putBack, st, e3]) ?_
    refine exs_nx' (ρ1 := [some s3.ob, some (.d (.tuple [.int 200, .tuple V])), some (.d A), some (.d (.int (K : Int))), some (.d (.int t)), some (.d (.int ((K - 1 : Nat) : Int))), some (.d (.int (v : Int))), some (.d (.tuple [.tuple [], .tuple [], .tuple [], .tuple [], .tuple [], .tuple [], .tuple [], .tuple [.int (v : Int)]])), none, none]) (by unfold ln5; simp [st, z1, z8]) ?_
    refine exs_nx' (ρ1 := [some s3.ob, some (.d (.tuple [.int 200, .tuple V])), some (.d A), some (.d (.int (K : Int))), some (.d (.int t)), some (.d (.int ((K - 1 : Nat) : Int))), some (.d (.int (v : Int))), some (.d (.tuple [.tuple [], .tuple [], .tuple [], .tuple [], .tuple [], .tuple [], .tuple [], .tuple [.int (v : Int)]])), some (.d (.int (if t = 1 then (v : Int) - (K : Int) else (v : Int) + (K : Int)))), none]) (by
      unfold ln6
      by_cases c : t = 1
      · subst c; simp [st]
      · have : (t == 1) = false := by rw [beq_eq_false_iff_ne]; exact c
        simp [st, this, c]) ?_
    refine exs_nx' (ρ1 := [some s3.ob, some (.d (.tuple [.int 200, .tuple V])), some (.d A), some (.d (.int (K : Int))), some (.d (.int t)), some (.d (.int ((K - 1 : Nat) : Int))), some (.d (.int (v : Int))), some (.d (.tuple [.tuple [], .tuple [], .tuple [], .tuple [], .tuple [], .tuple [], .tuple [], .tuple [.int (v : Int)]])), some (.d (.int (if t = 1 then (v : Int) - (K : Int) else (v : Int) + (K : Int)))), some (.d (.tuple SL))]) (by
      unfold ln7
      rw [due]
      generalize (if t = 1 then (v : Int) - (K : Int) else (v : Int) + (K : Int)) = X at *
      by_cases h1 : 0 ≤ X <;> by_cases h2 : X < 200 <;> simp [st, z1, h1, h2]) ?_
    rw [exs_cons_53]
    generalize PyData.tuple [.tuple [], .tuple [], .tuple [], .tuple [], .tuple [], .tuple [], .tuple [], .tuple [.int (v : Int)]] = MD at *
    generalize PyData.tuple [.int 200, .tuple V] = WB at *
    generalize (if t = 1 then (v : Int) - (K : Int) else (v : Int) + (K : Int)) = X at *
    clear due f1 loop hI
    unfold ln8
    simp [ioOf, fill, putBack, z2, ho, di, pl, like]
  obtain ⟨ρ, body⟩ := body
  unfold runBody lnF
  simp [ioOf, fill, putBack, outs, body]
end
end AM
/-! Sa22: _law_right at drawn scenes; the law from its parts. -/
namespace AM
open PySem PySem.Spec PyProof.Rows L2
theorem fn_ints {l : List Int} (h : ∀ i ∈ l, -1000 < i ∧ i < 1000) (hl : l.length ≤ 1000) : Fn 1 11000 (.tuple (l.map PyData.int)) := by
  refine (fn_tup (D := 0) (W := 10) fun d hd => ?_).mono (Nat.le_refl _) (by rw [List.length_map]; omega)
  obtain ⟨i, hi, rfl⟩ := List.mem_map.mp hd
  exact fn_intZ (h i hi)
theorem lets_nn : ∀ (a : Say) (i : Int), i ∈ a.lets → 0 ≤ i
  | .let_ n, i, h => by rw [List.mem_singleton.mp h]; omega
  | .fix _, i, h => by cases h
  | .neg a, i, h => lets_nn a i h
  | .two _ a b, i, h => by
    rcases List.mem_append.mp h with h | h
    · exact lets_nn a i h
    · exact lets_nn b i h
  | .way _ _ a, i, h => lets_nn a i h
section
variable {tbl : List Df} {L n m d l lk : Nat}
theorem run_right (T : SayT tbl) {we md sy at_ ll inn sz : Nat} (hm : tbl[m]? = some mixF) (hd : tbl[d]? = some (drawF m)) (hk : tbl[lk]? = some likeF) (hwe : tbl[we]? = some (dwF d)) (hmd : tbl[md]? = some (mdF d)) (hsy : tbl[sy]? = some (dyF d sy)) (hll : tbl[ll]? = some llF) (hat : tbl[at_]? = some (laF at_ ll)) (hin : tbl[inn]? = some inF) (hsz : tbl[sz]? = some (szF sz inn))
    (hl : tbl[l]? = some (rtF we md sy at_ lk T.hg T.hw T.nm T.nd sz T.wi T.di T.li)) (hL : 400 < L) {s : DS} {k : Nat} (ok : s.Ok k) (hkk : k + 5000 < 2 ^ 59) (hn : 51 ≤ n) :
    ∃ s' : DS, (run tbl L (n + 1)).run l [s.ob] = .ok (.d (.bool true), [(0, s'.ob)]) ∧ s'.Ok (k + 5000) := by
  obtain ⟨n3, e3⟩ : ∃ n3, n = n3 + 3 := ⟨n - 3, by omega⟩
  obtain ⟨n7, e7⟩ : ∃ n7, n = n7 + 2 + 5 := ⟨n - 7, by omega⟩
  obtain ⟨n1, e1⟩ : ∃ n1, n = n1 + 1 := ⟨n - 1, by omega⟩
  obtain ⟨s1, z, as, h1, ok1, z4, wok, len⟩ := run_dw (L := L) (n := n3) hm hd hwe ok (M := 4) (by decide) (by omega)
  rw [← e3] at h1
  have hs := wok.size
  have zz : z * z ≤ 4 * 4 := Nat.mul_le_mul z4 z4
  obtain ⟨s2, ms, h2, ok2, mok, mlen⟩ := run_md (L := L) (n := n3) hm hd hmd ok1 (z := z) (by omega) (by omega)
  rw [← e3] at h2
  obtain ⟨s3, a, h3, ok3, da⟩ := run_dy (L := L) (n := n7) hm hd hsy (N := 5) (by decide) 5 s2 (k + 2000 + 2000) (by decide) ok2 (by omega)
  rw [← e7] at h3
  have dd := da.deep
  have dw := da.words
  have w32 : a.words ≤ 400 := by have : (2 : Nat) ^ 5 = 32 := rfl; omega
  have h4 := fun (w : Nat) (hw : w < z) => run_at (L := L) hat hll wok ms (by omega) n a w da.ok (by omega) hw
  have h5 := T.holding (L := L) (n := n) hn hL wok mok da.ok (by omega) w32
  have h6 := fun (w : Nat) (hw : w < z) => T.holds (L := L) (n := n) hn hL wok mok da.ok (by omega) w32 hw
  have h7 := T.needMark (L := L) hn wok mok
  have h8 := T.needSay (L := L) hn hL da.ok (by omega) w32
  have h9 := run_sz (L := L) hsz hin n a (by omega) w32
  have ll := lets_len a
  have h10 : biD .sset (.list (a.lets.map PyData.int)) = some (Ob.ls ((sortI a.lets).map PyData.int)) := by
    show ((setD _).bind sortD).map Ob.ls = _
    rw [sset_int (by omega)]
    rfl
  have h11 := T.wordsIn (L := L) hn hL da.ok (by omega) w32
  have h12 := T.deepIn (L := L) hn hL da.ok (by omega) w32
  have h13 := T.lettersIn (L := L) hn hL da.ok (by omega) w32
  have fl := List.length_filter_le (SayT.satD z as ms a) (List.range z)
  rw [List.length_range] at fl
  obtain ⟨t1, r1⟩ := repr_tup ((fn_nats (l := (List.range z).filter (SayT.satD z as ms a)) (fun i hi => by have := List.mem_range.mp (List.mem_filter.mp hi).1; omega) (by omega)).mono (by decide) (by decide))
  obtain ⟨t2, r2⟩ := repr_lst (ds := (List.range z).map fun w => PyData.bool (SayT.satD z as ms a w)) ((fn_lst (D := 0) (W := 0) fun x hx => by
    obtain ⟨i, _, rfl⟩ := List.mem_map.mp hx
    exact fn_bool _).mono (by decide) (by rw [List.length_map, List.length_range]; omega))
  obtain ⟨t3, r3⟩ := repr_lst (ds := [markD ms, a.D]) ((fn_l2 (D := 40) (W := 100000) ((fn_mark (by omega) mok).mono (by decide) (by decide)) ((fn_say da.ok).mono (by omega) (by omega))).mono (by decide) (by decide))
  have sl := sortI_len a.lets
  obtain ⟨t4, r4⟩ := repr_lst (ds := [.int (a.words : Int), .int (a.deep : Int), .tuple ((sortI a.lets).map PyData.int)]) ((fn_lst (D := 1) (W := 11000) fun x hx => by
    simp only [List.mem_cons, List.not_mem_nil, or_false] at hx
    rcases hx with rfl | rfl | rfl
    · exact (fn_int (i := (a.words : Int)) ⟨by omega, by omega⟩).mono (by decide) (by decide)
    · exact (fn_int (i := (a.deep : Int)) ⟨by omega, by omega⟩).mono (by decide) (by decide)
    · refine fn_ints (fun i hi => ?_) (by omega)
      have := da.lets i (mem_sortI.mp hi)
      have := lets_nn a i (mem_sortI.mp hi)
      omega).mono (by decide) (show 3 * (11000 + 1) ≤ 1048576 by decide))
  have k1 := run_like (L := L) hk r1 (k := n1)
  have k2 := run_like (L := L) hk r2 (k := n1)
  have k3 := run_like (L := L) hk r3 (k := n1)
  have k4 := run_like (L := L) hk r4 (k := n1)
  rw [← e1] at k1 k2 k3 k4
  have w0 : subD (webD (z : Int) as) (.int 0) = some (.int (z : Int)) := rfl
  unfold szD at h9
  exact ⟨s3, run_rt hl (by omega) h1 w0 h2 h3 h4 h5 h6 h7 h8 h9 h10 h11 h12 h13 k1 k2 k3 k4, ok3.mono (by omega)⟩
/-! the law -/
def l1L (rt : Nat) : Sms := .cons (.ife (.not (.call rt (.cons (.io 1) (.nil)))) no_ (.nil)) (.nil)
def l1a : Sm := .par [3, 4] (.cons (.tup (.cons (.cst (.int 1)) (.cons (.tup (.nil)) .nil))) (.cons (.tup (.cons (.tup (.cons (.cst (.int 0)) .nil)) (.cons (.tup (.nil)) (.cons (.tup (.cons (.cst (.int 0)) .nil)) (.cons (.tup (.nil)) (.cons (.tup (.cons (.cst (.int 0)) .nil)) (.cons (.tup (.nil)) (.cons (.tup (.cons (.cst (.int 0)) .nil)) (.cons (.tup (.nil)) .nil))))))))) .nil))
def l1b : Sm := .par [5, 6] (.cons (.tup (.cons (.cst (.str "each")) (.cons (.neg (.cst (.int 1))) (.cons (.tup (.cons (.cst (.str "no")) .nil)) .nil)))) (.cons (.tup (.cons (.cst (.str "some")) (.cons (.cst (.int 2)) (.cons (.tup (.cons (.cst (.str "yes")) .nil)) .nil)))) .nil))
def l1c (hg : Nat) : Sm := .asg 7 (.lst (.cons (.call hg (.cons (.var 3) (.cons (.var 4) (.cons (.var 5) (.nil))))) (.cons (.call hg (.cons (.var 3) (.cons (.var 4) (.cons (.var 6) (.nil))))) (.cons (.call hg (.cons (.var 3) (.cons (.tup (.nil)) (.cons (.tup (.cons (.cst (.str "gives")) (.cons (.tup (.cons (.cst (.str "letter")) (.cons (.cst (.int 0)) .nil))) (.cons (.tup (.cons (.cst (.str "no")) .nil)) .nil)))) (.nil))))) .nil))))
def l1d (hg li : Nat) : Sm := .asg 7 (.bin .add (.var 7) (.lst (.cons (.call hg (.cons (.var 3) (.cons (.var 4) (.cons (.tup (.cons (.cst (.str "and")) (.cons (.tup (.cons (.cst (.str "letter")) (.cons (.cst (.int 6)) .nil))) (.cons (.tup (.cons (.cst (.str "not")) (.cons (.tup (.cons (.cst (.str "letter")) (.cons (.cst (.int 7)) .nil))) .nil))) .nil)))) (.nil))))) (.cons (.call li (.cons (.tup (.cons (.cst (.str "yes")) .nil)) (.nil))) .nil))))
def l1e (lk : Nat) : Sm := .ret (.call lk (.cons (.var 7) (.cons (.lst (.cons (.tup (.cons (.cst (.int 0)) .nil)) (.cons (.tup (.nil)) (.cons (.tup (.cons (.cst (.int 0)) .nil)) (.cons (.tup (.cons (.cst (.int 0)) .nil)) (.cons (.tup (.nil)) .nil)))))) (.nil))))
def l1B (bg rt ln lk hg li : Nat) : Sms := .cons (.asg 1 (.call bg (.cons (.var 0) (.nil)))) (.cons (.for_ (.name 2) (.rng (.cst (.int 4))) (l1L rt)) (.cons (.ife (.not (.call ln (.cons (.io 1) (.nil)))) no_ (.nil)) (.cons l1a (.cons l1b (.cons (l1c hg) (.cons (l1d hg li) (.cons (l1e lk) (.nil))))))))
def l1F (bg rt ln lk hg li : Nat) : Df := ⟨8, 1, [], l1B bg rt ln lk hg li⟩
theorem bare_ok : WebOk ((1 : Nat) : Int) [] := ⟨⟨by decide, by decide⟩, Nat.zero_le _, fun p hp => (by cases hp), .nil⟩
def rowM : List (List Nat) := [[0], [], [0], [], [0], [], [0], []]
theorem rowM_ok : MarkOk 1 rowM := by
  refine ⟨Nat.le_refl 8, fun l hl => ?_, fun l hl i hi => ?_⟩
  · unfold rowM at hl
    simp only [List.mem_cons, List.not_mem_nil, or_false] at hl
    rcases hl with rfl | rfl | rfl | rfl | rfl | rfl | rfl | rfl <;> simp
  · unfold rowM at hl
    simp only [List.mem_cons, List.not_mem_nil, or_false] at hl
    rcases hl with rfl | rfl | rfl | rfl | rfl | rfl | rfl | rfl <;> first | (cases hi; done) | (rw [List.mem_singleton.mp hi]; decide)
theorem noM_ok : MarkOk 1 [] := ⟨Nat.zero_le _, fun l hl => (by cases hl), fun l hl => (by cases hl)⟩
theorem by1 : (List.range 1).filter (SayT.satD 1 [] rowM (.way true (-1) (.fix false))) = [0] := by decide +kernel
theorem by2 : (List.range 1).filter (SayT.satD 1 [] rowM (.way false 2 (.fix true))) = [] := by decide +kernel
theorem by3 : (List.range 1).filter (SayT.satD 1 [] [] (.two .gives (.let_ 0) (.fix false))) = [0] := by decide +kernel
theorem by4 : (List.range 1).filter (SayT.satD 1 [] rowM (.two .and (.let_ 6) (.neg (.let_ 7)))) = [0] := by decide +kernel
theorem five_text : Fn 2 64 (.list [.tuple [.int 0], .tuple [], .tuple [.int 0], .tuple [.int 0], .tuple []]) := ⟨by decide +kernel, by decide +kernel, by decide +kernel, by decide +kernel, by decide +kernel, by decide +kernel⟩
theorem use7_frz {o : Ob} {x : Dt} (h : frz o = some x) (a b c d e f g : Option Ob) (ρ : Env) : use (a :: b :: c :: d :: e :: f :: g :: some o :: ρ) 7 = some (x, a :: b :: c :: d :: e :: f :: g :: some (.d x) :: ρ) := by
  cases o with
  | d y => cases h; rfl
  | _ =>
    unfold use
    simp only [getS, get0]
    rw [h]
    rfl
theorem run_law1 (T : SayT tbl) {bg rt ln : Nat} (hb : tbl[bg]? = some beginF) (hk : tbl[lk]? = some likeF) (hl : tbl[l]? = some (l1F bg rt ln lk T.hg T.li)) (hL : 400 < L) {N : Nat} (hN : 51 ≤ N)
    (hrt : ∀ {s : DS} {k : Nat}, s.Ok k → k + 5000 < 2 ^ 59 → ∃ s' : DS, (run tbl L N).run rt [s.ob] = .ok (.d (.bool true), [(0, s'.ob)]) ∧ s'.Ok (k + 5000))
    (hln : ∀ {s : DS} {k : Nat}, s.Ok k → k + 10 < 2 ^ 59 → ∃ s' : DS, (run tbl L N).run ln [s.ob] = .ok (.d (.bool true), [(0, s'.ob)]) ∧ s'.Ok (k + 3)) {ns : List Int} (hz : ns.length ≤ 63) :
    (run tbl L (N + 1)).run l [.d (scr ns)] = .ok (.d (.bool true), []) := by
  rw [run_succ hl]
  obtain ⟨n1, rfl⟩ : ∃ n1, N = n1 + 1 := ⟨N - 1, by omega⟩
  obtain ⟨t0, e0, ok0⟩ := run_begin (L := L) (n := n1) hb hz
  obtain ⟨ρ', lp, t', x2, eρ, ok'⟩ := forL_inv (bnd := bindT [] (.name 2)) (b := exs (run tbl L (n1 + 1)) L [] (l1L rt)) (fun q ρ => ∃ (t' : DS) (x2 : Option Ob), ρ = [some (.d (scr ns)), some t'.ob, x2, none, none, none, none, none] ∧ t'.Ok (q * 5000)) (rngD 0 4) 0 [some (.d (scr ns)), some t0.ob, none, none, none, none, none, none] ⟨t0, none, rfl, ok0⟩ (fun q x ρ hx hρ => by
    obtain ⟨t1, x2, rfl, ok1⟩ := hρ
    obtain ⟨hq, rfl⟩ := rng_get hx
    rw [Nat.zero_add] at ok1 ⊢
    obtain ⟨t2, e2, ok2⟩ := hrt ok1 (by omega)
    refine ⟨[some (.d (scr ns)), some t1.ob, some (.d (.int (q : Int))), none, none, none, none, none], [some (.d (scr ns)), some t2.ob, some (.d (.int (q : Int))), none, none, none, none, none], rfl, .inl ?_, t2, _, rfl, ok2.mono (by omega)⟩
    unfold l1L
    generalize scr ns = S at *
    simp [ioOf, fill, putBack, e2])
  rw [Nat.zero_add, rng_len] at ok'
  obtain ⟨t2, e2, ok2⟩ := hln ok' (by omega)
  have eI : evI (run tbl L (n1 + 1)) [] (.rng (.cst (.int 4))) [some (.d (scr ns)), some t0.ob, none, none, none, none, none, none] = .ok (rngD 0 4, [some (.d (scr ns)), some t0.ob, none, none, none, none, none, none]) := by
    simp [wInt, rng_small (i := 4) ⟨by decide, by decide⟩]
  have f1 := ex_for_ (R := run tbl L (n1 + 1)) (L := L) (pn := []) (tg := .name 2) (b := l1L rt) eI
  rw [lp, eρ] at f1
  have q1 := T.holding (L := L) hN hL bare_ok rowM_ok (a := .way true (-1) (.fix false)) ⟨⟨by decide, by decide⟩, trivial⟩ (by decide) (by decide)
  have q2 := T.holding (L := L) hN hL bare_ok rowM_ok (a := .way false 2 (.fix true)) ⟨⟨by decide, by decide⟩, trivial⟩ (by decide) (by decide)
  have q3 := T.holding (L := L) hN hL bare_ok noM_ok (a := .two .gives (.let_ 0) (.fix false)) ⟨Nat.zero_le _, trivial⟩ (by decide) (by decide)
  have q4 := T.holding (L := L) hN hL bare_ok rowM_ok (a := .two .and (.let_ 6) (.neg (.let_ 7))) ⟨by show 6 ≤ 7; decide, by show 7 ≤ 7; decide⟩ (by decide) (by decide)
  have q5 := T.lettersIn (L := L) hN hL (a := .fix true) trivial (by decide) (by decide)
  rw [by1] at q1
  rw [by2] at q2
  rw [by3] at q3
  rw [by4] at q4
  have s0 : sortI (Say.fix true).lets = [] := by decide +kernel
  rw [s0] at q5
  have wb : webD ((1 : Nat) : Int) [] = .tuple [.int 1, .tuple []] := rfl
  have rm : markD rowM = .tuple [.tuple [.int 0], .tuple [], .tuple [.int 0], .tuple [], .tuple [.int 0], .tuple [], .tuple [.int 0], .tuple []] := rfl
  have nm : markD [] = .tuple [] := rfl
  have d1 : (Say.way true (-1) (.fix false)).D = .tuple [.str "each", .int (-1), .tuple [.str "no"]] := rfl
  have d2 : (Say.way false 2 (.fix true)).D = .tuple [.str "some", .int 2, .tuple [.str "yes"]] := rfl
  have d3 : (Say.two .gives (.let_ 0) (.fix false)).D = .tuple [.str "gives", .tuple [.str "letter", .int 0], .tuple [.str "no"]] := rfl
  have d4 : (Say.two .and (.let_ 6) (.neg (.let_ 7))).D = .tuple [.str "and", .tuple [.str "letter", .int 6], .tuple [.str "not", .tuple [.str "letter", .int 7]]] := rfl
  have d5 : (Say.fix true).D = .tuple [.str "yes"] := rfl
  have n1_ : natsD [0] = [.int 0] := rfl
  have n0_ : natsD [] = [] := rfl
  rw [wb, rm, d1, n1_] at q1
  rw [wb, rm, d2, n0_] at q2
  rw [wb, nm, d3, n1_] at q3
  rw [wb, rm, d4, n1_] at q4
  rw [d5, List.map_nil] at q5
  obtain ⟨tx, r⟩ := repr_lst (five_text.mono (by decide) (by decide))
  have like := run_like (L := L) hk r (k := n1)
  clear wb rm nm d1 d2 d3 d4 d5 n1_ n0_ s0 r eI lp eρ
  have z1 : 1 ≤ sizeLine := by decide
  have z2 : 2 ≤ sizeLine := by decide
  have z3 : 3 ≤ sizeLine := by decide
  have z5 : 5 ≤ sizeLine := by decide
  have z8 : 8 ≤ sizeLine := by decide
  have u3 := fun (a b c d e f g : Option Ob) (ρ : Env) => use7_frz (o := Ob.lst [.d (.tuple [.int 0]), .d (.tuple []), .d (.tuple [.int 0])]) (x := .list [.tuple [.int 0], .tuple [], .tuple [.int 0]]) rfl a b c d e f g ρ
  have u5 := fun (a b c d e f g : Option Ob) (ρ : Env) => use7_frz (o := Ob.lst [.d (.tuple [.int 0]), .d (.tuple []), .d (.tuple [.int 0]), .d (.tuple [.int 0]), .d (.tuple [])]) (x := .list [.tuple [.int 0], .tuple [], .tuple [.int 0], .tuple [.int 0], .tuple []]) rfl a b c d e f g ρ
  have ad := bin_addL (xs := [.tuple [.int 0], .tuple [], .tuple [.int 0]]) (ys := [.tuple [.int 0], .tuple []]) (by decide)
  have ad : binD .add (.list [.tuple [.int 0], .tuple [], .tuple [.int 0]]) (.list [.tuple [.int 0], .tuple []]) = some (Ob.lst [.d (.tuple [.int 0]), .d (.tuple []), .d (.tuple [.int 0]), .d (.tuple [.int 0]), .d (.tuple [])]) := ad
  have fl : ∀ ρ : Env, (Res.ok (Ob.lst [.d (.tuple [.int 0]), .d (.tuple []), .d (.tuple [.int 0]), .d (.tuple [.int 0]), .d (.tuple [])], ρ)).toD = .ok (.list [.tuple [.int 0], .tuple [], .tuple [.int 0], .tuple [.int 0], .tuple []], ρ) := fun _ => rfl
  generalize scr ns = S at *
  have body : ∃ ρ, exs (run tbl L (n1 + 1)) L [] (l1B bg rt ln lk T.hg T.li) [some (.d S), none, none, none, none, none, none, none] = .ok (.rt (.d (.bool true)) ρ) := by
    refine ⟨[some (.d S), some t2.ob, x2, some (.d (.tuple [.int 1, .tuple []])), some (.d (.tuple [.tuple [.int 0], .tuple [], .tuple [.int 0], .tuple [], .tuple [.int 0], .tuple [], .tuple [.int 0], .tuple []])), some (.d (.tuple [.str "each", .int (-1), .tuple [.str "no"]])), some (.d (.tuple [.str "some", .int 2, .tuple [.str "yes"]])), some (.d (.list [.tuple [.int 0], .tuple [], .tuple [.int 0], .tuple [.int 0], .tuple []]))], ?_⟩
    unfold l1B
    refine exs_nx' (ρ1 := [some (.d S), some t0.ob, none, none, none, none, none, none]) (by simp [ioOf, fill, putBack, e0, st]) ?_
    refine exs_nx' (ρ1 := [some (.d S), some t'.ob, x2, none, none, none, none, none]) f1 ?_
    refine exs_nx' (ρ1 := [some (.d S), some t2.ob, x2, none, none, none, none, none]) (by simp [ioOf, fill, putBack, e2]) ?_
    refine exs_nx' (ρ1 := [some (.d S), some t2.ob, x2, some (.d (.tuple [.int 1, .tuple []])), some (.d (.tuple [.tuple [.int 0], .tuple [], .tuple [.int 0], .tuple [], .tuple [.int 0], .tuple [], .tuple [.int 0], .tuple []])), none, none, none]) (by unfold l1a; simp [st, stAll, z1, z2, z8]) ?_
    refine exs_nx' (ρ1 := [some (.d S), some t2.ob, x2, some (.d (.tuple [.int 1, .tuple []])), some (.d (.tuple [.tuple [.int 0], .tuple [], .tuple [.int 0], .tuple [], .tuple [.int 0], .tuple [], .tuple [.int 0], .tuple []])), some (.d (.tuple [.str "each", .int (-1), .tuple [.str "no"]])), some (.d (.tuple [.str "some", .int 2, .tuple [.str "yes"]])), none]) (by unfold l1b; simp [st, stAll, z1, z2, z3]) ?_
    generalize PyData.tuple [.tuple [.int 0], .tuple [], .tuple [.int 0], .tuple [], .tuple [.int 0], .tuple [], .tuple [.int 0], .tuple []] = RM at *
    generalize PyData.tuple [.int 1, .tuple []] = WB at *
    generalize PyData.tuple [.str "each", .int (-1), .tuple [.str "no"]] = A1 at *
    generalize PyData.tuple [.str "some", .int 2, .tuple [.str "yes"]] = A2 at *
    refine exs_nx' (ρ1 := [some (.d S), some t2.ob, x2, some (.d WB), some (.d RM), some (.d A1), some (.d A2), some (.lst [.d (.tuple [.int 0]), .d (.tuple []), .d (.tuple [.int 0])])]) (by unfold l1c; simp [ioOf, fill, putBack, q1, q2, q3, st, z1, z2, z3]) ?_
    refine exs_nx' (ρ1 := [some (.d S), some t2.ob, x2, some (.d WB), some (.d RM), some (.d A1), some (.d A2), some (.lst [.d (.tuple [.int 0]), .d (.tuple []), .d (.tuple [.int 0]), .d (.tuple [.int 0]), .d (.tuple [])])]) (by unfold l1d; simp [ioOf, fill, putBack, u3, q4, q5, ad, st, z1, z2, z3]) ?_
    rw [exs_cons_53]
    unfold l1e
    simp [ioOf, fill, putBack, u5, fl, like, z1, z5]
  obtain ⟨ρ, body⟩ := body
  unfold runBody l1F
  simp [ioOf, fill, putBack, outs, body]
end
end AM
/-! the terms of the defs of anymarks_k01_where_sayings_hold, and that each body comes to its term (printed by gen.py) -/
namespace AM
open PySem PySem.Spec PyProof.Rows L2
def topS (i : Nat) : Stmt := PySem.Challenge.pw_anymarks_k01_where_sayings_hold.main.body.getD i (.Pass ⟨0, 0, 0, 0⟩)
def tb_PARTS : List (Str × Dt) := [("letter", .tuple []), ("yes", .tuple []), ("no", .tuple []), ("not", .tuple [.int 1]), ("and", .tuple [.int 1, .int 2]), ("or", .tuple [.int 1, .int 2]), ("gives", .tuple [.int 1, .int 2]), ("each", .tuple [.int 2]), ("some", .tuple [.int 2]), ("here", .tuple [])]
def tb_SIZES : List (Str × Dt) := [("letter", .int 2), ("yes", .int 1), ("no", .int 1), ("not", .int 2), ("and", .int 3), ("or", .int 3), ("gives", .int 3), ("each", .int 3), ("some", .int 3)]
def frL : Frs := ⟨["bool", "enumerate", "int", "isinstance", "len", "list", "max", "range", "repr", "reversed", "set", "sorted", "str", "sum", "tuple", "zip"], [], [("PARTS", tb_PARTS), ("SIZES", tb_SIZES)]⟩
def fsL : List (Nat × Str) := (0, "is_from") :: (1, "is_arrow") :: (2, "is_web") :: (3, "check_web") :: (4, "check_world") :: (5, "arrows_so") :: (6, "spots_so") :: (7, "bits_so") :: (8, "is_worded") :: (9, "check_saying") :: (10, "is_row_of") :: (11, "check_marking") :: (12, "words_so") :: (13, "deep_so") :: (14, "letters_so") :: (15, "marks_so") :: (16, "each_so") :: (17, "some_so") :: (18, "holds_so") :: (19, "need_saying") :: (20, "words_in") :: (21, "deep_in") :: (22, "letters_in") :: (23, "need_marking") :: (24, "holding") :: (25, "holds") :: (26, "_law_mixed") :: (27, "_law_begin") :: (28, "_law_draw") :: (29, "_law_web") :: (30, "_law_saying") :: (31, "_law_led") :: (32, "_law_at") :: (33, "_law_inner") :: (34, "_law_sizes") :: (35, "_law_like") :: (36, "_law_marked") :: (37, "_law_right") :: (38, "_law_line") :: (39, "law") :: []
theorem b_bool : ("bool" : Str) ∈ frL := by show ("bool" : Str) ∈ frL.ns; simp [frL]
theorem b_enumerate : ("enumerate" : Str) ∈ frL := by show ("enumerate" : Str) ∈ frL.ns; simp [frL]
theorem b_int : ("int" : Str) ∈ frL := by show ("int" : Str) ∈ frL.ns; simp [frL]
theorem b_isinstance : ("isinstance" : Str) ∈ frL := by show ("isinstance" : Str) ∈ frL.ns; simp [frL]
theorem b_len : ("len" : Str) ∈ frL := by show ("len" : Str) ∈ frL.ns; simp [frL]
theorem b_list : ("list" : Str) ∈ frL := by show ("list" : Str) ∈ frL.ns; simp [frL]
theorem b_max : ("max" : Str) ∈ frL := by show ("max" : Str) ∈ frL.ns; simp [frL]
theorem b_range : ("range" : Str) ∈ frL := by show ("range" : Str) ∈ frL.ns; simp [frL]
theorem b_repr : ("repr" : Str) ∈ frL := by show ("repr" : Str) ∈ frL.ns; simp [frL]
theorem b_reversed : ("reversed" : Str) ∈ frL := by show ("reversed" : Str) ∈ frL.ns; simp [frL]
theorem b_set : ("set" : Str) ∈ frL := by show ("set" : Str) ∈ frL.ns; simp [frL]
theorem b_sorted : ("sorted" : Str) ∈ frL := by show ("sorted" : Str) ∈ frL.ns; simp [frL]
theorem b_str : ("str" : Str) ∈ frL := by show ("str" : Str) ∈ frL.ns; simp [frL]
theorem b_sum : ("sum" : Str) ∈ frL := by show ("sum" : Str) ∈ frL.ns; simp [frL]
theorem b_tuple : ("tuple" : Str) ∈ frL := by show ("tuple" : Str) ∈ frL.ns; simp [frL]
theorem b_zip : ("zip" : Str) ∈ frL := by show ("zip" : Str) ∈ frL.ns; simp [frL]
theorem t_PARTS : (("PARTS", tb_PARTS) : Str × List (Str × Dt)) ∈ frL.tb := by simp [frL]
theorem t_SIZES : (("SIZES", tb_SIZES) : Str × List (Str × Dt)) ∈ frL.tb := by simp [frL]
theorem m_is_from : ((0, "is_from") : Nat × Str) ∈ fsL := by simp [fsL]
theorem m_is_arrow : ((1, "is_arrow") : Nat × Str) ∈ fsL := by simp [fsL]
theorem m_is_web : ((2, "is_web") : Nat × Str) ∈ fsL := by simp [fsL]
theorem m_check_web : ((3, "check_web") : Nat × Str) ∈ fsL := by simp [fsL]
theorem m_check_world : ((4, "check_world") : Nat × Str) ∈ fsL := by simp [fsL]
theorem m_arrows_so : ((5, "arrows_so") : Nat × Str) ∈ fsL := by simp [fsL]
theorem m_spots_so : ((6, "spots_so") : Nat × Str) ∈ fsL := by simp [fsL]
theorem m_bits_so : ((7, "bits_so") : Nat × Str) ∈ fsL := by simp [fsL]
theorem m_is_worded : ((8, "is_worded") : Nat × Str) ∈ fsL := by simp [fsL]
theorem m_check_saying : ((9, "check_saying") : Nat × Str) ∈ fsL := by simp [fsL]
theorem m_is_row_of : ((10, "is_row_of") : Nat × Str) ∈ fsL := by simp [fsL]
theorem m_check_marking : ((11, "check_marking") : Nat × Str) ∈ fsL := by simp [fsL]
theorem m_words_so : ((12, "words_so") : Nat × Str) ∈ fsL := by simp [fsL]
theorem m_deep_so : ((13, "deep_so") : Nat × Str) ∈ fsL := by simp [fsL]
theorem m_letters_so : ((14, "letters_so") : Nat × Str) ∈ fsL := by simp [fsL]
theorem m_marks_so : ((15, "marks_so") : Nat × Str) ∈ fsL := by simp [fsL]
theorem m_each_so : ((16, "each_so") : Nat × Str) ∈ fsL := by simp [fsL]
theorem m_some_so : ((17, "some_so") : Nat × Str) ∈ fsL := by simp [fsL]
theorem m_holds_so : ((18, "holds_so") : Nat × Str) ∈ fsL := by simp [fsL]
theorem m_need_saying : ((19, "need_saying") : Nat × Str) ∈ fsL := by simp [fsL]
theorem m_words_in : ((20, "words_in") : Nat × Str) ∈ fsL := by simp [fsL]
theorem m_deep_in : ((21, "deep_in") : Nat × Str) ∈ fsL := by simp [fsL]
theorem m_letters_in : ((22, "letters_in") : Nat × Str) ∈ fsL := by simp [fsL]
theorem m_need_marking : ((23, "need_marking") : Nat × Str) ∈ fsL := by simp [fsL]
theorem m_holding : ((24, "holding") : Nat × Str) ∈ fsL := by simp [fsL]
theorem m_holds : ((25, "holds") : Nat × Str) ∈ fsL := by simp [fsL]
theorem m__law_mixed : ((26, "_law_mixed") : Nat × Str) ∈ fsL := by simp [fsL]
theorem m__law_begin : ((27, "_law_begin") : Nat × Str) ∈ fsL := by simp [fsL]
theorem m__law_draw : ((28, "_law_draw") : Nat × Str) ∈ fsL := by simp [fsL]
theorem m__law_web : ((29, "_law_web") : Nat × Str) ∈ fsL := by simp [fsL]
theorem m__law_saying : ((30, "_law_saying") : Nat × Str) ∈ fsL := by simp [fsL]
theorem m__law_led : ((31, "_law_led") : Nat × Str) ∈ fsL := by simp [fsL]
theorem m__law_at : ((32, "_law_at") : Nat × Str) ∈ fsL := by simp [fsL]
theorem m__law_inner : ((33, "_law_inner") : Nat × Str) ∈ fsL := by simp [fsL]
theorem m__law_sizes : ((34, "_law_sizes") : Nat × Str) ∈ fsL := by simp [fsL]
theorem m__law_like : ((35, "_law_like") : Nat × Str) ∈ fsL := by simp [fsL]
theorem m__law_marked : ((36, "_law_marked") : Nat × Str) ∈ fsL := by simp [fsL]
theorem m__law_right : ((37, "_law_right") : Nat × Str) ∈ fsL := by simp [fsL]
theorem m__law_line : ((38, "_law_line") : Nat × Str) ∈ fsL := by simp [fsL]
theorem m_law : ((39, "law") : Nat × Str) ∈ fsL := by simp [fsL]
/-! is_from -/
abbrev st_0 : Stmt := topS 8
def bd_0 : Sms := .cons (.ret (.and (.isi .int (.var 0)) (.and (.not (.isi .bool (.var 0))) (.cmp2 .le .le (.var 1) (.var 0) (.var 2))))) (.nil)
def df_0 : Df := ⟨3, 3, [], bd_0⟩
abbrev nm_0 : List Str := ["value", "low", "high"]
theorem sc_0 : FnScope nm_0 ["value", "low", "high"] (defScope st_0) := ⟨rfl, rfl, rfl, by decide +kernel, rfl, by decide +kernel, by decide +kernel⟩
theorem ok_0 (R : Fns) (L : Nat) (g : Gx) (nx : ∀ c ds T H F, ¬ g.XQ c ds T H F) : CB R L fsL frL nm_0 ⟨defScope st_0, fun _ => true⟩ g (defBody st_0) bd_0 :=
  cb_cons (cx_ret (ce_and (ce_isi (t := .int) (ce_var (i := 0) rfl (.inl rfl)) (by rfl) b_isinstance (by rfl) b_int boot_int) (ce_and (ce_not (ce_isi (t := .bool) (ce_var (i := 0) rfl (.inl rfl)) (by rfl) b_isinstance (by rfl) b_bool boot_bool)) (ce_one (ce_cmp2 (op := .le) (op' := .le) (ce_var (i := 1) rfl (.inl rfl)) (ce_var (i := 0) rfl (.inl rfl)) (ce_var (i := 2) rfl (.inl rfl)) rfl))))) (cb_nil)
/-! is_arrow -/
abbrev st_1 : Stmt := topS 9
def bd_1 : Sms := .cons (.ife (.or (.not (.isi .tuple (.var 1))) (.or (.cmp .ne (.bi .len (.var 1)) (.cst (.int 3))) (.not (.call 0 (.cons (.sub (.var 1) (.cst (.int 0))) (.cons (.cst (.int 0)) (.cons (.cst (.int 2)) (.nil)))))))) (.cons (.ret (.cst (.bool false))) (.nil)) (.nil)) (.cons (.ret (.and (.call 0 (.cons (.sub (.var 1) (.cst (.int 1))) (.cons (.cst (.int 0)) (.cons (.bin .sub (.var 0) (.cst (.int 1))) (.nil))))) (.call 0 (.cons (.sub (.var 1) (.cst (.int 2))) (.cons (.cst (.int 0)) (.cons (.bin .sub (.var 0) (.cst (.int 1))) (.nil))))))) (.nil))
def df_1 : Df := ⟨2, 2, [], bd_1⟩
abbrev nm_1 : List Str := ["size", "value"]
theorem sc_1 : FnScope nm_1 ["size", "value"] (defScope st_1) := ⟨rfl, rfl, rfl, by decide +kernel, rfl, by decide +kernel, by decide +kernel⟩
theorem ok_1 (R : Fns) (L : Nat) (g : Gx) (nx : ∀ c ds T H F, ¬ g.XQ c ds T H F) : CB R L fsL frL nm_1 ⟨defScope st_1, fun _ => true⟩ g (defBody st_1) bd_1 :=
  cb_cons (cx_ife (ct_w (cw_or (ct_not (ct_e (ce_isi (t := .tuple) (ce_var (i := 1) rfl (.inl rfl)) (by rfl) b_isinstance (by rfl) b_tuple boot_tuple))) (cw_or (ct_cmp (op := .ne) (ce_len (ce_var (i := 1) rfl (.inl rfl)) (by rfl) b_len) (ce_int) rfl) (cw_or1 (ct_not (ct_e (ce_call (f := 0) nx m_is_from (by rfl) (cas_val (ce_sub (ce_var (i := 1) rfl (.inl rfl)) (ce_int)) (cas_val (ce_int) (cas_val (ce_int) (cas_nil))))))))))) (cb_cons (cx_ret (ce_bool)) (cb_nil)) (cb_nil)) (cb_cons (cx_ret (ce_and (ce_call (f := 0) nx m_is_from (by rfl) (cas_val (ce_sub (ce_var (i := 1) rfl (.inl rfl)) (ce_int)) (cas_val (ce_int) (cas_val (ce_bin (op := .sub) (ce_var (i := 0) rfl (.inl rfl)) (ce_int)) (cas_nil))))) (ce_one (ce_call (f := 0) nx m_is_from (by rfl) (cas_val (ce_sub (ce_var (i := 1) rfl (.inl rfl)) (ce_int)) (cas_val (ce_int) (cas_val (ce_bin (op := .sub) (ce_var (i := 0) rfl (.inl rfl)) (ce_int)) (cas_nil)))))))) (cb_nil))
/-! is_web -/
abbrev st_2 : Stmt := topS 10
def bd_2 : Sms := .cons (.ife (.or (.not (.isi .tuple (.var 0))) (.or (.cmp .ne (.bi .len (.var 0)) (.cst (.int 2))) (.not (.call 0 (.cons (.sub (.var 0) (.cst (.int 0))) (.cons (.cst (.int 1)) (.cons (.cst (.int 200)) (.nil)))))))) (.cons (.ret (.cst (.bool false))) (.nil)) (.nil)) (.cons (.asgT (.cons (.name 1) (.cons (.name 2) (.nil))) (.var 0)) (.cons (.ife (.or (.not (.isi .tuple (.var 2))) (.cmp .gt (.bi .len (.var 2)) (.cst (.int 1000)))) (.cons (.ret (.cst (.bool false))) (.nil)) (.nil)) (.cons (.for_ (.name 3) (.seq (.var 2)) (.cons (.ife (.not (.call 1 (.cons (.var 1) (.cons (.var 3) (.nil))))) (.cons (.ret (.cst (.bool false))) (.nil)) (.nil)) (.nil))) (.cons (.for_ (.tup (.cons (.name 4) (.cons (.name 5) (.nil)))) (.zip (.var 2) (.slc (.var 2) (.some (.cst (.int 1))) (.none))) (.cons (.ife (.cmp .ge (.var 4) (.var 5)) (.cons (.ret (.cst (.bool false))) (.nil)) (.nil)) (.nil))) (.cons (.ret (.cst (.bool true))) (.nil))))))
def df_2 : Df := ⟨6, 1, [], bd_2⟩
abbrev nm_2 : List Str := ["value", "size", "arrows", "arrow", "near", "far"]
theorem sc_2 : FnScope nm_2 ["value"] (defScope st_2) := ⟨rfl, rfl, rfl, by decide +kernel, rfl, by decide +kernel, by decide +kernel⟩
theorem ok_2 (R : Fns) (L : Nat) (g : Gx) (nx : ∀ c ds T H F, ¬ g.XQ c ds T H F) : CB R L fsL frL nm_2 ⟨defScope st_2, fun _ => true⟩ g (defBody st_2) bd_2 :=
  cb_cons (cx_ife (ct_w (cw_or (ct_not (ct_e (ce_isi (t := .tuple) (ce_var (i := 0) rfl (.inl rfl)) (by rfl) b_isinstance (by rfl) b_tuple boot_tuple))) (cw_or (ct_cmp (op := .ne) (ce_len (ce_var (i := 0) rfl (.inl rfl)) (by rfl) b_len) (ce_int) rfl) (cw_or1 (ct_not (ct_e (ce_call (f := 0) nx m_is_from (by rfl) (cas_val (ce_sub (ce_var (i := 0) rfl (.inl rfl)) (ce_int)) (cas_val (ce_int) (cas_val (ce_int) (cas_nil))))))))))) (cb_cons (cx_ret (ce_bool)) (cb_nil)) (cb_nil)) (cb_cons (cx_asgT (cg_tup (cgs_cons (cg_name (i := 1) rfl (.inl rfl) (.inl rfl)) (cgs_cons (cg_name (i := 2) rfl (.inl rfl) (.inl rfl)) (cgs_nil)))) (ce_var (i := 0) rfl (.inl rfl))) (cb_cons (cx_ife (ct_w (cw_or (ct_not (ct_e (ce_isi (t := .tuple) (ce_var (i := 2) rfl (.inl rfl)) (by rfl) b_isinstance (by rfl) b_tuple boot_tuple))) (cw_or1 (ct_cmp (op := .gt) (ce_len (ce_var (i := 2) rfl (.inl rfl)) (by rfl) b_len) (ce_int) rfl)))) (cb_cons (cx_ret (ce_bool)) (cb_nil)) (cb_nil)) (cb_cons (cx_for (ci_seq (ce_var (i := 2) rfl (.inl rfl))) (cg_name (i := 3) rfl (.inl rfl) (.inl rfl)) (cb_cons (cx_ife (ct_not (ct_e (ce_call (f := 1) nx m_is_arrow (by rfl) (cas_val (ce_var (i := 1) rfl (.inl rfl)) (cas_val (ce_var (i := 3) rfl (.inl rfl)) (cas_nil)))))) (cb_cons (cx_ret (ce_bool)) (cb_nil)) (cb_nil)) (cb_nil))) (cb_cons (cx_for (ci_zip (ce_var (i := 2) rfl (.inl rfl)) (ce_slc (ce_var (i := 2) rfl (.inl rfl)) (co_some (ce_int)) (co_none)) (by rfl) b_zip) (cg_tup (cgs_cons (cg_name (i := 4) rfl (.inl rfl) (.inl rfl)) (cgs_cons (cg_name (i := 5) rfl (.inl rfl) (.inl rfl)) (cgs_nil)))) (cb_cons (cx_ife (ct_cmp (op := .ge) (ce_var (i := 4) rfl (.inl rfl)) (ce_var (i := 5) rfl (.inl rfl)) rfl) (cb_cons (cx_ret (ce_bool)) (cb_nil)) (cb_nil)) (cb_nil))) (cb_cons (cx_ret (ce_bool)) (cb_nil))))))
/-! check_web -/
abbrev st_3 : Stmt := topS 11
def bd_3 : Sms := .cons (.ife (.not (.call 2 (.cons (.var 0) (.nil)))) (.cons (.raise 1 (.cons (.var 0) .nil)) (.nil)) (.nil)) (.cons (.ret (.var 0)) (.nil))
def df_3 : Df := ⟨1, 1, [], bd_3⟩
abbrev nm_3 : List Str := ["value"]
theorem sc_3 : FnScope nm_3 ["value"] (defScope st_3) := ⟨rfl, rfl, rfl, by decide +kernel, rfl, by decide +kernel, by decide +kernel⟩
theorem ok_3 (R : Fns) (L : Nat) (g : Gx) (nx : ∀ c ds T H F, ¬ g.XQ c ds T H F) : CB R L fsL frL nm_3 ⟨defScope st_3, fun _ => true⟩ g (defBody st_3) bd_3 :=
  cb_cons (cx_ife (ct_not (ct_e (ce_call (f := 2) nx m_is_web (by rfl) (cas_val (ce_var (i := 0) rfl (.inl rfl)) (cas_nil))))) (cb_cons (cx_raise nx) (cb_nil)) (cb_nil)) (cb_cons (cx_ret (ce_var (i := 0) rfl (.inl rfl))) (cb_nil))
/-! check_world -/
abbrev st_4 : Stmt := topS 12
def bd_4 : Sms := .cons (.ife (.not (.call 0 (.cons (.var 1) (.cons (.cst (.int 0)) (.cons (.bin .sub (.sub (.var 0) (.cst (.int 0))) (.cst (.int 1))) (.nil)))))) (.cons (.raise 4 (.cons (.var 1) .nil)) (.nil)) (.nil)) (.cons (.ret (.var 1)) (.nil))
def df_4 : Df := ⟨2, 2, [], bd_4⟩
abbrev nm_4 : List Str := ["web", "value"]
theorem sc_4 : FnScope nm_4 ["web", "value"] (defScope st_4) := ⟨rfl, rfl, rfl, by decide +kernel, rfl, by decide +kernel, by decide +kernel⟩
theorem ok_4 (R : Fns) (L : Nat) (g : Gx) (nx : ∀ c ds T H F, ¬ g.XQ c ds T H F) : CB R L fsL frL nm_4 ⟨defScope st_4, fun _ => true⟩ g (defBody st_4) bd_4 :=
  cb_cons (cx_ife (ct_not (ct_e (ce_call (f := 0) nx m_is_from (by rfl) (cas_val (ce_var (i := 1) rfl (.inl rfl)) (cas_val (ce_int) (cas_val (ce_bin (op := .sub) (ce_sub (ce_var (i := 0) rfl (.inl rfl)) (ce_int)) (ce_int)) (cas_nil))))))) (cb_cons (cx_raise nx) (cb_nil)) (cb_nil)) (cb_cons (cx_ret (ce_var (i := 1) rfl (.inl rfl))) (cb_nil))
/-! arrows_so -/
abbrev st_5 : Stmt := topS 13
def bd_5 : Sms := .cons (.asgT (.cons (.name 1) (.cons (.name 2) (.nil))) (.var 0)) (.cons (.asg 3 (.comp [7] (.name 7) (.rng (.cst (.int 6))) (.nil) (.rep (.lst (.cons (.cst (.int 0)) .nil)) (.var 1)))) (.cons (.for_ (.tup (.cons (.name 4) (.cons (.name 5) (.cons (.name 6) (.nil))))) (.seq (.var 2)) (.cons (.aug2 3 (.var 4) (.var 5) .bor (.bin .shl (.cst (.int 1)) (.var 6))) (.cons (.aug2 3 (.bin .sub (.neg (.cst (.int 1))) (.var 4)) (.var 6) .bor (.bin .shl (.cst (.int 1)) (.var 5))) (.nil)))) (.cons (.ret (.var 3)) (.nil))))
def df_5 : Df := ⟨8, 1, [], bd_5⟩
abbrev nm_5 : List Str := ["web", "size", "arrows", "found", "kind", "near", "far", "way"]
theorem sc_5 : FnScope nm_5 ["web"] (defScope st_5) := ⟨rfl, rfl, rfl, by decide +kernel, rfl, by decide +kernel, by decide +kernel⟩
theorem ok_5 (R : Fns) (L : Nat) (g : Gx) (nx : ∀ c ds T H F, ¬ g.XQ c ds T H F) : CB R L fsL frL nm_5 ⟨defScope st_5, fun _ => true⟩ g (defBody st_5) bd_5 :=
  cb_cons (cx_asgT (cg_tup (cgs_cons (cg_name (i := 1) rfl (.inr rfl) (.inl rfl)) (cgs_cons (cg_name (i := 2) rfl (.inl rfl) (.inl rfl)) (cgs_nil)))) (ce_var (i := 0) rfl (.inl rfl))) (cb_cons (cx_asgLc (i := 3) (own := [("way", 7)]) rfl rfl rfl (ci_rng (ce_int) (by rfl) b_range) (by decide +kernel) (cg_name (i := 7) rfl (.inl rfl) (.inr rfl)) (cc_nil) (ce_rep (ce_lst (cos_cons (ce_int) (cos_nil))) (ce_var (i := 1) rfl (.inr (.inl rfl))))) (cb_cons (cx_for (ci_seq (ce_var (i := 2) rfl (.inl rfl))) (cg_tup (cgs_cons (cg_name (i := 4) rfl (.inl rfl) (.inl rfl)) (cgs_cons (cg_name (i := 5) rfl (.inl rfl) (.inl rfl)) (cgs_cons (cg_name (i := 6) rfl (.inl rfl) (.inl rfl)) (cgs_nil))))) (cb_cons (cx_aug2 (op := .bor) (i := 3) rfl (.inl rfl) (cs_var (i := 4) rfl (.inl rfl)) (cs_var (i := 5) rfl (.inl rfl)) (cs_bin (op := .shl) (cs_int) (cs_var (i := 6) rfl (.inl rfl)))) (cb_cons (cx_aug2 (op := .bor) (i := 3) rfl (.inl rfl) (cs_bin (op := .sub) (cs_neg (cs_int)) (cs_var (i := 4) rfl (.inl rfl))) (cs_var (i := 6) rfl (.inl rfl)) (cs_bin (op := .shl) (cs_int) (cs_var (i := 5) rfl (.inl rfl)))) (cb_nil)))) (cb_cons (cx_ret (ce_var (i := 3) rfl (.inl rfl))) (cb_nil))))
/-! spots_so -/
abbrev st_6 : Stmt := topS 14
def bd_6 : Sms := .cons (.par [1, 2] (.cons (.lst (.nil)) (.cons (.cst (.int 0)) .nil))) (.cons (.while_ (.cmp .gt (.var 0) (.cst (.int 0))) (.cons (.ife (.cmp .eq (.bin .mod (.var 0) (.cst (.int 2))) (.cst (.int 1))) (.cons (.app 1 (.var 2)) (.nil)) (.nil)) (.cons (.par [0, 2] (.cons (.bin .fdiv (.var 0) (.cst (.int 2))) (.cons (.bin .add (.var 2) (.cst (.int 1))) .nil))) (.nil)))) (.cons (.ret (.bi .tuple (.var 1))) (.nil)))
def df_6 : Df := ⟨3, 1, [], bd_6⟩
abbrev nm_6 : List Str := ["bits", "found", "world"]
theorem sc_6 : FnScope nm_6 ["bits"] (defScope st_6) := ⟨rfl, rfl, rfl, by decide +kernel, rfl, by decide +kernel, by decide +kernel⟩
theorem ok_6 (R : Fns) (L : Nat) (g : Gx) (nx : ∀ c ds T H F, ¬ g.XQ c ds T H F) : CB R L fsL frL nm_6 ⟨defScope st_6, fun _ => true⟩ g (defBody st_6) bd_6 :=
  cb_cons (cx_par2 (i := 1) (j := 2) rfl rfl (by decide) rfl rfl (cos_cons (ce_lst (cos_nil)) (cos_cons (ce_int) (cos_nil))) (fun env h => by cases env; dsimp only at h; subst h; rfl)) (cb_cons (cx_while (ct_cmp (op := .gt) (ce_var (i := 0) rfl (.inl rfl)) (ce_int) rfl) (cb_cons (cx_ife (ct_cmp (op := .eq) (ce_bin (op := .mod) (ce_var (i := 0) rfl (.inl rfl)) (ce_int)) (ce_int) rfl) (cb_cons (cx_app (i := 1) rfl (.inl rfl) (ce_var (i := 2) rfl (.inl rfl))) (cb_nil)) (cb_nil)) (cb_cons (cx_par2 (i := 0) (j := 2) rfl rfl (by decide) rfl rfl (cos_cons (ce_bin (op := .fdiv) (ce_var (i := 0) rfl (.inl rfl)) (ce_int)) (cos_cons (ce_bin (op := .add) (ce_var (i := 2) rfl (.inl rfl)) (ce_int)) (cos_nil))) (fun env h => by cases env; dsimp only at h; subst h; rfl)) (cb_nil)))) (cb_cons (cx_ret (ce_tuple (ce_var (i := 1) rfl (.inl rfl)) (by rfl) b_tuple)) (cb_nil)))
/-! bits_so -/
abbrev st_7 : Stmt := topS 15
def bd_7 : Sms := .cons (.asg 1 (.cst (.int 0))) (.cons (.for_ (.name 2) (.seq (.var 0)) (.cons (.aug 1 .bor (.bin .shl (.cst (.int 1)) (.var 2))) (.nil))) (.cons (.ret (.var 1)) (.nil)))
def df_7 : Df := ⟨3, 1, [], bd_7⟩
abbrev nm_7 : List Str := ["worlds", "found", "world"]
theorem sc_7 : FnScope nm_7 ["worlds"] (defScope st_7) := ⟨rfl, rfl, rfl, by decide +kernel, rfl, by decide +kernel, by decide +kernel⟩
theorem ok_7 (R : Fns) (L : Nat) (g : Gx) (nx : ∀ c ds T H F, ¬ g.XQ c ds T H F) : CB R L fsL frL nm_7 ⟨defScope st_7, fun _ => true⟩ g (defBody st_7) bd_7 :=
  cb_cons (cx_asg (i := 1) rfl (.inl rfl) (.inl rfl) (ce_int)) (cb_cons (cx_for (ci_seq (ce_var (i := 0) rfl (.inl rfl))) (cg_name (i := 2) rfl (.inl rfl) (.inl rfl)) (cb_cons (cx_aug (op := .bor) (i := 1) rfl (.inl rfl) (.inl rfl) (ce_bin (op := .shl) (ce_int) (ce_var (i := 2) rfl (.inl rfl)))) (cb_nil))) (cb_cons (cx_ret (ce_var (i := 1) rfl (.inl rfl))) (cb_nil)))
/-! is_worded -/
abbrev st_8 : Stmt := topS 19
def bd_8 : Sms := .cons (.ife (.or (.not (.isi .tuple (.var 0))) (.or (.cmp .eq (.bi .len (.var 0)) (.cst (.int 0))) (.not (.isi .str (.sub (.var 0) (.cst (.int 0))))))) (.cons (.ret (.cst (.bool false))) (.nil)) (.nil)) (.cons (.ife (.cmp .ne (.tab tb_SIZES (.sub (.var 0) (.cst (.int 0)))) (.bi .len (.var 0))) (.cons (.ret (.cst (.bool false))) (.nil)) (.nil)) (.cons (.ife (.cmp .eq (.sub (.var 0) (.cst (.int 0))) (.cst (.str "letter"))) (.cons (.ret (.call 0 (.cons (.sub (.var 0) (.cst (.int 1))) (.cons (.cst (.int 0)) (.cons (.cst (.int 7)) (.nil)))))) (.nil)) (.nil)) (.cons (.ret (.or (.cmp .nin (.sub (.var 0) (.cst (.int 0))) (.tup (.cons (.cst (.str "each")) (.cons (.cst (.str "some")) .nil)))) (.call 0 (.cons (.sub (.var 0) (.cst (.int 1))) (.cons (.neg (.cst (.int 3))) (.cons (.cst (.int 2)) (.nil))))))) (.nil))))
def df_8 : Df := ⟨1, 1, [], bd_8⟩
abbrev nm_8 : List Str := ["value"]
theorem sc_8 : FnScope nm_8 ["value"] (defScope st_8) := ⟨rfl, rfl, rfl, by decide +kernel, rfl, by decide +kernel, by decide +kernel⟩
theorem ok_8 (R : Fns) (L : Nat) (g : Gx) (nx : ∀ c ds T H F, ¬ g.XQ c ds T H F) : CB R L fsL frL nm_8 ⟨defScope st_8, fun _ => true⟩ g (defBody st_8) bd_8 :=
  cb_cons (cx_ife (ct_w (cw_or (ct_not (ct_e (ce_isi (t := .tuple) (ce_var (i := 0) rfl (.inl rfl)) (by rfl) b_isinstance (by rfl) b_tuple boot_tuple))) (cw_or (ct_cmp (op := .eq) (ce_len (ce_var (i := 0) rfl (.inl rfl)) (by rfl) b_len) (ce_int) rfl) (cw_or1 (ct_not (ct_e (ce_isi (t := .str) (ce_sub (ce_var (i := 0) rfl (.inl rfl)) (ce_int)) (by rfl) b_isinstance (by rfl) b_str boot_str))))))) (cb_cons (cx_ret (ce_bool)) (cb_nil)) (cb_nil)) (cb_cons (cx_ife (ct_cmp (op := .ne) (ce_tabGet (by rfl) t_SIZES (ce_sub (ce_var (i := 0) rfl (.inl rfl)) (ce_int))) (ce_len (ce_var (i := 0) rfl (.inl rfl)) (by rfl) b_len) rfl) (cb_cons (cx_ret (ce_bool)) (cb_nil)) (cb_nil)) (cb_cons (cx_ife (ct_cmp (op := .eq) (ce_sub (ce_var (i := 0) rfl (.inl rfl)) (ce_int)) (ce_str) rfl) (cb_cons (cx_ret (ce_call (f := 0) nx m_is_from (by rfl) (cas_val (ce_sub (ce_var (i := 0) rfl (.inl rfl)) (ce_int)) (cas_val (ce_int) (cas_val (ce_int) (cas_nil)))))) (cb_nil)) (cb_nil)) (cb_cons (cx_ret (ce_or (ce_cmp (op := .nin) (ce_sub (ce_var (i := 0) rfl (.inl rfl)) (ce_int)) (ce_tup (cds_cons (ce_str) (cds_cons (ce_str) (cds_nil)))) rfl) (ce_one (ce_call (f := 0) nx m_is_from (by rfl) (cas_val (ce_sub (ce_var (i := 0) rfl (.inl rfl)) (ce_int)) (cas_val (ce_neg (ce_int)) (cas_val (ce_int) (cas_nil)))))))) (cb_nil))))
/-! check_saying -/
abbrev st_9 : Stmt := topS 20
def bd_9 : Sms := .cons (.par [1, 2] (.cons (.lst (.cons (.tup (.cons (.var 0) (.cons (.tup (.nil)) .nil))) .nil)) (.cons (.cst (.int 0)) .nil))) (.cons (.while_ (.cmp .gt (.lenp 1) (.cst (.int 0))) (.cons (.asgT (.cons (.name 3) (.cons (.name 4) (.nil))) (.pop 1)) (.cons (.aug 2 .add (.cst (.int 1))) (.cons (.ife (.cmp .gt (.bi .len (.var 4)) (.cst (.int 39))) (.cons (.raise 5 (.cons (.cst (.int 40)) .nil)) (.nil)) (.nil)) (.cons (.ife (.cmp .gt (.var 2) (.cst (.int 400))) (.cons (.raise 5 (.cons (.cst (.int 400)) .nil)) (.nil)) (.nil)) (.cons (.ife (.not (.call 8 (.cons (.var 3) (.nil)))) (.cons (.raise 2 (.cons (.var 4) .nil)) (.nil)) (.nil)) (.cons (.ext 1 (.comp [5] (.name 5) (.rev (.tab tb_PARTS (.sub (.var 3) (.cst (.int 0))))) (.nil) (.tup (.cons (.sub (.var 3) (.var 5)) (.cons (.bin .add (.var 4) (.tup (.cons (.var 5) .nil))) .nil))))) (.nil)))))))) (.cons (.ret (.var 0)) (.nil)))
def df_9 : Df := ⟨6, 1, [], bd_9⟩
abbrev nm_9 : List Str := ["value", "left", "met", "part", "path", "place"]
theorem sc_9 : FnScope nm_9 ["value"] (defScope st_9) := ⟨rfl, rfl, rfl, by decide +kernel, rfl, by decide +kernel, by decide +kernel⟩
theorem ok_9 (R : Fns) (L : Nat) (g : Gx) (nx : ∀ c ds T H F, ¬ g.XQ c ds T H F) : CB R L fsL frL nm_9 ⟨defScope st_9, fun _ => true⟩ g (defBody st_9) bd_9 :=
  cb_cons (cx_par2 (i := 1) (j := 2) rfl rfl (by decide) rfl rfl (cos_cons (ce_lst (cos_cons (ce_tup (cds_cons (ce_var (i := 0) rfl (.inl rfl)) (cds_cons (ce_tup (cds_nil)) (cds_nil)))) (cos_nil))) (cos_cons (ce_int) (cos_nil))) (fun env h => by cases env; dsimp only at h; subst h; rfl)) (cb_cons (cx_while (ct_cmp (op := .gt) (ce_lenp (i := 1) rfl (.inl rfl) (by rfl) b_len) (ce_int) rfl) (cb_cons (cx_asgT (cg_tup (cgs_cons (cg_name (i := 3) rfl (.inr rfl) (.inl rfl)) (cgs_cons (cg_name (i := 4) rfl (.inr rfl) (.inl rfl)) (cgs_nil)))) (ce_pop (i := 1) rfl (.inl rfl))) (cb_cons (cx_aug (op := .add) (i := 2) rfl (.inl rfl) (.inl rfl) (ce_int)) (cb_cons (cx_ife (ct_cmp (op := .gt) (ce_len (ce_var (i := 4) rfl (.inr (.inl rfl))) (by rfl) b_len) (ce_int) rfl) (cb_cons (cx_raise nx) (cb_nil)) (cb_nil)) (cb_cons (cx_ife (ct_cmp (op := .gt) (ce_var (i := 2) rfl (.inl rfl)) (ce_int) rfl) (cb_cons (cx_raise nx) (cb_nil)) (cb_nil)) (cb_cons (cx_ife (ct_not (ct_e (ce_call (f := 8) nx m_is_worded (by rfl) (cas_val (ce_var (i := 3) rfl (.inr (.inl rfl))) (cas_nil))))) (cb_cons (cx_raise nx) (cb_nil)) (cb_nil)) (cb_cons (cx_ext (i := 1) rfl (.inl rfl) (ce_lc (own := [("place", 5)]) (ci_rev (ce_tab (by rfl) t_PARTS (ce_sub (ce_var (i := 3) rfl (.inr (.inl rfl))) (ce_int))) (by rfl) b_reversed) (by decide +kernel) (cg_name (i := 5) rfl (.inl rfl) (.inr rfl)) (cc_nil) (ce_tup (cds_cons (ce_sub (ce_var (i := 3) rfl (.inr (.inl rfl))) (ce_var (i := 5) rfl (.inl rfl))) (cds_cons (ce_bin (op := .add) (ce_var (i := 4) rfl (.inr (.inl rfl))) (ce_tup (cds_cons (ce_var (i := 5) rfl (.inl rfl)) (cds_nil)))) (cds_nil)))))) (cb_nil)))))))) (cb_cons (cx_ret (ce_var (i := 0) rfl (.inl rfl))) (cb_nil)))
/-! is_row_of -/
abbrev st_10 : Stmt := topS 21
def bd_10 : Sms := .cons (.ife (.or (.not (.isi .tuple (.var 1))) (.cmp .gt (.bi .len (.var 1)) (.var 0))) (.cons (.ret (.cst (.bool false))) (.nil)) (.nil)) (.cons (.ife (.cmp .gt (.bi .len (.comp [2] (.name 2) (.seq (.var 1)) (.cons (.not (.call 0 (.cons (.var 2) (.cons (.cst (.int 0)) (.cons (.bin .sub (.var 0) (.cst (.int 1))) (.nil)))))) .nil) (.cst (.int 1)))) (.cst (.int 0))) (.cons (.ret (.cst (.bool false))) (.nil)) (.nil)) (.cons (.ret (.cmp .eq (.bi .len (.comp [3, 4] (.tup (.cons (.name 3) (.cons (.name 4) (.nil)))) (.zip (.var 1) (.slc (.var 1) (.some (.cst (.int 1))) (.none))) (.cons (.cmp .ge (.var 3) (.var 4)) .nil) (.cst (.int 1)))) (.cst (.int 0)))) (.nil)))
def df_10 : Df := ⟨5, 2, [], bd_10⟩
abbrev nm_10 : List Str := ["size", "value", "world", "near", "far"]
theorem sc_10 : FnScope nm_10 ["size", "value"] (defScope st_10) := ⟨rfl, rfl, rfl, by decide +kernel, rfl, by decide +kernel, by decide +kernel⟩
theorem ok_10 (R : Fns) (L : Nat) (g : Gx) (nx : ∀ c ds T H F, ¬ g.XQ c ds T H F) : CB R L fsL frL nm_10 ⟨defScope st_10, fun _ => true⟩ g (defBody st_10) bd_10 :=
  cb_cons (cx_ife (ct_w (cw_or (ct_not (ct_e (ce_isi (t := .tuple) (ce_var (i := 1) rfl (.inl rfl)) (by rfl) b_isinstance (by rfl) b_tuple boot_tuple))) (cw_or1 (ct_cmp (op := .gt) (ce_len (ce_var (i := 1) rfl (.inl rfl)) (by rfl) b_len) (ce_var (i := 0) rfl (.inr (.inl rfl))) rfl)))) (cb_cons (cx_ret (ce_bool)) (cb_nil)) (cb_nil)) (cb_cons (cx_ife (ct_cmp (op := .gt) (ce_len (ce_lc (own := [("world", 2)]) (ci_seq (ce_var (i := 1) rfl (.inl rfl))) (by decide +kernel) (cg_name (i := 2) rfl (.inl rfl) (.inr rfl)) (cc_one (ct_not (ct_e (ce_call (f := 0) (fun _ _ _ _ _ h => h) m_is_from (by rfl) (cas_val (ce_var (i := 2) rfl (.inl rfl)) (cas_val (ce_int) (cas_val (ce_bin (op := .sub) (ce_var (i := 0) rfl (.inr (.inl rfl))) (ce_int)) (cas_nil)))))))) (ce_int)) (by rfl) b_len) (ce_int) rfl) (cb_cons (cx_ret (ce_bool)) (cb_nil)) (cb_nil)) (cb_cons (cx_ret (ce_cmp (op := .eq) (ce_len (ce_lc (own := [("near", 3), ("far", 4)]) (ci_zip (ce_var (i := 1) rfl (.inl rfl)) (ce_slc (ce_var (i := 1) rfl (.inl rfl)) (co_some (ce_int)) (co_none)) (by rfl) b_zip) (by decide +kernel) (cg_tup (cgs_cons (cg_name (i := 3) rfl (.inl rfl) (.inr rfl)) (cgs_cons (cg_name (i := 4) rfl (.inl rfl) (.inr rfl)) (cgs_nil)))) (cc_one (ct_cmp (op := .ge) (ce_var (i := 3) rfl (.inl rfl)) (ce_var (i := 4) rfl (.inl rfl)) rfl)) (ce_int)) (by rfl) b_len) (ce_int) rfl)) (cb_nil)))
/-! check_marking -/
abbrev st_11 : Stmt := topS 22
def bd_11 : Sms := .cons (.ife (.or (.not (.isi .tuple (.var 1))) (.cmp .gt (.bi .len (.var 1)) (.cst (.int 8)))) (.cons (.raise 3 (.cons (.var 1) .nil)) (.nil)) (.nil)) (.cons (.ife (.cmp .gt (.bi .len (.comp [2] (.name 2) (.seq (.var 1)) (.cons (.not (.call 10 (.cons (.sub (.var 0) (.cst (.int 0))) (.cons (.var 2) (.nil))))) .nil) (.cst (.int 1)))) (.cst (.int 0))) (.cons (.raise 3 (.cons (.var 1) .nil)) (.nil)) (.nil)) (.cons (.ret (.var 1)) (.nil)))
def df_11 : Df := ⟨3, 2, [], bd_11⟩
abbrev nm_11 : List Str := ["web", "value", "worlds"]
theorem sc_11 : FnScope nm_11 ["web", "value"] (defScope st_11) := ⟨rfl, rfl, rfl, by decide +kernel, rfl, by decide +kernel, by decide +kernel⟩
theorem ok_11 (R : Fns) (L : Nat) (g : Gx) (nx : ∀ c ds T H F, ¬ g.XQ c ds T H F) : CB R L fsL frL nm_11 ⟨defScope st_11, fun _ => true⟩ g (defBody st_11) bd_11 :=
  cb_cons (cx_ife (ct_w (cw_or (ct_not (ct_e (ce_isi (t := .tuple) (ce_var (i := 1) rfl (.inl rfl)) (by rfl) b_isinstance (by rfl) b_tuple boot_tuple))) (cw_or1 (ct_cmp (op := .gt) (ce_len (ce_var (i := 1) rfl (.inl rfl)) (by rfl) b_len) (ce_int) rfl)))) (cb_cons (cx_raise nx) (cb_nil)) (cb_nil)) (cb_cons (cx_ife (ct_cmp (op := .gt) (ce_len (ce_lc (own := [("worlds", 2)]) (ci_seq (ce_var (i := 1) rfl (.inl rfl))) (by decide +kernel) (cg_name (i := 2) rfl (.inl rfl) (.inr rfl)) (cc_one (ct_not (ct_e (ce_call (f := 10) (fun _ _ _ _ _ h => h) m_is_row_of (by rfl) (cas_val (ce_sub (ce_var (i := 0) rfl (.inr (.inl rfl))) (ce_int)) (cas_val (ce_var (i := 2) rfl (.inl rfl)) (cas_nil))))))) (ce_int)) (by rfl) b_len) (ce_int) rfl) (cb_cons (cx_raise nx) (cb_nil)) (cb_nil)) (cb_cons (cx_ret (ce_var (i := 1) rfl (.inl rfl))) (cb_nil)))
/-! words_so -/
abbrev st_12 : Stmt := topS 23
def bd_12 : Sms := .cons (.ret (.bin .add (.cst (.int 1)) (.bi .sum (.comp [1] (.name 1) (.seq (.tab tb_PARTS (.sub (.var 0) (.cst (.int 0))))) (.nil) (.call 12 (.cons (.sub (.var 0) (.var 1)) (.nil))))))) (.nil)
def df_12 : Df := ⟨2, 1, [], bd_12⟩
abbrev nm_12 : List Str := ["saying", "place"]
theorem sc_12 : FnScope nm_12 ["saying"] (defScope st_12) := ⟨rfl, rfl, rfl, by decide +kernel, rfl, by decide +kernel, by decide +kernel⟩
theorem ok_12 (R : Fns) (L : Nat) (g : Gx) (nx : ∀ c ds T H F, ¬ g.XQ c ds T H F) : CB R L fsL frL nm_12 ⟨defScope st_12, fun _ => true⟩ g (defBody st_12) bd_12 :=
  cb_cons (cx_ret (ce_bin (op := .add) (ce_int) (ce_sum (ce_lc (own := [("place", 1)]) (ci_seq (ce_tab (by rfl) t_PARTS (ce_sub (ce_var (i := 0) rfl (.inr (.inl rfl))) (ce_int)))) (by decide +kernel) (cg_name (i := 1) rfl (.inl rfl) (.inr rfl)) (cc_nil) (ce_call (f := 12) (fun _ _ _ _ _ h => h) m_words_so (by rfl) (cas_val (ce_sub (ce_var (i := 0) rfl (.inr (.inl rfl))) (ce_var (i := 1) rfl (.inl rfl))) (cas_nil)))) (by rfl) b_sum))) (cb_nil)
/-! deep_so -/
abbrev st_13 : Stmt := topS 24
def bd_13 : Sms := .cons (.ret (.bin .add (.cst (.int 1)) (.bi .max (.bin .add (.lst (.cons (.cst (.int 0)) .nil)) (.comp [1] (.name 1) (.seq (.tab tb_PARTS (.sub (.var 0) (.cst (.int 0))))) (.nil) (.call 13 (.cons (.sub (.var 0) (.var 1)) (.nil)))))))) (.nil)
def df_13 : Df := ⟨2, 1, [], bd_13⟩
abbrev nm_13 : List Str := ["saying", "place"]
theorem sc_13 : FnScope nm_13 ["saying"] (defScope st_13) := ⟨rfl, rfl, rfl, by decide +kernel, rfl, by decide +kernel, by decide +kernel⟩
theorem ok_13 (R : Fns) (L : Nat) (g : Gx) (nx : ∀ c ds T H F, ¬ g.XQ c ds T H F) : CB R L fsL frL nm_13 ⟨defScope st_13, fun _ => true⟩ g (defBody st_13) bd_13 :=
  cb_cons (cx_ret (ce_bin (op := .add) (ce_int) (ce_max (ce_bin (op := .add) (ce_lst (cos_cons (ce_int) (cos_nil))) (ce_lc (own := [("place", 1)]) (ci_seq (ce_tab (by rfl) t_PARTS (ce_sub (ce_var (i := 0) rfl (.inr (.inl rfl))) (ce_int)))) (by decide +kernel) (cg_name (i := 1) rfl (.inl rfl) (.inr rfl)) (cc_nil) (ce_call (f := 13) (fun _ _ _ _ _ h => h) m_deep_so (by rfl) (cas_val (ce_sub (ce_var (i := 0) rfl (.inr (.inl rfl))) (ce_var (i := 1) rfl (.inl rfl))) (cas_nil))))) (by rfl) b_max))) (cb_nil)
/-! letters_so -/
abbrev st_14 : Stmt := topS 25
def bd_14 : Sms := .cons (.ife (.cmp .eq (.sub (.var 0) (.cst (.int 0))) (.cst (.str "letter"))) (.cons (.ret (.lst (.cons (.sub (.var 0) (.cst (.int 1))) .nil))) (.nil)) (.nil)) (.cons (.asg 1 (.lst (.nil))) (.cons (.for_ (.name 2) (.seq (.tab tb_PARTS (.sub (.var 0) (.cst (.int 0))))) (.cons (.ext 1 (.call 14 (.cons (.sub (.var 0) (.var 2)) (.nil)))) (.nil))) (.cons (.ret (.bi .sset (.var 1))) (.nil))))
def df_14 : Df := ⟨3, 1, [], bd_14⟩
abbrev nm_14 : List Str := ["saying", "found", "place"]
theorem sc_14 : FnScope nm_14 ["saying"] (defScope st_14) := ⟨rfl, rfl, rfl, by decide +kernel, rfl, by decide +kernel, by decide +kernel⟩
theorem ok_14 (R : Fns) (L : Nat) (g : Gx) (nx : ∀ c ds T H F, ¬ g.XQ c ds T H F) : CB R L fsL frL nm_14 ⟨defScope st_14, fun _ => true⟩ g (defBody st_14) bd_14 :=
  cb_cons (cx_ife (ct_cmp (op := .eq) (ce_sub (ce_var (i := 0) rfl (.inl rfl)) (ce_int)) (ce_str) rfl) (cb_cons (cx_ret (ce_lst (cos_cons (ce_sub (ce_var (i := 0) rfl (.inl rfl)) (ce_int)) (cos_nil)))) (cb_nil)) (cb_nil)) (cb_cons (cx_asg (i := 1) rfl (.inl rfl) (.inl rfl) (ce_lst (cos_nil))) (cb_cons (cx_for (ci_seq (ce_tab (by rfl) t_PARTS (ce_sub (ce_var (i := 0) rfl (.inl rfl)) (ce_int)))) (cg_name (i := 2) rfl (.inl rfl) (.inl rfl)) (cb_cons (cx_ext (i := 1) rfl (.inl rfl) (ce_call (f := 14) nx m_letters_so (by rfl) (cas_val (ce_sub (ce_var (i := 0) rfl (.inl rfl)) (ce_var (i := 2) rfl (.inl rfl))) (cas_nil)))) (cb_nil))) (cb_cons (cx_ret (ce_sset (ce_var (i := 1) rfl (.inl rfl)) (by rfl) b_sorted (by rfl) b_set)) (cb_nil))))
/-! marks_so -/
abbrev st_15 : Stmt := topS 26
def bd_15 : Sms := .cons (.asg 1 (.comp [2] (.name 2) (.seq (.var 0)) (.nil) (.call 7 (.cons (.var 2) (.nil))))) (.cons (.ret (.bin .add (.var 1) (.rep (.lst (.cons (.cst (.int 0)) .nil)) (.bin .sub (.cst (.int 8)) (.bi .len (.var 1)))))) (.nil))
def df_15 : Df := ⟨3, 1, [], bd_15⟩
abbrev nm_15 : List Str := ["marking", "found", "worlds"]
theorem sc_15 : FnScope nm_15 ["marking"] (defScope st_15) := ⟨rfl, rfl, rfl, by decide +kernel, rfl, by decide +kernel, by decide +kernel⟩
theorem ok_15 (R : Fns) (L : Nat) (g : Gx) (nx : ∀ c ds T H F, ¬ g.XQ c ds T H F) : CB R L fsL frL nm_15 ⟨defScope st_15, fun _ => true⟩ g (defBody st_15) bd_15 :=
  cb_cons (cx_asgLc (i := 1) (own := [("worlds", 2)]) rfl rfl rfl (ci_seq (ce_var (i := 0) rfl (.inl rfl))) (by decide +kernel) (cg_name (i := 2) rfl (.inl rfl) (.inr rfl)) (cc_nil) (ce_call (f := 7) (fun _ _ _ _ _ h => h) m_bits_so (by rfl) (cas_val (ce_var (i := 2) rfl (.inl rfl)) (cas_nil)))) (cb_cons (cx_ret (ce_bin (op := .add) (ce_var (i := 1) rfl (.inl rfl)) (ce_rep (ce_lst (cos_cons (ce_int) (cos_nil))) (ce_bin (op := .sub) (ce_int) (ce_len (ce_var (i := 1) rfl (.inl rfl)) (by rfl) b_len))))) (cb_nil))
/-! each_so -/
abbrev st_16 : Stmt := topS 27
def bd_16 : Sms := .cons (.asg 2 (.cst (.int 0))) (.cons (.for_ (.tup (.cons (.name 3) (.cons (.name 4) (.nil)))) (.enum (.var 0)) (.cons (.ife (.cmp .eq (.bin .band (.var 4) (.var 1)) (.var 4)) (.cons (.aug 2 .bor (.bin .shl (.cst (.int 1)) (.var 3))) (.nil)) (.nil)) (.nil))) (.cons (.ret (.var 2)) (.nil)))
def df_16 : Df := ⟨5, 2, [], bd_16⟩
abbrev nm_16 : List Str := ["rows", "bits", "found", "world", "led"]
theorem sc_16 : FnScope nm_16 ["rows", "bits"] (defScope st_16) := ⟨rfl, rfl, rfl, by decide +kernel, rfl, by decide +kernel, by decide +kernel⟩
theorem ok_16 (R : Fns) (L : Nat) (g : Gx) (nx : ∀ c ds T H F, ¬ g.XQ c ds T H F) : CB R L fsL frL nm_16 ⟨defScope st_16, fun _ => true⟩ g (defBody st_16) bd_16 :=
  cb_cons (cx_asg (i := 2) rfl (.inl rfl) (.inl rfl) (ce_int)) (cb_cons (cx_for (ci_enum (ce_var (i := 0) rfl (.inl rfl)) (by rfl) b_enumerate) (cg_tup (cgs_cons (cg_name (i := 3) rfl (.inl rfl) (.inl rfl)) (cgs_cons (cg_name (i := 4) rfl (.inl rfl) (.inl rfl)) (cgs_nil)))) (cb_cons (cx_ife (ct_cmp (op := .eq) (ce_bin (op := .band) (ce_var (i := 4) rfl (.inl rfl)) (ce_var (i := 1) rfl (.inl rfl))) (ce_var (i := 4) rfl (.inl rfl)) rfl) (cb_cons (cx_aug (op := .bor) (i := 2) rfl (.inl rfl) (.inl rfl) (ce_bin (op := .shl) (ce_int) (ce_var (i := 3) rfl (.inl rfl)))) (cb_nil)) (cb_nil)) (cb_nil))) (cb_cons (cx_ret (ce_var (i := 2) rfl (.inl rfl))) (cb_nil)))
/-! some_so -/
abbrev st_17 : Stmt := topS 28
def bd_17 : Sms := .cons (.asg 2 (.cst (.int 0))) (.cons (.for_ (.tup (.cons (.name 3) (.cons (.name 4) (.nil)))) (.enum (.var 0)) (.cons (.ife (.cmp .gt (.bin .band (.var 4) (.var 1)) (.cst (.int 0))) (.cons (.aug 2 .bor (.bin .shl (.cst (.int 1)) (.var 3))) (.nil)) (.nil)) (.nil))) (.cons (.ret (.var 2)) (.nil)))
def df_17 : Df := ⟨5, 2, [], bd_17⟩
abbrev nm_17 : List Str := ["rows", "bits", "found", "world", "led"]
theorem sc_17 : FnScope nm_17 ["rows", "bits"] (defScope st_17) := ⟨rfl, rfl, rfl, by decide +kernel, rfl, by decide +kernel, by decide +kernel⟩
theorem ok_17 (R : Fns) (L : Nat) (g : Gx) (nx : ∀ c ds T H F, ¬ g.XQ c ds T H F) : CB R L fsL frL nm_17 ⟨defScope st_17, fun _ => true⟩ g (defBody st_17) bd_17 :=
  cb_cons (cx_asg (i := 2) rfl (.inl rfl) (.inl rfl) (ce_int)) (cb_cons (cx_for (ci_enum (ce_var (i := 0) rfl (.inl rfl)) (by rfl) b_enumerate) (cg_tup (cgs_cons (cg_name (i := 3) rfl (.inl rfl) (.inl rfl)) (cgs_cons (cg_name (i := 4) rfl (.inl rfl) (.inl rfl)) (cgs_nil)))) (cb_cons (cx_ife (ct_cmp (op := .gt) (ce_bin (op := .band) (ce_var (i := 4) rfl (.inl rfl)) (ce_var (i := 1) rfl (.inl rfl))) (ce_int) rfl) (cb_cons (cx_aug (op := .bor) (i := 2) rfl (.inl rfl) (.inl rfl) (ce_bin (op := .shl) (ce_int) (ce_var (i := 3) rfl (.inl rfl)))) (cb_nil)) (cb_nil)) (cb_nil))) (cb_cons (cx_ret (ce_var (i := 2) rfl (.inl rfl))) (cb_nil)))
/-! holds_so -/
abbrev st_18 : Stmt := topS 29
def bd_18 : Sms := .cons (.par [3, 4] (.cons (.sub (.var 1) (.cst (.int 0))) (.cons (.bin .sub (.bin .shl (.cst (.int 1)) (.bi .len (.sub (.var 0) (.cst (.int 0))))) (.cst (.int 1))) .nil))) (.cons (.ife (.cmp .eq (.var 3) (.cst (.str "letter"))) (.cons (.ret (.sub (.var 2) (.sub (.var 1) (.cst (.int 1))))) (.nil)) (.nil)) (.cons (.ife (.cmp .inn (.var 3) (.tup (.cons (.cst (.str "yes")) (.cons (.cst (.str "no")) .nil)))) (.cons (.ret (.ife (.cmp .eq (.var 3) (.cst (.str "yes"))) (.var 4) (.cst (.int 0)))) (.nil)) (.nil)) (.cons (.asg 5 (.call 18 (.cons (.var 0) (.cons (.sub (.var 1) (.sub (.tab tb_PARTS (.var 3)) (.cst (.int 0)))) (.cons (.var 2) (.nil)))))) (.cons (.ife (.cmp .eq (.var 3) (.cst (.str "each"))) (.cons (.ret (.call 16 (.cons (.sub (.var 0) (.sub (.var 1) (.cst (.int 1)))) (.cons (.var 5) (.nil))))) (.nil)) (.nil)) (.cons (.ife (.cmp .eq (.var 3) (.cst (.str "some"))) (.cons (.ret (.call 17 (.cons (.sub (.var 0) (.sub (.var 1) (.cst (.int 1)))) (.cons (.var 5) (.nil))))) (.nil)) (.nil)) (.cons (.ife (.cmp .eq (.var 3) (.cst (.str "not"))) (.cons (.ret (.bin .sub (.var 4) (.var 5))) (.nil)) (.nil)) (.cons (.asg 6 (.call 18 (.cons (.var 0) (.cons (.sub (.var 1) (.cst (.int 2))) (.cons (.var 2) (.nil)))))) (.cons (.ife (.cmp .eq (.var 3) (.cst (.str "and"))) (.cons (.ret (.bin .band (.var 5) (.var 6))) (.nil)) (.nil)) (.cons (.ret (.ife (.cmp .eq (.var 3) (.cst (.str "or"))) (.bin .bor (.var 5) (.var 6)) (.bin .bor (.bin .sub (.var 4) (.var 5)) (.var 6)))) (.nil))))))))))
def df_18 : Df := ⟨7, 3, [], bd_18⟩
abbrev nm_18 : List Str := ["arrows", "saying", "marks", "word", "whole", "near", "far"]
theorem sc_18 : FnScope nm_18 ["arrows", "saying", "marks"] (defScope st_18) := ⟨rfl, rfl, rfl, by decide +kernel, rfl, by decide +kernel, by decide +kernel⟩
theorem ok_18 (R : Fns) (L : Nat) (g : Gx) (nx : ∀ c ds T H F, ¬ g.XQ c ds T H F) : CB R L fsL frL nm_18 ⟨defScope st_18, fun _ => true⟩ g (defBody st_18) bd_18 :=
  cb_cons (cx_par2 (i := 3) (j := 4) rfl rfl (by decide) rfl rfl (cos_cons (ce_sub (ce_var (i := 1) rfl (.inl rfl)) (ce_int)) (cos_cons (ce_bin (op := .sub) (ce_bin (op := .shl) (ce_int) (ce_len (ce_sub (ce_var (i := 0) rfl (.inl rfl)) (ce_int)) (by rfl) b_len)) (ce_int)) (cos_nil))) (fun env h => by cases env; dsimp only at h; subst h; rfl)) (cb_cons (cx_ife (ct_cmp (op := .eq) (ce_var (i := 3) rfl (.inl rfl)) (ce_str) rfl) (cb_cons (cx_ret (ce_sub (ce_var (i := 2) rfl (.inl rfl)) (ce_sub (ce_var (i := 1) rfl (.inl rfl)) (ce_int)))) (cb_nil)) (cb_nil)) (cb_cons (cx_ife (ct_cmp (op := .inn) (ce_var (i := 3) rfl (.inl rfl)) (ce_tup (cds_cons (ce_str) (cds_cons (ce_str) (cds_nil)))) rfl) (cb_cons (cx_ret (ce_ife (ct_cmp (op := .eq) (ce_var (i := 3) rfl (.inl rfl)) (ce_str) rfl) (ce_var (i := 4) rfl (.inl rfl)) (ce_int))) (cb_nil)) (cb_nil)) (cb_cons (cx_asg (i := 5) rfl (.inl rfl) (.inl rfl) (ce_call (f := 18) nx m_holds_so (by rfl) (cas_val (ce_var (i := 0) rfl (.inl rfl)) (cas_val (ce_sub (ce_var (i := 1) rfl (.inl rfl)) (ce_sub (ce_tab (by rfl) t_PARTS (ce_var (i := 3) rfl (.inl rfl))) (ce_int))) (cas_val (ce_var (i := 2) rfl (.inl rfl)) (cas_nil)))))) (cb_cons (cx_ife (ct_cmp (op := .eq) (ce_var (i := 3) rfl (.inl rfl)) (ce_str) rfl) (cb_cons (cx_ret (ce_call (f := 16) nx m_each_so (by rfl) (cas_val (ce_sub (ce_var (i := 0) rfl (.inl rfl)) (ce_sub (ce_var (i := 1) rfl (.inl rfl)) (ce_int))) (cas_val (ce_var (i := 5) rfl (.inl rfl)) (cas_nil))))) (cb_nil)) (cb_nil)) (cb_cons (cx_ife (ct_cmp (op := .eq) (ce_var (i := 3) rfl (.inl rfl)) (ce_str) rfl) (cb_cons (cx_ret (ce_call (f := 17) nx m_some_so (by rfl) (cas_val (ce_sub (ce_var (i := 0) rfl (.inl rfl)) (ce_sub (ce_var (i := 1) rfl (.inl rfl)) (ce_int))) (cas_val (ce_var (i := 5) rfl (.inl rfl)) (cas_nil))))) (cb_nil)) (cb_nil)) (cb_cons (cx_ife (ct_cmp (op := .eq) (ce_var (i := 3) rfl (.inl rfl)) (ce_str) rfl) (cb_cons (cx_ret (ce_bin (op := .sub) (ce_var (i := 4) rfl (.inl rfl)) (ce_var (i := 5) rfl (.inl rfl)))) (cb_nil)) (cb_nil)) (cb_cons (cx_asg (i := 6) rfl (.inl rfl) (.inl rfl) (ce_call (f := 18) nx m_holds_so (by rfl) (cas_val (ce_var (i := 0) rfl (.inl rfl)) (cas_val (ce_sub (ce_var (i := 1) rfl (.inl rfl)) (ce_int)) (cas_val (ce_var (i := 2) rfl (.inl rfl)) (cas_nil)))))) (cb_cons (cx_ife (ct_cmp (op := .eq) (ce_var (i := 3) rfl (.inl rfl)) (ce_str) rfl) (cb_cons (cx_ret (ce_bin (op := .band) (ce_var (i := 5) rfl (.inl rfl)) (ce_var (i := 6) rfl (.inl rfl)))) (cb_nil)) (cb_nil)) (cb_cons (cx_ret (ce_ife (ct_cmp (op := .eq) (ce_var (i := 3) rfl (.inl rfl)) (ce_str) rfl) (ce_bin (op := .bor) (ce_var (i := 5) rfl (.inl rfl)) (ce_var (i := 6) rfl (.inl rfl))) (ce_bin (op := .bor) (ce_bin (op := .sub) (ce_var (i := 4) rfl (.inl rfl)) (ce_var (i := 5) rfl (.inl rfl))) (ce_var (i := 6) rfl (.inl rfl))))) (cb_nil))))))))))
/-! need_saying -/
abbrev st_19 : Stmt := topS 30
def bd_19 : Sms := .cons (.ret (.call 9 (.cons (.var 0) (.nil)))) (.nil)
def df_19 : Df := ⟨1, 1, [], bd_19⟩
abbrev nm_19 : List Str := ["saying"]
theorem sc_19 : FnScope nm_19 ["saying"] (defScope st_19) := ⟨rfl, rfl, rfl, by decide +kernel, rfl, by decide +kernel, by decide +kernel⟩
theorem ok_19 (R : Fns) (L : Nat) (g : Gx) (nx : ∀ c ds T H F, ¬ g.XQ c ds T H F) : CB R L fsL frL nm_19 ⟨defScope st_19, fun _ => true⟩ g (defBody st_19) bd_19 :=
  cb_cons (cx_ret (ce_call (f := 9) nx m_check_saying (by rfl) (cas_val (ce_var (i := 0) rfl (.inl rfl)) (cas_nil)))) (cb_nil)
/-! words_in -/
abbrev st_20 : Stmt := topS 31
def bd_20 : Sms := .cons (.ret (.call 12 (.cons (.call 9 (.cons (.var 0) (.nil))) (.nil)))) (.nil)
def df_20 : Df := ⟨1, 1, [], bd_20⟩
abbrev nm_20 : List Str := ["saying"]
theorem sc_20 : FnScope nm_20 ["saying"] (defScope st_20) := ⟨rfl, rfl, rfl, by decide +kernel, rfl, by decide +kernel, by decide +kernel⟩
theorem ok_20 (R : Fns) (L : Nat) (g : Gx) (nx : ∀ c ds T H F, ¬ g.XQ c ds T H F) : CB R L fsL frL nm_20 ⟨defScope st_20, fun _ => true⟩ g (defBody st_20) bd_20 :=
  cb_cons (cx_ret (ce_call (f := 12) nx m_words_so (by rfl) (cas_val (ce_call (f := 9) nx m_check_saying (by rfl) (cas_val (ce_var (i := 0) rfl (.inl rfl)) (cas_nil))) (cas_nil)))) (cb_nil)
/-! deep_in -/
abbrev st_21 : Stmt := topS 32
def bd_21 : Sms := .cons (.ret (.call 13 (.cons (.call 9 (.cons (.var 0) (.nil))) (.nil)))) (.nil)
def df_21 : Df := ⟨1, 1, [], bd_21⟩
abbrev nm_21 : List Str := ["saying"]
theorem sc_21 : FnScope nm_21 ["saying"] (defScope st_21) := ⟨rfl, rfl, rfl, by decide +kernel, rfl, by decide +kernel, by decide +kernel⟩
theorem ok_21 (R : Fns) (L : Nat) (g : Gx) (nx : ∀ c ds T H F, ¬ g.XQ c ds T H F) : CB R L fsL frL nm_21 ⟨defScope st_21, fun _ => true⟩ g (defBody st_21) bd_21 :=
  cb_cons (cx_ret (ce_call (f := 13) nx m_deep_so (by rfl) (cas_val (ce_call (f := 9) nx m_check_saying (by rfl) (cas_val (ce_var (i := 0) rfl (.inl rfl)) (cas_nil))) (cas_nil)))) (cb_nil)
/-! letters_in -/
abbrev st_22 : Stmt := topS 33
def bd_22 : Sms := .cons (.ret (.bi .tuple (.call 14 (.cons (.call 9 (.cons (.var 0) (.nil))) (.nil))))) (.nil)
def df_22 : Df := ⟨1, 1, [], bd_22⟩
abbrev nm_22 : List Str := ["saying"]
theorem sc_22 : FnScope nm_22 ["saying"] (defScope st_22) := ⟨rfl, rfl, rfl, by decide +kernel, rfl, by decide +kernel, by decide +kernel⟩
theorem ok_22 (R : Fns) (L : Nat) (g : Gx) (nx : ∀ c ds T H F, ¬ g.XQ c ds T H F) : CB R L fsL frL nm_22 ⟨defScope st_22, fun _ => true⟩ g (defBody st_22) bd_22 :=
  cb_cons (cx_ret (ce_tuple (ce_call (f := 14) nx m_letters_so (by rfl) (cas_val (ce_call (f := 9) nx m_check_saying (by rfl) (cas_val (ce_var (i := 0) rfl (.inl rfl)) (cas_nil))) (cas_nil))) (by rfl) b_tuple)) (cb_nil)
/-! need_marking -/
abbrev st_23 : Stmt := topS 34
def bd_23 : Sms := .cons (.expr (.call 3 (.cons (.var 0) (.nil)))) (.cons (.ret (.call 11 (.cons (.var 0) (.cons (.var 1) (.nil))))) (.nil))
def df_23 : Df := ⟨2, 2, [], bd_23⟩
abbrev nm_23 : List Str := ["web", "marking"]
theorem sc_23 : FnScope nm_23 ["web", "marking"] (defScope st_23) := ⟨rfl, rfl, rfl, by decide +kernel, rfl, by decide +kernel, by decide +kernel⟩
theorem ok_23 (R : Fns) (L : Nat) (g : Gx) (nx : ∀ c ds T H F, ¬ g.XQ c ds T H F) : CB R L fsL frL nm_23 ⟨defScope st_23, fun _ => true⟩ g (defBody st_23) bd_23 :=
  cb_cons (cx_expr (ce_call (f := 3) nx m_check_web (by rfl) (cas_val (ce_var (i := 0) rfl (.inl rfl)) (cas_nil)))) (cb_cons (cx_ret (ce_call (f := 11) nx m_check_marking (by rfl) (cas_val (ce_var (i := 0) rfl (.inl rfl)) (cas_val (ce_var (i := 1) rfl (.inl rfl)) (cas_nil))))) (cb_nil))
/-! holding -/
abbrev st_24 : Stmt := topS 35
def bd_24 : Sms := .cons (.expr (.call 3 (.cons (.var 0) (.nil)))) (.cons (.expr (.call 11 (.cons (.var 0) (.cons (.var 1) (.nil))))) (.cons (.expr (.call 9 (.cons (.var 2) (.nil)))) (.cons (.ret (.call 6 (.cons (.call 18 (.cons (.call 5 (.cons (.var 0) (.nil))) (.cons (.var 2) (.cons (.call 15 (.cons (.var 1) (.nil))) (.nil))))) (.nil)))) (.nil))))
def df_24 : Df := ⟨3, 3, [], bd_24⟩
abbrev nm_24 : List Str := ["web", "marking", "saying"]
theorem sc_24 : FnScope nm_24 ["web", "marking", "saying"] (defScope st_24) := ⟨rfl, rfl, rfl, by decide +kernel, rfl, by decide +kernel, by decide +kernel⟩
theorem ok_24 (R : Fns) (L : Nat) (g : Gx) (nx : ∀ c ds T H F, ¬ g.XQ c ds T H F) : CB R L fsL frL nm_24 ⟨defScope st_24, fun _ => true⟩ g (defBody st_24) bd_24 :=
  cb_cons (cx_expr (ce_call (f := 3) nx m_check_web (by rfl) (cas_val (ce_var (i := 0) rfl (.inl rfl)) (cas_nil)))) (cb_cons (cx_expr (ce_call (f := 11) nx m_check_marking (by rfl) (cas_val (ce_var (i := 0) rfl (.inl rfl)) (cas_val (ce_var (i := 1) rfl (.inl rfl)) (cas_nil))))) (cb_cons (cx_expr (ce_call (f := 9) nx m_check_saying (by rfl) (cas_val (ce_var (i := 2) rfl (.inl rfl)) (cas_nil)))) (cb_cons (cx_ret (ce_call (f := 6) nx m_spots_so (by rfl) (cas_val (ce_call (f := 18) nx m_holds_so (by rfl) (cas_val (ce_call (f := 5) nx m_arrows_so (by rfl) (cas_val (ce_var (i := 0) rfl (.inl rfl)) (cas_nil))) (cas_val (ce_var (i := 2) rfl (.inl rfl)) (cas_val (ce_call (f := 15) nx m_marks_so (by rfl) (cas_val (ce_var (i := 1) rfl (.inl rfl)) (cas_nil))) (cas_nil))))) (cas_nil)))) (cb_nil))))
/-! holds -/
abbrev st_25 : Stmt := topS 36
def bd_25 : Sms := .cons (.expr (.call 3 (.cons (.var 0) (.nil)))) (.cons (.expr (.call 11 (.cons (.var 0) (.cons (.var 1) (.nil))))) (.cons (.expr (.call 9 (.cons (.var 2) (.nil)))) (.cons (.expr (.call 4 (.cons (.var 0) (.cons (.var 3) (.nil))))) (.cons (.ret (.cmp .eq (.bin .band (.bin .shr (.call 18 (.cons (.call 5 (.cons (.var 0) (.nil))) (.cons (.var 2) (.cons (.call 15 (.cons (.var 1) (.nil))) (.nil))))) (.var 3)) (.cst (.int 1))) (.cst (.int 1)))) (.nil)))))
def df_25 : Df := ⟨4, 4, [], bd_25⟩
abbrev nm_25 : List Str := ["web", "marking", "saying", "world"]
theorem sc_25 : FnScope nm_25 ["web", "marking", "saying", "world"] (defScope st_25) := ⟨rfl, rfl, rfl, by decide +kernel, rfl, by decide +kernel, by decide +kernel⟩
theorem ok_25 (R : Fns) (L : Nat) (g : Gx) (nx : ∀ c ds T H F, ¬ g.XQ c ds T H F) : CB R L fsL frL nm_25 ⟨defScope st_25, fun _ => true⟩ g (defBody st_25) bd_25 :=
  cb_cons (cx_expr (ce_call (f := 3) nx m_check_web (by rfl) (cas_val (ce_var (i := 0) rfl (.inl rfl)) (cas_nil)))) (cb_cons (cx_expr (ce_call (f := 11) nx m_check_marking (by rfl) (cas_val (ce_var (i := 0) rfl (.inl rfl)) (cas_val (ce_var (i := 1) rfl (.inl rfl)) (cas_nil))))) (cb_cons (cx_expr (ce_call (f := 9) nx m_check_saying (by rfl) (cas_val (ce_var (i := 2) rfl (.inl rfl)) (cas_nil)))) (cb_cons (cx_expr (ce_call (f := 4) nx m_check_world (by rfl) (cas_val (ce_var (i := 0) rfl (.inl rfl)) (cas_val (ce_var (i := 3) rfl (.inl rfl)) (cas_nil))))) (cb_cons (cx_ret (ce_cmp (op := .eq) (ce_bin (op := .band) (ce_bin (op := .shr) (ce_call (f := 18) nx m_holds_so (by rfl) (cas_val (ce_call (f := 5) nx m_arrows_so (by rfl) (cas_val (ce_var (i := 0) rfl (.inl rfl)) (cas_nil))) (cas_val (ce_var (i := 2) rfl (.inl rfl)) (cas_val (ce_call (f := 15) nx m_marks_so (by rfl) (cas_val (ce_var (i := 1) rfl (.inl rfl)) (cas_nil))) (cas_nil))))) (ce_var (i := 3) rfl (.inl rfl))) (ce_int)) (ce_int) rfl)) (cb_nil)))))
/-! _law_mixed -/
abbrev st_26 : Stmt := topS 38
def bd_26 : Sms := .cons (.asg 0 (.bin .mod (.bi .int (.var 0)) (.cst (.int 2147483647)))) (.cons (.ret (.bin .mod (.bin .mul (.bin .mod (.bin .add (.bin .add (.bin .mul (.var 0) (.bin .add (.cst (.int 48271)) (.bin .mul (.bin .mul (.cst (.int 2)) (.var 1)) (.var 1)))) (.bin .mul (.cst (.int 69621)) (.var 1))) (.cst (.int 11))) (.cst (.int 2147483647))) (.cst (.int 69621))) (.cst (.int 2147483629)))) (.nil))
def df_26 : Df := ⟨2, 2, [], bd_26⟩
abbrev nm_26 : List Str := ["cell", "k"]
theorem sc_26 : FnScope nm_26 ["cell", "k"] (defScope st_26) := ⟨rfl, rfl, rfl, by decide +kernel, rfl, by decide +kernel, by decide +kernel⟩
theorem ok_26 (R : Fns) (L : Nat) (g : Gx) (nx : ∀ c ds T H F, ¬ g.XQ c ds T H F) : CB R L fsL frL nm_26 ⟨defScope st_26, fun _ => true⟩ g (defBody st_26) bd_26 :=
  cb_cons (cx_asg (i := 0) rfl (.inl rfl) (.inl rfl) (ce_bin (op := .mod) (ce_intc (ce_var (i := 0) rfl (.inl rfl)) (by rfl) b_int) (ce_int))) (cb_cons (cx_ret (ce_bin (op := .mod) (ce_bin (op := .mul) (ce_bin (op := .mod) (ce_bin (op := .add) (ce_bin (op := .add) (ce_bin (op := .mul) (ce_var (i := 0) rfl (.inl rfl)) (ce_bin (op := .add) (ce_int) (ce_bin (op := .mul) (ce_bin (op := .mul) (ce_int) (ce_var (i := 1) rfl (.inl rfl))) (ce_var (i := 1) rfl (.inl rfl))))) (ce_bin (op := .mul) (ce_int) (ce_var (i := 1) rfl (.inl rfl)))) (ce_int)) (ce_int)) (ce_int)) (ce_int))) (cb_nil))
/-! _law_begin -/
abbrev st_27 : Stmt := topS 39
def bd_27 : Sms := .cons (.asg 1 (.ife (.cmp .ne (.var 0) (.lst (.nil))) (.bi .list (.var 0)) (.lst (.cons (.cst (.int 0)) .nil)))) (.cons (.ret (.dct [.inr "cells", .inr "lefts", .inr "at"] (.cons (.var 1) (.cons (.comp [2] (.name 2) (.seq (.var 1)) (.nil) (.ife (.cmp .ge (.var 2) (.bin .pow (.cst (.int 10)) (.cst (.int 18)))) (.var 2) (.cst (.int 0)))) (.cons (.cst (.int 0)) (.nil)))))) (.nil))
def df_27 : Df := ⟨3, 1, [], bd_27⟩
abbrev nm_27 : List Str := ["script", "cells_so", "cell"]
theorem sc_27 : FnScope nm_27 ["script"] (defScope st_27) := ⟨rfl, rfl, rfl, by decide +kernel, rfl, by decide +kernel, by decide +kernel⟩
theorem ok_27 (R : Fns) (L : Nat) (g : Gx) (nx : ∀ c ds T H F, ¬ g.XQ c ds T H F) : CB R L fsL frL nm_27 ⟨defScope st_27, fun _ => true⟩ g (defBody st_27) bd_27 :=
  cb_cons (cx_asg (i := 1) rfl (.inl rfl) (.inl rfl) (ce_ife (ct_cmp (op := .ne) (ce_var (i := 0) rfl (.inl rfl)) (ce_lst (cos_nil)) rfl) (ce_list (ce_var (i := 0) rfl (.inl rfl)) (by rfl) b_list) (ce_lst (cos_cons (ce_int) (cos_nil))))) (cb_cons (cx_ret (ce_dct (cks_cons (ce_var (i := 1) rfl (.inl rfl)) (cks_cons (ce_lc (own := [("cell", 2)]) (ci_seq (ce_var (i := 1) rfl (.inl rfl))) (by decide +kernel) (cg_name (i := 2) rfl (.inl rfl) (.inr rfl)) (cc_nil) (ce_ife (ct_cmp (op := .ge) (ce_var (i := 2) rfl (.inl rfl)) (ce_bin (op := .pow) (ce_int) (ce_int)) rfl) (ce_var (i := 2) rfl (.inl rfl)) (ce_int))) (cks_cons (ce_int) (cks_nil)))) rfl rfl (by intro h; cases h) (by decide))) (cb_nil))
/-! _law_draw -/
abbrev st_28 : Stmt := topS 40
def bd_28 : Sms := .cons (.asg 2 (.item 0 (.cst (.str "at")))) (.cons (.setI 0 (.cst (.str "at")) (.bin .add (.var 2) (.cst (.int 1)))) (.cons (.asg 3 (.bin .mod (.bi .int (.var 2)) (.bi .len (.item 0 (.cst (.str "cells")))))) (.cons (.asg 4 (.item2 0 (.cst (.str "lefts")) (.var 3))) (.cons (.ife (.cmp .gt (.var 4) (.cst (.int 0))) (.cons (.set2 0 (.cst (.str "lefts")) (.var 3) (.bin .fdiv (.var 4) (.var 1))) (.cons (.ret (.bin .mod (.bi .int (.var 4)) (.var 1))) (.nil))) (.nil)) (.cons (.asg 5 (.call 26 (.cons (.call 26 (.cons (.item2 0 (.cst (.str "cells")) (.var 3)) (.cons (.var 2) (.nil)))) (.cons (.bin .add (.cst (.int 40)) (.var 2)) (.nil))))) (.cons (.ret (.bin .mod (.bin .fdiv (.bi .int (.bin .add (.bin .mul (.var 5) (.cst (.int 2147483647))) (.call 26 (.cons (.var 5) (.cons (.bin .add (.cst (.int 7)) (.var 2)) (.nil)))))) (.cst (.int 64))) (.var 1))) (.nil)))))))
def df_28 : Df := ⟨6, 2, [0], bd_28⟩
abbrev nm_28 : List Str := ["state", "limit", "at", "spot", "left", "mixed"]
theorem sc_28 : FnScope nm_28 ["state", "limit"] (defScope st_28) := ⟨rfl, rfl, rfl, by decide +kernel, rfl, by decide +kernel, by decide +kernel⟩
theorem ok_28 (R : Fns) (L : Nat) (g : Gx) (nx : ∀ c ds T H F, ¬ g.XQ c ds T H F) : CB R L fsL frL nm_28 ⟨defScope st_28, fun _ => true⟩ g (defBody st_28) bd_28 :=
  cb_cons (cx_asg (i := 2) rfl (.inl rfl) (.inl rfl) (ce_item (i := 0) rfl (.inl rfl) (ce_str))) (cb_cons (cx_setI (i := 0) rfl (.inl rfl) (ce_str) (ce_bin (op := .add) (ce_var (i := 2) rfl (.inl rfl)) (ce_int))) (cb_cons (cx_asg (i := 3) rfl (.inl rfl) (.inl rfl) (ce_bin (op := .mod) (ce_intc (ce_var (i := 2) rfl (.inl rfl)) (by rfl) b_int) (ce_len (ce_item (i := 0) rfl (.inl rfl) (ce_str)) (by rfl) b_len))) (cb_cons (cx_asg (i := 4) rfl (.inl rfl) (.inl rfl) (ce_item2 (i := 0) rfl (.inl rfl) (cs_str) (cs_var (i := 3) rfl (.inl rfl)))) (cb_cons (cx_ife (ct_cmp (op := .gt) (ce_var (i := 4) rfl (.inl rfl)) (ce_int) rfl) (cb_cons (cx_set2 (i := 0) rfl (.inl rfl) (cs_str) (cs_var (i := 3) rfl (.inl rfl)) (ce_bin (op := .fdiv) (ce_var (i := 4) rfl (.inl rfl)) (ce_var (i := 1) rfl (.inl rfl)))) (cb_cons (cx_ret (ce_bin (op := .mod) (ce_intc (ce_var (i := 4) rfl (.inl rfl)) (by rfl) b_int) (ce_var (i := 1) rfl (.inl rfl)))) (cb_nil))) (cb_nil)) (cb_cons (cx_asg (i := 5) rfl (.inl rfl) (.inl rfl) (ce_call (f := 26) nx m__law_mixed (by rfl) (cas_val (ce_call (f := 26) nx m__law_mixed (by rfl) (cas_val (ce_item2 (i := 0) rfl (.inl rfl) (cs_str) (cs_var (i := 3) rfl (.inl rfl))) (cas_val (ce_var (i := 2) rfl (.inl rfl)) (cas_nil)))) (cas_val (ce_bin (op := .add) (ce_int) (ce_var (i := 2) rfl (.inl rfl))) (cas_nil))))) (cb_cons (cx_ret (ce_bin (op := .mod) (ce_bin (op := .fdiv) (ce_intc (ce_bin (op := .add) (ce_bin (op := .mul) (ce_var (i := 5) rfl (.inl rfl)) (ce_int)) (ce_call (f := 26) nx m__law_mixed (by rfl) (cas_val (ce_var (i := 5) rfl (.inl rfl)) (cas_val (ce_bin (op := .add) (ce_int) (ce_var (i := 2) rfl (.inl rfl))) (cas_nil))))) (by rfl) b_int) (ce_int)) (ce_var (i := 1) rfl (.inl rfl)))) (cb_nil)))))))
/-! _law_web -/
abbrev st_29 : Stmt := topS 41
def bd_29 : Sms := .cons (.par [3, 4] (.cons (.bin .add (.cst (.int 1)) (.call 28 (.cons (.io 0) (.cons (.var 1) (.nil))))) (.cons (.lst (.nil)) .nil))) (.cons (.for_ (.name 5) (.rng (.var 2)) (.cons (.for_ (.name 6) (.rng (.var 3)) (.cons (.asg 4 (.bin .add (.var 4) (.comp [7] (.name 7) (.rng (.var 3)) (.cons (.cmp .eq (.call 28 (.cons (.io 0) (.cons (.cst (.int 3)) (.nil)))) (.cst (.int 0))) .nil) (.tup (.cons (.var 5) (.cons (.var 6) (.cons (.var 7) .nil))))))) (.nil))) (.nil))) (.cons (.ret (.tup (.cons (.var 3) (.cons (.bi .tuple (.var 4)) .nil)))) (.nil)))
def df_29 : Df := ⟨8, 3, [0], bd_29⟩
abbrev nm_29 : List Str := ["state", "most", "sorts", "size", "found", "sort", "here", "there"]
theorem sc_29 : FnScope nm_29 ["state", "most", "sorts"] (defScope st_29) := ⟨rfl, rfl, rfl, by decide +kernel, rfl, by decide +kernel, by decide +kernel⟩
theorem ok_29 (R : Fns) (L : Nat) (g : Gx) (nx : ∀ c ds T H F, ¬ g.XQ c ds T H F) : CB R L fsL frL nm_29 ⟨defScope st_29, fun _ => true⟩ g (defBody st_29) bd_29 :=
  cb_cons (cx_par2 (i := 3) (j := 4) rfl rfl (by decide) rfl rfl (cos_cons (ce_bin (op := .add) (ce_int) (ce_call (f := 28) nx m__law_draw (by rfl) (cas_io (i := 0) rfl (.inr (.inl rfl)) (cas_val (ce_var (i := 1) rfl (.inl rfl)) (cas_nil))))) (cos_cons (ce_lst (cos_nil)) (cos_nil))) (fun env h => by cases env; dsimp only at h; subst h; rfl)) (cb_cons (cx_for (ci_rng (ce_var (i := 2) rfl (.inl rfl)) (by rfl) b_range) (cg_name (i := 5) rfl (.inr rfl) (.inl rfl)) (cb_cons (cx_for (ci_rng (ce_var (i := 3) rfl (.inl rfl)) (by rfl) b_range) (cg_name (i := 6) rfl (.inr rfl) (.inl rfl)) (cb_cons (cx_asg (i := 4) rfl (.inl rfl) (.inl rfl) (ce_bin (op := .add) (ce_var (i := 4) rfl (.inl rfl)) (ce_lc (own := [("there", 7)]) (ci_rng (ce_var (i := 3) rfl (.inl rfl)) (by rfl) b_range) (by decide +kernel) (cg_name (i := 7) rfl (.inl rfl) (.inr rfl)) (cc_one (ct_cmp (op := .eq) (ce_call (f := 28) (fun _ _ _ _ _ h => h) m__law_draw (by rfl) (cas_io (i := 0) rfl (.inr (.inl rfl)) (cas_val (ce_int) (cas_nil)))) (ce_int) rfl)) (ce_tup (cds_cons (ce_var (i := 5) rfl (.inr (.inl rfl))) (cds_cons (ce_var (i := 6) rfl (.inr (.inl rfl))) (cds_cons (ce_var (i := 7) rfl (.inl rfl)) (cds_nil)))))))) (cb_nil))) (cb_nil))) (cb_cons (cx_ret (ce_tup (cds_cons (ce_var (i := 3) rfl (.inl rfl)) (cds_cons (ce_tuple (ce_var (i := 4) rfl (.inl rfl)) (by rfl) b_tuple) (cds_nil))))) (cb_nil)))
/-! _law_saying -/
abbrev st_30 : Stmt := topS 42
def bd_30 : Sms := .cons (.asg 3 (.ife (.cmp .gt (.var 1) (.cst (.int 1))) (.call 28 (.cons (.io 0) (.cons (.cst (.int 9)) (.nil)))) (.call 28 (.cons (.io 0) (.cons (.cst (.int 3)) (.nil)))))) (.cons (.ife (.cmp .lt (.var 3) (.cst (.int 2))) (.cons (.ret (.tup (.cons (.cst (.str "letter")) (.cons (.call 28 (.cons (.io 0) (.cons (.var 2) (.nil)))) .nil)))) (.nil)) (.nil)) (.cons (.ife (.cmp .eq (.var 3) (.cst (.int 2))) (.cons (.ret (.tup (.cons (.sub (.lst (.cons (.cst (.str "yes")) (.cons (.cst (.str "no")) .nil))) (.call 28 (.cons (.io 0) (.cons (.cst (.int 2)) (.nil))))) .nil))) (.nil)) (.nil)) (.cons (.ife (.cmp .eq (.var 3) (.cst (.int 3))) (.cons (.ret (.tup (.cons (.cst (.str "not")) (.cons (.call 30 (.cons (.io 0) (.cons (.bin .sub (.var 1) (.cst (.int 1))) (.cons (.var 2) (.nil))))) .nil)))) (.nil)) (.nil)) (.cons (.ife (.cmp .lt (.var 3) (.cst (.int 6))) (.cons (.asg 4 (.sub (.lst (.cons (.cst (.str "and")) (.cons (.cst (.str "or")) (.cons (.cst (.str "gives")) .nil)))) (.call 28 (.cons (.io 0) (.cons (.cst (.int 3)) (.nil)))))) (.cons (.asg 5 (.call 30 (.cons (.io 0) (.cons (.bin .sub (.var 1) (.cst (.int 1))) (.cons (.var 2) (.nil)))))) (.cons (.ret (.tup (.cons (.var 4) (.cons (.var 5) (.cons (.call 30 (.cons (.io 0) (.cons (.bin .sub (.var 1) (.cst (.int 1))) (.cons (.var 2) (.nil))))) .nil))))) (.nil)))) (.nil)) (.cons (.par [4, 6] (.cons (.sub (.lst (.cons (.cst (.str "each")) (.cons (.cst (.str "some")) .nil))) (.call 28 (.cons (.io 0) (.cons (.cst (.int 2)) (.nil))))) (.cons (.bin .sub (.call 28 (.cons (.io 0) (.cons (.cst (.int 6)) (.nil)))) (.cst (.int 3))) .nil))) (.cons (.ret (.tup (.cons (.var 4) (.cons (.var 6) (.cons (.call 30 (.cons (.io 0) (.cons (.bin .sub (.var 1) (.cst (.int 1))) (.cons (.var 2) (.nil))))) .nil))))) (.nil)))))))
def df_30 : Df := ⟨7, 3, [0], bd_30⟩
abbrev nm_30 : List Str := ["state", "deep", "names", "pick", "head", "near", "toward"]
theorem sc_30 : FnScope nm_30 ["state", "deep", "names"] (defScope st_30) := ⟨rfl, rfl, rfl, by decide +kernel, rfl, by decide +kernel, by decide +kernel⟩
theorem ok_30 (R : Fns) (L : Nat) (g : Gx) (nx : ∀ c ds T H F, ¬ g.XQ c ds T H F) : CB R L fsL frL nm_30 ⟨defScope st_30, fun _ => true⟩ g (defBody st_30) bd_30 :=
  cb_cons (cx_asg (i := 3) rfl (.inl rfl) (.inl rfl) (ce_ife (ct_cmp (op := .gt) (ce_var (i := 1) rfl (.inl rfl)) (ce_int) rfl) (ce_call (f := 28) nx m__law_draw (by rfl) (cas_io (i := 0) rfl (.inl rfl) (cas_val (ce_int) (cas_nil)))) (ce_call (f := 28) nx m__law_draw (by rfl) (cas_io (i := 0) rfl (.inl rfl) (cas_val (ce_int) (cas_nil)))))) (cb_cons (cx_ife (ct_cmp (op := .lt) (ce_var (i := 3) rfl (.inl rfl)) (ce_int) rfl) (cb_cons (cx_ret (ce_tup (cds_cons (ce_str) (cds_cons (ce_call (f := 28) nx m__law_draw (by rfl) (cas_io (i := 0) rfl (.inl rfl) (cas_val (ce_var (i := 2) rfl (.inl rfl)) (cas_nil)))) (cds_nil))))) (cb_nil)) (cb_nil)) (cb_cons (cx_ife (ct_cmp (op := .eq) (ce_var (i := 3) rfl (.inl rfl)) (ce_int) rfl) (cb_cons (cx_ret (ce_tup (cds_cons (ce_sub (ce_lst (cos_cons (ce_str) (cos_cons (ce_str) (cos_nil)))) (ce_call (f := 28) nx m__law_draw (by rfl) (cas_io (i := 0) rfl (.inl rfl) (cas_val (ce_int) (cas_nil))))) (cds_nil)))) (cb_nil)) (cb_nil)) (cb_cons (cx_ife (ct_cmp (op := .eq) (ce_var (i := 3) rfl (.inl rfl)) (ce_int) rfl) (cb_cons (cx_ret (ce_tup (cds_cons (ce_str) (cds_cons (ce_call (f := 30) nx m__law_saying (by rfl) (cas_io (i := 0) rfl (.inl rfl) (cas_val (ce_bin (op := .sub) (ce_var (i := 1) rfl (.inl rfl)) (ce_int)) (cas_val (ce_var (i := 2) rfl (.inl rfl)) (cas_nil))))) (cds_nil))))) (cb_nil)) (cb_nil)) (cb_cons (cx_ife (ct_cmp (op := .lt) (ce_var (i := 3) rfl (.inl rfl)) (ce_int) rfl) (cb_cons (cx_asg (i := 4) rfl (.inl rfl) (.inl rfl) (ce_sub (ce_lst (cos_cons (ce_str) (cos_cons (ce_str) (cos_cons (ce_str) (cos_nil))))) (ce_call (f := 28) nx m__law_draw (by rfl) (cas_io (i := 0) rfl (.inl rfl) (cas_val (ce_int) (cas_nil)))))) (cb_cons (cx_asg (i := 5) rfl (.inl rfl) (.inl rfl) (ce_call (f := 30) nx m__law_saying (by rfl) (cas_io (i := 0) rfl (.inl rfl) (cas_val (ce_bin (op := .sub) (ce_var (i := 1) rfl (.inl rfl)) (ce_int)) (cas_val (ce_var (i := 2) rfl (.inl rfl)) (cas_nil)))))) (cb_cons (cx_ret (ce_tup (cds_cons (ce_var (i := 4) rfl (.inl rfl)) (cds_cons (ce_var (i := 5) rfl (.inl rfl)) (cds_cons (ce_call (f := 30) nx m__law_saying (by rfl) (cas_io (i := 0) rfl (.inl rfl) (cas_val (ce_bin (op := .sub) (ce_var (i := 1) rfl (.inl rfl)) (ce_int)) (cas_val (ce_var (i := 2) rfl (.inl rfl)) (cas_nil))))) (cds_nil)))))) (cb_nil)))) (cb_nil)) (cb_cons (cx_par2 (i := 4) (j := 6) rfl rfl (by decide) rfl rfl (cos_cons (ce_sub (ce_lst (cos_cons (ce_str) (cos_cons (ce_str) (cos_nil)))) (ce_call (f := 28) nx m__law_draw (by rfl) (cas_io (i := 0) rfl (.inl rfl) (cas_val (ce_int) (cas_nil))))) (cos_cons (ce_bin (op := .sub) (ce_call (f := 28) nx m__law_draw (by rfl) (cas_io (i := 0) rfl (.inl rfl) (cas_val (ce_int) (cas_nil)))) (ce_int)) (cos_nil))) (fun env h => by cases env; dsimp only at h; subst h; rfl)) (cb_cons (cx_ret (ce_tup (cds_cons (ce_var (i := 4) rfl (.inl rfl)) (cds_cons (ce_var (i := 6) rfl (.inl rfl)) (cds_cons (ce_call (f := 30) nx m__law_saying (by rfl) (cas_io (i := 0) rfl (.inl rfl) (cas_val (ce_bin (op := .sub) (ce_var (i := 1) rfl (.inl rfl)) (ce_int)) (cas_val (ce_var (i := 2) rfl (.inl rfl)) (cas_nil))))) (cds_nil)))))) (cb_nil)))))))
/-! _law_led -/
abbrev st_31 : Stmt := topS 43
def bd_31 : Sms := .cons (.ife (.cmp .ge (.var 1) (.cst (.int 0))) (.cons (.ret (.comp [3, 4, 5] (.tup (.cons (.name 3) (.cons (.name 4) (.cons (.name 5) (.nil))))) (.seq (.sub (.var 0) (.cst (.int 1)))) (.cons (.and (.cmp .eq (.var 3) (.var 1)) (.cmp .eq (.var 4) (.var 2))) .nil) (.var 5))) (.nil)) (.nil)) (.cons (.ret (.comp [3, 4, 5] (.tup (.cons (.name 3) (.cons (.name 4) (.cons (.name 5) (.nil))))) (.seq (.sub (.var 0) (.cst (.int 1)))) (.cons (.and (.cmp .eq (.var 3) (.bin .sub (.neg (.cst (.int 1))) (.var 1))) (.cmp .eq (.var 5) (.var 2))) .nil) (.var 4))) (.nil))
def df_31 : Df := ⟨6, 3, [], bd_31⟩
abbrev nm_31 : List Str := ["web_so", "toward", "spot", "sort", "near", "far"]
theorem sc_31 : FnScope nm_31 ["web_so", "toward", "spot"] (defScope st_31) := ⟨rfl, rfl, rfl, by decide +kernel, rfl, by decide +kernel, by decide +kernel⟩
theorem ok_31 (R : Fns) (L : Nat) (g : Gx) (nx : ∀ c ds T H F, ¬ g.XQ c ds T H F) : CB R L fsL frL nm_31 ⟨defScope st_31, fun _ => true⟩ g (defBody st_31) bd_31 :=
  cb_cons (cx_ife (ct_cmp (op := .ge) (ce_var (i := 1) rfl (.inr (.inl rfl))) (ce_int) rfl) (cb_cons (cx_ret (ce_lc (own := [("sort", 3), ("near", 4), ("far", 5)]) (ci_seq (ce_sub (ce_var (i := 0) rfl (.inl rfl)) (ce_int))) (by decide +kernel) (cg_tup (cgs_cons (cg_name (i := 3) rfl (.inl rfl) (.inr rfl)) (cgs_cons (cg_name (i := 4) rfl (.inl rfl) (.inr rfl)) (cgs_cons (cg_name (i := 5) rfl (.inl rfl) (.inr rfl)) (cgs_nil))))) (cc_one (ct_w (cw_and (ct_cmp (op := .eq) (ce_var (i := 3) rfl (.inl rfl)) (ce_var (i := 1) rfl (.inr (.inl rfl))) rfl) (cw_and1 (ct_cmp (op := .eq) (ce_var (i := 4) rfl (.inl rfl)) (ce_var (i := 2) rfl (.inr (.inl rfl))) rfl))))) (ce_var (i := 5) rfl (.inl rfl)))) (cb_nil)) (cb_nil)) (cb_cons (cx_ret (ce_lc (own := [("sort", 3), ("near", 4), ("far", 5)]) (ci_seq (ce_sub (ce_var (i := 0) rfl (.inl rfl)) (ce_int))) (by decide +kernel) (cg_tup (cgs_cons (cg_name (i := 3) rfl (.inl rfl) (.inr rfl)) (cgs_cons (cg_name (i := 4) rfl (.inl rfl) (.inr rfl)) (cgs_cons (cg_name (i := 5) rfl (.inl rfl) (.inr rfl)) (cgs_nil))))) (cc_one (ct_w (cw_and (ct_cmp (op := .eq) (ce_var (i := 3) rfl (.inl rfl)) (ce_bin (op := .sub) (ce_neg (ce_int)) (ce_var (i := 1) rfl (.inr (.inl rfl)))) rfl) (cw_and1 (ct_cmp (op := .eq) (ce_var (i := 5) rfl (.inl rfl)) (ce_var (i := 2) rfl (.inr (.inl rfl))) rfl))))) (ce_var (i := 4) rfl (.inl rfl)))) (cb_nil))
/-! _law_at -/
abbrev st_32 : Stmt := topS 44
def bd_32 : Sms := .cons (.asg 4 (.sub (.var 2) (.cst (.int 0)))) (.cons (.ife (.cmp .eq (.var 4) (.cst (.str "letter"))) (.cons (.ret (.and (.cmp .lt (.sub (.var 2) (.cst (.int 1))) (.bi .len (.var 1))) (.cmp .inn (.var 3) (.sub (.var 1) (.sub (.var 2) (.cst (.int 1))))))) (.nil)) (.nil)) (.cons (.ife (.cmp .inn (.var 4) (.tup (.cons (.cst (.str "yes")) (.cons (.cst (.str "no")) .nil)))) (.cons (.ret (.cmp .eq (.var 4) (.cst (.str "yes")))) (.nil)) (.nil)) (.cons (.ife (.cmp .eq (.var 4) (.cst (.str "not"))) (.cons (.ret (.not (.call 32 (.cons (.var 0) (.cons (.var 1) (.cons (.sub (.var 2) (.cst (.int 1))) (.cons (.var 3) (.nil)))))))) (.nil)) (.nil)) (.cons (.ife (.cmp .inn (.var 4) (.tup (.cons (.cst (.str "each")) (.cons (.cst (.str "some")) .nil)))) (.cons (.asg 5 (.comp [8] (.name 8) (.seq (.call 31 (.cons (.var 0) (.cons (.sub (.var 2) (.cst (.int 1))) (.cons (.var 3) (.nil)))))) (.nil) (.call 32 (.cons (.var 0) (.cons (.var 1) (.cons (.sub (.var 2) (.cst (.int 2))) (.cons (.var 8) (.nil)))))))) (.cons (.ret (.ife (.cmp .eq (.var 4) (.cst (.str "each"))) (.cmp .nin (.cst (.bool false)) (.var 5)) (.cmp .inn (.cst (.bool true)) (.var 5)))) (.nil))) (.nil)) (.cons (.par [6, 7] (.cons (.call 32 (.cons (.var 0) (.cons (.var 1) (.cons (.sub (.var 2) (.cst (.int 1))) (.cons (.var 3) (.nil)))))) (.cons (.call 32 (.cons (.var 0) (.cons (.var 1) (.cons (.sub (.var 2) (.cst (.int 2))) (.cons (.var 3) (.nil)))))) .nil))) (.cons (.ife (.cmp .eq (.var 4) (.cst (.str "and"))) (.cons (.ret (.and (.var 6) (.var 7))) (.nil)) (.nil)) (.cons (.ret (.ife (.cmp .eq (.var 4) (.cst (.str "or"))) (.or (.var 6) (.var 7)) (.or (.not (.var 6)) (.var 7)))) (.nil))))))))
def df_32 : Df := ⟨9, 4, [], bd_32⟩
abbrev nm_32 : List Str := ["web_so", "mark_so", "told", "spot", "head", "answers", "near", "far", "there"]
theorem sc_32 : FnScope nm_32 ["web_so", "mark_so", "told", "spot"] (defScope st_32) := ⟨rfl, rfl, rfl, by decide +kernel, rfl, by decide +kernel, by decide +kernel⟩
theorem ok_32 (R : Fns) (L : Nat) (g : Gx) (nx : ∀ c ds T H F, ¬ g.XQ c ds T H F) : CB R L fsL frL nm_32 ⟨defScope st_32, fun _ => true⟩ g (defBody st_32) bd_32 :=
  cb_cons (cx_asg (i := 4) rfl (.inl rfl) (.inl rfl) (ce_sub (ce_var (i := 2) rfl (.inr (.inl rfl))) (ce_int))) (cb_cons (cx_ife (ct_cmp (op := .eq) (ce_var (i := 4) rfl (.inl rfl)) (ce_str) rfl) (cb_cons (cx_ret (ce_and (ce_cmp (op := .lt) (ce_sub (ce_var (i := 2) rfl (.inr (.inl rfl))) (ce_int)) (ce_len (ce_var (i := 1) rfl (.inr (.inl rfl))) (by rfl) b_len) rfl) (ce_one (ce_cmp (op := .inn) (ce_var (i := 3) rfl (.inl rfl)) (ce_sub (ce_var (i := 1) rfl (.inr (.inl rfl))) (ce_sub (ce_var (i := 2) rfl (.inr (.inl rfl))) (ce_int))) rfl)))) (cb_nil)) (cb_nil)) (cb_cons (cx_ife (ct_cmp (op := .inn) (ce_var (i := 4) rfl (.inl rfl)) (ce_tup (cds_cons (ce_str) (cds_cons (ce_str) (cds_nil)))) rfl) (cb_cons (cx_ret (ce_cmp (op := .eq) (ce_var (i := 4) rfl (.inl rfl)) (ce_str) rfl)) (cb_nil)) (cb_nil)) (cb_cons (cx_ife (ct_cmp (op := .eq) (ce_var (i := 4) rfl (.inl rfl)) (ce_str) rfl) (cb_cons (cx_ret (ce_not (ce_call (f := 32) nx m__law_at (by rfl) (cas_val (ce_var (i := 0) rfl (.inr (.inl rfl))) (cas_val (ce_var (i := 1) rfl (.inr (.inl rfl))) (cas_val (ce_sub (ce_var (i := 2) rfl (.inr (.inl rfl))) (ce_int)) (cas_val (ce_var (i := 3) rfl (.inl rfl)) (cas_nil)))))))) (cb_nil)) (cb_nil)) (cb_cons (cx_ife (ct_cmp (op := .inn) (ce_var (i := 4) rfl (.inl rfl)) (ce_tup (cds_cons (ce_str) (cds_cons (ce_str) (cds_nil)))) rfl) (cb_cons (cx_asgLc (i := 5) (own := [("there", 8)]) rfl rfl rfl (ci_seq (ce_call (f := 31) nx m__law_led (by rfl) (cas_val (ce_var (i := 0) rfl (.inr (.inl rfl))) (cas_val (ce_sub (ce_var (i := 2) rfl (.inr (.inl rfl))) (ce_int)) (cas_val (ce_var (i := 3) rfl (.inl rfl)) (cas_nil)))))) (by decide +kernel) (cg_name (i := 8) rfl (.inl rfl) (.inr rfl)) (cc_nil) (ce_call (f := 32) (fun _ _ _ _ _ h => h) m__law_at (by rfl) (cas_val (ce_var (i := 0) rfl (.inr (.inl rfl))) (cas_val (ce_var (i := 1) rfl (.inr (.inl rfl))) (cas_val (ce_sub (ce_var (i := 2) rfl (.inr (.inl rfl))) (ce_int)) (cas_val (ce_var (i := 8) rfl (.inl rfl)) (cas_nil))))))) (cb_cons (cx_ret (ce_ife (ct_cmp (op := .eq) (ce_var (i := 4) rfl (.inl rfl)) (ce_str) rfl) (ce_cmp (op := .nin) (ce_bool) (ce_var (i := 5) rfl (.inl rfl)) rfl) (ce_cmp (op := .inn) (ce_bool) (ce_var (i := 5) rfl (.inl rfl)) rfl))) (cb_nil))) (cb_nil)) (cb_cons (cx_par2 (i := 6) (j := 7) rfl rfl (by decide) rfl rfl (cos_cons (ce_call (f := 32) nx m__law_at (by rfl) (cas_val (ce_var (i := 0) rfl (.inr (.inl rfl))) (cas_val (ce_var (i := 1) rfl (.inr (.inl rfl))) (cas_val (ce_sub (ce_var (i := 2) rfl (.inr (.inl rfl))) (ce_int)) (cas_val (ce_var (i := 3) rfl (.inl rfl)) (cas_nil)))))) (cos_cons (ce_call (f := 32) nx m__law_at (by rfl) (cas_val (ce_var (i := 0) rfl (.inr (.inl rfl))) (cas_val (ce_var (i := 1) rfl (.inr (.inl rfl))) (cas_val (ce_sub (ce_var (i := 2) rfl (.inr (.inl rfl))) (ce_int)) (cas_val (ce_var (i := 3) rfl (.inl rfl)) (cas_nil)))))) (cos_nil))) (fun env h => by cases env; dsimp only at h; subst h; rfl)) (cb_cons (cx_ife (ct_cmp (op := .eq) (ce_var (i := 4) rfl (.inl rfl)) (ce_str) rfl) (cb_cons (cx_ret (ce_and (ce_var (i := 6) rfl (.inl rfl)) (ce_one (ce_var (i := 7) rfl (.inl rfl))))) (cb_nil)) (cb_nil)) (cb_cons (cx_ret (ce_ife (ct_cmp (op := .eq) (ce_var (i := 4) rfl (.inl rfl)) (ce_str) rfl) (ce_or (ce_var (i := 6) rfl (.inl rfl)) (ce_one (ce_var (i := 7) rfl (.inl rfl)))) (ce_or (ce_not (ce_var (i := 6) rfl (.inl rfl))) (ce_one (ce_var (i := 7) rfl (.inl rfl)))))) (cb_nil))))))))
/-! _law_inner -/
abbrev st_33 : Stmt := topS 45
def bd_33 : Sms := .cons (.ife (.cmp .inn (.sub (.var 0) (.cst (.int 0))) (.tup (.cons (.cst (.str "and")) (.cons (.cst (.str "or")) (.cons (.cst (.str "gives")) .nil))))) (.cons (.ret (.lst (.cons (.sub (.var 0) (.cst (.int 1))) (.cons (.sub (.var 0) (.cst (.int 2))) .nil)))) (.nil)) (.nil)) (.cons (.ret (.ife (.cmp .inn (.sub (.var 0) (.cst (.int 0))) (.tup (.cons (.cst (.str "not")) (.cons (.cst (.str "each")) (.cons (.cst (.str "some")) .nil))))) (.lst (.cons (.sub (.var 0) (.neg (.cst (.int 1)))) .nil)) (.lst (.nil)))) (.nil))
def df_33 : Df := ⟨1, 1, [], bd_33⟩
abbrev nm_33 : List Str := ["told"]
theorem sc_33 : FnScope nm_33 ["told"] (defScope st_33) := ⟨rfl, rfl, rfl, by decide +kernel, rfl, by decide +kernel, by decide +kernel⟩
theorem ok_33 (R : Fns) (L : Nat) (g : Gx) (nx : ∀ c ds T H F, ¬ g.XQ c ds T H F) : CB R L fsL frL nm_33 ⟨defScope st_33, fun _ => true⟩ g (defBody st_33) bd_33 :=
  cb_cons (cx_ife (ct_cmp (op := .inn) (ce_sub (ce_var (i := 0) rfl (.inl rfl)) (ce_int)) (ce_tup (cds_cons (ce_str) (cds_cons (ce_str) (cds_cons (ce_str) (cds_nil))))) rfl) (cb_cons (cx_ret (ce_lst (cos_cons (ce_sub (ce_var (i := 0) rfl (.inl rfl)) (ce_int)) (cos_cons (ce_sub (ce_var (i := 0) rfl (.inl rfl)) (ce_int)) (cos_nil))))) (cb_nil)) (cb_nil)) (cb_cons (cx_ret (ce_ife (ct_cmp (op := .inn) (ce_sub (ce_var (i := 0) rfl (.inl rfl)) (ce_int)) (ce_tup (cds_cons (ce_str) (cds_cons (ce_str) (cds_cons (ce_str) (cds_nil))))) rfl) (ce_lst (cos_cons (ce_sub (ce_var (i := 0) rfl (.inl rfl)) (ce_neg (ce_int))) (cos_nil))) (ce_lst (cos_nil)))) (cb_nil))
/-! _law_sizes -/
abbrev st_34 : Stmt := topS 46
def bd_34 : Sms := .cons (.par [1, 2, 3] (.cons (.cst (.int 1)) (.cons (.cst (.int 0)) (.cons (.ife (.cmp .eq (.sub (.var 0) (.cst (.int 0))) (.cst (.str "letter"))) (.lst (.cons (.sub (.var 0) (.cst (.int 1))) .nil)) (.lst (.nil))) .nil)))) (.cons (.for_ (.name 4) (.seq (.call 33 (.cons (.var 0) (.nil)))) (.cons (.asg 5 (.call 34 (.cons (.var 4) (.nil)))) (.cons (.par [1, 2, 3] (.cons (.bin .add (.var 1) (.sub (.var 5) (.cst (.int 0)))) (.cons (.mx true (.var 2) (.sub (.var 5) (.cst (.int 1)))) (.cons (.bin .add (.var 3) (.sub (.var 5) (.cst (.int 2)))) .nil)))) (.nil)))) (.cons (.ret (.tup (.cons (.var 1) (.cons (.bin .add (.var 2) (.cst (.int 1))) (.cons (.var 3) .nil))))) (.nil)))
def df_34 : Df := ⟨6, 1, [], bd_34⟩
abbrev nm_34 : List Str := ["told", "found", "deep", "names", "part", "more"]
theorem sc_34 : FnScope nm_34 ["told"] (defScope st_34) := ⟨rfl, rfl, rfl, by decide +kernel, rfl, by decide +kernel, by decide +kernel⟩
theorem ok_34 (R : Fns) (L : Nat) (g : Gx) (nx : ∀ c ds T H F, ¬ g.XQ c ds T H F) : CB R L fsL frL nm_34 ⟨defScope st_34, fun _ => true⟩ g (defBody st_34) bd_34 :=
  cb_cons (cx_par3 (i := 1) (j := 2) (l := 3) rfl rfl rfl (by decide) (by decide) (by decide) rfl rfl rfl (cos_cons (ce_int) (cos_cons (ce_int) (cos_cons (ce_ife (ct_cmp (op := .eq) (ce_sub (ce_var (i := 0) rfl (.inl rfl)) (ce_int)) (ce_str) rfl) (ce_lst (cos_cons (ce_sub (ce_var (i := 0) rfl (.inl rfl)) (ce_int)) (cos_nil))) (ce_lst (cos_nil))) (cos_nil)))) (fun env h => by cases env; dsimp only at h; subst h; rfl)) (cb_cons (cx_for (ci_seq (ce_call (f := 33) nx m__law_inner (by rfl) (cas_val (ce_var (i := 0) rfl (.inl rfl)) (cas_nil)))) (cg_name (i := 4) rfl (.inl rfl) (.inl rfl)) (cb_cons (cx_asg (i := 5) rfl (.inl rfl) (.inl rfl) (ce_call (f := 34) nx m__law_sizes (by rfl) (cas_val (ce_var (i := 4) rfl (.inl rfl)) (cas_nil)))) (cb_cons (cx_par3 (i := 1) (j := 2) (l := 3) rfl rfl rfl (by decide) (by decide) (by decide) rfl rfl rfl (cos_cons (ce_bin (op := .add) (ce_var (i := 1) rfl (.inl rfl)) (ce_sub (ce_var (i := 5) rfl (.inl rfl)) (ce_int))) (cos_cons (ce_max2 (ce_var (i := 2) rfl (.inl rfl)) (ce_sub (ce_var (i := 5) rfl (.inl rfl)) (ce_int)) (by rfl) b_max) (cos_cons (ce_bin (op := .add) (ce_var (i := 3) rfl (.inl rfl)) (ce_sub (ce_var (i := 5) rfl (.inl rfl)) (ce_int))) (cos_nil)))) (fun env h => by cases env; dsimp only at h; subst h; rfl)) (cb_nil)))) (cb_cons (cx_ret (ce_tup (cds_cons (ce_var (i := 1) rfl (.inl rfl)) (cds_cons (ce_bin (op := .add) (ce_var (i := 2) rfl (.inl rfl)) (ce_int)) (cds_cons (ce_var (i := 3) rfl (.inl rfl)) (cds_nil)))))) (cb_nil)))
/-! _law_like -/
abbrev st_35 : Stmt := topS 47
def bd_35 : Sms := .cons (.ret (.cmp .eq (.bi .repr (.var 0)) (.bi .repr (.var 1)))) (.nil)
def df_35 : Df := ⟨2, 2, [], bd_35⟩
abbrev nm_35 : List Str := ["got", "due"]
theorem sc_35 : FnScope nm_35 ["got", "due"] (defScope st_35) := ⟨rfl, rfl, rfl, by decide +kernel, rfl, by decide +kernel, by decide +kernel⟩
theorem ok_35 (R : Fns) (L : Nat) (g : Gx) (nx : ∀ c ds T H F, ¬ g.XQ c ds T H F) : CB R L fsL frL nm_35 ⟨defScope st_35, fun _ => true⟩ g (defBody st_35) bd_35 :=
  cb_cons (cx_ret (ce_cmp (op := .eq) (ce_repr (ce_var (i := 0) rfl (.inl rfl)) (by rfl) b_repr) (ce_repr (ce_var (i := 1) rfl (.inl rfl)) (by rfl) b_repr) rfl)) (cb_nil)
/-! _law_marked -/
abbrev st_36 : Stmt := topS 48
def bd_36 : Sms := .cons (.asg 2 (.tup (.nil))) (.cons (.for_ (.name 3) (.rng (.call 28 (.cons (.io 0) (.cons (.cst (.int 5)) (.nil))))) (.cons (.asg 2 (.bin .add (.var 2) (.tup (.cons (.bi .tuple (.comp [4] (.name 4) (.rng (.var 1)) (.cons (.cmp .eq (.call 28 (.cons (.io 0) (.cons (.cst (.int 2)) (.nil)))) (.cst (.int 0))) .nil) (.var 4))) .nil)))) (.nil))) (.cons (.ret (.var 2)) (.nil)))
def df_36 : Df := ⟨5, 2, [0], bd_36⟩
abbrev nm_36 : List Str := ["state", "size", "found", "step", "spot"]
theorem sc_36 : FnScope nm_36 ["state", "size"] (defScope st_36) := ⟨rfl, rfl, rfl, by decide +kernel, rfl, by decide +kernel, by decide +kernel⟩
theorem ok_36 (R : Fns) (L : Nat) (g : Gx) (nx : ∀ c ds T H F, ¬ g.XQ c ds T H F) : CB R L fsL frL nm_36 ⟨defScope st_36, fun _ => true⟩ g (defBody st_36) bd_36 :=
  cb_cons (cx_asg (i := 2) rfl (.inl rfl) (.inl rfl) (ce_tup (cds_nil))) (cb_cons (cx_for (ci_rng (ce_call (f := 28) nx m__law_draw (by rfl) (cas_io (i := 0) rfl (.inr (.inl rfl)) (cas_val (ce_int) (cas_nil)))) (by rfl) b_range) (cg_name (i := 3) rfl (.inl rfl) (.inl rfl)) (cb_cons (cx_asg (i := 2) rfl (.inl rfl) (.inl rfl) (ce_bin (op := .add) (ce_var (i := 2) rfl (.inl rfl)) (ce_tup (cds_cons (ce_tuple (ce_lc (own := [("spot", 4)]) (ci_rng (ce_var (i := 1) rfl (.inl rfl)) (by rfl) b_range) (by decide +kernel) (cg_name (i := 4) rfl (.inl rfl) (.inr rfl)) (cc_one (ct_cmp (op := .eq) (ce_call (f := 28) (fun _ _ _ _ _ h => h) m__law_draw (by rfl) (cas_io (i := 0) rfl (.inr (.inl rfl)) (cas_val (ce_int) (cas_nil)))) (ce_int) rfl)) (ce_var (i := 4) rfl (.inl rfl))) (by rfl) b_tuple) (cds_nil))))) (cb_nil))) (cb_cons (cx_ret (ce_var (i := 2) rfl (.inl rfl))) (cb_nil)))
/-! _law_right -/
abbrev st_37 : Stmt := topS 49
def bd_37 : Sms := .cons (.asg 1 (.call 29 (.cons (.io 0) (.cons (.cst (.int 4)) (.cons (.cst (.int 3)) (.nil)))))) (.cons (.par [2, 3] (.cons (.call 36 (.cons (.io 0) (.cons (.sub (.var 1) (.cst (.int 0))) (.nil)))) (.cons (.call 30 (.cons (.io 0) (.cons (.cst (.int 5)) (.cons (.cst (.int 5)) (.nil))))) .nil))) (.cons (.asg 4 (.comp [9] (.name 9) (.rng (.sub (.var 1) (.cst (.int 0)))) (.nil) (.call 32 (.cons (.var 1) (.cons (.var 2) (.cons (.var 3) (.cons (.var 9) (.nil)))))))) (.cons (.asg 5 (.bi .tuple (.comp [9] (.name 9) (.rng (.sub (.var 1) (.cst (.int 0)))) (.cons (.sub (.var 4) (.var 9)) .nil) (.var 9)))) (.cons (.ife (.not (.call 35 (.cons (.call 24 (.cons (.var 1) (.cons (.var 2) (.cons (.var 3) (.nil))))) (.cons (.var 5) (.nil))))) (.cons (.ret (.cst (.bool false))) (.nil)) (.nil)) (.cons (.ife (.not (.call 35 (.cons (.comp [9] (.name 9) (.rng (.sub (.var 1) (.cst (.int 0)))) (.nil) (.call 25 (.cons (.var 1) (.cons (.var 2) (.cons (.var 3) (.cons (.var 9) (.nil))))))) (.cons (.var 4) (.nil))))) (.cons (.ret (.cst (.bool false))) (.nil)) (.nil)) (.cons (.ife (.not (.call 35 (.cons (.lst (.cons (.call 23 (.cons (.var 1) (.cons (.var 2) (.nil)))) (.cons (.call 19 (.cons (.var 3) (.nil))) .nil))) (.cons (.lst (.cons (.var 2) (.cons (.var 3) .nil))) (.nil))))) (.cons (.ret (.cst (.bool false))) (.nil)) (.nil)) (.cons (.asgT (.cons (.name 6) (.cons (.name 7) (.cons (.name 8) (.nil)))) (.call 34 (.cons (.var 3) (.nil)))) (.cons (.asg 5 (.lst (.cons (.var 6) (.cons (.var 7) (.cons (.bi .tuple (.bi .sset (.var 8))) .nil))))) (.cons (.ret (.call 35 (.cons (.lst (.cons (.call 20 (.cons (.var 3) (.nil))) (.cons (.call 21 (.cons (.var 3) (.nil))) (.cons (.call 22 (.cons (.var 3) (.nil))) .nil)))) (.cons (.var 5) (.nil))))) (.nil))))))))))
def df_37 : Df := ⟨10, 1, [0], bd_37⟩
abbrev nm_37 : List Str := ["state", "web_so", "mark_so", "told", "answers", "due", "many_so", "deep", "names", "spot"]
theorem sc_37 : FnScope nm_37 ["state"] (defScope st_37) := ⟨rfl, rfl, rfl, by decide +kernel, rfl, by decide +kernel, by decide +kernel⟩
theorem ok_37 (R : Fns) (L : Nat) (g : Gx) (nx : ∀ c ds T H F, ¬ g.XQ c ds T H F) : CB R L fsL frL nm_37 ⟨defScope st_37, fun _ => true⟩ g (defBody st_37) bd_37 :=
  cb_cons (cx_asg (i := 1) rfl (.inr rfl) (.inl rfl) (ce_call (f := 29) nx m__law_web (by rfl) (cas_io (i := 0) rfl (.inl rfl) (cas_val (ce_int) (cas_val (ce_int) (cas_nil)))))) (cb_cons (cx_par (cns_cons (i := 2) rfl (.inr rfl) (.inl rfl) (cns_cons (i := 3) rfl (.inr rfl) (.inl rfl) (cns_nil))) (cos_cons (ce_call (f := 36) nx m__law_marked (by rfl) (cas_io (i := 0) rfl (.inl rfl) (cas_val (ce_sub (ce_var (i := 1) rfl (.inr (.inl rfl))) (ce_int)) (cas_nil)))) (cos_cons (ce_call (f := 30) nx m__law_saying (by rfl) (cas_io (i := 0) rfl (.inl rfl) (cas_val (ce_int) (cas_val (ce_int) (cas_nil))))) (cos_nil))) rfl (by decide) (fun _ _ h => evs_len h) (hw := (fun env h => by cases env; dsimp only at h; subst h; rfl))) (cb_cons (cx_asg (i := 4) rfl (.inr rfl) (.inl rfl) (ce_lc (own := [("spot", 9)]) (ci_rng (ce_sub (ce_var (i := 1) rfl (.inr (.inl rfl))) (ce_int)) (by rfl) b_range) (by decide +kernel) (cg_name (i := 9) rfl (.inl rfl) (.inr rfl)) (cc_nil) (ce_call (f := 32) (fun _ _ _ _ _ h => h) m__law_at (by rfl) (cas_val (ce_var (i := 1) rfl (.inr (.inl rfl))) (cas_val (ce_var (i := 2) rfl (.inr (.inl rfl))) (cas_val (ce_var (i := 3) rfl (.inr (.inl rfl))) (cas_val (ce_var (i := 9) rfl (.inl rfl)) (cas_nil))))))) (hs := (fun env l h => by cases env; dsimp only at h; subst h; rfl))) (cb_cons (cx_asg (i := 5) rfl (.inl rfl) (.inl rfl) (ce_tuple (ce_lc (own := [("spot", 9)]) (ci_rng (ce_sub (ce_var (i := 1) rfl (.inr (.inl rfl))) (ce_int)) (by rfl) b_range) (by decide +kernel) (cg_name (i := 9) rfl (.inl rfl) (.inr rfl)) (cc_one (ct_e (ce_sub (ce_var (i := 4) rfl (.inr (.inl rfl))) (ce_var (i := 9) rfl (.inl rfl))))) (ce_var (i := 9) rfl (.inl rfl))) (by rfl) b_tuple)) (cb_cons (cx_ife (ct_not (ct_e (ce_call (f := 35) nx m__law_like (by rfl) (cas_val (ce_call (f := 24) nx m_holding (by rfl) (cas_val (ce_var (i := 1) rfl (.inr (.inl rfl))) (cas_val (ce_var (i := 2) rfl (.inr (.inl rfl))) (cas_val (ce_var (i := 3) rfl (.inr (.inl rfl))) (cas_nil))))) (cas_val (ce_var (i := 5) rfl (.inl rfl)) (cas_nil)))))) (cb_cons (cx_ret (ce_bool)) (cb_nil)) (cb_nil)) (cb_cons (cx_ife (ct_not (ct_e (ce_call (f := 35) nx m__law_like (by rfl) (cas_val (ce_lc (own := [("spot", 9)]) (ci_rng (ce_sub (ce_var (i := 1) rfl (.inr (.inl rfl))) (ce_int)) (by rfl) b_range) (by decide +kernel) (cg_name (i := 9) rfl (.inl rfl) (.inr rfl)) (cc_nil) (ce_call (f := 25) (fun _ _ _ _ _ h => h) m_holds (by rfl) (cas_val (ce_var (i := 1) rfl (.inr (.inl rfl))) (cas_val (ce_var (i := 2) rfl (.inr (.inl rfl))) (cas_val (ce_var (i := 3) rfl (.inr (.inl rfl))) (cas_val (ce_var (i := 9) rfl (.inl rfl)) (cas_nil))))))) (cas_val (ce_var (i := 4) rfl (.inr (.inl rfl))) (cas_nil)))))) (cb_cons (cx_ret (ce_bool)) (cb_nil)) (cb_nil)) (cb_cons (cx_ife (ct_not (ct_e (ce_call (f := 35) nx m__law_like (by rfl) (cas_val (ce_lst (cos_cons (ce_call (f := 23) nx m_need_marking (by rfl) (cas_val (ce_var (i := 1) rfl (.inr (.inl rfl))) (cas_val (ce_var (i := 2) rfl (.inr (.inl rfl))) (cas_nil)))) (cos_cons (ce_call (f := 19) nx m_need_saying (by rfl) (cas_val (ce_var (i := 3) rfl (.inr (.inl rfl))) (cas_nil))) (cos_nil)))) (cas_val (ce_lst (cos_cons (ce_var (i := 2) rfl (.inr (.inl rfl))) (cos_cons (ce_var (i := 3) rfl (.inr (.inl rfl))) (cos_nil)))) (cas_nil)))))) (cb_cons (cx_ret (ce_bool)) (cb_nil)) (cb_nil)) (cb_cons (cx_asgT (cg_tup (cgs_cons (cg_name (i := 6) rfl (.inl rfl) (.inl rfl)) (cgs_cons (cg_name (i := 7) rfl (.inl rfl) (.inl rfl)) (cgs_cons (cg_name (i := 8) rfl (.inl rfl) (.inl rfl)) (cgs_nil))))) (ce_call (f := 34) nx m__law_sizes (by rfl) (cas_val (ce_var (i := 3) rfl (.inr (.inl rfl))) (cas_nil)))) (cb_cons (cx_asg (i := 5) rfl (.inl rfl) (.inl rfl) (ce_lst (cos_cons (ce_var (i := 6) rfl (.inl rfl)) (cos_cons (ce_var (i := 7) rfl (.inl rfl)) (cos_cons (ce_tuple (ce_sset (ce_var (i := 8) rfl (.inl rfl)) (by rfl) b_sorted (by rfl) b_set) (by rfl) b_tuple) (cos_nil)))))) (cb_cons (cx_ret (ce_call (f := 35) nx m__law_like (by rfl) (cas_val (ce_lst (cos_cons (ce_call (f := 20) nx m_words_in (by rfl) (cas_val (ce_var (i := 3) rfl (.inr (.inl rfl))) (cas_nil))) (cos_cons (ce_call (f := 21) nx m_deep_in (by rfl) (cas_val (ce_var (i := 3) rfl (.inr (.inl rfl))) (cas_nil))) (cos_cons (ce_call (f := 22) nx m_letters_in (by rfl) (cas_val (ce_var (i := 3) rfl (.inr (.inl rfl))) (cas_nil))) (cos_nil))))) (cas_val (ce_var (i := 5) rfl (.inl rfl)) (cas_nil))))) (cb_nil))))))))))
/-! _law_line -/
abbrev st_38 : Stmt := topS 50
def bd_38 : Sms := .cons (.asg 1 (.tup (.cons (.cst (.int 200)) (.cons (.bi .tuple (.comp [6] (.name 6) (.rng (.cst (.int 199))) (.nil) (.tup (.cons (.cst (.int 1)) (.cons (.var 6) (.cons (.bin .add (.var 6) (.cst (.int 1))) .nil)))))) .nil)))) (.cons (.par [2, 3, 4] (.cons (.tup (.cons (.cst (.str "letter")) (.cons (.cst (.int 7)) .nil))) (.cons (.bin .add (.cst (.int 1)) (.call 28 (.cons (.io 0) (.cons (.cst (.int 39)) (.nil))))) (.cons (.sub (.lst (.cons (.cst (.int 1)) (.cons (.neg (.cst (.int 2))) .nil))) (.call 28 (.cons (.io 0) (.cons (.cst (.int 2)) (.nil))))) .nil)))) (.cons (.for_ (.name 5) (.rng (.var 3)) (.cons (.asg 2 (.tup (.cons (.cst (.str "some")) (.cons (.var 4) (.cons (.var 2) .nil))))) (.nil))) (.cons (.asg 6 (.call 28 (.cons (.io 0) (.cons (.cst (.int 200)) (.nil))))) (.cons (.asg 7 (.tup (.cons (.tup (.nil)) (.cons (.tup (.nil)) (.cons (.tup (.nil)) (.cons (.tup (.nil)) (.cons (.tup (.nil)) (.cons (.tup (.nil)) (.cons (.tup (.nil)) (.cons (.tup (.cons (.var 6) .nil)) .nil)))))))))) (.cons (.asg 8 (.ife (.cmp .eq (.var 4) (.cst (.int 1))) (.bin .sub (.var 6) (.var 3)) (.bin .add (.var 6) (.var 3)))) (.cons (.asg 9 (.ife (.cmp2 .le .lt (.cst (.int 0)) (.var 8) (.cst (.int 200))) (.tup (.cons (.var 8) .nil)) (.tup (.nil)))) (.cons (.ret (.call 35 (.cons (.lst (.cons (.call 24 (.cons (.var 1) (.cons (.var 7) (.cons (.var 2) (.nil))))) (.cons (.call 21 (.cons (.var 2) (.nil))) .nil))) (.cons (.lst (.cons (.var 9) (.cons (.bin .add (.var 3) (.cst (.int 1))) .nil))) (.nil))))) (.nil))))))))
def df_38 : Df := ⟨10, 1, [0], bd_38⟩
abbrev nm_38 : List Str := ["state", "line", "told", "steps", "toward", "step", "spot", "mark_so", "seen", "due"]
theorem sc_38 : FnScope nm_38 ["state"] (defScope st_38) := ⟨rfl, rfl, rfl, by decide +kernel, rfl, by decide +kernel, by decide +kernel⟩
theorem ok_38 (R : Fns) (L : Nat) (g : Gx) (nx : ∀ c ds T H F, ¬ g.XQ c ds T H F) : CB R L fsL frL nm_38 ⟨defScope st_38, fun _ => true⟩ g (defBody st_38) bd_38 :=
  cb_cons (cx_asg (i := 1) rfl (.inl rfl) (.inl rfl) (ce_tup (cds_cons (ce_int) (cds_cons (ce_tuple (ce_lc (own := [("spot", 6)]) (ci_rng (ce_int) (by rfl) b_range) (by decide +kernel) (cg_name (i := 6) rfl (.inl rfl) (.inr rfl)) (cc_nil) (ce_tup (cds_cons (ce_int) (cds_cons (ce_var (i := 6) rfl (.inl rfl)) (cds_cons (ce_bin (op := .add) (ce_var (i := 6) rfl (.inl rfl)) (ce_int)) (cds_nil)))))) (by rfl) b_tuple) (cds_nil))))) (cb_cons (cx_par3 (i := 2) (j := 3) (l := 4) rfl rfl rfl (by decide) (by decide) (by decide) rfl rfl rfl (cos_cons (ce_tup (cds_cons (ce_str) (cds_cons (ce_int) (cds_nil)))) (cos_cons (ce_bin (op := .add) (ce_int) (ce_call (f := 28) nx m__law_draw (by rfl) (cas_io (i := 0) rfl (.inl rfl) (cas_val (ce_int) (cas_nil))))) (cos_cons (ce_sub (ce_lst (cos_cons (ce_int) (cos_cons (ce_neg (ce_int)) (cos_nil)))) (ce_call (f := 28) nx m__law_draw (by rfl) (cas_io (i := 0) rfl (.inl rfl) (cas_val (ce_int) (cas_nil))))) (cos_nil)))) (fun env h => by cases env; dsimp only at h; subst h; rfl)) (cb_cons (cx_for (ci_rng (ce_var (i := 3) rfl (.inl rfl)) (by rfl) b_range) (cg_name (i := 5) rfl (.inl rfl) (.inl rfl)) (cb_cons (cx_asg (i := 2) rfl (.inl rfl) (.inl rfl) (ce_tup (cds_cons (ce_str) (cds_cons (ce_var (i := 4) rfl (.inl rfl)) (cds_cons (ce_var (i := 2) rfl (.inl rfl)) (cds_nil)))))) (cb_nil))) (cb_cons (cx_asg (i := 6) rfl (.inl rfl) (.inl rfl) (ce_call (f := 28) nx m__law_draw (by rfl) (cas_io (i := 0) rfl (.inl rfl) (cas_val (ce_int) (cas_nil))))) (cb_cons (cx_asg (i := 7) rfl (.inl rfl) (.inl rfl) (ce_tup (cds_cons (ce_tup (cds_nil)) (cds_cons (ce_tup (cds_nil)) (cds_cons (ce_tup (cds_nil)) (cds_cons (ce_tup (cds_nil)) (cds_cons (ce_tup (cds_nil)) (cds_cons (ce_tup (cds_nil)) (cds_cons (ce_tup (cds_nil)) (cds_cons (ce_tup (cds_cons (ce_var (i := 6) rfl (.inl rfl)) (cds_nil))) (cds_nil))))))))))) (cb_cons (cx_asg (i := 8) rfl (.inl rfl) (.inl rfl) (ce_ife (ct_cmp (op := .eq) (ce_var (i := 4) rfl (.inl rfl)) (ce_int) rfl) (ce_bin (op := .sub) (ce_var (i := 6) rfl (.inl rfl)) (ce_var (i := 3) rfl (.inl rfl))) (ce_bin (op := .add) (ce_var (i := 6) rfl (.inl rfl)) (ce_var (i := 3) rfl (.inl rfl))))) (cb_cons (cx_asg (i := 9) rfl (.inl rfl) (.inl rfl) (ce_ife (ct_cmp2 (op := .le) (op' := .lt) (ce_int) (ce_var (i := 8) rfl (.inl rfl)) (ce_int) rfl) (ce_tup (cds_cons (ce_var (i := 8) rfl (.inl rfl)) (cds_nil))) (ce_tup (cds_nil)))) (cb_cons (cx_ret (ce_call (f := 35) nx m__law_like (by rfl) (cas_val (ce_lst (cos_cons (ce_call (f := 24) nx m_holding (by rfl) (cas_val (ce_var (i := 1) rfl (.inl rfl)) (cas_val (ce_var (i := 7) rfl (.inl rfl)) (cas_val (ce_var (i := 2) rfl (.inl rfl)) (cas_nil))))) (cos_cons (ce_call (f := 21) nx m_deep_in (by rfl) (cas_val (ce_var (i := 2) rfl (.inl rfl)) (cas_nil))) (cos_nil)))) (cas_val (ce_lst (cos_cons (ce_var (i := 9) rfl (.inl rfl)) (cos_cons (ce_bin (op := .add) (ce_var (i := 3) rfl (.inl rfl)) (ce_int)) (cos_nil)))) (cas_nil))))) (cb_nil))))))))
/-! law -/
abbrev st_39 : Stmt := topS 51
def bd_39 : Sms := .cons (.asg 1 (.call 27 (.cons (.var 0) (.nil)))) (.cons (.for_ (.name 2) (.rng (.cst (.int 4))) (.cons (.ife (.not (.call 37 (.cons (.io 1) (.nil)))) (.cons (.ret (.cst (.bool false))) (.nil)) (.nil)) (.nil))) (.cons (.ife (.not (.call 38 (.cons (.io 1) (.nil)))) (.cons (.ret (.cst (.bool false))) (.nil)) (.nil)) (.cons (.par [3, 4] (.cons (.tup (.cons (.cst (.int 1)) (.cons (.tup (.nil)) .nil))) (.cons (.tup (.cons (.tup (.cons (.cst (.int 0)) .nil)) (.cons (.tup (.nil)) (.cons (.tup (.cons (.cst (.int 0)) .nil)) (.cons (.tup (.nil)) (.cons (.tup (.cons (.cst (.int 0)) .nil)) (.cons (.tup (.nil)) (.cons (.tup (.cons (.cst (.int 0)) .nil)) (.cons (.tup (.nil)) .nil))))))))) .nil))) (.cons (.par [5, 6] (.cons (.tup (.cons (.cst (.str "each")) (.cons (.neg (.cst (.int 1))) (.cons (.tup (.cons (.cst (.str "no")) .nil)) .nil)))) (.cons (.tup (.cons (.cst (.str "some")) (.cons (.cst (.int 2)) (.cons (.tup (.cons (.cst (.str "yes")) .nil)) .nil)))) .nil))) (.cons (.asg 7 (.lst (.cons (.call 24 (.cons (.var 3) (.cons (.var 4) (.cons (.var 5) (.nil))))) (.cons (.call 24 (.cons (.var 3) (.cons (.var 4) (.cons (.var 6) (.nil))))) (.cons (.call 24 (.cons (.var 3) (.cons (.tup (.nil)) (.cons (.tup (.cons (.cst (.str "gives")) (.cons (.tup (.cons (.cst (.str "letter")) (.cons (.cst (.int 0)) .nil))) (.cons (.tup (.cons (.cst (.str "no")) .nil)) .nil)))) (.nil))))) .nil))))) (.cons (.asg 7 (.bin .add (.var 7) (.lst (.cons (.call 24 (.cons (.var 3) (.cons (.var 4) (.cons (.tup (.cons (.cst (.str "and")) (.cons (.tup (.cons (.cst (.str "letter")) (.cons (.cst (.int 6)) .nil))) (.cons (.tup (.cons (.cst (.str "not")) (.cons (.tup (.cons (.cst (.str "letter")) (.cons (.cst (.int 7)) .nil))) .nil))) .nil)))) (.nil))))) (.cons (.call 22 (.cons (.tup (.cons (.cst (.str "yes")) .nil)) (.nil))) .nil))))) (.cons (.ret (.call 35 (.cons (.var 7) (.cons (.lst (.cons (.tup (.cons (.cst (.int 0)) .nil)) (.cons (.tup (.nil)) (.cons (.tup (.cons (.cst (.int 0)) .nil)) (.cons (.tup (.cons (.cst (.int 0)) .nil)) (.cons (.tup (.nil)) .nil)))))) (.nil))))) (.nil))))))))
def df_39 : Df := ⟨8, 1, [], bd_39⟩
abbrev nm_39 : List Str := ["script", "state", "turn", "bare", "row", "near", "far", "got"]
theorem sc_39 : FnScope nm_39 ["script"] (defScope st_39) := ⟨rfl, rfl, rfl, by decide +kernel, rfl, by decide +kernel, by decide +kernel⟩
theorem ok_39 (R : Fns) (L : Nat) (g : Gx) (nx : ∀ c ds T H F, ¬ g.XQ c ds T H F) : CB R L fsL frL nm_39 ⟨defScope st_39, fun _ => true⟩ g (defBody st_39) bd_39 :=
  cb_cons (cx_asg (i := 1) rfl (.inl rfl) (.inl rfl) (ce_call (f := 27) nx m__law_begin (by rfl) (cas_val (ce_var (i := 0) rfl (.inl rfl)) (cas_nil)))) (cb_cons (cx_for (ci_rng (ce_int) (by rfl) b_range) (cg_name (i := 2) rfl (.inl rfl) (.inl rfl)) (cb_cons (cx_ife (ct_not (ct_e (ce_call (f := 37) nx m__law_right (by rfl) (cas_io (i := 1) rfl (.inl rfl) (cas_nil))))) (cb_cons (cx_ret (ce_bool)) (cb_nil)) (cb_nil)) (cb_nil))) (cb_cons (cx_ife (ct_not (ct_e (ce_call (f := 38) nx m__law_line (by rfl) (cas_io (i := 1) rfl (.inl rfl) (cas_nil))))) (cb_cons (cx_ret (ce_bool)) (cb_nil)) (cb_nil)) (cb_cons (cx_par (cns_cons (i := 3) rfl (.inl rfl) (.inl rfl) (cns_cons (i := 4) rfl (.inl rfl) (.inl rfl) (cns_nil))) (cos_cons (ce_tup (cds_cons (ce_int) (cds_cons (ce_tup (cds_nil)) (cds_nil)))) (cos_cons (ce_tup (cds_cons (ce_tup (cds_cons (ce_int) (cds_nil))) (cds_cons (ce_tup (cds_nil)) (cds_cons (ce_tup (cds_cons (ce_int) (cds_nil))) (cds_cons (ce_tup (cds_nil)) (cds_cons (ce_tup (cds_cons (ce_int) (cds_nil))) (cds_cons (ce_tup (cds_nil)) (cds_cons (ce_tup (cds_cons (ce_int) (cds_nil))) (cds_cons (ce_tup (cds_nil)) (cds_nil)))))))))) (cos_nil))) rfl (by decide) (fun _ _ h => evs_len h) (hw := (fun env h => by cases env; dsimp only at h; subst h; rfl))) (cb_cons (cx_par (cns_cons (i := 5) rfl (.inl rfl) (.inl rfl) (cns_cons (i := 6) rfl (.inl rfl) (.inl rfl) (cns_nil))) (cos_cons (ce_tup (cds_cons (ce_str) (cds_cons (ce_neg (ce_int)) (cds_cons (ce_tup (cds_cons (ce_str) (cds_nil))) (cds_nil))))) (cos_cons (ce_tup (cds_cons (ce_str) (cds_cons (ce_int) (cds_cons (ce_tup (cds_cons (ce_str) (cds_nil))) (cds_nil))))) (cos_nil))) rfl (by decide) (fun _ _ h => evs_len h) (hw := (fun env h => by cases env; dsimp only at h; subst h; rfl))) (cb_cons (cx_asg (i := 7) rfl (.inl rfl) (.inl rfl) (ce_lst (cos_cons (ce_call (f := 24) nx m_holding (by rfl) (cas_val (ce_var (i := 3) rfl (.inl rfl)) (cas_val (ce_var (i := 4) rfl (.inl rfl)) (cas_val (ce_var (i := 5) rfl (.inl rfl)) (cas_nil))))) (cos_cons (ce_call (f := 24) nx m_holding (by rfl) (cas_val (ce_var (i := 3) rfl (.inl rfl)) (cas_val (ce_var (i := 4) rfl (.inl rfl)) (cas_val (ce_var (i := 6) rfl (.inl rfl)) (cas_nil))))) (cos_cons (ce_call (f := 24) nx m_holding (by rfl) (cas_val (ce_var (i := 3) rfl (.inl rfl)) (cas_val (ce_tup (cds_nil)) (cas_val (ce_tup (cds_cons (ce_str) (cds_cons (ce_tup (cds_cons (ce_str) (cds_cons (ce_int) (cds_nil)))) (cds_cons (ce_tup (cds_cons (ce_str) (cds_nil))) (cds_nil))))) (cas_nil))))) (cos_nil)))))) (cb_cons (cx_asg (i := 7) rfl (.inl rfl) (.inl rfl) (ce_bin (op := .add) (ce_var (i := 7) rfl (.inl rfl)) (ce_lst (cos_cons (ce_call (f := 24) nx m_holding (by rfl) (cas_val (ce_var (i := 3) rfl (.inl rfl)) (cas_val (ce_var (i := 4) rfl (.inl rfl)) (cas_val (ce_tup (cds_cons (ce_str) (cds_cons (ce_tup (cds_cons (ce_str) (cds_cons (ce_int) (cds_nil)))) (cds_cons (ce_tup (cds_cons (ce_str) (cds_cons (ce_tup (cds_cons (ce_str) (cds_cons (ce_int) (cds_nil)))) (cds_nil)))) (cds_nil))))) (cas_nil))))) (cos_cons (ce_call (f := 22) nx m_letters_in (by rfl) (cas_val (ce_tup (cds_cons (ce_str) (cds_nil))) (cas_nil))) (cos_nil)))))) (cb_cons (cx_ret (ce_call (f := 35) nx m__law_like (by rfl) (cas_val (ce_var (i := 7) rfl (.inl rfl)) (cas_val (ce_lst (cos_cons (ce_tup (cds_cons (ce_int) (cds_nil))) (cos_cons (ce_tup (cds_nil)) (cos_cons (ce_tup (cds_cons (ce_int) (cds_nil))) (cos_cons (ce_tup (cds_cons (ce_int) (cds_nil))) (cos_cons (ce_tup (cds_nil)) (cos_nil))))))) (cas_nil))))) (cb_nil))))))))
def tbl : List Df := df_0 :: df_1 :: df_2 :: df_3 :: df_4 :: df_5 :: df_6 :: df_7 :: df_8 :: df_9 :: df_10 :: df_11 :: df_12 :: df_13 :: df_14 :: df_15 :: df_16 :: df_17 :: df_18 :: df_19 :: df_20 :: df_21 :: df_22 :: df_23 :: df_24 :: df_25 :: df_26 :: df_27 :: df_28 :: df_29 :: df_30 :: df_31 :: df_32 :: df_33 :: df_34 :: df_35 :: df_36 :: df_37 :: df_38 :: df_39 :: []
theorem dk_0 {K : PySem.W.Frag} {h : Heap} {mg : Str → Option Value} {L : Nat} (X : K.In h) (G : h.Ns mainGlobals mg) {f : Addr} {od an : Option Addr} {sl : Array (Option Value)} {oc kV dc pm cd ct : Value} (a : PySem.W.nsIn K mainGlobals "is_from" = some (some (.ref f)))
    (l : K.lookup f = some ⟨oc, od, .func (PySem.W.fnOf "is_from" "is_from" (defArgs st_0) (defBody st_0) (defScope st_0) .none kV dc pm an cd ct), sl⟩) (c : PySem.W.codeIn K cd "is_from" = true) (k : PySem.W.keepIn K (.ref f) = true) : DefOk K mg tbl L fsL frL (0, "is_from") :=
  ⟨df_0, f, _, ["value", "low", "high"], nm_0, "is_from", st_0, rfl, fun_mk l c k, sc_0, rfl, rfl, by decide, PySem.W.mg_of X G a, (fun_mk l c k).binds (fun _ _ _ _ _ _ us hl => match us, hl with | [_, _, _], _ => rfl), fun n g nx => ok_0 _ _ g nx⟩
theorem dk_1 {K : PySem.W.Frag} {h : Heap} {mg : Str → Option Value} {L : Nat} (X : K.In h) (G : h.Ns mainGlobals mg) {f : Addr} {od an : Option Addr} {sl : Array (Option Value)} {oc kV dc pm cd ct : Value} (a : PySem.W.nsIn K mainGlobals "is_arrow" = some (some (.ref f)))
    (l : K.lookup f = some ⟨oc, od, .func (PySem.W.fnOf "is_arrow" "is_arrow" (defArgs st_1) (defBody st_1) (defScope st_1) .none kV dc pm an cd ct), sl⟩) (c : PySem.W.codeIn K cd "is_arrow" = true) (k : PySem.W.keepIn K (.ref f) = true) : DefOk K mg tbl L fsL frL (1, "is_arrow") :=
  ⟨df_1, f, _, ["size", "value"], nm_1, "is_arrow", st_1, rfl, fun_mk l c k, sc_1, rfl, rfl, by decide, PySem.W.mg_of X G a, (fun_mk l c k).binds (fun _ _ _ _ _ _ us hl => match us, hl with | [_, _], _ => rfl), fun n g nx => ok_1 _ _ g nx⟩
theorem dk_2 {K : PySem.W.Frag} {h : Heap} {mg : Str → Option Value} {L : Nat} (X : K.In h) (G : h.Ns mainGlobals mg) {f : Addr} {od an : Option Addr} {sl : Array (Option Value)} {oc kV dc pm cd ct : Value} (a : PySem.W.nsIn K mainGlobals "is_web" = some (some (.ref f)))
    (l : K.lookup f = some ⟨oc, od, .func (PySem.W.fnOf "is_web" "is_web" (defArgs st_2) (defBody st_2) (defScope st_2) .none kV dc pm an cd ct), sl⟩) (c : PySem.W.codeIn K cd "is_web" = true) (k : PySem.W.keepIn K (.ref f) = true) : DefOk K mg tbl L fsL frL (2, "is_web") :=
  ⟨df_2, f, _, ["value"], nm_2, "is_web", st_2, rfl, fun_mk l c k, sc_2, rfl, rfl, by decide, PySem.W.mg_of X G a, (fun_mk l c k).binds (fun _ _ _ _ _ _ us hl => match us, hl with | [_], _ => rfl), fun n g nx => ok_2 _ _ g nx⟩
theorem dk_3 {K : PySem.W.Frag} {h : Heap} {mg : Str → Option Value} {L : Nat} (X : K.In h) (G : h.Ns mainGlobals mg) {f : Addr} {od an : Option Addr} {sl : Array (Option Value)} {oc kV dc pm cd ct : Value} (a : PySem.W.nsIn K mainGlobals "check_web" = some (some (.ref f)))
    (l : K.lookup f = some ⟨oc, od, .func (PySem.W.fnOf "check_web" "check_web" (defArgs st_3) (defBody st_3) (defScope st_3) .none kV dc pm an cd ct), sl⟩) (c : PySem.W.codeIn K cd "check_web" = true) (k : PySem.W.keepIn K (.ref f) = true) : DefOk K mg tbl L fsL frL (3, "check_web") :=
  ⟨df_3, f, _, ["value"], nm_3, "check_web", st_3, rfl, fun_mk l c k, sc_3, rfl, rfl, by decide, PySem.W.mg_of X G a, (fun_mk l c k).binds (fun _ _ _ _ _ _ us hl => match us, hl with | [_], _ => rfl), fun n g nx => ok_3 _ _ g nx⟩
theorem dk_4 {K : PySem.W.Frag} {h : Heap} {mg : Str → Option Value} {L : Nat} (X : K.In h) (G : h.Ns mainGlobals mg) {f : Addr} {od an : Option Addr} {sl : Array (Option Value)} {oc kV dc pm cd ct : Value} (a : PySem.W.nsIn K mainGlobals "check_world" = some (some (.ref f)))
    (l : K.lookup f = some ⟨oc, od, .func (PySem.W.fnOf "check_world" "check_world" (defArgs st_4) (defBody st_4) (defScope st_4) .none kV dc pm an cd ct), sl⟩) (c : PySem.W.codeIn K cd "check_world" = true) (k : PySem.W.keepIn K (.ref f) = true) : DefOk K mg tbl L fsL frL (4, "check_world") :=
  ⟨df_4, f, _, ["web", "value"], nm_4, "check_world", st_4, rfl, fun_mk l c k, sc_4, rfl, rfl, by decide, PySem.W.mg_of X G a, (fun_mk l c k).binds (fun _ _ _ _ _ _ us hl => match us, hl with | [_, _], _ => rfl), fun n g nx => ok_4 _ _ g nx⟩
theorem dk_5 {K : PySem.W.Frag} {h : Heap} {mg : Str → Option Value} {L : Nat} (X : K.In h) (G : h.Ns mainGlobals mg) {f : Addr} {od an : Option Addr} {sl : Array (Option Value)} {oc kV dc pm cd ct : Value} (a : PySem.W.nsIn K mainGlobals "arrows_so" = some (some (.ref f)))
    (l : K.lookup f = some ⟨oc, od, .func (PySem.W.fnOf "arrows_so" "arrows_so" (defArgs st_5) (defBody st_5) (defScope st_5) .none kV dc pm an cd ct), sl⟩) (c : PySem.W.codeIn K cd "arrows_so" = true) (k : PySem.W.keepIn K (.ref f) = true) : DefOk K mg tbl L fsL frL (5, "arrows_so") :=
  ⟨df_5, f, _, ["web"], nm_5, "arrows_so", st_5, rfl, fun_mk l c k, sc_5, rfl, rfl, by decide, PySem.W.mg_of X G a, (fun_mk l c k).binds (fun _ _ _ _ _ _ us hl => match us, hl with | [_], _ => rfl), fun n g nx => ok_5 _ _ g nx⟩
theorem dk_6 {K : PySem.W.Frag} {h : Heap} {mg : Str → Option Value} {L : Nat} (X : K.In h) (G : h.Ns mainGlobals mg) {f : Addr} {od an : Option Addr} {sl : Array (Option Value)} {oc kV dc pm cd ct : Value} (a : PySem.W.nsIn K mainGlobals "spots_so" = some (some (.ref f)))
    (l : K.lookup f = some ⟨oc, od, .func (PySem.W.fnOf "spots_so" "spots_so" (defArgs st_6) (defBody st_6) (defScope st_6) .none kV dc pm an cd ct), sl⟩) (c : PySem.W.codeIn K cd "spots_so" = true) (k : PySem.W.keepIn K (.ref f) = true) : DefOk K mg tbl L fsL frL (6, "spots_so") :=
  ⟨df_6, f, _, ["bits"], nm_6, "spots_so", st_6, rfl, fun_mk l c k, sc_6, rfl, rfl, by decide, PySem.W.mg_of X G a, (fun_mk l c k).binds (fun _ _ _ _ _ _ us hl => match us, hl with | [_], _ => rfl), fun n g nx => ok_6 _ _ g nx⟩
theorem dk_7 {K : PySem.W.Frag} {h : Heap} {mg : Str → Option Value} {L : Nat} (X : K.In h) (G : h.Ns mainGlobals mg) {f : Addr} {od an : Option Addr} {sl : Array (Option Value)} {oc kV dc pm cd ct : Value} (a : PySem.W.nsIn K mainGlobals "bits_so" = some (some (.ref f)))
    (l : K.lookup f = some ⟨oc, od, .func (PySem.W.fnOf "bits_so" "bits_so" (defArgs st_7) (defBody st_7) (defScope st_7) .none kV dc pm an cd ct), sl⟩) (c : PySem.W.codeIn K cd "bits_so" = true) (k : PySem.W.keepIn K (.ref f) = true) : DefOk K mg tbl L fsL frL (7, "bits_so") :=
  ⟨df_7, f, _, ["worlds"], nm_7, "bits_so", st_7, rfl, fun_mk l c k, sc_7, rfl, rfl, by decide, PySem.W.mg_of X G a, (fun_mk l c k).binds (fun _ _ _ _ _ _ us hl => match us, hl with | [_], _ => rfl), fun n g nx => ok_7 _ _ g nx⟩
theorem dk_8 {K : PySem.W.Frag} {h : Heap} {mg : Str → Option Value} {L : Nat} (X : K.In h) (G : h.Ns mainGlobals mg) {f : Addr} {od an : Option Addr} {sl : Array (Option Value)} {oc kV dc pm cd ct : Value} (a : PySem.W.nsIn K mainGlobals "is_worded" = some (some (.ref f)))
    (l : K.lookup f = some ⟨oc, od, .func (PySem.W.fnOf "is_worded" "is_worded" (defArgs st_8) (defBody st_8) (defScope st_8) .none kV dc pm an cd ct), sl⟩) (c : PySem.W.codeIn K cd "is_worded" = true) (k : PySem.W.keepIn K (.ref f) = true) : DefOk K mg tbl L fsL frL (8, "is_worded") :=
  ⟨df_8, f, _, ["value"], nm_8, "is_worded", st_8, rfl, fun_mk l c k, sc_8, rfl, rfl, by decide, PySem.W.mg_of X G a, (fun_mk l c k).binds (fun _ _ _ _ _ _ us hl => match us, hl with | [_], _ => rfl), fun n g nx => ok_8 _ _ g nx⟩
theorem dk_9 {K : PySem.W.Frag} {h : Heap} {mg : Str → Option Value} {L : Nat} (X : K.In h) (G : h.Ns mainGlobals mg) {f : Addr} {od an : Option Addr} {sl : Array (Option Value)} {oc kV dc pm cd ct : Value} (a : PySem.W.nsIn K mainGlobals "check_saying" = some (some (.ref f)))
    (l : K.lookup f = some ⟨oc, od, .func (PySem.W.fnOf "check_saying" "check_saying" (defArgs st_9) (defBody st_9) (defScope st_9) .none kV dc pm an cd ct), sl⟩) (c : PySem.W.codeIn K cd "check_saying" = true) (k : PySem.W.keepIn K (.ref f) = true) : DefOk K mg tbl L fsL frL (9, "check_saying") :=
  ⟨df_9, f, _, ["value"], nm_9, "check_saying", st_9, rfl, fun_mk l c k, sc_9, rfl, rfl, by decide, PySem.W.mg_of X G a, (fun_mk l c k).binds (fun _ _ _ _ _ _ us hl => match us, hl with | [_], _ => rfl), fun n g nx => ok_9 _ _ g nx⟩
theorem dk_10 {K : PySem.W.Frag} {h : Heap} {mg : Str → Option Value} {L : Nat} (X : K.In h) (G : h.Ns mainGlobals mg) {f : Addr} {od an : Option Addr} {sl : Array (Option Value)} {oc kV dc pm cd ct : Value} (a : PySem.W.nsIn K mainGlobals "is_row_of" = some (some (.ref f)))
    (l : K.lookup f = some ⟨oc, od, .func (PySem.W.fnOf "is_row_of" "is_row_of" (defArgs st_10) (defBody st_10) (defScope st_10) .none kV dc pm an cd ct), sl⟩) (c : PySem.W.codeIn K cd "is_row_of" = true) (k : PySem.W.keepIn K (.ref f) = true) : DefOk K mg tbl L fsL frL (10, "is_row_of") :=
  ⟨df_10, f, _, ["size", "value"], nm_10, "is_row_of", st_10, rfl, fun_mk l c k, sc_10, rfl, rfl, by decide, PySem.W.mg_of X G a, (fun_mk l c k).binds (fun _ _ _ _ _ _ us hl => match us, hl with | [_, _], _ => rfl), fun n g nx => ok_10 _ _ g nx⟩
theorem dk_11 {K : PySem.W.Frag} {h : Heap} {mg : Str → Option Value} {L : Nat} (X : K.In h) (G : h.Ns mainGlobals mg) {f : Addr} {od an : Option Addr} {sl : Array (Option Value)} {oc kV dc pm cd ct : Value} (a : PySem.W.nsIn K mainGlobals "check_marking" = some (some (.ref f)))
    (l : K.lookup f = some ⟨oc, od, .func (PySem.W.fnOf "check_marking" "check_marking" (defArgs st_11) (defBody st_11) (defScope st_11) .none kV dc pm an cd ct), sl⟩) (c : PySem.W.codeIn K cd "check_marking" = true) (k : PySem.W.keepIn K (.ref f) = true) : DefOk K mg tbl L fsL frL (11, "check_marking") :=
  ⟨df_11, f, _, ["web", "value"], nm_11, "check_marking", st_11, rfl, fun_mk l c k, sc_11, rfl, rfl, by decide, PySem.W.mg_of X G a, (fun_mk l c k).binds (fun _ _ _ _ _ _ us hl => match us, hl with | [_, _], _ => rfl), fun n g nx => ok_11 _ _ g nx⟩
theorem dk_12 {K : PySem.W.Frag} {h : Heap} {mg : Str → Option Value} {L : Nat} (X : K.In h) (G : h.Ns mainGlobals mg) {f : Addr} {od an : Option Addr} {sl : Array (Option Value)} {oc kV dc pm cd ct : Value} (a : PySem.W.nsIn K mainGlobals "words_so" = some (some (.ref f)))
    (l : K.lookup f = some ⟨oc, od, .func (PySem.W.fnOf "words_so" "words_so" (defArgs st_12) (defBody st_12) (defScope st_12) .none kV dc pm an cd ct), sl⟩) (c : PySem.W.codeIn K cd "words_so" = true) (k : PySem.W.keepIn K (.ref f) = true) : DefOk K mg tbl L fsL frL (12, "words_so") :=
  ⟨df_12, f, _, ["saying"], nm_12, "words_so", st_12, rfl, fun_mk l c k, sc_12, rfl, rfl, by decide, PySem.W.mg_of X G a, (fun_mk l c k).binds (fun _ _ _ _ _ _ us hl => match us, hl with | [_], _ => rfl), fun n g nx => ok_12 _ _ g nx⟩
theorem dk_13 {K : PySem.W.Frag} {h : Heap} {mg : Str → Option Value} {L : Nat} (X : K.In h) (G : h.Ns mainGlobals mg) {f : Addr} {od an : Option Addr} {sl : Array (Option Value)} {oc kV dc pm cd ct : Value} (a : PySem.W.nsIn K mainGlobals "deep_so" = some (some (.ref f)))
    (l : K.lookup f = some ⟨oc, od, .func (PySem.W.fnOf "deep_so" "deep_so" (defArgs st_13) (defBody st_13) (defScope st_13) .none kV dc pm an cd ct), sl⟩) (c : PySem.W.codeIn K cd "deep_so" = true) (k : PySem.W.keepIn K (.ref f) = true) : DefOk K mg tbl L fsL frL (13, "deep_so") :=
  ⟨df_13, f, _, ["saying"], nm_13, "deep_so", st_13, rfl, fun_mk l c k, sc_13, rfl, rfl, by decide, PySem.W.mg_of X G a, (fun_mk l c k).binds (fun _ _ _ _ _ _ us hl => match us, hl with | [_], _ => rfl), fun n g nx => ok_13 _ _ g nx⟩
theorem dk_14 {K : PySem.W.Frag} {h : Heap} {mg : Str → Option Value} {L : Nat} (X : K.In h) (G : h.Ns mainGlobals mg) {f : Addr} {od an : Option Addr} {sl : Array (Option Value)} {oc kV dc pm cd ct : Value} (a : PySem.W.nsIn K mainGlobals "letters_so" = some (some (.ref f)))
    (l : K.lookup f = some ⟨oc, od, .func (PySem.W.fnOf "letters_so" "letters_so" (defArgs st_14) (defBody st_14) (defScope st_14) .none kV dc pm an cd ct), sl⟩) (c : PySem.W.codeIn K cd "letters_so" = true) (k : PySem.W.keepIn K (.ref f) = true) : DefOk K mg tbl L fsL frL (14, "letters_so") :=
  ⟨df_14, f, _, ["saying"], nm_14, "letters_so", st_14, rfl, fun_mk l c k, sc_14, rfl, rfl, by decide, PySem.W.mg_of X G a, (fun_mk l c k).binds (fun _ _ _ _ _ _ us hl => match us, hl with | [_], _ => rfl), fun n g nx => ok_14 _ _ g nx⟩
theorem dk_15 {K : PySem.W.Frag} {h : Heap} {mg : Str → Option Value} {L : Nat} (X : K.In h) (G : h.Ns mainGlobals mg) {f : Addr} {od an : Option Addr} {sl : Array (Option Value)} {oc kV dc pm cd ct : Value} (a : PySem.W.nsIn K mainGlobals "marks_so" = some (some (.ref f)))
    (l : K.lookup f = some ⟨oc, od, .func (PySem.W.fnOf "marks_so" "marks_so" (defArgs st_15) (defBody st_15) (defScope st_15) .none kV dc pm an cd ct), sl⟩) (c : PySem.W.codeIn K cd "marks_so" = true) (k : PySem.W.keepIn K (.ref f) = true) : DefOk K mg tbl L fsL frL (15, "marks_so") :=
  ⟨df_15, f, _, ["marking"], nm_15, "marks_so", st_15, rfl, fun_mk l c k, sc_15, rfl, rfl, by decide, PySem.W.mg_of X G a, (fun_mk l c k).binds (fun _ _ _ _ _ _ us hl => match us, hl with | [_], _ => rfl), fun n g nx => ok_15 _ _ g nx⟩
theorem dk_16 {K : PySem.W.Frag} {h : Heap} {mg : Str → Option Value} {L : Nat} (X : K.In h) (G : h.Ns mainGlobals mg) {f : Addr} {od an : Option Addr} {sl : Array (Option Value)} {oc kV dc pm cd ct : Value} (a : PySem.W.nsIn K mainGlobals "each_so" = some (some (.ref f)))
    (l : K.lookup f = some ⟨oc, od, .func (PySem.W.fnOf "each_so" "each_so" (defArgs st_16) (defBody st_16) (defScope st_16) .none kV dc pm an cd ct), sl⟩) (c : PySem.W.codeIn K cd "each_so" = true) (k : PySem.W.keepIn K (.ref f) = true) : DefOk K mg tbl L fsL frL (16, "each_so") :=
  ⟨df_16, f, _, ["rows", "bits"], nm_16, "each_so", st_16, rfl, fun_mk l c k, sc_16, rfl, rfl, by decide, PySem.W.mg_of X G a, (fun_mk l c k).binds (fun _ _ _ _ _ _ us hl => match us, hl with | [_, _], _ => rfl), fun n g nx => ok_16 _ _ g nx⟩
theorem dk_17 {K : PySem.W.Frag} {h : Heap} {mg : Str → Option Value} {L : Nat} (X : K.In h) (G : h.Ns mainGlobals mg) {f : Addr} {od an : Option Addr} {sl : Array (Option Value)} {oc kV dc pm cd ct : Value} (a : PySem.W.nsIn K mainGlobals "some_so" = some (some (.ref f)))
    (l : K.lookup f = some ⟨oc, od, .func (PySem.W.fnOf "some_so" "some_so" (defArgs st_17) (defBody st_17) (defScope st_17) .none kV dc pm an cd ct), sl⟩) (c : PySem.W.codeIn K cd "some_so" = true) (k : PySem.W.keepIn K (.ref f) = true) : DefOk K mg tbl L fsL frL (17, "some_so") :=
  ⟨df_17, f, _, ["rows", "bits"], nm_17, "some_so", st_17, rfl, fun_mk l c k, sc_17, rfl, rfl, by decide, PySem.W.mg_of X G a, (fun_mk l c k).binds (fun _ _ _ _ _ _ us hl => match us, hl with | [_, _], _ => rfl), fun n g nx => ok_17 _ _ g nx⟩
theorem dk_18 {K : PySem.W.Frag} {h : Heap} {mg : Str → Option Value} {L : Nat} (X : K.In h) (G : h.Ns mainGlobals mg) {f : Addr} {od an : Option Addr} {sl : Array (Option Value)} {oc kV dc pm cd ct : Value} (a : PySem.W.nsIn K mainGlobals "holds_so" = some (some (.ref f)))
    (l : K.lookup f = some ⟨oc, od, .func (PySem.W.fnOf "holds_so" "holds_so" (defArgs st_18) (defBody st_18) (defScope st_18) .none kV dc pm an cd ct), sl⟩) (c : PySem.W.codeIn K cd "holds_so" = true) (k : PySem.W.keepIn K (.ref f) = true) : DefOk K mg tbl L fsL frL (18, "holds_so") :=
  ⟨df_18, f, _, ["arrows", "saying", "marks"], nm_18, "holds_so", st_18, rfl, fun_mk l c k, sc_18, rfl, rfl, by decide, PySem.W.mg_of X G a, (fun_mk l c k).binds (fun _ _ _ _ _ _ us hl => match us, hl with | [_, _, _], _ => rfl), fun n g nx => ok_18 _ _ g nx⟩
theorem dk_19 {K : PySem.W.Frag} {h : Heap} {mg : Str → Option Value} {L : Nat} (X : K.In h) (G : h.Ns mainGlobals mg) {f : Addr} {od an : Option Addr} {sl : Array (Option Value)} {oc kV dc pm cd ct : Value} (a : PySem.W.nsIn K mainGlobals "need_saying" = some (some (.ref f)))
    (l : K.lookup f = some ⟨oc, od, .func (PySem.W.fnOf "need_saying" "need_saying" (defArgs st_19) (defBody st_19) (defScope st_19) .none kV dc pm an cd ct), sl⟩) (c : PySem.W.codeIn K cd "need_saying" = true) (k : PySem.W.keepIn K (.ref f) = true) : DefOk K mg tbl L fsL frL (19, "need_saying") :=
  ⟨df_19, f, _, ["saying"], nm_19, "need_saying", st_19, rfl, fun_mk l c k, sc_19, rfl, rfl, by decide, PySem.W.mg_of X G a, (fun_mk l c k).binds (fun _ _ _ _ _ _ us hl => match us, hl with | [_], _ => rfl), fun n g nx => ok_19 _ _ g nx⟩
theorem dk_20 {K : PySem.W.Frag} {h : Heap} {mg : Str → Option Value} {L : Nat} (X : K.In h) (G : h.Ns mainGlobals mg) {f : Addr} {od an : Option Addr} {sl : Array (Option Value)} {oc kV dc pm cd ct : Value} (a : PySem.W.nsIn K mainGlobals "words_in" = some (some (.ref f)))
    (l : K.lookup f = some ⟨oc, od, .func (PySem.W.fnOf "words_in" "words_in" (defArgs st_20) (defBody st_20) (defScope st_20) .none kV dc pm an cd ct), sl⟩) (c : PySem.W.codeIn K cd "words_in" = true) (k : PySem.W.keepIn K (.ref f) = true) : DefOk K mg tbl L fsL frL (20, "words_in") :=
  ⟨df_20, f, _, ["saying"], nm_20, "words_in", st_20, rfl, fun_mk l c k, sc_20, rfl, rfl, by decide, PySem.W.mg_of X G a, (fun_mk l c k).binds (fun _ _ _ _ _ _ us hl => match us, hl with | [_], _ => rfl), fun n g nx => ok_20 _ _ g nx⟩
theorem dk_21 {K : PySem.W.Frag} {h : Heap} {mg : Str → Option Value} {L : Nat} (X : K.In h) (G : h.Ns mainGlobals mg) {f : Addr} {od an : Option Addr} {sl : Array (Option Value)} {oc kV dc pm cd ct : Value} (a : PySem.W.nsIn K mainGlobals "deep_in" = some (some (.ref f)))
    (l : K.lookup f = some ⟨oc, od, .func (PySem.W.fnOf "deep_in" "deep_in" (defArgs st_21) (defBody st_21) (defScope st_21) .none kV dc pm an cd ct), sl⟩) (c : PySem.W.codeIn K cd "deep_in" = true) (k : PySem.W.keepIn K (.ref f) = true) : DefOk K mg tbl L fsL frL (21, "deep_in") :=
  ⟨df_21, f, _, ["saying"], nm_21, "deep_in", st_21, rfl, fun_mk l c k, sc_21, rfl, rfl, by decide, PySem.W.mg_of X G a, (fun_mk l c k).binds (fun _ _ _ _ _ _ us hl => match us, hl with | [_], _ => rfl), fun n g nx => ok_21 _ _ g nx⟩
theorem dk_22 {K : PySem.W.Frag} {h : Heap} {mg : Str → Option Value} {L : Nat} (X : K.In h) (G : h.Ns mainGlobals mg) {f : Addr} {od an : Option Addr} {sl : Array (Option Value)} {oc kV dc pm cd ct : Value} (a : PySem.W.nsIn K mainGlobals "letters_in" = some (some (.ref f)))
    (l : K.lookup f = some ⟨oc, od, .func (PySem.W.fnOf "letters_in" "letters_in" (defArgs st_22) (defBody st_22) (defScope st_22) .none kV dc pm an cd ct), sl⟩) (c : PySem.W.codeIn K cd "letters_in" = true) (k : PySem.W.keepIn K (.ref f) = true) : DefOk K mg tbl L fsL frL (22, "letters_in") :=
  ⟨df_22, f, _, ["saying"], nm_22, "letters_in", st_22, rfl, fun_mk l c k, sc_22, rfl, rfl, by decide, PySem.W.mg_of X G a, (fun_mk l c k).binds (fun _ _ _ _ _ _ us hl => match us, hl with | [_], _ => rfl), fun n g nx => ok_22 _ _ g nx⟩
theorem dk_23 {K : PySem.W.Frag} {h : Heap} {mg : Str → Option Value} {L : Nat} (X : K.In h) (G : h.Ns mainGlobals mg) {f : Addr} {od an : Option Addr} {sl : Array (Option Value)} {oc kV dc pm cd ct : Value} (a : PySem.W.nsIn K mainGlobals "need_marking" = some (some (.ref f)))
    (l : K.lookup f = some ⟨oc, od, .func (PySem.W.fnOf "need_marking" "need_marking" (defArgs st_23) (defBody st_23) (defScope st_23) .none kV dc pm an cd ct), sl⟩) (c : PySem.W.codeIn K cd "need_marking" = true) (k : PySem.W.keepIn K (.ref f) = true) : DefOk K mg tbl L fsL frL (23, "need_marking") :=
  ⟨df_23, f, _, ["web", "marking"], nm_23, "need_marking", st_23, rfl, fun_mk l c k, sc_23, rfl, rfl, by decide, PySem.W.mg_of X G a, (fun_mk l c k).binds (fun _ _ _ _ _ _ us hl => match us, hl with | [_, _], _ => rfl), fun n g nx => ok_23 _ _ g nx⟩
theorem dk_24 {K : PySem.W.Frag} {h : Heap} {mg : Str → Option Value} {L : Nat} (X : K.In h) (G : h.Ns mainGlobals mg) {f : Addr} {od an : Option Addr} {sl : Array (Option Value)} {oc kV dc pm cd ct : Value} (a : PySem.W.nsIn K mainGlobals "holding" = some (some (.ref f)))
    (l : K.lookup f = some ⟨oc, od, .func (PySem.W.fnOf "holding" "holding" (defArgs st_24) (defBody st_24) (defScope st_24) .none kV dc pm an cd ct), sl⟩) (c : PySem.W.codeIn K cd "holding" = true) (k : PySem.W.keepIn K (.ref f) = true) : DefOk K mg tbl L fsL frL (24, "holding") :=
  ⟨df_24, f, _, ["web", "marking", "saying"], nm_24, "holding", st_24, rfl, fun_mk l c k, sc_24, rfl, rfl, by decide, PySem.W.mg_of X G a, (fun_mk l c k).binds (fun _ _ _ _ _ _ us hl => match us, hl with | [_, _, _], _ => rfl), fun n g nx => ok_24 _ _ g nx⟩
theorem dk_25 {K : PySem.W.Frag} {h : Heap} {mg : Str → Option Value} {L : Nat} (X : K.In h) (G : h.Ns mainGlobals mg) {f : Addr} {od an : Option Addr} {sl : Array (Option Value)} {oc kV dc pm cd ct : Value} (a : PySem.W.nsIn K mainGlobals "holds" = some (some (.ref f)))
    (l : K.lookup f = some ⟨oc, od, .func (PySem.W.fnOf "holds" "holds" (defArgs st_25) (defBody st_25) (defScope st_25) .none kV dc pm an cd ct), sl⟩) (c : PySem.W.codeIn K cd "holds" = true) (k : PySem.W.keepIn K (.ref f) = true) : DefOk K mg tbl L fsL frL (25, "holds") :=
  ⟨df_25, f, _, ["web", "marking", "saying", "world"], nm_25, "holds", st_25, rfl, fun_mk l c k, sc_25, rfl, rfl, by decide, PySem.W.mg_of X G a, (fun_mk l c k).binds (fun _ _ _ _ _ _ us hl => match us, hl with | [_, _, _, _], _ => rfl), fun n g nx => ok_25 _ _ g nx⟩
theorem dk_26 {K : PySem.W.Frag} {h : Heap} {mg : Str → Option Value} {L : Nat} (X : K.In h) (G : h.Ns mainGlobals mg) {f : Addr} {od an : Option Addr} {sl : Array (Option Value)} {oc kV dc pm cd ct : Value} (a : PySem.W.nsIn K mainGlobals "_law_mixed" = some (some (.ref f)))
    (l : K.lookup f = some ⟨oc, od, .func (PySem.W.fnOf "_law_mixed" "_law_mixed" (defArgs st_26) (defBody st_26) (defScope st_26) .none kV dc pm an cd ct), sl⟩) (c : PySem.W.codeIn K cd "_law_mixed" = true) (k : PySem.W.keepIn K (.ref f) = true) : DefOk K mg tbl L fsL frL (26, "_law_mixed") :=
  ⟨df_26, f, _, ["cell", "k"], nm_26, "_law_mixed", st_26, rfl, fun_mk l c k, sc_26, rfl, rfl, by decide, PySem.W.mg_of X G a, (fun_mk l c k).binds (fun _ _ _ _ _ _ us hl => match us, hl with | [_, _], _ => rfl), fun n g nx => ok_26 _ _ g nx⟩
theorem dk_27 {K : PySem.W.Frag} {h : Heap} {mg : Str → Option Value} {L : Nat} (X : K.In h) (G : h.Ns mainGlobals mg) {f : Addr} {od an : Option Addr} {sl : Array (Option Value)} {oc kV dc pm cd ct : Value} (a : PySem.W.nsIn K mainGlobals "_law_begin" = some (some (.ref f)))
    (l : K.lookup f = some ⟨oc, od, .func (PySem.W.fnOf "_law_begin" "_law_begin" (defArgs st_27) (defBody st_27) (defScope st_27) .none kV dc pm an cd ct), sl⟩) (c : PySem.W.codeIn K cd "_law_begin" = true) (k : PySem.W.keepIn K (.ref f) = true) : DefOk K mg tbl L fsL frL (27, "_law_begin") :=
  ⟨df_27, f, _, ["script"], nm_27, "_law_begin", st_27, rfl, fun_mk l c k, sc_27, rfl, rfl, by decide, PySem.W.mg_of X G a, (fun_mk l c k).binds (fun _ _ _ _ _ _ us hl => match us, hl with | [_], _ => rfl), fun n g nx => ok_27 _ _ g nx⟩
theorem dk_28 {K : PySem.W.Frag} {h : Heap} {mg : Str → Option Value} {L : Nat} (X : K.In h) (G : h.Ns mainGlobals mg) {f : Addr} {od an : Option Addr} {sl : Array (Option Value)} {oc kV dc pm cd ct : Value} (a : PySem.W.nsIn K mainGlobals "_law_draw" = some (some (.ref f)))
    (l : K.lookup f = some ⟨oc, od, .func (PySem.W.fnOf "_law_draw" "_law_draw" (defArgs st_28) (defBody st_28) (defScope st_28) .none kV dc pm an cd ct), sl⟩) (c : PySem.W.codeIn K cd "_law_draw" = true) (k : PySem.W.keepIn K (.ref f) = true) : DefOk K mg tbl L fsL frL (28, "_law_draw") :=
  ⟨df_28, f, _, ["state", "limit"], nm_28, "_law_draw", st_28, rfl, fun_mk l c k, sc_28, rfl, rfl, by decide, PySem.W.mg_of X G a, (fun_mk l c k).binds (fun _ _ _ _ _ _ us hl => match us, hl with | [_, _], _ => rfl), fun n g nx => ok_28 _ _ g nx⟩
theorem dk_29 {K : PySem.W.Frag} {h : Heap} {mg : Str → Option Value} {L : Nat} (X : K.In h) (G : h.Ns mainGlobals mg) {f : Addr} {od an : Option Addr} {sl : Array (Option Value)} {oc kV dc pm cd ct : Value} (a : PySem.W.nsIn K mainGlobals "_law_web" = some (some (.ref f)))
    (l : K.lookup f = some ⟨oc, od, .func (PySem.W.fnOf "_law_web" "_law_web" (defArgs st_29) (defBody st_29) (defScope st_29) .none kV dc pm an cd ct), sl⟩) (c : PySem.W.codeIn K cd "_law_web" = true) (k : PySem.W.keepIn K (.ref f) = true) : DefOk K mg tbl L fsL frL (29, "_law_web") :=
  ⟨df_29, f, _, ["state", "most", "sorts"], nm_29, "_law_web", st_29, rfl, fun_mk l c k, sc_29, rfl, rfl, by decide, PySem.W.mg_of X G a, (fun_mk l c k).binds (fun _ _ _ _ _ _ us hl => match us, hl with | [_, _, _], _ => rfl), fun n g nx => ok_29 _ _ g nx⟩
theorem dk_30 {K : PySem.W.Frag} {h : Heap} {mg : Str → Option Value} {L : Nat} (X : K.In h) (G : h.Ns mainGlobals mg) {f : Addr} {od an : Option Addr} {sl : Array (Option Value)} {oc kV dc pm cd ct : Value} (a : PySem.W.nsIn K mainGlobals "_law_saying" = some (some (.ref f)))
    (l : K.lookup f = some ⟨oc, od, .func (PySem.W.fnOf "_law_saying" "_law_saying" (defArgs st_30) (defBody st_30) (defScope st_30) .none kV dc pm an cd ct), sl⟩) (c : PySem.W.codeIn K cd "_law_saying" = true) (k : PySem.W.keepIn K (.ref f) = true) : DefOk K mg tbl L fsL frL (30, "_law_saying") :=
  ⟨df_30, f, _, ["state", "deep", "names"], nm_30, "_law_saying", st_30, rfl, fun_mk l c k, sc_30, rfl, rfl, by decide, PySem.W.mg_of X G a, (fun_mk l c k).binds (fun _ _ _ _ _ _ us hl => match us, hl with | [_, _, _], _ => rfl), fun n g nx => ok_30 _ _ g nx⟩
theorem dk_31 {K : PySem.W.Frag} {h : Heap} {mg : Str → Option Value} {L : Nat} (X : K.In h) (G : h.Ns mainGlobals mg) {f : Addr} {od an : Option Addr} {sl : Array (Option Value)} {oc kV dc pm cd ct : Value} (a : PySem.W.nsIn K mainGlobals "_law_led" = some (some (.ref f)))
    (l : K.lookup f = some ⟨oc, od, .func (PySem.W.fnOf "_law_led" "_law_led" (defArgs st_31) (defBody st_31) (defScope st_31) .none kV dc pm an cd ct), sl⟩) (c : PySem.W.codeIn K cd "_law_led" = true) (k : PySem.W.keepIn K (.ref f) = true) : DefOk K mg tbl L fsL frL (31, "_law_led") :=
  ⟨df_31, f, _, ["web_so", "toward", "spot"], nm_31, "_law_led", st_31, rfl, fun_mk l c k, sc_31, rfl, rfl, by decide, PySem.W.mg_of X G a, (fun_mk l c k).binds (fun _ _ _ _ _ _ us hl => match us, hl with | [_, _, _], _ => rfl), fun n g nx => ok_31 _ _ g nx⟩
theorem dk_32 {K : PySem.W.Frag} {h : Heap} {mg : Str → Option Value} {L : Nat} (X : K.In h) (G : h.Ns mainGlobals mg) {f : Addr} {od an : Option Addr} {sl : Array (Option Value)} {oc kV dc pm cd ct : Value} (a : PySem.W.nsIn K mainGlobals "_law_at" = some (some (.ref f)))
    (l : K.lookup f = some ⟨oc, od, .func (PySem.W.fnOf "_law_at" "_law_at" (defArgs st_32) (defBody st_32) (defScope st_32) .none kV dc pm an cd ct), sl⟩) (c : PySem.W.codeIn K cd "_law_at" = true) (k : PySem.W.keepIn K (.ref f) = true) : DefOk K mg tbl L fsL frL (32, "_law_at") :=
  ⟨df_32, f, _, ["web_so", "mark_so", "told", "spot"], nm_32, "_law_at", st_32, rfl, fun_mk l c k, sc_32, rfl, rfl, by decide, PySem.W.mg_of X G a, (fun_mk l c k).binds (fun _ _ _ _ _ _ us hl => match us, hl with | [_, _, _, _], _ => rfl), fun n g nx => ok_32 _ _ g nx⟩
theorem dk_33 {K : PySem.W.Frag} {h : Heap} {mg : Str → Option Value} {L : Nat} (X : K.In h) (G : h.Ns mainGlobals mg) {f : Addr} {od an : Option Addr} {sl : Array (Option Value)} {oc kV dc pm cd ct : Value} (a : PySem.W.nsIn K mainGlobals "_law_inner" = some (some (.ref f)))
    (l : K.lookup f = some ⟨oc, od, .func (PySem.W.fnOf "_law_inner" "_law_inner" (defArgs st_33) (defBody st_33) (defScope st_33) .none kV dc pm an cd ct), sl⟩) (c : PySem.W.codeIn K cd "_law_inner" = true) (k : PySem.W.keepIn K (.ref f) = true) : DefOk K mg tbl L fsL frL (33, "_law_inner") :=
  ⟨df_33, f, _, ["told"], nm_33, "_law_inner", st_33, rfl, fun_mk l c k, sc_33, rfl, rfl, by decide, PySem.W.mg_of X G a, (fun_mk l c k).binds (fun _ _ _ _ _ _ us hl => match us, hl with | [_], _ => rfl), fun n g nx => ok_33 _ _ g nx⟩
theorem dk_34 {K : PySem.W.Frag} {h : Heap} {mg : Str → Option Value} {L : Nat} (X : K.In h) (G : h.Ns mainGlobals mg) {f : Addr} {od an : Option Addr} {sl : Array (Option Value)} {oc kV dc pm cd ct : Value} (a : PySem.W.nsIn K mainGlobals "_law_sizes" = some (some (.ref f)))
    (l : K.lookup f = some ⟨oc, od, .func (PySem.W.fnOf "_law_sizes" "_law_sizes" (defArgs st_34) (defBody st_34) (defScope st_34) .none kV dc pm an cd ct), sl⟩) (c : PySem.W.codeIn K cd "_law_sizes" = true) (k : PySem.W.keepIn K (.ref f) = true) : DefOk K mg tbl L fsL frL (34, "_law_sizes") :=
  ⟨df_34, f, _, ["told"], nm_34, "_law_sizes", st_34, rfl, fun_mk l c k, sc_34, rfl, rfl, by decide, PySem.W.mg_of X G a, (fun_mk l c k).binds (fun _ _ _ _ _ _ us hl => match us, hl with | [_], _ => rfl), fun n g nx => ok_34 _ _ g nx⟩
theorem dk_35 {K : PySem.W.Frag} {h : Heap} {mg : Str → Option Value} {L : Nat} (X : K.In h) (G : h.Ns mainGlobals mg) {f : Addr} {od an : Option Addr} {sl : Array (Option Value)} {oc kV dc pm cd ct : Value} (a : PySem.W.nsIn K mainGlobals "_law_like" = some (some (.ref f)))
    (l : K.lookup f = some ⟨oc, od, .func (PySem.W.fnOf "_law_like" "_law_like" (defArgs st_35) (defBody st_35) (defScope st_35) .none kV dc pm an cd ct), sl⟩) (c : PySem.W.codeIn K cd "_law_like" = true) (k : PySem.W.keepIn K (.ref f) = true) : DefOk K mg tbl L fsL frL (35, "_law_like") :=
  ⟨df_35, f, _, ["got", "due"], nm_35, "_law_like", st_35, rfl, fun_mk l c k, sc_35, rfl, rfl, by decide, PySem.W.mg_of X G a, (fun_mk l c k).binds (fun _ _ _ _ _ _ us hl => match us, hl with | [_, _], _ => rfl), fun n g nx => ok_35 _ _ g nx⟩
theorem dk_36 {K : PySem.W.Frag} {h : Heap} {mg : Str → Option Value} {L : Nat} (X : K.In h) (G : h.Ns mainGlobals mg) {f : Addr} {od an : Option Addr} {sl : Array (Option Value)} {oc kV dc pm cd ct : Value} (a : PySem.W.nsIn K mainGlobals "_law_marked" = some (some (.ref f)))
    (l : K.lookup f = some ⟨oc, od, .func (PySem.W.fnOf "_law_marked" "_law_marked" (defArgs st_36) (defBody st_36) (defScope st_36) .none kV dc pm an cd ct), sl⟩) (c : PySem.W.codeIn K cd "_law_marked" = true) (k : PySem.W.keepIn K (.ref f) = true) : DefOk K mg tbl L fsL frL (36, "_law_marked") :=
  ⟨df_36, f, _, ["state", "size"], nm_36, "_law_marked", st_36, rfl, fun_mk l c k, sc_36, rfl, rfl, by decide, PySem.W.mg_of X G a, (fun_mk l c k).binds (fun _ _ _ _ _ _ us hl => match us, hl with | [_, _], _ => rfl), fun n g nx => ok_36 _ _ g nx⟩
theorem dk_37 {K : PySem.W.Frag} {h : Heap} {mg : Str → Option Value} {L : Nat} (X : K.In h) (G : h.Ns mainGlobals mg) {f : Addr} {od an : Option Addr} {sl : Array (Option Value)} {oc kV dc pm cd ct : Value} (a : PySem.W.nsIn K mainGlobals "_law_right" = some (some (.ref f)))
    (l : K.lookup f = some ⟨oc, od, .func (PySem.W.fnOf "_law_right" "_law_right" (defArgs st_37) (defBody st_37) (defScope st_37) .none kV dc pm an cd ct), sl⟩) (c : PySem.W.codeIn K cd "_law_right" = true) (k : PySem.W.keepIn K (.ref f) = true) : DefOk K mg tbl L fsL frL (37, "_law_right") :=
  ⟨df_37, f, _, ["state"], nm_37, "_law_right", st_37, rfl, fun_mk l c k, sc_37, rfl, rfl, by decide, PySem.W.mg_of X G a, (fun_mk l c k).binds (fun _ _ _ _ _ _ us hl => match us, hl with | [_], _ => rfl), fun n g nx => ok_37 _ _ g nx⟩
theorem dk_38 {K : PySem.W.Frag} {h : Heap} {mg : Str → Option Value} {L : Nat} (X : K.In h) (G : h.Ns mainGlobals mg) {f : Addr} {od an : Option Addr} {sl : Array (Option Value)} {oc kV dc pm cd ct : Value} (a : PySem.W.nsIn K mainGlobals "_law_line" = some (some (.ref f)))
    (l : K.lookup f = some ⟨oc, od, .func (PySem.W.fnOf "_law_line" "_law_line" (defArgs st_38) (defBody st_38) (defScope st_38) .none kV dc pm an cd ct), sl⟩) (c : PySem.W.codeIn K cd "_law_line" = true) (k : PySem.W.keepIn K (.ref f) = true) : DefOk K mg tbl L fsL frL (38, "_law_line") :=
  ⟨df_38, f, _, ["state"], nm_38, "_law_line", st_38, rfl, fun_mk l c k, sc_38, rfl, rfl, by decide, PySem.W.mg_of X G a, (fun_mk l c k).binds (fun _ _ _ _ _ _ us hl => match us, hl with | [_], _ => rfl), fun n g nx => ok_38 _ _ g nx⟩
theorem dk_39 {K : PySem.W.Frag} {h : Heap} {mg : Str → Option Value} {L : Nat} (X : K.In h) (G : h.Ns mainGlobals mg) {f : Addr} {od an : Option Addr} {sl : Array (Option Value)} {oc kV dc pm cd ct : Value} (a : PySem.W.nsIn K mainGlobals "law" = some (some (.ref f)))
    (l : K.lookup f = some ⟨oc, od, .func (PySem.W.fnOf "law" "law" (defArgs st_39) (defBody st_39) (defScope st_39) .none kV dc pm an cd ct), sl⟩) (c : PySem.W.codeIn K cd "law" = true) (k : PySem.W.keepIn K (.ref f) = true) : DefOk K mg tbl L fsL frL (39, "law") :=
  ⟨df_39, f, _, ["script"], nm_39, "law", st_39, rfl, fun_mk l c k, sc_39, rfl, rfl, by decide, PySem.W.mg_of X G a, (fun_mk l c k).binds (fun _ _ _ _ _ _ us hl => match us, hl with | [_], _ => rfl), fun n g nx => ok_39 _ _ g nx⟩
theorem all_defs {K : PySem.W.Frag} {w : World} {h : Heap} {mg : Str → Option Value} {L : Nat} (X : K.In h) (G : h.Ns mainGlobals mg)
    {f_0 : Addr} {od_0 an_0 : Option Addr} {sl_0 : Array (Option Value)} {oc_0 kV_0 dc_0 pm_0 cd_0 ct_0 : Value} (a_0 : PySem.W.nsIn K mainGlobals "is_from" = some (some (.ref f_0))) (l_0 : K.lookup f_0 = some ⟨oc_0, od_0, .func (PySem.W.fnOf "is_from" "is_from" (defArgs st_0) (defBody st_0) (defScope st_0) .none kV_0 dc_0 pm_0 an_0 cd_0 ct_0), sl_0⟩) (c_0 : PySem.W.codeIn K cd_0 "is_from" = true) (k_0 : PySem.W.keepIn K (.ref f_0) = true)
    {f_1 : Addr} {od_1 an_1 : Option Addr} {sl_1 : Array (Option Value)} {oc_1 kV_1 dc_1 pm_1 cd_1 ct_1 : Value} (a_1 : PySem.W.nsIn K mainGlobals "is_arrow" = some (some (.ref f_1))) (l_1 : K.lookup f_1 = some ⟨oc_1, od_1, .func (PySem.W.fnOf "is_arrow" "is_arrow" (defArgs st_1) (defBody st_1) (defScope st_1) .none kV_1 dc_1 pm_1 an_1 cd_1 ct_1), sl_1⟩) (c_1 : PySem.W.codeIn K cd_1 "is_arrow" = true) (k_1 : PySem.W.keepIn K (.ref f_1) = true)
    {f_2 : Addr} {od_2 an_2 : Option Addr} {sl_2 : Array (Option Value)} {oc_2 kV_2 dc_2 pm_2 cd_2 ct_2 : Value} (a_2 : PySem.W.nsIn K mainGlobals "is_web" = some (some (.ref f_2))) (l_2 : K.lookup f_2 = some ⟨oc_2, od_2, .func (PySem.W.fnOf "is_web" "is_web" (defArgs st_2) (defBody st_2) (defScope st_2) .none kV_2 dc_2 pm_2 an_2 cd_2 ct_2), sl_2⟩) (c_2 : PySem.W.codeIn K cd_2 "is_web" = true) (k_2 : PySem.W.keepIn K (.ref f_2) = true)
    {f_3 : Addr} {od_3 an_3 : Option Addr} {sl_3 : Array (Option Value)} {oc_3 kV_3 dc_3 pm_3 cd_3 ct_3 : Value} (a_3 : PySem.W.nsIn K mainGlobals "check_web" = some (some (.ref f_3))) (l_3 : K.lookup f_3 = some ⟨oc_3, od_3, .func (PySem.W.fnOf "check_web" "check_web" (defArgs st_3) (defBody st_3) (defScope st_3) .none kV_3 dc_3 pm_3 an_3 cd_3 ct_3), sl_3⟩) (c_3 : PySem.W.codeIn K cd_3 "check_web" = true) (k_3 : PySem.W.keepIn K (.ref f_3) = true)
    {f_4 : Addr} {od_4 an_4 : Option Addr} {sl_4 : Array (Option Value)} {oc_4 kV_4 dc_4 pm_4 cd_4 ct_4 : Value} (a_4 : PySem.W.nsIn K mainGlobals "check_world" = some (some (.ref f_4))) (l_4 : K.lookup f_4 = some ⟨oc_4, od_4, .func (PySem.W.fnOf "check_world" "check_world" (defArgs st_4) (defBody st_4) (defScope st_4) .none kV_4 dc_4 pm_4 an_4 cd_4 ct_4), sl_4⟩) (c_4 : PySem.W.codeIn K cd_4 "check_world" = true) (k_4 : PySem.W.keepIn K (.ref f_4) = true)
    {f_5 : Addr} {od_5 an_5 : Option Addr} {sl_5 : Array (Option Value)} {oc_5 kV_5 dc_5 pm_5 cd_5 ct_5 : Value} (a_5 : PySem.W.nsIn K mainGlobals "arrows_so" = some (some (.ref f_5))) (l_5 : K.lookup f_5 = some ⟨oc_5, od_5, .func (PySem.W.fnOf "arrows_so" "arrows_so" (defArgs st_5) (defBody st_5) (defScope st_5) .none kV_5 dc_5 pm_5 an_5 cd_5 ct_5), sl_5⟩) (c_5 : PySem.W.codeIn K cd_5 "arrows_so" = true) (k_5 : PySem.W.keepIn K (.ref f_5) = true)
    {f_6 : Addr} {od_6 an_6 : Option Addr} {sl_6 : Array (Option Value)} {oc_6 kV_6 dc_6 pm_6 cd_6 ct_6 : Value} (a_6 : PySem.W.nsIn K mainGlobals "spots_so" = some (some (.ref f_6))) (l_6 : K.lookup f_6 = some ⟨oc_6, od_6, .func (PySem.W.fnOf "spots_so" "spots_so" (defArgs st_6) (defBody st_6) (defScope st_6) .none kV_6 dc_6 pm_6 an_6 cd_6 ct_6), sl_6⟩) (c_6 : PySem.W.codeIn K cd_6 "spots_so" = true) (k_6 : PySem.W.keepIn K (.ref f_6) = true)
    {f_7 : Addr} {od_7 an_7 : Option Addr} {sl_7 : Array (Option Value)} {oc_7 kV_7 dc_7 pm_7 cd_7 ct_7 : Value} (a_7 : PySem.W.nsIn K mainGlobals "bits_so" = some (some (.ref f_7))) (l_7 : K.lookup f_7 = some ⟨oc_7, od_7, .func (PySem.W.fnOf "bits_so" "bits_so" (defArgs st_7) (defBody st_7) (defScope st_7) .none kV_7 dc_7 pm_7 an_7 cd_7 ct_7), sl_7⟩) (c_7 : PySem.W.codeIn K cd_7 "bits_so" = true) (k_7 : PySem.W.keepIn K (.ref f_7) = true)
    {f_8 : Addr} {od_8 an_8 : Option Addr} {sl_8 : Array (Option Value)} {oc_8 kV_8 dc_8 pm_8 cd_8 ct_8 : Value} (a_8 : PySem.W.nsIn K mainGlobals "is_worded" = some (some (.ref f_8))) (l_8 : K.lookup f_8 = some ⟨oc_8, od_8, .func (PySem.W.fnOf "is_worded" "is_worded" (defArgs st_8) (defBody st_8) (defScope st_8) .none kV_8 dc_8 pm_8 an_8 cd_8 ct_8), sl_8⟩) (c_8 : PySem.W.codeIn K cd_8 "is_worded" = true) (k_8 : PySem.W.keepIn K (.ref f_8) = true)
    {f_9 : Addr} {od_9 an_9 : Option Addr} {sl_9 : Array (Option Value)} {oc_9 kV_9 dc_9 pm_9 cd_9 ct_9 : Value} (a_9 : PySem.W.nsIn K mainGlobals "check_saying" = some (some (.ref f_9))) (l_9 : K.lookup f_9 = some ⟨oc_9, od_9, .func (PySem.W.fnOf "check_saying" "check_saying" (defArgs st_9) (defBody st_9) (defScope st_9) .none kV_9 dc_9 pm_9 an_9 cd_9 ct_9), sl_9⟩) (c_9 : PySem.W.codeIn K cd_9 "check_saying" = true) (k_9 : PySem.W.keepIn K (.ref f_9) = true)
    {f_10 : Addr} {od_10 an_10 : Option Addr} {sl_10 : Array (Option Value)} {oc_10 kV_10 dc_10 pm_10 cd_10 ct_10 : Value} (a_10 : PySem.W.nsIn K mainGlobals "is_row_of" = some (some (.ref f_10))) (l_10 : K.lookup f_10 = some ⟨oc_10, od_10, .func (PySem.W.fnOf "is_row_of" "is_row_of" (defArgs st_10) (defBody st_10) (defScope st_10) .none kV_10 dc_10 pm_10 an_10 cd_10 ct_10), sl_10⟩) (c_10 : PySem.W.codeIn K cd_10 "is_row_of" = true) (k_10 : PySem.W.keepIn K (.ref f_10) = true)
    {f_11 : Addr} {od_11 an_11 : Option Addr} {sl_11 : Array (Option Value)} {oc_11 kV_11 dc_11 pm_11 cd_11 ct_11 : Value} (a_11 : PySem.W.nsIn K mainGlobals "check_marking" = some (some (.ref f_11))) (l_11 : K.lookup f_11 = some ⟨oc_11, od_11, .func (PySem.W.fnOf "check_marking" "check_marking" (defArgs st_11) (defBody st_11) (defScope st_11) .none kV_11 dc_11 pm_11 an_11 cd_11 ct_11), sl_11⟩) (c_11 : PySem.W.codeIn K cd_11 "check_marking" = true) (k_11 : PySem.W.keepIn K (.ref f_11) = true)
    {f_12 : Addr} {od_12 an_12 : Option Addr} {sl_12 : Array (Option Value)} {oc_12 kV_12 dc_12 pm_12 cd_12 ct_12 : Value} (a_12 : PySem.W.nsIn K mainGlobals "words_so" = some (some (.ref f_12))) (l_12 : K.lookup f_12 = some ⟨oc_12, od_12, .func (PySem.W.fnOf "words_so" "words_so" (defArgs st_12) (defBody st_12) (defScope st_12) .none kV_12 dc_12 pm_12 an_12 cd_12 ct_12), sl_12⟩) (c_12 : PySem.W.codeIn K cd_12 "words_so" = true) (k_12 : PySem.W.keepIn K (.ref f_12) = true)
    {f_13 : Addr} {od_13 an_13 : Option Addr} {sl_13 : Array (Option Value)} {oc_13 kV_13 dc_13 pm_13 cd_13 ct_13 : Value} (a_13 : PySem.W.nsIn K mainGlobals "deep_so" = some (some (.ref f_13))) (l_13 : K.lookup f_13 = some ⟨oc_13, od_13, .func (PySem.W.fnOf "deep_so" "deep_so" (defArgs st_13) (defBody st_13) (defScope st_13) .none kV_13 dc_13 pm_13 an_13 cd_13 ct_13), sl_13⟩) (c_13 : PySem.W.codeIn K cd_13 "deep_so" = true) (k_13 : PySem.W.keepIn K (.ref f_13) = true)
    {f_14 : Addr} {od_14 an_14 : Option Addr} {sl_14 : Array (Option Value)} {oc_14 kV_14 dc_14 pm_14 cd_14 ct_14 : Value} (a_14 : PySem.W.nsIn K mainGlobals "letters_so" = some (some (.ref f_14))) (l_14 : K.lookup f_14 = some ⟨oc_14, od_14, .func (PySem.W.fnOf "letters_so" "letters_so" (defArgs st_14) (defBody st_14) (defScope st_14) .none kV_14 dc_14 pm_14 an_14 cd_14 ct_14), sl_14⟩) (c_14 : PySem.W.codeIn K cd_14 "letters_so" = true) (k_14 : PySem.W.keepIn K (.ref f_14) = true)
    {f_15 : Addr} {od_15 an_15 : Option Addr} {sl_15 : Array (Option Value)} {oc_15 kV_15 dc_15 pm_15 cd_15 ct_15 : Value} (a_15 : PySem.W.nsIn K mainGlobals "marks_so" = some (some (.ref f_15))) (l_15 : K.lookup f_15 = some ⟨oc_15, od_15, .func (PySem.W.fnOf "marks_so" "marks_so" (defArgs st_15) (defBody st_15) (defScope st_15) .none kV_15 dc_15 pm_15 an_15 cd_15 ct_15), sl_15⟩) (c_15 : PySem.W.codeIn K cd_15 "marks_so" = true) (k_15 : PySem.W.keepIn K (.ref f_15) = true)
    {f_16 : Addr} {od_16 an_16 : Option Addr} {sl_16 : Array (Option Value)} {oc_16 kV_16 dc_16 pm_16 cd_16 ct_16 : Value} (a_16 : PySem.W.nsIn K mainGlobals "each_so" = some (some (.ref f_16))) (l_16 : K.lookup f_16 = some ⟨oc_16, od_16, .func (PySem.W.fnOf "each_so" "each_so" (defArgs st_16) (defBody st_16) (defScope st_16) .none kV_16 dc_16 pm_16 an_16 cd_16 ct_16), sl_16⟩) (c_16 : PySem.W.codeIn K cd_16 "each_so" = true) (k_16 : PySem.W.keepIn K (.ref f_16) = true)
    {f_17 : Addr} {od_17 an_17 : Option Addr} {sl_17 : Array (Option Value)} {oc_17 kV_17 dc_17 pm_17 cd_17 ct_17 : Value} (a_17 : PySem.W.nsIn K mainGlobals "some_so" = some (some (.ref f_17))) (l_17 : K.lookup f_17 = some ⟨oc_17, od_17, .func (PySem.W.fnOf "some_so" "some_so" (defArgs st_17) (defBody st_17) (defScope st_17) .none kV_17 dc_17 pm_17 an_17 cd_17 ct_17), sl_17⟩) (c_17 : PySem.W.codeIn K cd_17 "some_so" = true) (k_17 : PySem.W.keepIn K (.ref f_17) = true)
    {f_18 : Addr} {od_18 an_18 : Option Addr} {sl_18 : Array (Option Value)} {oc_18 kV_18 dc_18 pm_18 cd_18 ct_18 : Value} (a_18 : PySem.W.nsIn K mainGlobals "holds_so" = some (some (.ref f_18))) (l_18 : K.lookup f_18 = some ⟨oc_18, od_18, .func (PySem.W.fnOf "holds_so" "holds_so" (defArgs st_18) (defBody st_18) (defScope st_18) .none kV_18 dc_18 pm_18 an_18 cd_18 ct_18), sl_18⟩) (c_18 : PySem.W.codeIn K cd_18 "holds_so" = true) (k_18 : PySem.W.keepIn K (.ref f_18) = true)
    {f_19 : Addr} {od_19 an_19 : Option Addr} {sl_19 : Array (Option Value)} {oc_19 kV_19 dc_19 pm_19 cd_19 ct_19 : Value} (a_19 : PySem.W.nsIn K mainGlobals "need_saying" = some (some (.ref f_19))) (l_19 : K.lookup f_19 = some ⟨oc_19, od_19, .func (PySem.W.fnOf "need_saying" "need_saying" (defArgs st_19) (defBody st_19) (defScope st_19) .none kV_19 dc_19 pm_19 an_19 cd_19 ct_19), sl_19⟩) (c_19 : PySem.W.codeIn K cd_19 "need_saying" = true) (k_19 : PySem.W.keepIn K (.ref f_19) = true)
    {f_20 : Addr} {od_20 an_20 : Option Addr} {sl_20 : Array (Option Value)} {oc_20 kV_20 dc_20 pm_20 cd_20 ct_20 : Value} (a_20 : PySem.W.nsIn K mainGlobals "words_in" = some (some (.ref f_20))) (l_20 : K.lookup f_20 = some ⟨oc_20, od_20, .func (PySem.W.fnOf "words_in" "words_in" (defArgs st_20) (defBody st_20) (defScope st_20) .none kV_20 dc_20 pm_20 an_20 cd_20 ct_20), sl_20⟩) (c_20 : PySem.W.codeIn K cd_20 "words_in" = true) (k_20 : PySem.W.keepIn K (.ref f_20) = true)
    {f_21 : Addr} {od_21 an_21 : Option Addr} {sl_21 : Array (Option Value)} {oc_21 kV_21 dc_21 pm_21 cd_21 ct_21 : Value} (a_21 : PySem.W.nsIn K mainGlobals "deep_in" = some (some (.ref f_21))) (l_21 : K.lookup f_21 = some ⟨oc_21, od_21, .func (PySem.W.fnOf "deep_in" "deep_in" (defArgs st_21) (defBody st_21) (defScope st_21) .none kV_21 dc_21 pm_21 an_21 cd_21 ct_21), sl_21⟩) (c_21 : PySem.W.codeIn K cd_21 "deep_in" = true) (k_21 : PySem.W.keepIn K (.ref f_21) = true)
    {f_22 : Addr} {od_22 an_22 : Option Addr} {sl_22 : Array (Option Value)} {oc_22 kV_22 dc_22 pm_22 cd_22 ct_22 : Value} (a_22 : PySem.W.nsIn K mainGlobals "letters_in" = some (some (.ref f_22))) (l_22 : K.lookup f_22 = some ⟨oc_22, od_22, .func (PySem.W.fnOf "letters_in" "letters_in" (defArgs st_22) (defBody st_22) (defScope st_22) .none kV_22 dc_22 pm_22 an_22 cd_22 ct_22), sl_22⟩) (c_22 : PySem.W.codeIn K cd_22 "letters_in" = true) (k_22 : PySem.W.keepIn K (.ref f_22) = true)
    {f_23 : Addr} {od_23 an_23 : Option Addr} {sl_23 : Array (Option Value)} {oc_23 kV_23 dc_23 pm_23 cd_23 ct_23 : Value} (a_23 : PySem.W.nsIn K mainGlobals "need_marking" = some (some (.ref f_23))) (l_23 : K.lookup f_23 = some ⟨oc_23, od_23, .func (PySem.W.fnOf "need_marking" "need_marking" (defArgs st_23) (defBody st_23) (defScope st_23) .none kV_23 dc_23 pm_23 an_23 cd_23 ct_23), sl_23⟩) (c_23 : PySem.W.codeIn K cd_23 "need_marking" = true) (k_23 : PySem.W.keepIn K (.ref f_23) = true)
    {f_24 : Addr} {od_24 an_24 : Option Addr} {sl_24 : Array (Option Value)} {oc_24 kV_24 dc_24 pm_24 cd_24 ct_24 : Value} (a_24 : PySem.W.nsIn K mainGlobals "holding" = some (some (.ref f_24))) (l_24 : K.lookup f_24 = some ⟨oc_24, od_24, .func (PySem.W.fnOf "holding" "holding" (defArgs st_24) (defBody st_24) (defScope st_24) .none kV_24 dc_24 pm_24 an_24 cd_24 ct_24), sl_24⟩) (c_24 : PySem.W.codeIn K cd_24 "holding" = true) (k_24 : PySem.W.keepIn K (.ref f_24) = true)
    {f_25 : Addr} {od_25 an_25 : Option Addr} {sl_25 : Array (Option Value)} {oc_25 kV_25 dc_25 pm_25 cd_25 ct_25 : Value} (a_25 : PySem.W.nsIn K mainGlobals "holds" = some (some (.ref f_25))) (l_25 : K.lookup f_25 = some ⟨oc_25, od_25, .func (PySem.W.fnOf "holds" "holds" (defArgs st_25) (defBody st_25) (defScope st_25) .none kV_25 dc_25 pm_25 an_25 cd_25 ct_25), sl_25⟩) (c_25 : PySem.W.codeIn K cd_25 "holds" = true) (k_25 : PySem.W.keepIn K (.ref f_25) = true)
    {f_26 : Addr} {od_26 an_26 : Option Addr} {sl_26 : Array (Option Value)} {oc_26 kV_26 dc_26 pm_26 cd_26 ct_26 : Value} (a_26 : PySem.W.nsIn K mainGlobals "_law_mixed" = some (some (.ref f_26))) (l_26 : K.lookup f_26 = some ⟨oc_26, od_26, .func (PySem.W.fnOf "_law_mixed" "_law_mixed" (defArgs st_26) (defBody st_26) (defScope st_26) .none kV_26 dc_26 pm_26 an_26 cd_26 ct_26), sl_26⟩) (c_26 : PySem.W.codeIn K cd_26 "_law_mixed" = true) (k_26 : PySem.W.keepIn K (.ref f_26) = true)
    {f_27 : Addr} {od_27 an_27 : Option Addr} {sl_27 : Array (Option Value)} {oc_27 kV_27 dc_27 pm_27 cd_27 ct_27 : Value} (a_27 : PySem.W.nsIn K mainGlobals "_law_begin" = some (some (.ref f_27))) (l_27 : K.lookup f_27 = some ⟨oc_27, od_27, .func (PySem.W.fnOf "_law_begin" "_law_begin" (defArgs st_27) (defBody st_27) (defScope st_27) .none kV_27 dc_27 pm_27 an_27 cd_27 ct_27), sl_27⟩) (c_27 : PySem.W.codeIn K cd_27 "_law_begin" = true) (k_27 : PySem.W.keepIn K (.ref f_27) = true)
    {f_28 : Addr} {od_28 an_28 : Option Addr} {sl_28 : Array (Option Value)} {oc_28 kV_28 dc_28 pm_28 cd_28 ct_28 : Value} (a_28 : PySem.W.nsIn K mainGlobals "_law_draw" = some (some (.ref f_28))) (l_28 : K.lookup f_28 = some ⟨oc_28, od_28, .func (PySem.W.fnOf "_law_draw" "_law_draw" (defArgs st_28) (defBody st_28) (defScope st_28) .none kV_28 dc_28 pm_28 an_28 cd_28 ct_28), sl_28⟩) (c_28 : PySem.W.codeIn K cd_28 "_law_draw" = true) (k_28 : PySem.W.keepIn K (.ref f_28) = true)
    {f_29 : Addr} {od_29 an_29 : Option Addr} {sl_29 : Array (Option Value)} {oc_29 kV_29 dc_29 pm_29 cd_29 ct_29 : Value} (a_29 : PySem.W.nsIn K mainGlobals "_law_web" = some (some (.ref f_29))) (l_29 : K.lookup f_29 = some ⟨oc_29, od_29, .func (PySem.W.fnOf "_law_web" "_law_web" (defArgs st_29) (defBody st_29) (defScope st_29) .none kV_29 dc_29 pm_29 an_29 cd_29 ct_29), sl_29⟩) (c_29 : PySem.W.codeIn K cd_29 "_law_web" = true) (k_29 : PySem.W.keepIn K (.ref f_29) = true)
    {f_30 : Addr} {od_30 an_30 : Option Addr} {sl_30 : Array (Option Value)} {oc_30 kV_30 dc_30 pm_30 cd_30 ct_30 : Value} (a_30 : PySem.W.nsIn K mainGlobals "_law_saying" = some (some (.ref f_30))) (l_30 : K.lookup f_30 = some ⟨oc_30, od_30, .func (PySem.W.fnOf "_law_saying" "_law_saying" (defArgs st_30) (defBody st_30) (defScope st_30) .none kV_30 dc_30 pm_30 an_30 cd_30 ct_30), sl_30⟩) (c_30 : PySem.W.codeIn K cd_30 "_law_saying" = true) (k_30 : PySem.W.keepIn K (.ref f_30) = true)
    {f_31 : Addr} {od_31 an_31 : Option Addr} {sl_31 : Array (Option Value)} {oc_31 kV_31 dc_31 pm_31 cd_31 ct_31 : Value} (a_31 : PySem.W.nsIn K mainGlobals "_law_led" = some (some (.ref f_31))) (l_31 : K.lookup f_31 = some ⟨oc_31, od_31, .func (PySem.W.fnOf "_law_led" "_law_led" (defArgs st_31) (defBody st_31) (defScope st_31) .none kV_31 dc_31 pm_31 an_31 cd_31 ct_31), sl_31⟩) (c_31 : PySem.W.codeIn K cd_31 "_law_led" = true) (k_31 : PySem.W.keepIn K (.ref f_31) = true)
    {f_32 : Addr} {od_32 an_32 : Option Addr} {sl_32 : Array (Option Value)} {oc_32 kV_32 dc_32 pm_32 cd_32 ct_32 : Value} (a_32 : PySem.W.nsIn K mainGlobals "_law_at" = some (some (.ref f_32))) (l_32 : K.lookup f_32 = some ⟨oc_32, od_32, .func (PySem.W.fnOf "_law_at" "_law_at" (defArgs st_32) (defBody st_32) (defScope st_32) .none kV_32 dc_32 pm_32 an_32 cd_32 ct_32), sl_32⟩) (c_32 : PySem.W.codeIn K cd_32 "_law_at" = true) (k_32 : PySem.W.keepIn K (.ref f_32) = true)
    {f_33 : Addr} {od_33 an_33 : Option Addr} {sl_33 : Array (Option Value)} {oc_33 kV_33 dc_33 pm_33 cd_33 ct_33 : Value} (a_33 : PySem.W.nsIn K mainGlobals "_law_inner" = some (some (.ref f_33))) (l_33 : K.lookup f_33 = some ⟨oc_33, od_33, .func (PySem.W.fnOf "_law_inner" "_law_inner" (defArgs st_33) (defBody st_33) (defScope st_33) .none kV_33 dc_33 pm_33 an_33 cd_33 ct_33), sl_33⟩) (c_33 : PySem.W.codeIn K cd_33 "_law_inner" = true) (k_33 : PySem.W.keepIn K (.ref f_33) = true)
    {f_34 : Addr} {od_34 an_34 : Option Addr} {sl_34 : Array (Option Value)} {oc_34 kV_34 dc_34 pm_34 cd_34 ct_34 : Value} (a_34 : PySem.W.nsIn K mainGlobals "_law_sizes" = some (some (.ref f_34))) (l_34 : K.lookup f_34 = some ⟨oc_34, od_34, .func (PySem.W.fnOf "_law_sizes" "_law_sizes" (defArgs st_34) (defBody st_34) (defScope st_34) .none kV_34 dc_34 pm_34 an_34 cd_34 ct_34), sl_34⟩) (c_34 : PySem.W.codeIn K cd_34 "_law_sizes" = true) (k_34 : PySem.W.keepIn K (.ref f_34) = true)
    {f_35 : Addr} {od_35 an_35 : Option Addr} {sl_35 : Array (Option Value)} {oc_35 kV_35 dc_35 pm_35 cd_35 ct_35 : Value} (a_35 : PySem.W.nsIn K mainGlobals "_law_like" = some (some (.ref f_35))) (l_35 : K.lookup f_35 = some ⟨oc_35, od_35, .func (PySem.W.fnOf "_law_like" "_law_like" (defArgs st_35) (defBody st_35) (defScope st_35) .none kV_35 dc_35 pm_35 an_35 cd_35 ct_35), sl_35⟩) (c_35 : PySem.W.codeIn K cd_35 "_law_like" = true) (k_35 : PySem.W.keepIn K (.ref f_35) = true)
    {f_36 : Addr} {od_36 an_36 : Option Addr} {sl_36 : Array (Option Value)} {oc_36 kV_36 dc_36 pm_36 cd_36 ct_36 : Value} (a_36 : PySem.W.nsIn K mainGlobals "_law_marked" = some (some (.ref f_36))) (l_36 : K.lookup f_36 = some ⟨oc_36, od_36, .func (PySem.W.fnOf "_law_marked" "_law_marked" (defArgs st_36) (defBody st_36) (defScope st_36) .none kV_36 dc_36 pm_36 an_36 cd_36 ct_36), sl_36⟩) (c_36 : PySem.W.codeIn K cd_36 "_law_marked" = true) (k_36 : PySem.W.keepIn K (.ref f_36) = true)
    {f_37 : Addr} {od_37 an_37 : Option Addr} {sl_37 : Array (Option Value)} {oc_37 kV_37 dc_37 pm_37 cd_37 ct_37 : Value} (a_37 : PySem.W.nsIn K mainGlobals "_law_right" = some (some (.ref f_37))) (l_37 : K.lookup f_37 = some ⟨oc_37, od_37, .func (PySem.W.fnOf "_law_right" "_law_right" (defArgs st_37) (defBody st_37) (defScope st_37) .none kV_37 dc_37 pm_37 an_37 cd_37 ct_37), sl_37⟩) (c_37 : PySem.W.codeIn K cd_37 "_law_right" = true) (k_37 : PySem.W.keepIn K (.ref f_37) = true)
    {f_38 : Addr} {od_38 an_38 : Option Addr} {sl_38 : Array (Option Value)} {oc_38 kV_38 dc_38 pm_38 cd_38 ct_38 : Value} (a_38 : PySem.W.nsIn K mainGlobals "_law_line" = some (some (.ref f_38))) (l_38 : K.lookup f_38 = some ⟨oc_38, od_38, .func (PySem.W.fnOf "_law_line" "_law_line" (defArgs st_38) (defBody st_38) (defScope st_38) .none kV_38 dc_38 pm_38 an_38 cd_38 ct_38), sl_38⟩) (c_38 : PySem.W.codeIn K cd_38 "_law_line" = true) (k_38 : PySem.W.keepIn K (.ref f_38) = true)
    {f_39 : Addr} {od_39 an_39 : Option Addr} {sl_39 : Array (Option Value)} {oc_39 kV_39 dc_39 pm_39 cd_39 ct_39 : Value} (a_39 : PySem.W.nsIn K mainGlobals "law" = some (some (.ref f_39))) (l_39 : K.lookup f_39 = some ⟨oc_39, od_39, .func (PySem.W.fnOf "law" "law" (defArgs st_39) (defBody st_39) (defScope st_39) .none kV_39 dc_39 pm_39 an_39 cd_39 ct_39), sl_39⟩) (c_39 : PySem.W.codeIn K cd_39 "law" = true) (k_39 : PySem.W.keepIn K (.ref f_39) = true)
    (z_0 : PySem.W.nsIn K mainGlobals "bool" = some none)
    (z_1 : PySem.W.nsIn K mainGlobals "enumerate" = some none)
    (z_2 : PySem.W.nsIn K mainGlobals "int" = some none)
    (z_3 : PySem.W.nsIn K mainGlobals "isinstance" = some none)
    (z_4 : PySem.W.nsIn K mainGlobals "len" = some none)
    (z_5 : PySem.W.nsIn K mainGlobals "list" = some none)
    (z_6 : PySem.W.nsIn K mainGlobals "max" = some none)
    (z_7 : PySem.W.nsIn K mainGlobals "range" = some none)
    (z_8 : PySem.W.nsIn K mainGlobals "repr" = some none)
    (z_9 : PySem.W.nsIn K mainGlobals "reversed" = some none)
    (z_10 : PySem.W.nsIn K mainGlobals "set" = some none)
    (z_11 : PySem.W.nsIn K mainGlobals "sorted" = some none)
    (z_12 : PySem.W.nsIn K mainGlobals "str" = some none)
    (z_13 : PySem.W.nsIn K mainGlobals "sum" = some none)
    (z_14 : PySem.W.nsIn K mainGlobals "tuple" = some none)
    (z_15 : PySem.W.nsIn K mainGlobals "zip" = some none)
    {td_0 : Addr} {te_0 : Array DictEntry} {tm_0 : Nat} {ta_1 : Addr} {to_1 : Option Addr} {tn_1 : Nat} {ts_1 : Array (Option Value)} {ta_2 : Addr} {to_2 : Option Addr} {tn_2 : Nat} {ts_2 : Array (Option Value)} {ta_3 : Addr} {to_3 : Option Addr} {tn_3 : Nat} {ts_3 : Array (Option Value)} {tt_5 : Tok} {ta_4 : Addr} {to_4 : Option Addr} {tn_4 : Nat} {ts_4 : Array (Option Value)} {tt_7 : Tok} {tt_8 : Tok} {ta_6 : Addr} {to_6 : Option Addr} {tn_6 : Nat} {ts_6 : Array (Option Value)} {tt_10 : Tok} {tt_11 : Tok} {ta_9 : Addr} {to_9 : Option Addr} {tn_9 : Nat} {ts_9 : Array (Option Value)} {tt_13 : Tok} {tt_14 : Tok} {ta_12 : Addr} {to_12 : Option Addr} {tn_12 : Nat} {ts_12 : Array (Option Value)} {tt_16 : Tok} {ta_15 : Addr} {to_15 : Option Addr} {tn_15 : Nat} {ts_15 : Array (Option Value)} {tt_18 : Tok} {ta_17 : Addr} {to_17 : Option Addr} {tn_17 : Nat} {ts_17 : Array (Option Value)} {ta_19 : Addr} {to_19 : Option Addr} {tn_19 : Nat} {ts_19 : Array (Option Value)} (tg_0 : PySem.W.nsIn K mainGlobals "PARTS" = some (some (.ref td_0))) (tq_0 : K.lookup td_0 = some ⟨.type "dict", none, .dict te_0 tm_0, #[]⟩) (tk_0 : PySem.W.KeysLit w.params te_0.toList) (tz_0 : (td_0 == sysModules) = false)
    (tv_0_0 : PySem.W.nsIn K td_0 "letter" = some (some (.ref ta_1)))
    (tv_0_1 : PySem.W.nsIn K td_0 "yes" = some (some (.ref ta_2)))
    (tv_0_2 : PySem.W.nsIn K td_0 "no" = some (some (.ref ta_3)))
    (tv_0_3 : PySem.W.nsIn K td_0 "not" = some (some (.ref ta_4)))
    (tv_0_4 : PySem.W.nsIn K td_0 "and" = some (some (.ref ta_6)))
    (tv_0_5 : PySem.W.nsIn K td_0 "or" = some (some (.ref ta_9)))
    (tv_0_6 : PySem.W.nsIn K td_0 "gives" = some (some (.ref ta_12)))
    (tv_0_7 : PySem.W.nsIn K td_0 "each" = some (some (.ref ta_15)))
    (tv_0_8 : PySem.W.nsIn K td_0 "some" = some (some (.ref ta_17)))
    (tv_0_9 : PySem.W.nsIn K td_0 "here" = some (some (.ref ta_19)))
    (tl_1 : K.lookup ta_1 = some ⟨.type "tuple", to_1, .seq #[] tn_1, ts_1⟩) (tl_2 : K.lookup ta_2 = some ⟨.type "tuple", to_2, .seq #[] tn_2, ts_2⟩) (tl_3 : K.lookup ta_3 = some ⟨.type "tuple", to_3, .seq #[] tn_3, ts_3⟩) (tl_4 : K.lookup ta_4 = some ⟨.type "tuple", to_4, .seq #[.int 1 tt_5] tn_4, ts_4⟩) (tl_6 : K.lookup ta_6 = some ⟨.type "tuple", to_6, .seq #[.int 1 tt_7, .int 2 tt_8] tn_6, ts_6⟩) (tl_9 : K.lookup ta_9 = some ⟨.type "tuple", to_9, .seq #[.int 1 tt_10, .int 2 tt_11] tn_9, ts_9⟩) (tl_12 : K.lookup ta_12 = some ⟨.type "tuple", to_12, .seq #[.int 1 tt_13, .int 2 tt_14] tn_12, ts_12⟩) (tl_15 : K.lookup ta_15 = some ⟨.type "tuple", to_15, .seq #[.int 2 tt_16] tn_15, ts_15⟩) (tl_17 : K.lookup ta_17 = some ⟨.type "tuple", to_17, .seq #[.int 2 tt_18] tn_17, ts_17⟩) (tl_19 : K.lookup ta_19 = some ⟨.type "tuple", to_19, .seq #[] tn_19, ts_19⟩)
    {td_1 : Addr} {te_1 : Array DictEntry} {tm_1 : Nat} {tt_20 : Tok} {tt_21 : Tok} {tt_22 : Tok} {tt_23 : Tok} {tt_24 : Tok} {tt_25 : Tok} {tt_26 : Tok} {tt_27 : Tok} {tt_28 : Tok} (tg_1 : PySem.W.nsIn K mainGlobals "SIZES" = some (some (.ref td_1))) (tq_1 : K.lookup td_1 = some ⟨.type "dict", none, .dict te_1 tm_1, #[]⟩) (tk_1 : PySem.W.KeysLit w.params te_1.toList) (tz_1 : (td_1 == sysModules) = false)
    (tv_1_0 : PySem.W.nsIn K td_1 "letter" = some (some (.int 2 tt_20)))
    (tv_1_1 : PySem.W.nsIn K td_1 "yes" = some (some (.int 1 tt_21)))
    (tv_1_2 : PySem.W.nsIn K td_1 "no" = some (some (.int 1 tt_22)))
    (tv_1_3 : PySem.W.nsIn K td_1 "not" = some (some (.int 2 tt_23)))
    (tv_1_4 : PySem.W.nsIn K td_1 "and" = some (some (.int 3 tt_24)))
    (tv_1_5 : PySem.W.nsIn K td_1 "or" = some (some (.int 3 tt_25)))
    (tv_1_6 : PySem.W.nsIn K td_1 "gives" = some (some (.int 3 tt_26)))
    (tv_1_7 : PySem.W.nsIn K td_1 "each" = some (some (.int 3 tt_27)))
    (tv_1_8 : PySem.W.nsIn K td_1 "some" = some (some (.int 3 tt_28))) : (∀ p ∈ fsL, DefOk K mg tbl L fsL frL p) ∧ FrOk K w mg frL := by
  refine ⟨fun p hp => ?_, fun y hy => ?_, fun p hp => ?_, fun p hp => ?_⟩
  · simp only [fsL, List.mem_cons, List.not_mem_nil, or_false] at hp
    rcases hp with rfl | rfl | rfl | rfl | rfl | rfl | rfl | rfl | rfl | rfl | rfl | rfl | rfl | rfl | rfl | rfl | rfl | rfl | rfl | rfl | rfl | rfl | rfl | rfl | rfl | rfl | rfl | rfl | rfl | rfl | rfl | rfl | rfl | rfl | rfl | rfl | rfl | rfl | rfl | rfl
    · exact dk_0 X G a_0 l_0 c_0 k_0
    · exact dk_1 X G a_1 l_1 c_1 k_1
    · exact dk_2 X G a_2 l_2 c_2 k_2
    · exact dk_3 X G a_3 l_3 c_3 k_3
    · exact dk_4 X G a_4 l_4 c_4 k_4
    · exact dk_5 X G a_5 l_5 c_5 k_5
    · exact dk_6 X G a_6 l_6 c_6 k_6
    · exact dk_7 X G a_7 l_7 c_7 k_7
    · exact dk_8 X G a_8 l_8 c_8 k_8
    · exact dk_9 X G a_9 l_9 c_9 k_9
    · exact dk_10 X G a_10 l_10 c_10 k_10
    · exact dk_11 X G a_11 l_11 c_11 k_11
    · exact dk_12 X G a_12 l_12 c_12 k_12
    · exact dk_13 X G a_13 l_13 c_13 k_13
    · exact dk_14 X G a_14 l_14 c_14 k_14
    · exact dk_15 X G a_15 l_15 c_15 k_15
    · exact dk_16 X G a_16 l_16 c_16 k_16
    · exact dk_17 X G a_17 l_17 c_17 k_17
    · exact dk_18 X G a_18 l_18 c_18 k_18
    · exact dk_19 X G a_19 l_19 c_19 k_19
    · exact dk_20 X G a_20 l_20 c_20 k_20
    · exact dk_21 X G a_21 l_21 c_21 k_21
    · exact dk_22 X G a_22 l_22 c_22 k_22
    · exact dk_23 X G a_23 l_23 c_23 k_23
    · exact dk_24 X G a_24 l_24 c_24 k_24
    · exact dk_25 X G a_25 l_25 c_25 k_25
    · exact dk_26 X G a_26 l_26 c_26 k_26
    · exact dk_27 X G a_27 l_27 c_27 k_27
    · exact dk_28 X G a_28 l_28 c_28 k_28
    · exact dk_29 X G a_29 l_29 c_29 k_29
    · exact dk_30 X G a_30 l_30 c_30 k_30
    · exact dk_31 X G a_31 l_31 c_31 k_31
    · exact dk_32 X G a_32 l_32 c_32 k_32
    · exact dk_33 X G a_33 l_33 c_33 k_33
    · exact dk_34 X G a_34 l_34 c_34 k_34
    · exact dk_35 X G a_35 l_35 c_35 k_35
    · exact dk_36 X G a_36 l_36 c_36 k_36
    · exact dk_37 X G a_37 l_37 c_37 k_37
    · exact dk_38 X G a_38 l_38 c_38 k_38
    · exact dk_39 X G a_39 l_39 c_39 k_39
  · have hy : y ∈ frL.ns := hy
    simp only [frL, List.mem_cons, List.not_mem_nil, or_false] at hy
    rcases hy with rfl | rfl | rfl | rfl | rfl | rfl | rfl | rfl | rfl | rfl | rfl | rfl | rfl | rfl | rfl | rfl
    · exact PySem.W.mg_none_of X G z_0
    · exact PySem.W.mg_none_of X G z_1
    · exact PySem.W.mg_none_of X G z_2
    · exact PySem.W.mg_none_of X G z_3
    · exact PySem.W.mg_none_of X G z_4
    · exact PySem.W.mg_none_of X G z_5
    · exact PySem.W.mg_none_of X G z_6
    · exact PySem.W.mg_none_of X G z_7
    · exact PySem.W.mg_none_of X G z_8
    · exact PySem.W.mg_none_of X G z_9
    · exact PySem.W.mg_none_of X G z_10
    · exact PySem.W.mg_none_of X G z_11
    · exact PySem.W.mg_none_of X G z_12
    · exact PySem.W.mg_none_of X G z_13
    · exact PySem.W.mg_none_of X G z_14
    · exact PySem.W.mg_none_of X G z_15
  · cases hp
  · simp only [frL, List.mem_cons, List.not_mem_nil, or_false] at hp
    rcases hp with rfl | rfl
    · refine ⟨td_0, te_0, tm_0, PySem.W.mg_of X G tg_0, ⟨tq_0, tk_0, tz_0⟩, fun q hq => ?_⟩
      simp only [tb_PARTS, List.mem_cons, List.not_mem_nil, or_false] at hq
      rcases hq with rfl | rfl | rfl | rfl | rfl | rfl | rfl | rfl | rfl | rfl
      · exact ⟨_, tv_0_0, tops_tup (us := []) tl_1 (by simp) (topsL_nil)⟩
      · exact ⟨_, tv_0_1, tops_tup (us := []) tl_2 (by simp) (topsL_nil)⟩
      · exact ⟨_, tv_0_2, tops_tup (us := []) tl_3 (by simp) (topsL_nil)⟩
      · exact ⟨_, tv_0_3, tops_tup (us := [.int 1 tt_5]) tl_4 (by simp) (topsL_cons (tops_int) (topsL_nil))⟩
      · exact ⟨_, tv_0_4, tops_tup (us := [.int 1 tt_7, .int 2 tt_8]) tl_6 (by simp) (topsL_cons (tops_int) (topsL_cons (tops_int) (topsL_nil)))⟩
      · exact ⟨_, tv_0_5, tops_tup (us := [.int 1 tt_10, .int 2 tt_11]) tl_9 (by simp) (topsL_cons (tops_int) (topsL_cons (tops_int) (topsL_nil)))⟩
      · exact ⟨_, tv_0_6, tops_tup (us := [.int 1 tt_13, .int 2 tt_14]) tl_12 (by simp) (topsL_cons (tops_int) (topsL_cons (tops_int) (topsL_nil)))⟩
      · exact ⟨_, tv_0_7, tops_tup (us := [.int 2 tt_16]) tl_15 (by simp) (topsL_cons (tops_int) (topsL_nil))⟩
      · exact ⟨_, tv_0_8, tops_tup (us := [.int 2 tt_18]) tl_17 (by simp) (topsL_cons (tops_int) (topsL_nil))⟩
      · exact ⟨_, tv_0_9, tops_tup (us := []) tl_19 (by simp) (topsL_nil)⟩
    · refine ⟨td_1, te_1, tm_1, PySem.W.mg_of X G tg_1, ⟨tq_1, tk_1, tz_1⟩, fun q hq => ?_⟩
      simp only [tb_SIZES, List.mem_cons, List.not_mem_nil, or_false] at hq
      rcases hq with rfl | rfl | rfl | rfl | rfl | rfl | rfl | rfl | rfl
      · exact ⟨_, tv_1_0, tops_int⟩
      · exact ⟨_, tv_1_1, tops_int⟩
      · exact ⟨_, tv_1_2, tops_int⟩
      · exact ⟨_, tv_1_3, tops_int⟩
      · exact ⟨_, tv_1_4, tops_int⟩
      · exact ⟨_, tv_1_5, tops_int⟩
      · exact ⟨_, tv_1_6, tops_int⟩
      · exact ⟨_, tv_1_7, tops_int⟩
      · exact ⟨_, tv_1_8, tops_int⟩
end AM
namespace AM
open PySem PySem.Spec PyProof.Rows L2
def fuel : Nat := 100000
def sayT : SayT tbl where
  f := 0
  a := 1
  w := 2
  cw := 3
  c1 := 1
  xw := 4
  c4 := 4
  ar := 5
  sp := 6
  bt := 7
  wd := 8
  cs := 9
  c5 := 5
  c2 := 2
  rw_ := 10
  cm := 11
  c3 := 3
  wo := 12
  dp := 13
  lt := 14
  mks := 15
  ea := 16
  so := 17
  ho := 18
  nd := 19
  wi := 20
  di := 21
  li := 22
  nm := 23
  hg := 24
  hw := 25
  hf := rfl
  ha := rfl
  hw_ := rfl
  hcw := rfl
  hxw := rfl
  har := rfl
  hsp := rfl
  hbt := rfl
  hwd := rfl
  hcs := rfl
  hrw := rfl
  hcm := rfl
  hwo := rfl
  hdp := rfl
  hlt := rfl
  hmk := rfl
  hea := rfl
  hso := rfl
  hho := rfl
  hnd := rfl
  hwi := rfl
  hdi := rfl
  hli := rfl
  hnm := rfl
  hhg := rfl
  hhw := rfl
theorem law_true (ns : List Int) (h : ns.length ≤ 63) : ∃ r, (run tbl fuel 61).run 39 [.d (scr ns)] = .ok (.d (.bool true), r) :=
  ⟨[], run_law1 (N := 60) sayT (bg := 27) (rt := 37) (ln := 38) (lk := 35) rfl rfl rfl (by decide) (by decide)
    (fun ok hk => run_right (n := 59) sayT (we := 29) (md := 36) (sy := 30) (at_ := 32) (ll := 31) (inn := 33) (sz := 34) (m := 26) (d := 28) rfl rfl rfl rfl rfl rfl rfl rfl rfl rfl rfl (by decide) ok hk (by decide))
    (fun ok hk => run_line (n := 59) sayT (m := 26) (d := 28) rfl rfl rfl rfl (by decide) ok hk (by decide)) h⟩
end AM
open PySem PySem.W PyProof.Rows
set_option maxHeartbeats 0 in
theorem PySem.Challenge.cw_anymarks_k01_where_sayings_hold_holds : PySem.Challenge.rw_anymarks_k01_where_sayings_hold.Holds := by
  w_on; o_law; k_head; (case hw => w_witness2)
  k_fill
  refine AM.walk_G (l := PySem.Challenge.rw_anymarks_k01_where_sayings_hold) (n := 63) (L := AM.fuel) (lev := 60) AM.tbl AM.fsL AM.frL 39 rfl (by decide) rfl ⟨rfl, by decide, by decide⟩ (by decide) (fun w h Y => PySem.W.kIn_of Y) ?F (fun ns hl => AM.law_true ns hl)
  case F =>
    intro w mg fa h KX G hmg
    refine' AM.all_defs KX G ?a_0 ?l_0 ?c_0 ?k_0 ?a_1 ?l_1 ?c_1 ?k_1 ?a_2 ?l_2 ?c_2 ?k_2 ?a_3 ?l_3 ?c_3 ?k_3 ?a_4 ?l_4 ?c_4 ?k_4 ?a_5 ?l_5 ?c_5 ?k_5 ?a_6 ?l_6 ?c_6 ?k_6 ?a_7 ?l_7 ?c_7 ?k_7 ?a_8 ?l_8 ?c_8 ?k_8 ?a_9 ?l_9 ?c_9 ?k_9 ?a_10 ?l_10 ?c_10 ?k_10 ?a_11 ?l_11 ?c_11 ?k_11 ?a_12 ?l_12 ?c_12 ?k_12 ?a_13 ?l_13 ?c_13 ?k_13 ?a_14 ?l_14 ?c_14 ?k_14 ?a_15 ?l_15 ?c_15 ?k_15 ?a_16 ?l_16 ?c_16 ?k_16 ?a_17 ?l_17 ?c_17 ?k_17 ?a_18 ?l_18 ?c_18 ?k_18 ?a_19 ?l_19 ?c_19 ?k_19 ?a_20 ?l_20 ?c_20 ?k_20 ?a_21 ?l_21 ?c_21 ?k_21 ?a_22 ?l_22 ?c_22 ?k_22 ?a_23 ?l_23 ?c_23 ?k_23 ?a_24 ?l_24 ?c_24 ?k_24 ?a_25 ?l_25 ?c_25 ?k_25 ?a_26 ?l_26 ?c_26 ?k_26 ?a_27 ?l_27 ?c_27 ?k_27 ?a_28 ?l_28 ?c_28 ?k_28 ?a_29 ?l_29 ?c_29 ?k_29 ?a_30 ?l_30 ?c_30 ?k_30 ?a_31 ?l_31 ?c_31 ?k_31 ?a_32 ?l_32 ?c_32 ?k_32 ?a_33 ?l_33 ?c_33 ?k_33 ?a_34 ?l_34 ?c_34 ?k_34 ?a_35 ?l_35 ?c_35 ?k_35 ?a_36 ?l_36 ?c_36 ?k_36 ?a_37 ?l_37 ?c_37 ?k_37 ?a_38 ?l_38 ?c_38 ?k_38 ?a_39 ?l_39 ?c_39 ?k_39 ?z_0 ?z_1 ?z_2 ?z_3 ?z_4 ?z_5 ?z_6 ?z_7 ?z_8 ?z_9 ?z_10 ?z_11 ?z_12 ?z_13 ?z_14 ?z_15 ?tg_0 ?tq_0 ?tk_0 ?tz_0 ?tv_0_0 ?tv_0_1 ?tv_0_2 ?tv_0_3 ?tv_0_4 ?tv_0_5 ?tv_0_6 ?tv_0_7 ?tv_0_8 ?tv_0_9 ?tl_1 ?tl_2 ?tl_3 ?tl_4 ?tl_6 ?tl_9 ?tl_12 ?tl_15 ?tl_17 ?tl_19 ?tg_1 ?tq_1 ?tk_1 ?tz_1 ?tv_1_0 ?tv_1_1 ?tv_1_2 ?tv_1_3 ?tv_1_4 ?tv_1_5 ?tv_1_6 ?tv_1_7 ?tv_1_8
    (case a_0 => k_is)
    (case l_0 => k_is)
    (case c_0 => k_is)
    (case k_0 => k_is)
    (case a_1 => k_is)
    (case l_1 => k_is)
    (case c_1 => k_is)
    (case k_1 => k_is)
    (case a_2 => k_is)
    (case l_2 => k_is)
    (case c_2 => k_is)
    (case k_2 => k_is)
    (case a_3 => k_is)
    (case l_3 => k_is)
    (case c_3 => k_is)
    (case k_3 => k_is)
    (case a_4 => k_is)
    (case l_4 => k_is)
    (case c_4 => k_is)
    (case k_4 => k_is)
    (case a_5 => k_is)
    (case l_5 => k_is)
    (case c_5 => k_is)
    (case k_5 => k_is)
    (case a_6 => k_is)
    (case l_6 => k_is)
    (case c_6 => k_is)
    (case k_6 => k_is)
    (case a_7 => k_is)
    (case l_7 => k_is)
    (case c_7 => k_is)
    (case k_7 => k_is)
    (case a_8 => k_is)
    (case l_8 => k_is)
    (case c_8 => k_is)
    (case k_8 => k_is)
    (case a_9 => k_is)
    (case l_9 => k_is)
    (case c_9 => k_is)
    (case k_9 => k_is)
    (case a_10 => k_is)
    (case l_10 => k_is)
    (case c_10 => k_is)
    (case k_10 => k_is)
    (case a_11 => k_is)
    (case l_11 => k_is)
    (case c_11 => k_is)
    (case k_11 => k_is)
    (case a_12 => k_is)
    (case l_12 => k_is)
    (case c_12 => k_is)
    (case k_12 => k_is)
    (case a_13 => k_is)
    (case l_13 => k_is)
    (case c_13 => k_is)
    (case k_13 => k_is)
    (case a_14 => k_is)
    (case l_14 => k_is)
    (case c_14 => k_is)
    (case k_14 => k_is)
    (case a_15 => k_is)
    (case l_15 => k_is)
    (case c_15 => k_is)
    (case k_15 => k_is)
    (case a_16 => k_is)
    (case l_16 => k_is)
    (case c_16 => k_is)
    (case k_16 => k_is)
    (case a_17 => k_is)
    (case l_17 => k_is)
    (case c_17 => k_is)
    (case k_17 => k_is)
    (case a_18 => k_is)
    (case l_18 => k_is)
    (case c_18 => k_is)
    (case k_18 => k_is)
    (case a_19 => k_is)
    (case l_19 => k_is)
    (case c_19 => k_is)
    (case k_19 => k_is)
    (case a_20 => k_is)
    (case l_20 => k_is)
    (case c_20 => k_is)
    (case k_20 => k_is)
    (case a_21 => k_is)
    (case l_21 => k_is)
    (case c_21 => k_is)
    (case k_21 => k_is)
    (case a_22 => k_is)
    (case l_22 => k_is)
    (case c_22 => k_is)
    (case k_22 => k_is)
    (case a_23 => k_is)
    (case l_23 => k_is)
    (case c_23 => k_is)
    (case k_23 => k_is)
    (case a_24 => k_is)
    (case l_24 => k_is)
    (case c_24 => k_is)
    (case k_24 => k_is)
    (case a_25 => k_is)
    (case l_25 => k_is)
    (case c_25 => k_is)
    (case k_25 => k_is)
    (case a_26 => k_is)
    (case l_26 => k_is)
    (case c_26 => k_is)
    (case k_26 => k_is)
    (case a_27 => k_is)
    (case l_27 => k_is)
    (case c_27 => k_is)
    (case k_27 => k_is)
    (case a_28 => k_is)
    (case l_28 => k_is)
    (case c_28 => k_is)
    (case k_28 => k_is)
    (case a_29 => k_is)
    (case l_29 => k_is)
    (case c_29 => k_is)
    (case k_29 => k_is)
    (case a_30 => k_is)
    (case l_30 => k_is)
    (case c_30 => k_is)
    (case k_30 => k_is)
    (case a_31 => k_is)
    (case l_31 => k_is)
    (case c_31 => k_is)
    (case k_31 => k_is)
    (case a_32 => k_is)
    (case l_32 => k_is)
    (case c_32 => k_is)
    (case k_32 => k_is)
    (case a_33 => k_is)
    (case l_33 => k_is)
    (case c_33 => k_is)
    (case k_33 => k_is)
    (case a_34 => k_is)
    (case l_34 => k_is)
    (case c_34 => k_is)
    (case k_34 => k_is)
    (case a_35 => k_is)
    (case l_35 => k_is)
    (case c_35 => k_is)
    (case k_35 => k_is)
    (case a_36 => k_is)
    (case l_36 => k_is)
    (case c_36 => k_is)
    (case k_36 => k_is)
    (case a_37 => k_is)
    (case l_37 => k_is)
    (case c_37 => k_is)
    (case k_37 => k_is)
    (case a_38 => k_is)
    (case l_38 => k_is)
    (case c_38 => k_is)
    (case k_38 => k_is)
    (case a_39 => k_is)
    (case l_39 => k_is)
    (case c_39 => k_is)
    (case k_39 => k_is)
    (case z_0 => k_is)
    (case z_1 => k_is)
    (case z_2 => k_is)
    (case z_3 => k_is)
    (case z_4 => k_is)
    (case z_5 => k_is)
    (case z_6 => k_is)
    (case z_7 => k_is)
    (case z_8 => k_is)
    (case z_9 => k_is)
    (case z_10 => k_is)
    (case z_11 => k_is)
    (case z_12 => k_is)
    (case z_13 => k_is)
    (case z_14 => k_is)
    (case z_15 => k_is)
    (case tg_0 => k_is)
    (case tq_0 => k_is)
    (case tk_0 => k_keys)
    (case tz_0 => decide)
    (case tv_0_0 => k_is)
    (case tv_0_1 => k_is)
    (case tv_0_2 => k_is)
    (case tv_0_3 => k_is)
    (case tv_0_4 => k_is)
    (case tv_0_5 => k_is)
    (case tv_0_6 => k_is)
    (case tv_0_7 => k_is)
    (case tv_0_8 => k_is)
    (case tv_0_9 => k_is)
    (case tl_1 => k_is)
    (case tl_2 => k_is)
    (case tl_3 => k_is)
    (case tl_4 => k_is)
    (case tl_6 => k_is)
    (case tl_9 => k_is)
    (case tl_12 => k_is)
    (case tl_15 => k_is)
    (case tl_17 => k_is)
    (case tl_19 => k_is)
    (case tg_1 => k_is)
    (case tq_1 => k_is)
    (case tk_1 => k_keys)
    (case tz_1 => decide)
    (case tv_1_0 => k_is)
    (case tv_1_1 => k_is)
    (case tv_1_2 => k_is)
    (case tv_1_3 => k_is)
    (case tv_1_4 => k_is)
    (case tv_1_5 => k_is)
    (case tv_1_6 => k_is)
    (case tv_1_7 => k_is)
    (case tv_1_8 => k_is)
