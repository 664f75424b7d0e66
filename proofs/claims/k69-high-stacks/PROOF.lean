import PyProof.Rows.All
import Wide.All
import OpenK.AllK
import Wide.FinOn
import KE.KStateDown
import HandS.ForMost
import HandS.Exc
import HandS.HeadHook4
import HandS.TupAny
import HandS.IsInst
import HandS.Defaults
import HandS.NoneIn
import HandS.Flow
import HandS.Head0
import HandS.Head1
import HandS.Head2
import HandS.HeadEnd
import PySem.Challenge.RW_handshidden_k69_high_stacks
set_option Elab.async false
set_option linter.all false
set_option maxRecDepth 100000
set_option maxHeartbeats 4000000
/-! L3: values as trees. Frozen data (D) may be shared; owned trees (T) stand in one place and may be changed there. -/
namespace L3
open PySem PySem.Spec PyProof.Rows L2

inductive D where
  | non | bl (b : Bool) | int (i : Int) | str (x : Str) | ty (n : String)
  | tup (xs : List D) | lst (xs : List D) | rol (xs : List D) | dct (ks : List Key) (xs : List D) | obj (c : Str) (fs : List Str) (xs : List D)

inductive T where
  | fr (d : D) | lst (xs : List T) | dct (ks : List Key) (xs : List T) | obj (c : Str) (fs : List Str) (xs : List T) | tup (xs : List T) | hole

section
variable (K : PySem.W.Frag) (F : Hp)
mutual
def RepD : D → V → Prop
  | .non, v => v = .non
  | .bl b, v => v = .bl b
  | .int i, v => v = .int i
  | .str x, v => v = .str x
  | .ty n, v => v = .ty n
  | .tup ds, v => ∃ a vs, v = .ref a ∧ SqT K F a vs ∧ RepDs ds vs
  | .lst ds, v => ∃ a vs, v = .ref a ∧ F a = some (.lst vs) ∧ RepDs ds vs
  | .rol ds, v => ∃ a vs, v = .ref a ∧ SqL K F a vs ∧ RepDs ds vs
  | .dct ks ds, v => ∃ a vs, v = .ref a ∧ Rd F a (.dK (ks.zip vs)) ∧ ks.length = ds.length ∧ RepDs ds vs
  | .obj c fs ds, v => ∃ a dx vs, v = .ref a ∧ F a = some (.ins (He.ga K c) dx (fs.zip vs)) ∧ fs.length = ds.length ∧ RepDs ds vs
def RepDs : List D → List V → Prop
  | [], vs => vs = []
  | d :: ds, vs => ∃ w ws, vs = w :: ws ∧ RepD d w ∧ RepDs ds ws
end
end

section
variable (K : PySem.W.Frag) (F H : Hp)
mutual
def Rep : T → V → List Addr → Prop
  | .fr d, v, S => S = [] ∧ RepD K F d v
  | .lst ts, v, S => ∃ a vs S', v = .ref a ∧ H a = some (.lst vs) ∧ S = a :: S' ∧ Reps ts vs S'
  | .dct ks ts, v, S => ∃ a vs S', v = .ref a ∧ H a = some (.dK (ks.zip vs)) ∧ ks.length = ts.length ∧ S = a :: S' ∧ Reps ts vs S'
  | .obj c fs ts, v, S => ∃ a dx vs S', v = .ref a ∧ H a = some (.ins (He.ga K c) dx (fs.zip vs)) ∧ fs.length = ts.length ∧ S = a :: S' ∧ Reps ts vs S'
  | .tup ts, v, S => ∃ a vs, v = .ref a ∧ SqT K F a vs ∧ Reps ts vs S
  | .hole, v, S => S = []
def Reps : List T → List V → List Addr → Prop
  | [], vs, S => vs = [] ∧ S = []
  | t :: ts, vs, S => ∃ w ws S1 S2, vs = w :: ws ∧ S = S1 ++ S2 ∧ Rep t w S1 ∧ Reps ts ws S2
end
end

section
variable {K : PySem.W.Frag} {F F' H H' : Hp}
theorem Same.rd (e : Same F F') {a : Addr} {o : HO} (h : Rd F a o) : Rd F' a o := by
  rcases h with h | ⟨u, h⟩
  · exact .inl (e _ _ h)
  · exact .inr ⟨u, e _ _ h⟩
theorem Same.sqt (e : Same F F') {a : Addr} {xs : List V} (h : SqT K F a xs) : SqT K F' a xs := by
  rcases h with h | h
  · exact .inl (Same.rd e h)
  · exact .inr h
theorem Same.sql (e : Same F F') {a : Addr} {xs : List V} (h : SqL K F a xs) : SqL K F' a xs := by
  rcases h with h | h
  · exact .inl (Same.rd e h)
  · exact .inr h
mutual
theorem RepD.mono (e : Same F F') : ∀ (d : D) (v : V), RepD K F d v → RepD K F' d v
  | .non, _, h => h
  | .bl _, _, h => h
  | .int _, _, h => h
  | .str _, _, h => h
  | .ty _, _, h => h
  | .tup ds, v, h => by
    obtain ⟨a, vs, h1, h2, h3⟩ := h
    exact ⟨a, vs, h1, Same.sqt e h2, RepDs.mono e ds vs h3⟩
  | .lst ds, v, h => by
    obtain ⟨a, vs, h1, h2, h3⟩ := h
    exact ⟨a, vs, h1, e _ _ h2, RepDs.mono e ds vs h3⟩
  | .rol ds, v, h => by
    obtain ⟨a, vs, h1, h2, h3⟩ := h
    exact ⟨a, vs, h1, Same.sql e h2, RepDs.mono e ds vs h3⟩
  | .dct ks ds, v, h => by
    obtain ⟨a, vs, h1, h2, h3, h4⟩ := h
    exact ⟨a, vs, h1, Same.rd e h2, h3, RepDs.mono e ds vs h4⟩
  | .obj c fs ds, v, h => by
    obtain ⟨a, dx, vs, h1, h2, h3, h4⟩ := h
    exact ⟨a, dx, vs, h1, e _ _ h2, h3, RepDs.mono e ds vs h4⟩
theorem RepDs.mono (e : Same F F') : ∀ (ds : List D) (vs : List V), RepDs K F ds vs → RepDs K F' ds vs
  | [], _, h => h
  | d :: ds, vs, h => by
    obtain ⟨w, ws, h1, h2, h3⟩ := h
    exact ⟨w, ws, h1, RepD.mono e d w h2, RepDs.mono e ds ws h3⟩
end
mutual
theorem Rep.ext (e : Same F F') : ∀ (t : T) (v : V) (S : List Addr), (∀ a ∈ S, H' a = H a) → Rep K F H t v S → Rep K F' H' t v S
  | .fr d, v, S, _, h => ⟨h.1, RepD.mono e d v h.2⟩
  | .lst ts, v, S, k, h => by
    obtain ⟨a, vs, S', h1, h2, rfl, h3⟩ := h
    exact ⟨a, vs, S', h1, (k a (by simp)).trans h2, rfl, Reps.ext e ts vs S' (fun b hb => k b (by simp [hb])) h3⟩
  | .dct ks ts, v, S, k, h => by
    obtain ⟨a, vs, S', h1, h2, h4, rfl, h3⟩ := h
    exact ⟨a, vs, S', h1, (k a (by simp)).trans h2, h4, rfl, Reps.ext e ts vs S' (fun b hb => k b (by simp [hb])) h3⟩
  | .obj c fs ts, v, S, k, h => by
    obtain ⟨a, dx, vs, S', h1, h2, h4, rfl, h3⟩ := h
    exact ⟨a, dx, vs, S', h1, (k a (by simp)).trans h2, h4, rfl, Reps.ext e ts vs S' (fun b hb => k b (by simp [hb])) h3⟩
  | .tup ts, v, S, k, h => by
    obtain ⟨a, vs, h1, h2, h3⟩ := h
    exact ⟨a, vs, h1, Same.sqt e h2, Reps.ext e ts vs S k h3⟩
  | .hole, _, _, _, h => h
theorem Reps.ext (e : Same F F') : ∀ (ts : List T) (vs : List V) (S : List Addr), (∀ a ∈ S, H' a = H a) → Reps K F H ts vs S → Reps K F' H' ts vs S
  | [], _, _, _, h => h
  | t :: ts, vs, S, k, h => by
    obtain ⟨w, ws, S1, S2, h1, rfl, h2, h3⟩ := h
    exact ⟨w, ws, S1, S2, h1, rfl, Rep.ext e t w S1 (fun b hb => k b (by simp [hb])) h2, Reps.ext e ts ws S2 (fun b hb => k b (by simp [hb])) h3⟩
end
theorem RepDs.length : ∀ {ds : List D} {vs : List V}, RepDs K F ds vs → vs.length = ds.length
  | [], _, h => by rw [show _ = [] from h]; rfl
  | d :: ds, _, h => by
    obtain ⟨w, ws, rfl, _, h3⟩ := h
    simp [RepDs.length h3]
theorem Reps.length : ∀ {ts : List T} {vs : List V} {S : List Addr}, Reps K F H ts vs S → vs.length = ts.length
  | [], _, _, h => by rw [h.1]; rfl
  | t :: ts, _, _, h => by
    obtain ⟨w, ws, S1, S2, rfl, _, _, h3⟩ := h
    simp [Reps.length h3]
theorem RepDs.get : ∀ {ds : List D} {vs : List V} {i : Nat} {d : D}, RepDs K F ds vs → ds[i]? = some d → ∃ v, vs[i]? = some v ∧ RepD K F d v
  | [], _, _, _, _, e => by simp at e
  | d :: ds, _, 0, x, h, e => by
    obtain ⟨w, ws, rfl, h2, h3⟩ := h
    simp at e; subst e; exact ⟨w, by simp, h2⟩
  | d :: ds, _, i + 1, x, h, e => by
    obtain ⟨w, ws, rfl, h2, h3⟩ := h
    obtain ⟨v, h4, h5⟩ := RepDs.get (i := i) h3 (by simpa using e)
    exact ⟨v, by simpa using h4, h5⟩
/-! all addresses of a footprint are tracked -/
mutual
theorem Rep.tracked : ∀ (t : T) (v : V) (S : List Addr), Rep K F H t v S → ∀ a ∈ S, H a ≠ none
  | .fr d, v, S, h, a, ha => by rw [h.1] at ha; cases ha
  | .lst ts, v, S, h, a, ha => by
    obtain ⟨b, vs, S', h1, h2, rfl, h3⟩ := h
    rcases List.mem_cons.mp ha with rfl | ha
    · rw [h2]; exact fun z => by cases z
    · exact Reps.tracked ts vs S' h3 a ha
  | .dct ks ts, v, S, h, a, ha => by
    obtain ⟨b, vs, S', h1, h2, h4, rfl, h3⟩ := h
    rcases List.mem_cons.mp ha with rfl | ha
    · rw [h2]; exact fun z => by cases z
    · exact Reps.tracked ts vs S' h3 a ha
  | .obj c fs ts, v, S, h, a, ha => by
    obtain ⟨b, dx, vs, S', h1, h2, h4, rfl, h3⟩ := h
    rcases List.mem_cons.mp ha with rfl | ha
    · rw [h2]; exact fun z => by cases z
    · exact Reps.tracked ts vs S' h3 a ha
  | .tup ts, v, S, h, a, ha => by
    obtain ⟨b, vs, h1, h2, h3⟩ := h
    exact Reps.tracked ts vs S h3 a ha
  | .hole, v, S, h, a, ha => by
    rw [show S = [] from h] at ha; cases ha
theorem Reps.tracked : ∀ (ts : List T) (vs : List V) (S : List Addr), Reps K F H ts vs S → ∀ a ∈ S, H a ≠ none
  | [], _, _, h, a, ha => by rw [h.2] at ha; cases ha
  | t :: ts, vs, S, h, a, ha => by
    obtain ⟨w, ws, S1, S2, h1, rfl, h2, h3⟩ := h
    rcases List.mem_append.mp ha with ha | ha
    · exact Rep.tracked t w S1 h2 a ha
    · exact Reps.tracked ts ws S2 h3 a ha
end
theorem Reps.append : ∀ {ts us : List T} {vs ws : List V} {S R : List Addr}, Reps K F H ts vs S → Reps K F H us ws R → Reps K F H (ts ++ us) (vs ++ ws) (S ++ R)
  | [], _, _, _, _, _, h, h' => by rw [h.1, h.2]; exact h'
  | t :: ts, _, _, _, _, _, h, h' => by
    obtain ⟨w, ws, S1, S2, rfl, rfl, h2, h3⟩ := h
    exact ⟨w, _, S1, _, rfl, (List.append_assoc ..), h2, Reps.append h3 h'⟩
theorem Reps.one {t : T} {v : V} {S : List Addr} (h : Rep K F H t v S) : Reps K F H [t] [v] S := ⟨v, [], S, [], rfl, by simp, h, rfl, rfl⟩
/-- the k-th of a row, and what may be put in its place -/
theorem Reps.split : ∀ {ts : List T} {vs : List V} {S : List Addr} {k : Nat} {t : T}, Reps K F H ts vs S → ts[k]? = some t →
    ∃ v Sa Sb Sc, vs[k]? = some v ∧ S = Sa ++ (Sb ++ Sc) ∧ Rep K F H t v Sb ∧ (∀ t' v' S', Rep K F H t' v' S' → Reps K F H (ts.set k t') (vs.set k v') (Sa ++ (S' ++ Sc))) ∧
      ∀ (F' H' : Hp), Same F F' → (∀ a ∈ Sa ++ Sc, H' a = H a) → ∀ t' v' S', Rep K F' H' t' v' S' → Reps K F' H' (ts.set k t') (vs.set k v') (Sa ++ (S' ++ Sc))
  | [], _, _, _, _, _, e => by simp at e
  | t :: ts, _, _, 0, x, h, e => by
    obtain ⟨w, ws, S1, S2, rfl, rfl, h2, h3⟩ := h
    simp at e; subst e
    refine ⟨w, [], S1, S2, by simp, by simp, h2, fun t' v' S' r => ⟨v', ws, S', S2, by simp, by simp, r, h3⟩, fun F' H' e k t' v' S' r => ⟨v', ws, S', S2, by simp, by simp, r, Reps.ext e ts ws S2 (fun a ha => k a (by simpa using ha)) h3⟩⟩
  | t :: ts, _, _, k + 1, x, h, e => by
    obtain ⟨w, ws, S1, S2, rfl, rfl, h2, h3⟩ := h
    obtain ⟨v, Sa, Sb, Sc, q1, rfl, q2, q3, q4⟩ := Reps.split (k := k) h3 (by simpa using e)
    refine ⟨v, S1 ++ Sa, Sb, Sc, by simpa using q1, by simp, q2, fun t' v' S' r => ⟨w, ws.set k v', S1, Sa ++ (S' ++ Sc), by simp, by simp, h2, q3 t' v' S' r⟩, fun F' H' e' kk t' v' S' r => ⟨w, ws.set k v', S1, Sa ++ (S' ++ Sc), by simp, by simp, Rep.ext e' t w S1 (fun a ha => kk a (by simp [ha])) h2, q4 F' H' e' (fun a ha => kk a ?_) t' v' S' r⟩⟩
    rcases List.mem_append.mp ha with z | z <;> simp [z]
end
end L3
namespace L3
open PySem PySem.Spec PyProof.Rows L2

mutual
def T.frz : T → Option D
  | .fr d => some d
  | .lst ts => (T.frzs ts).map .lst
  | .dct ks ts => (T.frzs ts).map (.dct ks)
  | .obj c fs ts => (T.frzs ts).map (.obj c fs)
  | .tup ts => (T.frzs ts).map .tup
  | .hole => none
def T.frzs : List T → Option (List D)
  | [] => some []
  | t :: ts => match T.frz t with
    | some d => match T.frzs ts with
      | some ds => some (d :: ds)
      | none => none
    | none => none
end
theorem zip_len {α β : Type} : ∀ {ks : List α} {vs : List β}, ks.length = vs.length → (ks.zip vs).length = ks.length
  | [], [], _ => rfl
  | k :: ks, v :: vs, h => by simp at h; simp [zip_len h]

section
variable {K : PySem.W.Frag} {F F' H H' : Hp}
mutual
theorem Rep.frozen (e : Same F F') : ∀ (t : T) (v : V) (S : List Addr) (d : D), Rep K F H t v S → (∀ a ∈ S, F' a = H a) → T.frz t = some d → RepD K F' d v
  | .fr d, v, S, d', h, k, q => by
    have q' : d = d' := Option.some.inj q
    subst q'
    exact RepD.mono e d v h.2
  | .lst ts, v, S, d', h, k, q => by
    obtain ⟨a, vs, S', h1, h2, rfl, h3⟩ := h
    have q' : (T.frzs ts).map D.lst = some d' := q
    cases z : T.frzs ts with
    | none => rw [z] at q'; cases q'
    | some ds =>
      rw [z] at q'; cases q'
      exact ⟨a, vs, h1, (k a (by simp)).trans h2, Reps.frozen e ts vs S' ds h3 (fun b hb => k b (by simp [hb])) z⟩
  | .dct ks ts, v, S, d', h, k, q => by
    obtain ⟨a, vs, S', h1, h2, h4, rfl, h3⟩ := h
    have q' : (T.frzs ts).map (D.dct ks) = some d' := q
    cases z : T.frzs ts with
    | none => rw [z] at q'; cases q'
    | some ds =>
      rw [z] at q'; cases q'
      have r := Reps.frozen e ts vs S' ds h3 (fun b hb => k b (by simp [hb])) z
      exact ⟨a, vs, h1, .inl ((k a (by simp)).trans h2), by rw [h4, ← Reps.length h3, r.length], r⟩
  | .obj c fs ts, v, S, d', h, k, q => by
    obtain ⟨a, dx, vs, S', h1, h2, h4, rfl, h3⟩ := h
    have q' : (T.frzs ts).map (D.obj c fs) = some d' := q
    cases z : T.frzs ts with
    | none => rw [z] at q'; cases q'
    | some ds =>
      rw [z] at q'; cases q'
      have r := Reps.frozen e ts vs S' ds h3 (fun b hb => k b (by simp [hb])) z
      exact ⟨a, dx, vs, h1, (k a (by simp)).trans h2, by rw [h4, ← Reps.length h3, r.length], r⟩
  | .tup ts, v, S, d', h, k, q => by
    obtain ⟨a, vs, h1, h2, h3⟩ := h
    have q' : (T.frzs ts).map D.tup = some d' := q
    cases z : T.frzs ts with
    | none => rw [z] at q'; cases q'
    | some ds =>
      rw [z] at q'; cases q'
      exact ⟨a, vs, h1, Same.sqt e h2, Reps.frozen e ts vs S ds h3 k z⟩
  | .hole, _, _, _, _, _, q => by cases q
theorem Reps.frozen (e : Same F F') : ∀ (ts : List T) (vs : List V) (S : List Addr) (ds : List D), Reps K F H ts vs S → (∀ a ∈ S, F' a = H a) → T.frzs ts = some ds → RepDs K F' ds vs
  | [], _, _, _, h, _, q => by
    cases q
    exact h.1
  | t :: ts, vs, S, ds', h, k, q => by
    obtain ⟨w, ws, S1, S2, h1, rfl, h2, h3⟩ := h
    have q' : (match T.frz t with
      | some d => match T.frzs ts with
        | some ds => some (d :: ds)
        | none => none
      | none => none) = some ds' := q
    cases z : T.frz t with
    | none => rw [z] at q'; cases q'
    | some d =>
      rw [z] at q'
      cases y : T.frzs ts with
      | none => simp only [y] at q'; cases q'
      | some ds =>
        simp only [y] at q'
        cases q'
        exact ⟨w, ws, h1, Rep.frozen e t w S1 d h2 (fun b hb => k b (by simp [hb])) z, Reps.frozen e ts ws S2 ds h3 (fun b hb => k b (by simp [hb])) y⟩
end
end

/-! ### places -/
inductive Stp where
  | fld (f : Str) | ix (k : Nat) | key (k : Key)
abbrev Path := List Stp

def kidx {α : Type} [DecidableEq α] (k : α) : List α → Option Nat
  | [] => none
  | x :: xs => if x = k then some 0 else (kidx k xs).map (· + 1)
def T.sub (t : T) (s : Stp) : Option T := match t, s with
  | .obj _ fs ts, .fld f => (kidx f fs).bind fun k => ts[k]?
  | .lst ts, .ix k => ts[k]?
  | .dct ks ts, .key k => (kidx k ks).bind fun k => ts[k]?
  | _, _ => none
def T.put1 (t : T) (s : Stp) (u : T) : T := match t, s with
  | .obj c fs ts, .fld f => match kidx f fs with
    | some k => .obj c fs (ts.set k u)
    | none => t
  | .lst ts, .ix k => .lst (ts.set k u)
  | .dct ks ts, .key k => match kidx k ks with
    | some j => .dct ks (ts.set j u)
    | none => t
  | _, _ => t
def T.get (t : T) : Path → Option T
  | [] => some t
  | s :: π => match t.sub s with
    | some u => u.get π
    | none => none
def T.put (t : T) (u : T) : Path → T
  | [] => u
  | s :: π => match t.sub s with
    | some x => t.put1 s (x.put u π)
    | none => t

section
variable {K : PySem.W.Frag} {F F' H H' : Hp}
/-- the value one step on -/
def Lcn1 (H : Hp) : Stp → V → V → Prop
  | .fld f, v, w => ∃ a C dx fs, v = .ref a ∧ H a = some (.ins C dx fs) ∧ fs.lookup f = some w
  | .ix k, v, w => ∃ a vs, v = .ref a ∧ H a = some (.lst vs) ∧ vs[k]? = some w
  | .key k, v, w => ∃ a kvs, v = .ref a ∧ H a = some (.dK kvs) ∧ valV kvs k = some w
def Lcn (H : Hp) : Path → V → V → Prop
  | [], v, w => w = v
  | s :: π, v, w => ∃ u, Lcn1 H s v u ∧ Lcn H π u w
theorem Lcn1.inj {s : Stp} {v w u : V} (h : Lcn1 H s v w) (h' : Lcn1 H s v u) : w = u := by
  cases s with
  | fld f =>
    obtain ⟨a, C, dx, fs, rfl, h2, h3⟩ := h
    obtain ⟨a', C', dx', fs', e, q2, q3⟩ := h'
    cases e
    rw [h2] at q2; cases q2
    rw [h3] at q3; exact Option.some.inj q3
  | ix k =>
    obtain ⟨a, vs, rfl, h2, h3⟩ := h
    obtain ⟨a', vs', e, q2, q3⟩ := h'
    cases e
    rw [h2] at q2; cases q2
    rw [h3] at q3; exact Option.some.inj q3
  | key k =>
    obtain ⟨a, vs, rfl, h2, h3⟩ := h
    obtain ⟨a', vs', e, q2, q3⟩ := h'
    cases e
    rw [h2] at q2; cases q2
    rw [h3] at q3; exact Option.some.inj q3
theorem Lcn.inj : ∀ {π : Path} {v w u : V}, Lcn H π v w → Lcn H π v u → w = u
  | [], _, _, _, h, h' => by rw [show _ = _ from h, show _ = _ from h']
  | s :: π, _, _, _, ⟨x, h1, h2⟩, ⟨y, q1, q2⟩ => by
    have e := h1.inj q1
    subst e
    exact Lcn.inj h2 q2
theorem Lcn.snoc : ∀ {π : Path} {v w u : V} {s : Stp}, Lcn H π v w → Lcn1 H s w u → Lcn H (π ++ [s]) v u
  | [], _, _, _, _, h, h' => by
    have e : _ = _ := h
    subst e
    exact ⟨_, h', rfl⟩
  | s :: π, _, _, _, _, ⟨x, h1, h2⟩, h' => ⟨x, h1, Lcn.snoc h2 h'⟩

theorem lookup_zip {α β : Type} [DecidableEq α] [BEq α] [LawfulBEq α] {k : α} : ∀ {ks : List α} {vs : List β} {j : Nat}, kidx k ks = some j → (ks.zip vs).lookup k = vs[j]?
  | [], _, _, h => by cases h
  | x :: xs, vs, j, h => by
    unfold kidx at h
    by_cases e : x = k
    · rw [if_pos e] at h
      cases h
      cases vs with
      | nil => simp
      | cons v vs => subst e; simp
    · rw [if_neg e] at h
      cases z : kidx k xs with
      | none => rw [z] at h; cases h
      | some i =>
        rw [z] at h
        cases h
        cases vs with
        | nil => simp
        | cons v vs =>
          have ne : (k == x) = false := beq_eq_false_iff_ne.mpr fun q => e q.symm
          simp [List.lookup_cons, ne, lookup_zip z]
theorem valV_zip {k : Key} : ∀ {ks : List Key} {vs : List V} {j : Nat}, kidx k ks = some j → valV (ks.zip vs) k = vs[j]?
  | [], _, _, h => by cases h
  | x :: xs, vs, j, h => by
    unfold kidx at h
    by_cases e : x = k
    · rw [if_pos e] at h
      cases h
      cases vs with
      | nil => simp [valV]
      | cons v vs => subst e; simp [valV]
    · rw [if_neg e] at h
      cases z : kidx k xs with
      | none => rw [z] at h; cases h
      | some i =>
        rw [z] at h
        cases h
        cases vs with
        | nil => simp [valV]
        | cons v vs =>
          have r := valV_zip (vs := vs) z
          simp only [valV] at r ⊢
          simp [e, r]
theorem valV_zip_none {k : Key} : ∀ {ks : List Key} {vs : List V}, kidx k ks = none → valV (ks.zip vs) k = none
  | [], _, h => by simp [valV]
  | x :: xs, vs, h => by
    unfold kidx at h
    by_cases e : x = k
    · rw [if_pos e] at h; cases h
    · rw [if_neg e] at h
      have h' : kidx k xs = none := by
        cases z : kidx k xs with
        | none => rfl
        | some i => rw [z] at h; cases h
      cases vs with
      | nil => simp [valV]
      | cons v vs =>
        have r := valV_zip_none (vs := vs) h'
        simp only [valV] at r ⊢
        simp at r
        simp [e]
        exact r
theorem set_same {α : Type} {xs : List α} {k : Nat} {x : α} (h : xs[k]? = some x) : xs.set k x = xs := by
  apply List.ext_getElem?
  intro i
  by_cases e : k = i
  · subst e
    rw [List.getElem?_set_self (List.getElem?_eq_some_iff.mp h).1, h]
  · rw [List.getElem?_set_ne e]
theorem kidx_lt {α : Type} [DecidableEq α] {k : α} : ∀ {ks : List α} {j : Nat}, kidx k ks = some j → j < ks.length
  | [], _, h => by cases h
  | x :: xs, j, h => by
    unfold kidx at h
    by_cases e : x = k
    · rw [if_pos e] at h; cases h; simp
    · rw [if_neg e] at h
      cases z : kidx k xs with
      | none => rw [z] at h; cases h
      | some i => rw [z] at h; cases h; simp [kidx_lt z]
/-- one step into an owned tree: the part, and what may be put in its place -/
theorem Rep.step {t t1 : T} {s : Stp} {v : V} {S : List Addr} (h : Rep K F H t v S) (q : t.sub s = some t1) :
    ∃ w Sa Sb Sc, (∀ H' : Hp, (∀ a ∈ S, H' a = H a) → Lcn1 H' s v w) ∧ S = Sa ++ (Sb ++ Sc) ∧ Rep K F H t1 w Sb ∧
      ∀ (F' H' : Hp), Same F F' → (∀ a ∈ Sa ++ Sc, H' a = H a) → ∀ t' S', Rep K F' H' t' w S' → Rep K F' H' (t.put1 s t') v (Sa ++ (S' ++ Sc)) := by
  cases t with
  | lst ts =>
    cases s with
    | ix k =>
      obtain ⟨a, vs, S0, h1, h2, rfl, h3⟩ := h
      have q' : ts[k]? = some t1 := q
      obtain ⟨w, Sa, Sb, Sc, e1, rfl, e3, _, e5⟩ := Reps.split h3 q'
      refine ⟨w, a :: Sa, Sb, Sc, fun H' k => ⟨a, vs, h1, (k a (by simp)).trans h2, e1⟩, by simp, e3, fun F' H' e k' t' S' r => ?_⟩
      have e6 := e5 F' H' e (fun b hb => k' b (by rw [List.cons_append]; exact List.mem_cons_of_mem _ hb)) t' w S' r
      rw [set_same e1] at e6
      exact ⟨a, vs, Sa ++ (S' ++ Sc), h1, (k' a (by simp)).trans h2, by simp, e6⟩
    | _ => cases q
  | dct ks ts =>
    cases s with
    | key k =>
      obtain ⟨a, vs, S0, h1, h2, h4, rfl, h3⟩ := h
      have q' : ((kidx k ks).bind fun k => ts[k]?) = some t1 := q
      cases z : kidx k ks with
      | none => rw [z] at q'; cases q'
      | some j =>
        rw [z] at q'
        obtain ⟨w, Sa, Sb, Sc, e1, rfl, e3, _, e5⟩ := Reps.split h3 (show ts[j]? = some t1 from q')
        refine ⟨w, a :: Sa, Sb, Sc, fun H' k => ⟨a, _, h1, (k a (by simp)).trans h2, by rw [valV_zip z]; exact e1⟩, by simp, e3, fun F' H' e k' t' S' r => ?_⟩
        have e6 := e5 F' H' e (fun b hb => k' b (by rw [List.cons_append]; exact List.mem_cons_of_mem _ hb)) t' w S' r
        rw [set_same e1] at e6
        show Rep K F' H' (match kidx k ks with
          | some j => .dct ks (ts.set j t')
          | none => .dct ks ts) v _
        rw [z]
        exact ⟨a, vs, Sa ++ (S' ++ Sc), h1, (k' a (by simp)).trans h2, by simp [h4], by simp, e6⟩
    | _ => cases q
  | obj c fs ts =>
    cases s with
    | fld f =>
      obtain ⟨a, dx, vs, S0, h1, h2, h4, rfl, h3⟩ := h
      have q' : ((kidx f fs).bind fun k => ts[k]?) = some t1 := q
      cases z : kidx f fs with
      | none => rw [z] at q'; cases q'
      | some j =>
        rw [z] at q'
        obtain ⟨w, Sa, Sb, Sc, e1, rfl, e3, _, e5⟩ := Reps.split h3 (show ts[j]? = some t1 from q')
        refine ⟨w, a :: Sa, Sb, Sc, fun H' k => ⟨a, _, dx, _, h1, (k a (by simp)).trans h2, by rw [lookup_zip z]; exact e1⟩, by simp, e3, fun F' H' e k' t' S' r => ?_⟩
        have e6 := e5 F' H' e (fun b hb => k' b (by rw [List.cons_append]; exact List.mem_cons_of_mem _ hb)) t' w S' r
        rw [set_same e1] at e6
        show Rep K F' H' (match kidx f fs with
          | some j => .obj c fs (ts.set j t')
          | none => .obj c fs ts) v _
        rw [z]
        exact ⟨a, dx, vs, Sa ++ (S' ++ Sc), h1, (k' a (by simp)).trans h2, by simp [h4], by simp, e6⟩
    | _ => cases q
  | fr d => cases s <;> cases q
  | tup ts => cases s <;> cases q
  | hole => cases s <;> cases q
/-- into an owned tree along a path -/
theorem Rep.path : ∀ {π : Path} {t t1 : T} {v : V} {S : List Addr}, Rep K F H t v S → t.get π = some t1 →
    ∃ w Sa Sb Sc, (∀ H' : Hp, (∀ a ∈ S, H' a = H a) → Lcn H' π v w) ∧ S = Sa ++ (Sb ++ Sc) ∧ Rep K F H t1 w Sb ∧
      ∀ (F' H' : Hp), Same F F' → (∀ a ∈ Sa ++ Sc, H' a = H a) → ∀ t' S', Rep K F' H' t' w S' → Rep K F' H' (t.put t' π) v (Sa ++ (S' ++ Sc))
  | [], t, t1, v, S, h, q => by
    have q' : t = t1 := Option.some.inj q
    subst q'
    exact ⟨v, [], S, [], fun _ _ => rfl, by simp, h, fun F' H' _ _ t' S' r => by simpa [T.put] using r⟩
  | s :: π, t, t1, v, S, h, q => by
    have q' : (match t.sub s with | some u => u.get π | none => none) = some t1 := q
    cases z : t.sub s with
    | none => rw [z] at q'; cases q'
    | some u =>
      rw [z] at q'
      obtain ⟨x, Sa, Sb, Sc, e1, rfl, e3, e4⟩ := Rep.step h z
      obtain ⟨w, Ta, Tb, Tc, d1, rfl, d3, d4⟩ := Rep.path e3 q'
      refine ⟨w, Sa ++ Ta, Tb, Tc ++ Sc, fun H' k => ⟨x, e1 H' k, d1 H' fun a ha => k a (by
        rcases List.mem_append.mp ha with y | y
        · simp [y]
        · rcases List.mem_append.mp y with y | y <;> simp [y])⟩, by simp, d3, fun F' H' e k t' S' r => ?_⟩
      have r1 := d4 F' H' e (fun a ha => k a (by
        rcases List.mem_append.mp ha with y | y <;> simp [y])) t' S' r
      have r2 := e4 F' H' e (fun a ha => k a (by
        rcases List.mem_append.mp ha with y | y <;> simp [y])) _ _ r1
      show Rep K F' H' (match t.sub s with | some x => t.put1 s (x.put t' π) | none => t) v _
      rw [z]
      simpa using r2
end
end L3
namespace L3
open PySem PySem.Spec PyProof.Rows L2

/-! ### the world: frozen part below the heap, what is owned or kept stands apart -/
structure Wd (F H : Hp) (B : List Addr) : Prop where
  same : Same F H
  one : ∀ a, B.count a ≤ 1
  free : ∀ a, 0 < B.count a → F a = none
theorem Wd.sub {F H : Hp} {B B' : List Addr} (w : Wd F H B) (h : ∀ a, B'.count a ≤ B.count a) : Wd F H B' :=
  ⟨w.same, fun a => Nat.le_trans (h a) (w.one a), fun a p => w.free a (Nat.lt_of_lt_of_le p (h a))⟩
theorem Wd.none {F H : Hp} {B : List Addr} (w : Wd F H B) {a : Addr} (h : a ∈ B) : F a = none := w.free a (List.count_pos_iff.mpr h)
theorem Wd.apart {F H : Hp} {B C : List Addr} (w : Wd F H (B ++ C)) {a : Addr} (h : a ∈ B) : a ∉ C := fun h' => by
  have h1 := w.one a
  have h2 := List.count_pos_iff.mpr h
  have h3 := List.count_pos_iff.mpr h'
  rw [List.count_append] at h1
  omega
/-- a new address -/
theorem Wd.new {F H : Hp} {B : List Addr} (w : Wd F H B) {p : Addr} (hp : H p = Option.none) (ht : ∀ a ∈ B, H a ≠ Option.none) : Wd F H (p :: B) := by
  have hpB : B.count p = 0 := List.count_eq_zero.mpr fun hb => ht p hb hp
  refine ⟨w.same, fun a => ?_, fun a h => ?_⟩
  · rw [List.count_cons]
    by_cases e : p = a
    · subst e; simp [hpB]
    · have : (p == a) = false := beq_eq_false_iff_ne.mpr e
      simp [this, w.one a]
  · by_cases e : p = a
    · subst e; exact w.same.free hp
    · rw [List.count_cons] at h
      have : (p == a) = false := beq_eq_false_iff_ne.mpr e
      simp only [this] at h
      exact w.free a (by simpa using h)
/-- an owned place is written -/
theorem Wd.upd {F H : Hp} {B : List Addr} {p : Addr} {o : HO} (w : Wd F H (p :: B)) : Wd F (upd H p o) (p :: B) :=
  ⟨fun b u e => by
    have : b ≠ p := fun q => by
      subst q
      rw [w.none (a := b) (by simp)] at e
      cases e
    rw [upd_ne this]
    exact w.same b u e, w.one, w.free⟩
/-- an owned place is frozen as it stands -/
def fz (F : Hp) (H : Hp) (S : List Addr) : Hp := fun a => if a ∈ S then H a else F a
theorem fz_in {F H : Hp} {S : List Addr} {a : Addr} (h : a ∈ S) : fz F H S a = H a := if_pos h
theorem fz_out {F H : Hp} {S : List Addr} {a : Addr} (h : a ∉ S) : fz F H S a = F a := if_neg h
theorem Wd.fz_same {F H : Hp} {S B : List Addr} (w : Wd F H (S ++ B)) : Same F (fz F H S) := fun b u e => by
  rw [fz_out fun h => by
    rw [w.none (a := b) (by simp [h])] at e
    cases e]
  exact e
theorem Wd.fz {F H : Hp} {S B : List Addr} (w : Wd F H (S ++ B)) : Wd (fz F H S) H B :=
  ⟨fun b u e => by
    by_cases h : b ∈ S
    · rwa [fz_in h] at e
    · rw [fz_out h] at e; exact w.same b u e,
   fun a => Nat.le_trans (by rw [List.count_append]; omega) (w.one a), fun a h => by
    have h' : a ∈ B := List.count_pos_iff.mp h
    have : a ∉ S := fun z => w.apart z h'
    rw [fz_out this]
    exact w.none (by simp [h'])⟩
theorem Wd.keep {F F' H H' : Hp} {B : List Addr} (w : Wd F H B) (e : Wd F' H' []) (hB : ∀ a ∈ B, F' a = Option.none) : Wd F' H' B :=
  ⟨e.same, w.one, fun a h => hB a (List.count_pos_iff.mp h)⟩

abbrev Env := List (Option T)
abbrev Sg := L2.St
section
variable (K : PySem.W.Frag) (F H : Hp)
def RepE : Sg → Env → List Addr → Prop
  | [], [], S => S = []
  | _ :: σ, none :: ρ, S => RepE σ ρ S
  | x :: σ, some t :: ρ, S => ∃ v S1 S2, x = some v ∧ S = S1 ++ S2 ∧ Rep K F H t v S1 ∧ RepE σ ρ S2
  | _, _, _ => False
end
section
variable {K : PySem.W.Frag} {F F' H H' : Hp}
theorem RepE.length : ∀ {σ : Sg} {ρ : Env} {S : List Addr}, RepE K F H σ ρ S → σ.length = ρ.length
  | [], [], _, _ => rfl
  | _ :: σ, none :: ρ, _, h => by simp [RepE.length (σ := σ) (ρ := ρ) h]
  | _ :: σ, some t :: ρ, _, h => by
    obtain ⟨_, _, _, _, _, _, h⟩ := h
    simp [RepE.length h]
  | [], _ :: _, _, h => h.elim
  | _ :: _, [], _, h => h.elim
theorem RepE.ext (e : Same F F') : ∀ {σ : Sg} {ρ : Env} {S : List Addr}, (∀ a ∈ S, H' a = H a) → RepE K F H σ ρ S → RepE K F' H' σ ρ S
  | [], [], _, _, h => h
  | _ :: σ, none :: ρ, _, k, h => RepE.ext (σ := σ) (ρ := ρ) e k h
  | _ :: σ, some t :: ρ, _, k, h => by
    obtain ⟨v, S1, S2, h1, rfl, h2, h3⟩ := h
    exact ⟨v, S1, S2, h1, rfl, Rep.ext e t v S1 (fun a ha => k a (by simp [ha])) h2, RepE.ext e (fun a ha => k a (by simp [ha])) h3⟩
  | [], _ :: _, _, _, h => h.elim
  | _ :: _, [], _, _, h => h.elim
theorem RepE.tracked : ∀ {σ : Sg} {ρ : Env} {S : List Addr}, RepE K F H σ ρ S → ∀ a ∈ S, H a ≠ none
  | [], [], _, h, a, ha => by rw [show _ = [] from h] at ha; cases ha
  | _ :: σ, none :: ρ, _, h, a, ha => RepE.tracked (σ := σ) (ρ := ρ) h a ha
  | _ :: σ, some t :: ρ, _, h, a, ha => by
    obtain ⟨v, S1, S2, h1, rfl, h2, h3⟩ := h
    rcases List.mem_append.mp ha with ha | ha
    · exact Rep.tracked t v S1 h2 a ha
    · exact RepE.tracked h3 a ha
  | [], _ :: _, _, h, _, _ => h.elim
  | _ :: _, [], _, h, _, _ => h.elim
/-- the slot i: its value and tree, and what may be put there -/
theorem RepE.split : ∀ {σ : Sg} {ρ : Env} {S : List Addr} {i : Nat} {t : T}, RepE K F H σ ρ S → ρ[i]? = some (some t) →
    ∃ v Sa Sb Sc, σ[i]? = some (some v) ∧ S = Sa ++ (Sb ++ Sc) ∧ Rep K F H t v Sb ∧
      ∀ (F' H' : Hp), Same F F' → (∀ a ∈ Sa ++ Sc, H' a = H a) → RepE K F' H' σ (ρ.set i none) (Sa ++ Sc) ∧
        (∀ t' S', Rep K F' H' t' v S' → RepE K F' H' σ (ρ.set i (some t')) (Sa ++ (S' ++ Sc)))
  | [], [], _, _, _, _, e => by simp at e
  | x :: σ, none :: ρ, _, 0, _, _, e => by simp at e
  | x :: σ, none :: ρ, _, i + 1, t, h, e => by
    obtain ⟨v, Sa, Sb, Sc, q1, q2, q3, q4⟩ := RepE.split (σ := σ) (ρ := ρ) (i := i) h (by simpa using e)
    exact ⟨v, Sa, Sb, Sc, by simpa using q1, q2, q3, fun F' H' e' k => ⟨(q4 F' H' e' k).1, (q4 F' H' e' k).2⟩⟩
  | x :: σ, some u :: ρ, _, 0, t, h, e => by
    obtain ⟨v, S1, S2, rfl, rfl, h2, h3⟩ := h
    simp at e; subst e
    refine ⟨v, [], S1, S2, by simp, by simp, h2, fun F' H' e' k => ⟨?_, fun t' S' r => ?_⟩⟩
    · exact RepE.ext e' (fun a ha => k a (by simpa using ha)) h3
    · exact ⟨v, S', S2, rfl, by simp, r, RepE.ext e' (fun a ha => k a (by simpa using ha)) h3⟩
  | x :: σ, some u :: ρ, _, i + 1, t, h, e => by
    obtain ⟨v, S1, S2, rfl, rfl, h2, h3⟩ := h
    obtain ⟨w, Sa, Sb, Sc, q1, rfl, q3, q4⟩ := RepE.split (i := i) h3 (by simpa using e)
    refine ⟨w, S1 ++ Sa, Sb, Sc, by simpa using q1, by simp, q3, fun F' H' e' k => ?_⟩
    have q5 := q4 F' H' e' (fun a ha => k a (by
      rcases List.mem_append.mp ha with z | z <;> simp [z]))
    have r1 : Rep K F' H' u v S1 := Rep.ext e' u v S1 (fun a ha => k a (by simp [ha])) h2
    exact ⟨⟨v, S1, Sa ++ Sc, rfl, by simp, r1, q5.1⟩, fun t' S' r => ⟨v, S1, Sa ++ (S' ++ Sc), rfl, by simp, r1, q5.2 t' S' r⟩⟩
  | [], _ :: _, _, _, _, h, _ => h.elim
  | _ :: _, [], _, _, _, h, _ => h.elim
/-- a slot is set anew -/
theorem RepE.put : ∀ {σ : Sg} {ρ : Env} {S : List Addr} {i : Nat}, RepE K F H σ ρ S → i < ρ.length →
    ∃ Sa Sc, (∀ a, (Sa ++ Sc).count a ≤ S.count a) ∧ ∀ (F' H' : Hp), Same F F' → (∀ a ∈ Sa ++ Sc, H' a = H a) →
      (∀ x, RepE K F' H' (σ.set i x) (ρ.set i none) (Sa ++ Sc)) ∧ (∀ v' t' S', Rep K F' H' t' v' S' → RepE K F' H' (σ.set i (some v')) (ρ.set i (some t')) (Sa ++ (S' ++ Sc)))
  | [], [], _, _, _, e => by simp at e
  | x :: σ, none :: ρ, S, 0, h, e => by
    refine ⟨[], S, by simp, fun F' H' e' k => ⟨fun x' => ?_, fun v' t' S' r => ?_⟩⟩
    · exact RepE.ext (σ := σ) (ρ := ρ) e' (fun a ha => k a (by simpa using ha)) h
    · exact ⟨v', S', S, rfl, by simp, r, RepE.ext (σ := σ) (ρ := ρ) e' (fun a ha => k a (by simpa using ha)) h⟩
  | x :: σ, none :: ρ, S, i + 1, h, e => by
    obtain ⟨Sa, Sc, q1, q2⟩ := RepE.put (σ := σ) (ρ := ρ) (i := i) h (by simpa using e)
    exact ⟨Sa, Sc, q1, fun F' H' e' k => ⟨(q2 F' H' e' k).1, (q2 F' H' e' k).2⟩⟩
  | x :: σ, some u :: ρ, _, 0, h, e => by
    obtain ⟨v, S1, S2, rfl, rfl, h2, h3⟩ := h
    refine ⟨[], S2, fun a => by simp [List.count_append], fun F' H' e' k => ⟨fun x' => ?_, fun v' t' S' r => ?_⟩⟩
    · exact RepE.ext e' (fun a ha => k a (by simpa using ha)) h3
    · exact ⟨v', S', S2, rfl, by simp, r, RepE.ext e' (fun a ha => k a (by simpa using ha)) h3⟩
  | x :: σ, some u :: ρ, _, i + 1, h, e => by
    obtain ⟨v, S1, S2, rfl, rfl, h2, h3⟩ := h
    obtain ⟨Sa, Sc, q1, q2⟩ := RepE.put (i := i) h3 (by simpa using e)
    refine ⟨S1 ++ Sa, Sc, fun a => by have := q1 a; simp only [List.count_append] at this ⊢; omega, fun F' H' e' k => ?_⟩
    have q5 := q2 F' H' e' (fun a ha => k a (by
      rcases List.mem_append.mp ha with z | z <;> simp [z]))
    have r1 : Rep K F' H' u v S1 := Rep.ext e' u v S1 (fun a ha => k a (by simp [ha])) h2
    exact ⟨fun x' => ⟨v, S1, Sa ++ Sc, rfl, by simp, r1, q5.1 x'⟩, fun v' t' S' r => ⟨v, S1, Sa ++ (S' ++ Sc), rfl, by simp, r1, q5.2 v' t' S' r⟩⟩
  | [], _ :: _, _, _, h, _ => h.elim
  | _ :: _, [], _, _, h, _ => h.elim
end

/-- the state of a def's body: A what the rest of the world owns, S what the slots own -/
structure RelE (K : PySem.W.Frag) (F H : Hp) (A S : List Addr) (σ : Sg) (ρ : Env) : Prop where
  rep : RepE K F H σ ρ S
  wd : Wd F H (A ++ S)
  tr : ∀ a ∈ A, H a ≠ none

/-! ### judgements by trees -/
abbrev ME := Env → Option (T × Env)
def Snd (K : PySem.W.Frag) (b : Bool) (te : TE) (m : ME) : Prop :=
  ∀ (F H : Hp) (A S : List Addr) (σ : Sg) (ρ : Env) (t : T) (ρ' : Env), RelE K F H A S σ ρ → m ρ = some (t, ρ') → ∀ Q : VK,
    (∀ (v : V) (F' H' : Hp) (S' Sv : List Addr), Same F F' → (∀ a ∈ A, H' a = H a) → RelE K F' H' (Sv ++ A) S' σ ρ' → Rep K F' H' t v Sv →
      (b = true → ρ' = ρ ∧ S' = S ∧ ∀ a ∈ S, H' a = H a) → Q v H') → te σ H Q
structure E3 (X : Cx) (b : Bool) (e : Expr) (te : TE) (m : ME) : Prop where
  pe : PE X e te
  ok : Snd X.K b te m
/-- tests -/
abbrev MT := Env → Option (Bool × Env)
def SndT (K : PySem.W.Frag) (b : Bool) (tt : TT) (m : MT) : Prop :=
  ∀ (F H : Hp) (A S : List Addr) (σ : Sg) (ρ : Env) (c : Bool) (ρ' : Env), RelE K F H A S σ ρ → m ρ = some (c, ρ') → ∀ Q : Bool → Hp → Prop,
    (∀ (F' H' : Hp) (S' : List Addr), Same F F' → (∀ a ∈ A, H' a = H a) → RelE K F' H' A S' σ ρ' → (b = true → ρ' = ρ ∧ S' = S ∧ ∀ a ∈ S, H' a = H a) → Q c H') → tt σ H Q
structure T3 (X : Cx) (b : Bool) (e : Expr) (tt : TT) (m : MT) : Prop where
  pt : PT X e tt
  ok : SndT X.K b tt m
structure W3 (X : Cx) (b : Bool) (e : Expr) (tt : TT) (m : MT) : Prop where
  pw : PW X e tt
  ok : SndT X.K b tt m
/-- argument lists -/
abbrev MA := Env → Option (List T × Env)
def SndA (K : PySem.W.Frag) (b : Bool) (ta : TA) (m : MA) : Prop :=
  ∀ (F H : Hp) (A S : List Addr) (σ : Sg) (ρ : Env) (ts : List T) (ρ' : Env), RelE K F H A S σ ρ → m ρ = some (ts, ρ') → ∀ Q : List V → Hp → Prop,
    (∀ (vs : List V) (F' H' : Hp) (S' Sv : List Addr), Same F F' → (∀ a ∈ A, H' a = H a) → RelE K F' H' (Sv ++ A) S' σ ρ' → Reps K F' H' ts vs Sv →
      (b = true → ρ' = ρ ∧ S' = S ∧ ∀ a ∈ S, H' a = H a) → Q vs H') → ta σ H Q
structure A3 (X : Cx) (b : Bool) (es : List Expr) (ta : TA) (m : MA) : Prop where
  pa : PA X es ta
  ok : SndA X.K b ta m
/-- places: frozen data, or a path from a slot -/
inductive Pl where
  | val (d : D) | plc (i : Nat) (π : Path)
abbrev MP := Env → Option Pl
def AtP (K : PySem.W.Frag) (F H : Hp) (σ : Sg) : Pl → V → Prop
  | .val d, v => RepD K F d v
  | .plc i π, v => ∃ v0, σ[i]? = some (some v0) ∧ Lcn H π v0 v
def SndP (K : PySem.W.Frag) (te : TE) (m : MP) : Prop :=
  ∀ (F H : Hp) (A S : List Addr) (σ : Sg) (ρ : Env) (p : Pl), RelE K F H A S σ ρ → m ρ = some p → ∀ Q : VK,
    (∀ (v : V) (F' H' : Hp), Same F F' → (∀ a ∈ A ++ S, H' a = H a) → RelE K F' H' A S σ ρ → AtP K F' H' σ p v → Q v H') → te σ H Q
structure P3 (X : Cx) (e : Expr) (te : TE) (m : MP) : Prop where
  pe : PE X e te
  ok : SndP X.K te m
def Pl.get (p : Pl) (ρ : Env) : Option T := match p with
  | .val d => some (.fr d)
  | .plc i π => match ρ[i]? with
    | some (some t) => t.get π
    | _ => none
/-- statements -/
inductive Out where
  | nx | ret (t : T) | bk | ct
abbrev MS := Env → Option (Out × Env)
def SndS (K : PySem.W.Frag) (W : List Nat) (ts : TS) (m : MS) : Prop :=
  ∀ (F H : Hp) (A S : List Addr) (σ : Sg) (ρ : Env) (o : Out) (ρ' : Env), RelE K F H A S σ ρ → m ρ = some (o, ρ') → ∀ D : Ends,
    (∀ (σ' : Sg) (F' H' : Hp) (S' : List Addr), Same F F' → (∀ a ∈ A, H' a = H a) → (∀ i, i ∉ W → σ'[i]? = σ[i]?) → match o with
      | .nx => RelE K F' H' A S' σ' ρ' → D.nx σ' H'
      | .bk => RelE K F' H' A S' σ' ρ' → D.bk σ' H'
      | .ct => RelE K F' H' A S' σ' ρ' → D.ct σ' H'
      | .ret t => ∀ (v : V) (Sv : List Addr), RelE K F' H' (Sv ++ A) S' σ' ρ' → Rep K F' H' t v Sv → D.rt v H') → ts D σ H
def S3 (X : Cx) (W : List Nat) (st : Stmt) (m : MS) : Prop := ∃ ts, PS X st ts ∧ SndS X.K W ts m
def B3 (X : Cx) (W : List Nat) (sts : List Stmt) (m : MS) : Prop := ∃ ts, PSs X sts ts ∧ SndS X.K W ts m
/-- a def's promise by trees: the arguments' trees in, the result's tree and the arguments' trees behind it out -/
abbrev MF := List T → Option (T × List T)
def spM (K : PySem.W.Frag) (mf : MF) : Sp := fun vs H Q _ => ∃ (F : Hp) (A S : List Addr) (ts : List T) (t : T) (ts' : List T), Wd F H (A ++ S) ∧ (∀ a ∈ A, H a ≠ none) ∧ Reps K F H ts vs S ∧ mf ts = some (t, ts') ∧
  ∀ (v : V) (F' H' : Hp) (Sv S' : List Addr), Same F F' → (∀ a ∈ A, H' a = H a) → Wd F' H' (Sv ++ A ++ S') → Rep K F' H' t v Sv → Reps K F' H' ts' vs S' → Q v H'
end L3
namespace L3
open PySem PySem.Spec PyProof.Rows L2

/-! ### the world grows -/
structure Gr (F H F' H' : Hp) : Prop where
  f : Same F F'
  w : Same F' H'
  k : ∀ a, H a ≠ none → H' a = H a ∧ F' a = F a
structure Fresh (F' H : Hp) (Sv : List Addr) : Prop where
  one : ∀ a, Sv.count a ≤ 1
  new : ∀ a ∈ Sv, H a = none ∧ F' a = none
section
variable {K : PySem.W.Frag} {F F' F'' H H' H'' : Hp} {A B S Sv : List Addr} {σ : Sg} {ρ : Env}
theorem Fresh.nil : Fresh F' H [] := ⟨fun _ => by simp, fun _ h => by cases h⟩
theorem Gr.refl (w : Same F H) : Gr F H F H := ⟨Same.refl _, w, fun _ _ => ⟨rfl, rfl⟩⟩
theorem Gr.wd (g : Gr F H F' H') (w : Wd F H B) (tr : ∀ a ∈ B, H a ≠ none) (n : Fresh F' H Sv) : Wd F' H' (Sv ++ B) := by
  refine ⟨g.w, fun a => ?_, fun a h => ?_⟩
  · rw [List.count_append]
    by_cases e : a ∈ B
    · have h0 : Sv.count a = 0 := List.count_eq_zero.mpr fun z => tr a e (n.new a z).1
      rw [h0]; have := w.one a; omega
    · have h0 : B.count a = 0 := List.count_eq_zero.mpr e
      rw [h0]; have := n.one a; omega
  · rw [List.count_append] at h
    by_cases e : a ∈ B
    · rw [(g.k a (tr a e)).2]; exact w.none e
    · have h0 : B.count a = 0 := List.count_eq_zero.mpr e
      exact (n.new a (List.count_pos_iff.mp (by omega))).2
theorem Gr.rel (g : Gr F H F' H') (r : RelE K F H A S σ ρ) (n : Fresh F' H Sv) (tv : ∀ a ∈ Sv, H' a ≠ none) : RelE K F' H' (Sv ++ A) S σ ρ := by
  have tS := RepE.tracked r.rep
  refine ⟨RepE.ext g.f (fun a ha => (g.k a (tS a ha)).1) r.rep, ?_, fun a ha => ?_⟩
  · rw [List.append_assoc]
    exact g.wd r.wd (fun a ha => by
      rcases List.mem_append.mp ha with z | z
      · exact r.tr a z
      · exact tS a z) n
  · rcases List.mem_append.mp ha with z | z
    · exact tv a z
    · rw [(g.k a (r.tr a z)).1]; exact r.tr a z
theorem Gr.keepA (g : Gr F H F' H') (r : RelE K F H A S σ ρ) : ∀ a ∈ A, H' a = H a := fun a ha => (g.k a (r.tr a ha)).1
theorem Gr.keepS (g : Gr F H F' H') (r : RelE K F H A S σ ρ) : ∀ a ∈ S, H' a = H a := fun a ha => (g.k a (RepE.tracked r.rep a ha)).1
/-- a new frozen object -/
theorem Gr.one (w : Same F H) {p : Addr} {o : HO} (hp : H p = none) : Gr F H (upd F p o) (upd H p o) := by
  have hF : F p = none := w.free hp
  refine ⟨fun b u e => ?_, fun b u e => ?_, fun a ha => ?_⟩
  · rw [upd_ne (ne_of_none e hF)]; exact e
  · by_cases q : b = p
    · subst q; rw [upd_same] at e ⊢; exact e
    · rw [upd_ne q] at e ⊢; exact w b u e
  · have : a ≠ p := fun z => by subst z; exact ha hp
    exact ⟨upd_ne this, upd_ne this⟩
/-- a new owned object -/
theorem Gr.own (w : Same F H) {p : Addr} {o : HO} (hp : H p = none) : Gr F H F (upd H p o) := by
  refine ⟨Same.refl _, fun b u e => ?_, fun a ha => ?_⟩
  · rw [upd_ne (ne_of_none e (w.free hp))]; exact w b u e
  · have : a ≠ p := fun z => by subst z; exact ha hp
    exact ⟨upd_ne this, rfl⟩
theorem Fresh.one' {p : Addr} (hp : H p = none) (hF : F' p = none) : Fresh F' H [p] :=
  ⟨fun a => by rw [List.count_cons, List.count_nil]; split <;> omega, fun a h => by
    have : a = p := by simpa using h
    subst this; exact ⟨hp, hF⟩⟩
/-- temporaries frozen -/
theorem frz_temps {ts : List T} {vs : List V} {ds : List D} (w : Wd F H (S ++ B)) (r : Reps K F H ts vs S) (e : T.frzs ts = some ds) :
    Wd (fz F H S) H B ∧ Same F (fz F H S) ∧ RepDs K (fz F H S) ds vs :=
  ⟨w.fz, w.fz_same, Reps.frozen w.fz_same ts vs S ds r (fun a ha => fz_in ha) e⟩
end

/-! ### operations on frozen data -/
def OpFn (K : PySem.W.Frag) (R : List V → Hp → VK → Prop) (g : List D → Option T) : Prop :=
  ∀ (F H : Hp) (ds : List D) (vs : List V) (t : T), Same F H → RepDs K F ds vs → g ds = some t → ∀ Q : VK,
    (∀ (v : V) (F' H' : Hp) (Sv : List Addr), Gr F H F' H' → Fresh F' H Sv → Rep K F' H' t v Sv → Q v H') → R vs H Q
def OpF2 (K : PySem.W.Frag) (r : R2) (g : D → D → Option T) : Prop :=
  ∀ (F H : Hp) (d : D) (x : V) (e : D) (y : V) (t : T), Same F H → RepD K F d x → RepD K F e y → g d e = some t → ∀ Q : VK,
    (∀ (v : V) (F' H' : Hp) (Sv : List Addr), Gr F H F' H' → Fresh F' H Sv → Rep K F' H' t v Sv → Q v H') → r x y H Q
def OpF1 (K : PySem.W.Frag) (r : V → Hp → VK → Prop) (g : D → Option T) : Prop :=
  ∀ (F H : Hp) (d : D) (x : V) (t : T), Same F H → RepD K F d x → g d = some t → ∀ Q : VK,
    (∀ (v : V) (F' H' : Hp) (Sv : List Addr), Gr F H F' H' → Fresh F' H Sv → Rep K F' H' t v Sv → Q v H') → r x H Q

def mC (d : D) : ME := fun ρ => some (.fr d, ρ)
def mVarP (i : Nat) : ME := fun ρ => match ρ[i]? with
  | some (some (.fr d)) => some (.fr d, ρ)
  | _ => none
def mVarF (i : Nat) : ME := fun ρ => match ρ[i]? with
  | some (some t) => t.frz.map fun d => (.fr d, ρ.set i (some (.fr d)))
  | _ => none
def mVarM (i : Nat) : ME := fun ρ => match ρ[i]? with
  | some (some t) => some (t, ρ.set i none)
  | _ => none
def mOp2 (g : D → D → Option T) (ma mb : ME) : ME := fun ρ => (ma ρ).bind fun p => (mb p.2).bind fun q => p.1.frz.bind fun d => q.1.frz.bind fun e => (g d e).map fun t => (t, q.2)
def mOp1 (g : D → Option T) (ma : ME) : ME := fun ρ => (ma ρ).bind fun p => p.1.frz.bind fun d => (g d).map fun t => (t, p.2)
def mOpn (g : List D → Option T) (ma : MA) : ME := fun ρ => (ma ρ).bind fun p => (T.frzs p.1).bind fun ds => (g ds).map fun t => (t, p.2)
def mNil : MA := fun ρ => some ([], ρ)
def mCons (ma : ME) (mr : MA) : MA := fun ρ => (ma ρ).bind fun p => (mr p.2).map fun q => (p.1 :: q.1, q.2)
def T.allfr : List T → Option (List D)
  | [] => some []
  | .fr d :: ts => (T.allfr ts).map (d :: ·)
  | _ => none
def T.mkTup (ts : List T) : T := match T.allfr ts with
  | some ds => .fr (.tup ds)
  | none => .tup ts
def mTup (ma : MA) : ME := fun ρ => (ma ρ).bind fun p => if p.1.length ≤ 4096 then some (T.mkTup p.1, p.2) else none
def mLst (ma : MA) : ME := fun ρ => (ma ρ).bind fun p => if p.1.length ≤ 4096 then some (.lst p.1, p.2) else none
def mAnd (ma mb : ME) : ME := fun ρ => (ma ρ).bind fun p => match p.1 with
  | .fr (.bl true) => mb p.2
  | .fr (.bl false) => some (.fr (.bl false), p.2)
  | _ => none
def mOr (ma mb : ME) : ME := fun ρ => (ma ρ).bind fun p => match p.1 with
  | .fr (.bl false) => mb p.2
  | .fr (.bl true) => some (.fr (.bl true), p.2)
  | _ => none
def mNot (ma : ME) : ME := fun ρ => (ma ρ).bind fun p => match p.1 with
  | .fr (.bl b) => some (.fr (.bl (!b)), p.2)
  | _ => none
def mIf (mc : MT) (ma mb : ME) : ME := fun ρ => (mc ρ).bind fun p => if p.1 = true then ma p.2 else mb p.2
def mTest (ma : ME) : MT := fun ρ => (ma ρ).bind fun p => match p.1 with
  | .fr (.bl b) => some (b, p.2)
  | _ => none
def mTAnd (ma mb : MT) : MT := fun ρ => (ma ρ).bind fun p => if p.1 = true then mb p.2 else some (false, p.2)
def mTOr (ma mb : MT) : MT := fun ρ => (ma ρ).bind fun p => if p.1 = true then some (true, p.2) else mb p.2
def mTNot (ma : MT) : MT := fun ρ => (ma ρ).map fun p => (!p.1, p.2)
def D.truth : D → Option Bool
  | .non => some false
  | .bl b => some b
  | .int i => some (i != 0)
  | .tup ds => some (!ds.isEmpty)
  | .lst ds => some (!ds.isEmpty)
  | .rol ds => some (!ds.isEmpty)
  | _ => none
def T.truth : T → Option Bool
  | .fr d => d.truth
  | .lst ts => some (!ts.isEmpty)
  | _ => none
def mTruth (ma : ME) : MT := fun ρ => (ma ρ).bind fun p => p.1.truth.map fun b => (b, p.2)
def mChain (g g' : D → D → Option T) (ma mb mc : ME) : ME := fun ρ => (ma ρ).bind fun p => (mb p.2).bind fun q => p.1.frz.bind fun d => q.1.frz.bind fun e => (g d e).bind fun t => match t with
  | .fr (.bl true) => (mc q.2).bind fun r => r.1.frz.bind fun f => (g' e f).map fun t => (t, r.2)
  | .fr (.bl false) => some (.fr (.bl false), q.2)
  | _ => none

section
variable {K : PySem.W.Frag} {b b1 b2 b3 : Bool} {ta tb tc te : TE} {ma mb mc : ME} {tt tu : TT} {mt mu : MT} {tl : TA} {ml : MA}
theorem snd_c {d : D} {v : V} (h : ∀ F, RepD K F d v) : Snd K true (tC v) (mC d) := by
  intro F H A S σ ρ t ρ' R q Q k
  cases q
  exact k v F H S [] (Same.refl _) (fun _ _ => rfl) (by simpa using R) ⟨rfl, h F⟩ fun _ => ⟨rfl, rfl, fun _ _ => rfl⟩
theorem snd_int {i : Int} : Snd K true (tC (.int i)) (mC (.int i)) := snd_c fun _ => rfl
theorem snd_bl {i : Bool} : Snd K true (tC (.bl i)) (mC (.bl i)) := snd_c fun _ => rfl
theorem snd_non : Snd K true (tC .non) (mC .non) := snd_c fun _ => rfl
theorem snd_str {x : Str} : Snd K true (tC (.str x)) (mC (.str x)) := snd_c fun _ => rfl
theorem snd_varP {i : Nat} : Snd K true (tVar i) (mVarP i) := by
  intro F H A S σ ρ t ρ' R q Q k
  unfold mVarP at q
  split at q
  · rename_i d e
    cases q
    obtain ⟨v, Sa, Sb, Sc, h1, rfl, h2, h3⟩ := RepE.split R.rep e
    obtain ⟨rfl, h2⟩ := h2
    exact ⟨v, h1, k v F H _ [] (Same.refl _) (fun _ _ => rfl) (by simpa using R) ⟨rfl, h2⟩ fun _ => ⟨rfl, rfl, fun _ _ => rfl⟩⟩
  · cases q
theorem snd_varF {i : Nat} : Snd K false (tVar i) (mVarF i) := by
  intro F H A S σ ρ t ρ' R q Q k
  unfold mVarF at q
  split at q
  · rename_i u e
    cases z : u.frz with
    | none => rw [z] at q; cases q
    | some d =>
      rw [z] at q
      cases q
      obtain ⟨v, Sa, Sb, Sc, h1, rfl, h2, h3⟩ := RepE.split R.rep e
      have w : Wd F H (Sb ++ (A ++ (Sa ++ Sc))) := R.wd.sub fun a => by simp only [List.count_append]; omega
      have h4 : RepD K (fz F H Sb) d v := Rep.frozen w.fz_same u v Sb d h2 (fun a ha => fz_in ha) z
      refine ⟨v, h1, k v (fz F H Sb) H (Sa ++ Sc) [] w.fz_same (fun _ _ => rfl) ⟨?_, by simpa using w.fz, by simpa using R.tr⟩ ⟨rfl, h4⟩ fun z => nomatch z⟩
      have := (h3 (fz F H Sb) H w.fz_same (fun _ _ => rfl)).2 (.fr d) [] ⟨rfl, h4⟩
      simpa using this
  · cases q
theorem snd_varM {i : Nat} : Snd K false (tVar i) (mVarM i) := by
  intro F H A S σ ρ t ρ' R q Q k
  unfold mVarM at q
  split at q
  · rename_i u e
    cases q
    obtain ⟨v, Sa, Sb, Sc, h1, rfl, h2, h3⟩ := RepE.split R.rep e
    refine ⟨v, h1, k v F H (Sa ++ Sc) Sb (Same.refl _) (fun _ _ => rfl) ⟨(h3 F H (Same.refl _) fun _ _ => rfl).1, R.wd.sub fun a => by simp only [List.count_append]; omega, fun a ha => ?_⟩ h2 fun z => nomatch z⟩
    rcases List.mem_append.mp ha with z | z
    · exact Rep.tracked _ _ _ h2 a z
    · exact R.tr a z
  · cases q
theorem snd_op2 {r : R2} {g : D → D → Option T} (ho : OpF2 K r g) (ha : Snd K b1 ta ma) (hb : Snd K b2 tb mb) : Snd K (b1 && b2) (tOp r ta tb) (mOp2 g ma mb) := by
  intro F H A S σ ρ t ρ' R q Q k
  unfold mOp2 at q
  obtain ⟨⟨tx, ρ1⟩, e1, q⟩ := Option.bind_eq_some_iff.mp q
  obtain ⟨⟨ty, ρ2⟩, e2, q⟩ := Option.bind_eq_some_iff.mp q
  obtain ⟨d, e3, q⟩ := Option.bind_eq_some_iff.mp q
  obtain ⟨e, e4, q⟩ := Option.bind_eq_some_iff.mp q
  obtain ⟨u, e5, q⟩ := Option.map_eq_some_iff.mp q
  cases q
  refine ha F H A S σ ρ tx ρ1 R e1 _ fun x F1 H1 S1 Sx f1 k1 R1 r1 p1 => ?_
  refine hb F1 H1 _ S1 σ ρ1 ty ρ2 R1 e2 _ fun y F2 H2 S2 Sy f2 k2 R2' r2 p2 => ?_
  have r1' : Rep K F2 H2 tx x Sx := Rep.ext f2 tx x Sx (fun a h => k2 a (by simp [h])) r1
  have w : Wd F2 H2 ((Sx ++ Sy) ++ (A ++ S2)) := R2'.wd.sub fun a => by simp only [List.count_append]; omega
  have f3 := w.fz_same
  have m1 : RepD K (fz F2 H2 (Sx ++ Sy)) d x := Rep.frozen f3 tx x Sx d r1' (fun a h => fz_in (by simp [h])) e3
  have m2 : RepD K (fz F2 H2 (Sx ++ Sy)) e y := Rep.frozen f3 ty y Sy e r2 (fun a h => fz_in (by simp [h])) e4
  have R3 : RelE K (fz F2 H2 (Sx ++ Sy)) H2 A S2 σ ρ2 := ⟨RepE.ext f3 (fun _ _ => rfl) R2'.rep, w.fz, fun a h => R2'.tr a (by simp [h])⟩
  refine ho (fz F2 H2 (Sx ++ Sy)) H2 d x e y t w.fz.same m1 m2 e5 Q fun v F4 H4 Sv g4 n4 r4 => ?_
  refine k v F4 H4 S2 Sv (fun b o z => g4.f b o (f3 b o (f2 b o (f1 b o z)))) (fun a h => ?_) (g4.rel R3 n4 (Rep.tracked _ _ _ r4)) r4 fun z => ?_
  · rw [g4.keepA R3 a h, k2 a (by simp [h]), k1 a h]
  · obtain ⟨z1, z2⟩ := Bool.and_eq_true_iff.mp z
    obtain ⟨rfl, rfl, u1⟩ := p1 z1
    obtain ⟨rfl, rfl, u2⟩ := p2 z2
    exact ⟨rfl, rfl, fun a h => by rw [g4.keepS R3 a h, u2 a h, u1 a h]⟩
theorem snd_op1 {r : V → Hp → VK → Prop} {g : D → Option T} (ho : OpF1 K r g) (ha : Snd K b ta ma) : Snd K b (tUn r ta) (mOp1 g ma) := by
  intro F H A S σ ρ t ρ' R q Q k
  unfold mOp1 at q
  obtain ⟨⟨tx, ρ1⟩, e1, q⟩ := Option.bind_eq_some_iff.mp q
  obtain ⟨d, e3, q⟩ := Option.bind_eq_some_iff.mp q
  obtain ⟨u, e5, q⟩ := Option.map_eq_some_iff.mp q
  cases q
  refine ha F H A S σ ρ tx ρ1 R e1 _ fun x F1 H1 S1 Sx f1 k1 R1 r1 p1 => ?_
  have w : Wd F1 H1 (Sx ++ (A ++ S1)) := R1.wd.sub fun a => by simp only [List.count_append]; omega
  have f3 := w.fz_same
  have m1 : RepD K (fz F1 H1 Sx) d x := Rep.frozen f3 tx x Sx d r1 (fun a h => fz_in h) e3
  have R3 : RelE K (fz F1 H1 Sx) H1 A S1 σ ρ1 := ⟨RepE.ext f3 (fun _ _ => rfl) R1.rep, w.fz, fun a h => R1.tr a (by simp [h])⟩
  refine ho (fz F1 H1 Sx) H1 d x t w.fz.same m1 e5 Q fun v F4 H4 Sv g4 n4 r4 => ?_
  refine k v F4 H4 S1 Sv (fun b o z => g4.f b o (f3 b o (f1 b o z))) (fun a h => ?_) (g4.rel R3 n4 (Rep.tracked _ _ _ r4)) r4 fun z => ?_
  · rw [g4.keepA R3 a h, k1 a h]
  · obtain ⟨rfl, rfl, u1⟩ := p1 z
    exact ⟨rfl, rfl, fun a h => by rw [g4.keepS R3 a h, u1 a h]⟩
theorem sndA_nil : SndA K true tNil mNil := by
  intro F H A S σ ρ t ρ' R q Q k
  cases q
  exact k [] F H S [] (Same.refl _) (fun _ _ => rfl) (by simpa using R) ⟨rfl, rfl⟩ fun _ => ⟨rfl, rfl, fun _ _ => rfl⟩
theorem sndA_cons (ha : Snd K b1 ta ma) (hr : SndA K b2 tl ml) : SndA K (b1 && b2) (tCons ta tl) (mCons ma ml) := by
  intro F H A S σ ρ t ρ' R q Q k
  unfold mCons at q
  obtain ⟨⟨tx, ρ1⟩, e1, q⟩ := Option.bind_eq_some_iff.mp q
  obtain ⟨⟨ts, ρ2⟩, e2, q⟩ := Option.map_eq_some_iff.mp q
  cases q
  refine ha F H A S σ ρ tx ρ1 R e1 _ fun x F1 H1 S1 Sx f1 k1 R1 r1 p1 => ?_
  refine hr F1 H1 _ S1 σ ρ1 ts ρ2 R1 e2 _ fun vs F2 H2 S2 Sy f2 k2 R2' r2 p2 => ?_
  have r1' : Rep K F2 H2 tx x Sx := Rep.ext f2 tx x Sx (fun a h => k2 a (by simp [h])) r1
  refine k (x :: vs) F2 H2 S2 (Sx ++ Sy) (fun b o z => f2 b o (f1 b o z)) (fun a h => ?_) ⟨R2'.rep, R2'.wd.sub fun a => by simp only [List.count_append]; omega, fun a h => ?_⟩ ⟨x, vs, Sx, Sy, rfl, rfl, r1', r2⟩ fun z => ?_
  · rw [k2 a (by simp [h]), k1 a h]
  · refine R2'.tr a ?_
    rcases List.mem_append.mp h with z | z
    · rcases List.mem_append.mp z with y | y <;> simp [y]
    · simp [z]
  · obtain ⟨z1, z2⟩ := Bool.and_eq_true_iff.mp z
    obtain ⟨rfl, rfl, u1⟩ := p1 z1
    obtain ⟨rfl, rfl, u2⟩ := p2 z2
    exact ⟨rfl, rfl, fun a h => by rw [u2 a h, u1 a h]⟩
/-- frozen arguments to a built-in -/
theorem snd_opn {R : List V → Hp → VK → Prop} {g : List D → Option T} (ho : OpFn K R g) (ha : SndA K b tl ml) : Snd K b (tCB R tl) (mOpn g ml) := by
  intro F H A S σ ρ t ρ' R q Q k
  unfold mOpn at q
  obtain ⟨⟨ts, ρ1⟩, e1, q⟩ := Option.bind_eq_some_iff.mp q
  obtain ⟨ds, e3, q⟩ := Option.bind_eq_some_iff.mp q
  obtain ⟨u, e5, q⟩ := Option.map_eq_some_iff.mp q
  cases q
  refine ha F H A S σ ρ ts ρ1 R e1 _ fun vs F1 H1 S1 Sx f1 k1 R1 r1 p1 => ?_
  have w : Wd F1 H1 (Sx ++ (A ++ S1)) := R1.wd.sub fun a => by simp only [List.count_append]; omega
  obtain ⟨w3, f3, m1⟩ := frz_temps w r1 e3
  have R3 : RelE K (fz F1 H1 Sx) H1 A S1 σ ρ1 := ⟨RepE.ext f3 (fun _ _ => rfl) R1.rep, w3, fun a h => R1.tr a (by simp [h])⟩
  refine ho (fz F1 H1 Sx) H1 ds vs t w3.same m1 e5 Q fun v F4 H4 Sv g4 n4 r4 => ?_
  refine k v F4 H4 S1 Sv (fun b o z => g4.f b o (f3 b o (f1 b o z))) (fun a h => ?_) (g4.rel R3 n4 (Rep.tracked _ _ _ r4)) r4 fun z => ?_
  · rw [g4.keepA R3 a h, k1 a h]
  · obtain ⟨rfl, rfl, u1⟩ := p1 z
    exact ⟨rfl, rfl, fun a h => by rw [g4.keepS R3 a h, u1 a h]⟩
theorem T.allfr_rep {F H : Hp} : ∀ {ts : List T} {vs : List V} {S : List Addr} {ds : List D}, Reps K F H ts vs S → T.allfr ts = some ds → S = [] ∧ RepDs K F ds vs
  | [], _, _, _, h, e => by
    cases e
    exact ⟨h.2, h.1⟩
  | .fr d :: ts, _, _, ds, h, e => by
    obtain ⟨w, ws, S1, S2, rfl, rfl, h2, h3⟩ := h
    obtain ⟨es, e1, e2⟩ := Option.map_eq_some_iff.mp (show (T.allfr ts).map (d :: ·) = some ds from e)
    obtain ⟨rfl, h4⟩ := T.allfr_rep h3 e1
    subst e2
    exact ⟨by simp [h2.1], w, ws, rfl, h2.2, h4⟩
  | .lst _ :: ts, _, _, ds, h, e => by cases e
  | .dct _ _ :: ts, _, _, ds, h, e => by cases e
  | .obj _ _ _ :: ts, _, _, ds, h, e => by cases e
  | .tup _ :: ts, _, _, ds, h, e => by cases e
  | .hole :: ts, _, _, ds, h, e => by cases e
theorem snd_tup (ha : SndA K b tl ml) : Snd K b (tTup tl) (mTup ml) := by
  intro F H A S σ ρ t ρ' R q Q k
  unfold mTup at q
  obtain ⟨⟨ts, ρ1⟩, e1, q⟩ := Option.bind_eq_some_iff.mp q
  by_cases hl : ts.length ≤ 4096
  · rw [if_pos hl] at q
    cases q
    refine ha F H A S σ ρ ts ρ1 R e1 _ fun vs F1 H1 S1 Sx f1 k1 R1 r1 p1 => ?_
    have hlen := Reps.length r1
    refine ⟨by rw [hlen, sizeLine_eq]; omega, fun p hp => ?_⟩
    have hF : F1 p = none := R1.wd.same.free hp
    have hx := Reps.tracked _ _ _ r1
    have g := Gr.one (o := .tup vs) R1.wd.same hp
    have keep : ∀ a, H1 a ≠ none → (upd H1 p (.tup vs)) a = H1 a := fun a h => (g.k a h).1
    have r2 : Reps K (upd F1 p (.tup vs)) (upd H1 p (.tup vs)) ts vs Sx := Reps.ext g.f ts vs Sx (fun a h => keep a (hx a h)) r1
    have R2' : RelE K (upd F1 p (.tup vs)) (upd H1 p (.tup vs)) (Sx ++ A) S1 σ ρ1 := by
      have := g.rel R1 (Sv := []) Fresh.nil (fun a h => by cases h)
      simpa using this
    refine k (.ref p) _ _ S1 Sx (fun b o z => g.f b o (f1 b o z)) (fun a h => ?_) R2' ?_ fun z => ?_
    · rw [keep a (R1.tr a (by simp [h])), k1 a h]
    · show Rep K _ _ (T.mkTup ts) _ _
      unfold T.mkTup
      cases z : T.allfr ts with
      | none => exact ⟨p, vs, rfl, SqT.of upd_same, r2⟩
      | some ds =>
        obtain ⟨rfl, m⟩ := T.allfr_rep r2 z
        exact ⟨rfl, p, vs, rfl, SqT.of upd_same, m⟩
    · obtain ⟨rfl, rfl, u1⟩ := p1 z
      exact ⟨rfl, rfl, fun a h => by rw [keep a (RepE.tracked R1.rep a h), u1 a h]⟩
  · rw [if_neg hl] at q; cases q
theorem snd_lst (ha : SndA K b tl ml) : Snd K b (tLst tl) (mLst ml) := by
  intro F H A S σ ρ t ρ' R q Q k
  unfold mLst at q
  obtain ⟨⟨ts, ρ1⟩, e1, q⟩ := Option.bind_eq_some_iff.mp q
  by_cases hl : ts.length ≤ 4096
  · rw [if_pos hl] at q
    cases q
    refine ha F H A S σ ρ ts ρ1 R e1 _ fun vs F1 H1 S1 Sx f1 k1 R1 r1 p1 => ?_
    have hlen := Reps.length r1
    refine ⟨by rw [hlen, sizeLine_eq]; omega, fun p hp => ?_⟩
    have hF : F1 p = none := R1.wd.same.free hp
    have hx := Reps.tracked _ _ _ r1
    have g := Gr.own (o := .lst vs) R1.wd.same hp
    have keep : ∀ a, H1 a ≠ none → (upd H1 p (.lst vs)) a = H1 a := fun a h => (g.k a h).1
    have r2 : Reps K F1 (upd H1 p (.lst vs)) ts vs Sx := Reps.ext g.f ts vs Sx (fun a h => keep a (hx a h)) r1
    have R2' : RelE K F1 (upd H1 p (.lst vs)) ([p] ++ (Sx ++ A)) S1 σ ρ1 := g.rel R1 (Fresh.one' hp hF) (fun a h => by
      have : a = p := by simpa using h
      subst this; rw [upd_same]; exact fun z => by cases z)
    refine k (.ref p) _ _ S1 (p :: Sx) f1 (fun a h => ?_) (by simpa using R2') ⟨p, vs, Sx, rfl, upd_same, rfl, r2⟩ fun z => ?_
    · rw [keep a (R1.tr a (by simp [h])), k1 a h]
    · obtain ⟨rfl, rfl, u1⟩ := p1 z
      exact ⟨rfl, rfl, fun a h => by rw [keep a (RepE.tracked R1.rep a h), u1 a h]⟩
  · rw [if_neg hl] at q; cases q
end
end L3
namespace L3
open PySem PySem.Spec PyProof.Rows L2

section
variable {K : PySem.W.Frag} {b b1 b2 b3 : Bool} {ta tb tc te : TE} {ma mb mc : ME} {tt tu : TT} {mt mu : MT} {tl : TA} {ml : MA}
theorem rep_bl {F H : Hp} {k : Bool} {v : V} {S : List Addr} (h : Rep K F H (.fr (.bl k)) v S) : v = .bl k ∧ S = [] := ⟨h.2, h.1⟩
/-- in a row: the second's ends from the first's -/
theorem pure2 {ρ ρ1 ρ2 : Env} {S S1 S2 : List Addr} {H H1 H2 : Hp} (p1 : b1 = true → ρ1 = ρ ∧ S1 = S ∧ ∀ a ∈ S, H1 a = H a) (p2 : b2 = true → ρ2 = ρ1 ∧ S2 = S1 ∧ ∀ a ∈ S1, H2 a = H1 a) :
    (b1 && b2) = true → ρ2 = ρ ∧ S2 = S ∧ ∀ a ∈ S, H2 a = H a := fun z => by
  obtain ⟨z1, z2⟩ := Bool.and_eq_true_iff.mp z
  obtain ⟨rfl, rfl, u1⟩ := p1 z1
  obtain ⟨rfl, rfl, u2⟩ := p2 z2
  exact ⟨rfl, rfl, fun a h => by rw [u2 a h, u1 a h]⟩
theorem pureL {ρ ρ1 : Env} {S S1 : List Addr} {H H1 : Hp} (p1 : b1 = true → ρ1 = ρ ∧ S1 = S ∧ ∀ a ∈ S, H1 a = H a) : (b1 && b2) = true → ρ1 = ρ ∧ S1 = S ∧ ∀ a ∈ S, H1 a = H a := fun z => p1 (Bool.and_eq_true_iff.mp z).1
theorem snd_and (ha : Snd K b1 ta ma) (hb : Snd K b2 tb mb) : Snd K (b1 && b2) (tAndV ta tb) (mAnd ma mb) := by
  intro F H A S σ ρ t ρ' R q Q k
  unfold mAnd at q
  obtain ⟨⟨tx, ρ1⟩, e1, q⟩ := Option.bind_eq_some_iff.mp q
  refine ha F H A S σ ρ tx ρ1 R e1 _ fun x F1 H1 S1 Sx f1 k1 R1 r1 p1 => ?_
  split at q
  · rename_i e
    cases (show tx = _ from e)
    obtain ⟨rfl, rfl⟩ := rep_bl r1
    refine ⟨true, rfl, ?_⟩
    rw [if_pos rfl]
    exact hb F1 H1 A S1 σ ρ1 t ρ' (by simpa using R1) q _ fun y F2 H2 S2 Sy f2 k2 R2' r2 p2 => k y F2 H2 S2 Sy (f1.trans f2) (fun a h => (k2 a h).trans (k1 a h)) R2' r2 (pure2 p1 p2)
  · rename_i e
    cases (show tx = _ from e)
    obtain ⟨rfl, rfl⟩ := rep_bl r1
    cases q
    refine ⟨false, rfl, ?_⟩
    rw [if_neg (by decide)]
    exact k _ F1 H1 S1 [] f1 k1 R1 r1 (pureL p1)
  · cases q
theorem snd_or (ha : Snd K b1 ta ma) (hb : Snd K b2 tb mb) : Snd K (b1 && b2) (tOrV ta tb) (mOr ma mb) := by
  intro F H A S σ ρ t ρ' R q Q k
  unfold mOr at q
  obtain ⟨⟨tx, ρ1⟩, e1, q⟩ := Option.bind_eq_some_iff.mp q
  refine ha F H A S σ ρ tx ρ1 R e1 _ fun x F1 H1 S1 Sx f1 k1 R1 r1 p1 => ?_
  split at q
  · rename_i e
    cases (show tx = _ from e)
    obtain ⟨rfl, rfl⟩ := rep_bl r1
    refine ⟨false, rfl, ?_⟩
    rw [if_neg (by decide)]
    exact hb F1 H1 A S1 σ ρ1 t ρ' (by simpa using R1) q _ fun y F2 H2 S2 Sy f2 k2 R2' r2 p2 => k y F2 H2 S2 Sy (f1.trans f2) (fun a h => (k2 a h).trans (k1 a h)) R2' r2 (pure2 p1 p2)
  · rename_i e
    cases (show tx = _ from e)
    obtain ⟨rfl, rfl⟩ := rep_bl r1
    cases q
    refine ⟨true, rfl, ?_⟩
    rw [if_pos rfl]
    exact k _ F1 H1 S1 [] f1 k1 R1 r1 (pureL p1)
  · cases q
theorem snd_not (ha : Snd K b ta ma) : Snd K b (tNotV ta) (mNot ma) := by
  intro F H A S σ ρ t ρ' R q Q k
  unfold mNot at q
  obtain ⟨⟨tx, ρ1⟩, e1, q⟩ := Option.bind_eq_some_iff.mp q
  refine ha F H A S σ ρ tx ρ1 R e1 _ fun x F1 H1 S1 Sx f1 k1 R1 r1 p1 => ?_
  split at q
  · rename_i c e
    cases (show tx = _ from e)
    obtain ⟨rfl, rfl⟩ := rep_bl r1
    cases q
    exact ⟨c, rfl, k _ F1 H1 S1 [] f1 k1 R1 ⟨rfl, rfl⟩ p1⟩
  · cases q
theorem snd_if (hc : SndT K b1 tt mt) (ha : Snd K b2 ta ma) (hb : Snd K b3 tb mb) : Snd K (b1 && (b2 && b3)) (tIf tt ta tb) (mIf mt ma mb) := by
  intro F H A S σ ρ t ρ' R q Q k
  unfold mIf at q
  obtain ⟨⟨c, ρ1⟩, e1, q⟩ := Option.bind_eq_some_iff.mp q
  refine hc F H A S σ ρ c ρ1 R e1 _ fun F1 H1 S1 f1 k1 R1 p1 => ?_
  cases c with
  | true =>
    rw [if_pos rfl] at q ⊢
    exact ha F1 H1 A S1 σ ρ1 t ρ' R1 q _ fun y F2 H2 S2 Sy f2 k2 R2' r2 p2 => k y F2 H2 S2 Sy (f1.trans f2) (fun a h => (k2 a h).trans (k1 a h)) R2' r2 (pure2 p1 (pureL p2))
  | false =>
    rw [if_neg Bool.false_ne_true] at q ⊢
    exact hb F1 H1 A S1 σ ρ1 t ρ' R1 q _ fun y F2 H2 S2 Sy f2 k2 R2' r2 p2 => k y F2 H2 S2 Sy (f1.trans f2) (fun a h => (k2 a h).trans (k1 a h)) R2' r2 fun z => by
      obtain ⟨z1, z2⟩ := Bool.and_eq_true_iff.mp z
      exact pure2 p1 p2 (by rw [z1, (Bool.and_eq_true_iff.mp z2).2] <;> rfl)
theorem sndT_test (ha : Snd K b ta ma) : SndT K b (tTest ta) (mTest ma) := by
  intro F H A S σ ρ c ρ' R q Q k
  unfold mTest at q
  obtain ⟨⟨tx, ρ1⟩, e1, q⟩ := Option.bind_eq_some_iff.mp q
  refine ha F H A S σ ρ tx ρ1 R e1 _ fun x F1 H1 S1 Sx f1 k1 R1 r1 p1 => ?_
  split at q
  · rename_i c e
    cases (show tx = _ from e)
    obtain ⟨rfl, rfl⟩ := rep_bl r1
    cases q
    exact ⟨c, rfl, k F1 H1 S1 f1 k1 (by simpa using R1) p1⟩
  · cases q
theorem sndT_and (ha : SndT K b1 tt mt) (hb : SndT K b2 tu mu) : SndT K (b1 && b2) (tAnd tt tu) (mTAnd mt mu) := by
  intro F H A S σ ρ c ρ' R q Q k
  unfold mTAnd at q
  obtain ⟨⟨d, ρ1⟩, e1, q⟩ := Option.bind_eq_some_iff.mp q
  refine ha F H A S σ ρ d ρ1 R e1 _ fun F1 H1 S1 f1 k1 R1 p1 => ?_
  cases d with
  | true =>
    rw [if_pos rfl] at q ⊢
    exact hb F1 H1 A S1 σ ρ1 c ρ' R1 q _ fun F2 H2 S2 f2 k2 R2' p2 => k F2 H2 S2 (f1.trans f2) (fun a h => (k2 a h).trans (k1 a h)) R2' (pure2 p1 p2)
  | false =>
    rw [if_neg Bool.false_ne_true] at q ⊢
    cases q
    exact k F1 H1 S1 f1 k1 R1 (pureL p1)
theorem sndT_or (ha : SndT K b1 tt mt) (hb : SndT K b2 tu mu) : SndT K (b1 && b2) (tOr tt tu) (mTOr mt mu) := by
  intro F H A S σ ρ c ρ' R q Q k
  unfold mTOr at q
  obtain ⟨⟨d, ρ1⟩, e1, q⟩ := Option.bind_eq_some_iff.mp q
  refine ha F H A S σ ρ d ρ1 R e1 _ fun F1 H1 S1 f1 k1 R1 p1 => ?_
  cases d with
  | true =>
    rw [if_pos rfl] at q ⊢
    cases q
    exact k F1 H1 S1 f1 k1 R1 (pureL p1)
  | false =>
    rw [if_neg Bool.false_ne_true] at q ⊢
    exact hb F1 H1 A S1 σ ρ1 c ρ' R1 q _ fun F2 H2 S2 f2 k2 R2' p2 => k F2 H2 S2 (f1.trans f2) (fun a h => (k2 a h).trans (k1 a h)) R2' (pure2 p1 p2)
theorem sndT_not (ha : SndT K b tt mt) : SndT K b (tNot tt) (mTNot mt) := by
  intro F H A S σ ρ c ρ' R q Q k
  unfold mTNot at q
  obtain ⟨⟨d, ρ1⟩, e1, q⟩ := Option.map_eq_some_iff.mp q
  cases q
  exact ha F H A S σ ρ d ρ1 R e1 _ fun F1 H1 S1 f1 k1 R1 p1 => k F1 H1 S1 f1 k1 R1 p1
theorem T.truth_rep {F H : Hp} (w : Same F H) : ∀ {t : T} {v : V} {S : List Addr} {c : Bool}, Rep K F H t v S → t.truth = some c → TruV K v H c
  | .fr .non, _, _, _, ⟨_, r⟩, q => by
    cases q
    rw [show _ = V.non from r]
    exact (rfl : false = false)
  | .fr (.bl b), _, _, _, ⟨_, r⟩, q => by
    cases q
    rw [show _ = V.bl b from r]
    exact (rfl : b = b)
  | .fr (.int i), _, _, _, ⟨_, r⟩, q => by
    cases q
    rw [show _ = V.int i from r]
    exact (rfl : (i != 0) = (i != 0))
  | .fr (.str x), _, _, _, _, q => by cases q
  | .fr (.ty x), _, _, _, _, q => by cases q
  | .fr (.tup ds), _, _, _, ⟨_, r⟩, q => by
    cases q
    obtain ⟨a, vs, rfl, h2, h3⟩ := r
    refine .inr (.inl ⟨vs, Same.sqt w h2, ?_⟩)
    have := h3.length
    cases vs <;> cases ds <;> simp at this ⊢
  | .fr (.lst ds), _, _, _, ⟨_, r⟩, q => by
    cases q
    obtain ⟨a, vs, rfl, h2, h3⟩ := r
    refine .inl ⟨vs, SqL.of (w _ _ h2), ?_⟩
    have := h3.length
    cases vs <;> cases ds <;> simp at this ⊢
  | .fr (.rol ds), _, _, _, ⟨_, r⟩, q => by
    cases q
    obtain ⟨a, vs, rfl, h2, h3⟩ := r
    refine .inl ⟨vs, Same.sql w h2, ?_⟩
    have := h3.length
    cases vs <;> cases ds <;> simp at this ⊢
  | .fr (.dct _ _), _, _, _, _, q => by cases q
  | .fr (.obj _ _ _), _, _, _, _, q => by cases q
  | .lst ts, _, _, _, r, q => by
    cases q
    obtain ⟨a, vs, S', rfl, h2, _, h3⟩ := r
    refine .inl ⟨vs, SqL.of h2, ?_⟩
    have := h3.length
    cases vs <;> cases ts <;> simp at this ⊢
  | .dct _ _, _, _, _, _, q => by cases q
  | .obj _ _ _, _, _, _, _, q => by cases q
  | .tup _, _, _, _, _, q => by cases q
  | .hole, _, _, _, _, q => by cases q
theorem sndT_truth (ha : Snd K b ta ma) : SndT K b (fun σ H Q => ta σ H fun x H' => ∃ k, TruV K x H' k ∧ Q k H') (mTruth ma) := by
  intro F H A S σ ρ c ρ' R q Q k
  unfold mTruth at q
  obtain ⟨⟨tx, ρ1⟩, e1, q⟩ := Option.bind_eq_some_iff.mp q
  obtain ⟨d, e2, q⟩ := Option.map_eq_some_iff.mp q
  cases q
  exact ha F H A S σ ρ tx ρ1 R e1 _ fun x F1 H1 S1 Sx f1 k1 R1 r1 p1 => ⟨c, T.truth_rep R1.wd.same r1 e2, k F1 H1 S1 f1 k1 ⟨R1.rep, R1.wd.sub fun a => by simp only [List.count_append]; omega, fun a h => R1.tr a (by simp [h])⟩ p1⟩
theorem snd_chain {r r' : R2} {g g' : D → D → Option T} (ho : OpF2 K r g) (ho' : OpF2 K r' g') (ha : Snd K b1 ta ma) (hb : Snd K b2 tb mb) (hc : Snd K b3 tc mc) :
    Snd K ((b1 && b2) && b3) (tChain r r' ta tb tc) (mChain g g' ma mb mc) := by
  intro F H A S σ ρ t ρ' R q Q k
  unfold mChain at q
  obtain ⟨⟨tx, ρ1⟩, e1, q⟩ := Option.bind_eq_some_iff.mp q
  obtain ⟨⟨ty, ρ2⟩, e2, q⟩ := Option.bind_eq_some_iff.mp q
  obtain ⟨d, e3, q⟩ := Option.bind_eq_some_iff.mp q
  obtain ⟨e, e4, q⟩ := Option.bind_eq_some_iff.mp q
  obtain ⟨u, e5, q⟩ := Option.bind_eq_some_iff.mp q
  refine ha F H A S σ ρ tx ρ1 R e1 _ fun x F1 H1 S1 Sx f1 k1 R1 r1 p1 => ?_
  refine hb F1 H1 _ S1 σ ρ1 ty ρ2 R1 e2 _ fun y F2 H2 S2 Sy f2 k2 R2' r2 p2 => ?_
  have r1' : Rep K F2 H2 tx x Sx := Rep.ext f2 tx x Sx (fun a h => k2 a (by simp [h])) r1
  have w : Wd F2 H2 ((Sx ++ Sy) ++ (A ++ S2)) := R2'.wd.sub fun a => by simp only [List.count_append]; omega
  have f3 := w.fz_same
  have m1 : RepD K (fz F2 H2 (Sx ++ Sy)) d x := Rep.frozen f3 tx x Sx d r1' (fun a h => fz_in (by simp [h])) e3
  have m2 : RepD K (fz F2 H2 (Sx ++ Sy)) e y := Rep.frozen f3 ty y Sy e r2 (fun a h => fz_in (by simp [h])) e4
  have R3 : RelE K (fz F2 H2 (Sx ++ Sy)) H2 A S2 σ ρ2 := ⟨RepE.ext f3 (fun _ _ => rfl) R2'.rep, w.fz, fun a h => R2'.tr a (by simp [h])⟩
  have p12 := pure2 p1 p2
  refine ho (fz F2 H2 (Sx ++ Sy)) H2 d x e y u w.fz.same m1 m2 e5 _ fun v F4 H4 Sv g4 n4 r4 => ?_
  have R4 : RelE K F4 H4 A S2 σ ρ2 := by
    have := g4.rel R3 (Sv := []) Fresh.nil (fun a h => by cases h)
    simpa using this
  have f4 : Same F F4 := fun b o z => g4.f b o (f3 b o (f2 b o (f1 b o z)))
  have k4 : ∀ a ∈ A, H4 a = H a := fun a h => by rw [g4.keepA R3 a h, k2 a (by simp [h]), k1 a h]
  have p4 : (b1 && b2) = true → ρ2 = ρ ∧ S2 = S ∧ ∀ a ∈ S, H4 a = H a := fun z => by
    obtain ⟨z1, z2, z3⟩ := p12 z
    exact ⟨z1, z2, fun a h => by rw [g4.keepS R3 a (by rw [z2]; exact h), z3 a h]⟩
  split at q
  · obtain ⟨rfl, rfl⟩ := rep_bl r4
    obtain ⟨⟨tz, ρ3⟩, e6, q⟩ := Option.bind_eq_some_iff.mp q
    obtain ⟨f, e7, q⟩ := Option.bind_eq_some_iff.mp q
    obtain ⟨u2, e8, q⟩ := Option.map_eq_some_iff.mp q
    cases q
    refine ⟨true, rfl, ?_⟩
    rw [if_pos rfl]
    refine hc F4 H4 A S2 σ ρ2 tz ρ3 R4 e6 _ fun z F5 H5 S5 Sz f5 k5 R5 r5 p5 => ?_
    have w5 : Wd F5 H5 (Sz ++ (A ++ S5)) := R5.wd.sub fun a => by simp only [List.count_append]; omega
    have f6 := w5.fz_same
    have m5 : RepD K (fz F5 H5 Sz) f z := Rep.frozen f6 tz z Sz f r5 (fun a h => fz_in h) e7
    have m2' : RepD K (fz F5 H5 Sz) e y := RepD.mono f6 e y (RepD.mono f5 e y (RepD.mono g4.f e y m2))
    have R6 : RelE K (fz F5 H5 Sz) H5 A S5 σ ρ3 := ⟨RepE.ext f6 (fun _ _ => rfl) R5.rep, w5.fz, fun a h => R5.tr a (by simp [h])⟩
    refine ho' (fz F5 H5 Sz) H5 e y f z t w5.fz.same m2' m5 e8 Q fun v F7 H7 Sv7 g7 n7 r7 => ?_
    refine k v F7 H7 S5 Sv7 (fun b o z => g7.f b o (f6 b o (f5 b o (f4 b o z)))) (fun a h => ?_) (g7.rel R6 n7 (Rep.tracked _ _ _ r7)) r7 fun z => ?_
    · rw [g7.keepA R6 a h, k5 a h, k4 a h]
    · obtain ⟨z1, z2, z3⟩ := pure2 p4 p5 z
      exact ⟨z1, z2, fun a h => by rw [g7.keepS R6 a (by rw [z2]; exact h), z3 a h]⟩
  · obtain ⟨rfl, rfl⟩ := rep_bl r4
    cases q
    refine ⟨false, rfl, ?_⟩
    rw [if_neg (by decide)]
    exact k _ F4 H4 S2 [] f4 k4 (by simpa using R4) r4 (pureL p4)
  · cases q
end

/-! ### places -/
def Pl.nrm (p : Pl) (ρ : Env) : Option Pl := match p.get ρ with
  | some (.fr d) => some (.val d)
  | some _ => some p
  | none => none
def pName (i : Nat) : MP := fun ρ => (Pl.plc i []).nrm ρ
def D.fld (c f : Str) : D → Option D
  | .obj c' fs ds => if c' = c then (kidx f fs).bind fun k => ds[k]? else none
  | _ => none
def T.isObj (c : Str) : T → Bool
  | .obj c' _ _ => decide (c' = c)
  | _ => false
def pFld (c : Str) (mp : MP) (f : Str) : MP := fun ρ => (mp ρ).bind fun p => match p with
  | .val d => (d.fld c f).map .val
  | .plc i π => ((Pl.plc i π).get ρ).bind fun t => if t.isObj c = true then (Pl.plc i (π ++ [.fld f])).nrm ρ else none
/-- the step that an index means at an owned thing -/
def T.stp : T → D → Option Stp
  | .lst ts, .int k => (ixN ts.length k).map .ix
  | .dct _ _, .int k => some (.key (.inl k))
  | .dct _ _, .str x => some (.key (.inr x))
  | _, _ => none
def D.item : D → D → Option D
  | .tup ds, .int k => atI ds k
  | .lst ds, .int k => atI ds k
  | .rol ds, .int k => atI ds k
  | .str x, .int k => if x.length ≤ 4096 then (atI x.cps.toList k).map fun c => .str ⟨#[c]⟩ else none
  | .dct ks ds, .int k => (kidx (.inl k) ks).bind fun j => ds[j]?
  | .dct ks ds, .str x => (kidx (.inr x) ks).bind fun j => ds[j]?
  | _, _ => none
def pIdx (mp : MP) (mi : ME) : MP := fun ρ => (mp ρ).bind fun p => (mi ρ).bind fun q => match q.1 with
  | .fr e => match p with
    | .val d => (d.item e).map .val
    | .plc i π => ((Pl.plc i π).get ρ).bind fun t => (t.stp e).bind fun s => (Pl.plc i (π ++ [s])).nrm ρ
  | _ => none
/-- the thing at a place as a value: what is owned there is frozen -/
def mPl (mp : MP) : ME := fun ρ => (mp ρ).bind fun p => match p with
  | .val d => some (.fr d, ρ)
  | .plc i π => match ρ[i]? with
    | some (some t) => (t.get π).bind fun u => u.frz.map fun d => (.fr d, ρ.set i (some (t.put (.fr d) π)))
    | _ => none
/-- .. where it is frozen already -/
def mPlP (mp : MP) : ME := fun ρ => (mp ρ).bind fun p => match p with
  | .val d => some (.fr d, ρ)
  | _ => none
theorem T.get_append : ∀ {π : Path} {t u : T} {π' : Path}, t.get π = some u → t.get (π ++ π') = u.get π'
  | [], t, u, _, h => by
    have : t = u := Option.some.inj h
    subst this; rfl
  | s :: π, t, u, π', h => by
    have h' : (match t.sub s with | some x => x.get π | none => none) = some u := h
    show (match t.sub s with | some x => x.get (π ++ π') | none => none) = u.get π'
    cases z : t.sub s with
    | none => rw [z] at h'; cases h'
    | some x => rw [z] at h'; exact T.get_append h'
end L3
namespace L3
open PySem PySem.Spec PyProof.Rows L2

section
variable {K : PySem.W.Frag} {b b1 b2 b3 : Bool} {ta tb tc te : TE} {ma mb mc mi : ME} {mp : MP}
/-- what stands at a place of the slots -/
theorem RelE.at_ {F H : Hp} {A S : List Addr} {σ : Sg} {ρ : Env} (R : RelE K F H A S σ ρ) {i : Nat} {π : Path} {t : T} (e : (Pl.plc i π).get ρ = some t) :
    ∃ t0 v0 w Sa Sb Sc, ρ[i]? = some (some t0) ∧ σ[i]? = some (some v0) ∧ t0.get π = some t ∧ S = Sa ++ (Sb ++ Sc) ∧ Rep K F H t w Sb ∧ (∀ H' : Hp, (∀ a ∈ S, H' a = H a) → Lcn H' π v0 w) ∧
      ∀ (F' H' : Hp), Same F F' → (∀ a ∈ Sa ++ Sc, H' a = H a) → ∀ t' S', Rep K F' H' t' w S' → RepE K F' H' σ (ρ.set i (some (t0.put t' π))) (Sa ++ (S' ++ Sc)) := by
  have e' : (match ρ[i]? with | some (some t0) => t0.get π | _ => none) = some t := e
  cases z : ρ[i]? with
  | none => rw [z] at e'; cases e'
  | some o =>
    cases o with
    | none => rw [z] at e'; cases e'
    | some t0 =>
      rw [z] at e'
      obtain ⟨v0, Sa, Sb, Sc, h1, rfl, h2, h3⟩ := RepE.split R.rep z
      obtain ⟨w, Ta, Tb, Tc, l1, rfl, l3, l4⟩ := Rep.path h2 e'
      refine ⟨t0, v0, w, Sa ++ Ta, Tb, Tc ++ Sc, rfl, h1, e', by simp, l3, fun H' k => l1 H' fun a ha => k a ?_, fun F' H' f k t' S' r => ?_⟩
      · rcases List.mem_append.mp ha with y | y
        · simp [y]
        · rcases List.mem_append.mp y with y | y <;> simp [y]
      · have r1 := l4 F' H' f (fun a ha => k a (by rcases List.mem_append.mp ha with y | y <;> simp [y])) t' S' r
        have r2 := (h3 F' H' f (fun a ha => k a (by rcases List.mem_append.mp ha with y | y <;> simp [y]))).2 _ _ r1
        simpa using r2
theorem Pl.nrm_cases {p p' : Pl} {ρ : Env} (h : p.nrm ρ = some p') : (∃ d, p.get ρ = some (.fr d) ∧ p' = .val d) ∨ (∃ t, p.get ρ = some t ∧ (∀ d, t ≠ .fr d) ∧ p' = p) := by
  unfold Pl.nrm at h
  cases z : p.get ρ with
  | none => rw [z] at h; cases h
  | some t =>
    rw [z] at h
    cases t with
    | fr d => cases h; exact .inl ⟨d, rfl, rfl⟩
    | _ => cases h; exact .inr ⟨_, rfl, (fun d q => by cases q), rfl⟩
/-- the normal form of a place holds of the value that stands there -/
theorem AtP.nrm {F H : Hp} {A S : List Addr} {σ : Sg} {ρ : Env} (R : RelE K F H A S σ ρ) {i : Nat} {π : Path} {p : Pl} {v0 w : V} (h : (Pl.plc i π).nrm ρ = some p) (hv : σ[i]? = some (some v0)) (hl : Lcn H π v0 w) : AtP K F H σ p w := by
  rcases Pl.nrm_cases h with ⟨d, e, rfl⟩ | ⟨t, e, _, rfl⟩
  · obtain ⟨t0, v1, w1, Sa, Sb, Sc, q1, q2, q3, q4, q5, q6, q7⟩ := R.at_ e
    rw [hv] at q2
    cases q2
    have := hl.inj (q6 H fun _ _ => rfl)
    subst this
    exact q5.2
  · exact ⟨v0, hv, hl⟩
theorem sndP_name {i : Nat} : SndP K (tVar i) (pName i) := by
  intro F H A S σ ρ p R q Q k
  have : ∃ t, (Pl.plc i []).get ρ = some t := by
    rcases Pl.nrm_cases q with ⟨d, e, _⟩ | ⟨t, e, _⟩
    · exact ⟨_, e⟩
    · exact ⟨_, e⟩
  obtain ⟨t, e⟩ := this
  obtain ⟨t0, v0, w, Sa, Sb, Sc, q1, q2, q3, q4, q5, q6, q7⟩ := R.at_ e
  have h : w = v0 := (q6 H fun _ _ => rfl)
  subst h
  exact ⟨w, q2, k w F H (Same.refl _) (fun _ _ => rfl) R (AtP.nrm R q q2 rfl)⟩
theorem AtP.same {F H : Hp} {A S : List Addr} {σ : Sg} {ρ : Env} (R : RelE K F H A S σ ρ) {i : Nat} {π : Path} {x : V} {t : T} (h : AtP K F H σ (.plc i π) x) (e : (Pl.plc i π).get ρ = some t) :
    ∃ t0 v0 Sa Sb Sc, ρ[i]? = some (some t0) ∧ σ[i]? = some (some v0) ∧ t0.get π = some t ∧ S = Sa ++ (Sb ++ Sc) ∧ Rep K F H t x Sb ∧ (∀ H' : Hp, (∀ a ∈ S, H' a = H a) → Lcn H' π v0 x) ∧
      ∀ (F' H' : Hp), Same F F' → (∀ a ∈ Sa ++ Sc, H' a = H a) → ∀ t' S', Rep K F' H' t' x S' → RepE K F' H' σ (ρ.set i (some (t0.put t' π))) (Sa ++ (S' ++ Sc)) := by
  obtain ⟨t0, v0, w, Sa, Sb, Sc, q1, q2, q3, q4, q5, q6, q7⟩ := R.at_ e
  obtain ⟨v1, h1, h2⟩ := h
  rw [q2] at h1
  cases h1
  have := h2.inj (q6 H fun _ _ => rfl)
  subst this
  exact ⟨t0, v0, Sa, Sb, Sc, q1, q2, q3, q4, q5, q6, q7⟩
theorem sndP_fld {c f : Str} (hc : Cls K (He.ga K c)) (hn : NoAttr K (He.ga K c) f) (ha : SndP K ta mp) : SndP K (tFld K ta f) (pFld c mp f) := by
  intro F H A S σ ρ p' R q Q k
  unfold pFld at q
  obtain ⟨p, e1, q⟩ := Option.bind_eq_some_iff.mp q
  refine ha F H A S σ ρ p R e1 _ fun x F1 H1 f1 k1 R1 a1 => ?_
  cases p with
  | val d =>
    obtain ⟨e, e2, rfl⟩ := Option.map_eq_some_iff.mp q
    have a1' : RepD K F1 d x := a1
    cases d with
    | obj c' fs ds =>
      obtain ⟨a, dx, vs, rfl, h2, h3, h4⟩ := a1'
      have e2' : (if c' = c then (kidx f fs).bind fun k => ds[k]? else none) = some e := e2
      by_cases z : c' = c
      · subst z
        rw [if_pos rfl] at e2'
        obtain ⟨j, e3, e4⟩ := Option.bind_eq_some_iff.mp e2'
        obtain ⟨w, e5, e6⟩ := h4.get e4
        exact ⟨a, _, dx, _, w, rfl, R1.wd.same _ _ h2, hc, hn, by rw [lookup_zip e3]; exact e5, k w F1 H1 f1 k1 R1 e6⟩
      · rw [if_neg z] at e2'; cases e2'
    | _ => cases e2
  | plc i π =>
    have q' : (((Pl.plc i π).get ρ).bind fun t => if t.isObj c = true then (Pl.plc i (π ++ [.fld f])).nrm ρ else none) = some p' := q
    clear q
    obtain ⟨t, e2, q⟩ := Option.bind_eq_some_iff.mp q'
    clear q'
    have q' := q
    clear q
    obtain ⟨t0, v0, Sa, Sb, Sc, q1, q2, q3, q4, q5, q6, q7⟩ := AtP.same R1 a1 e2
    by_cases hz : t.isObj c = true
    · rw [if_pos hz] at q'
      cases t with
      | obj c' fs ts =>
        have hz' : c' = c := of_decide_eq_true hz
        subst hz'
        have hs : ∃ t1, (T.obj c' fs ts).sub (.fld f) = some t1 := by
          have : ∃ t1, (Pl.plc i (π ++ [.fld f])).get ρ = some t1 := by
            rcases Pl.nrm_cases q' with ⟨d, e, _⟩ | ⟨t, e, _⟩
            · exact ⟨_, e⟩
            · exact ⟨_, e⟩
          obtain ⟨t1, e⟩ := this
          have e' : t0.get (π ++ [.fld f]) = some t1 := by
            have e'' : (match ρ[i]? with | some (some t0) => t0.get (π ++ [.fld f]) | _ => none) = some t1 := e
            rw [q1] at e''; exact e''
          rw [T.get_append q3] at e'
          have e3 : (match (T.obj c' fs ts).sub (.fld f) with | some x => x.get [] | none => none) = some t1 := e'
          cases z : (T.obj c' fs ts).sub (.fld f) with
          | none => rw [z] at e3; cases e3
          | some u => exact ⟨u, rfl⟩
        obtain ⟨t1, hs⟩ := hs
        obtain ⟨w, _, _, _, l1, _⟩ := Rep.step q5 hs
        have l2 := l1 H1 fun _ _ => rfl
        obtain ⟨a, dx, vs, S', rfl, h2, h4, rfl, h3⟩ := q5
        obtain ⟨a', C', dx', fs', e5, e6, e7⟩ := l2
        cases e5
        rw [h2] at e6
        cases e6
        refine ⟨a, _, dx, _, w, rfl, h2, hc, hn, e7, k w F1 H1 f1 k1 R1 (AtP.nrm R1 q' q2 ((q6 H1 fun _ _ => rfl).snoc (show Lcn1 H1 (.fld f) (.ref a) w from ⟨a, _, dx, _, rfl, h2, e7⟩)))⟩
      | _ => exact absurd hz Bool.false_ne_true
    · rw [if_neg hz] at q'; cases q'
/-- two readings of one expression -/
def tAlt (t u : TE) : TE := fun σ H Q => t σ H Q ∨ u σ H Q
theorem pe_alt {X : Cx} {e : Expr} {t u : TE} (h : PE X e t) (h' : PE X e u) : PE X e (tAlt t u) := ⟨fun pins s σ H Q I q => q.elim (h.run pins s σ H Q I) (h'.run pins s σ H Q I)⟩
def tIdx (K : PySem.W.Frag) (ta ti : TE) : TE := tAlt (tOp (rIx K) ta ti) (tDGet ta ti)
theorem pe_idx {X : Cx} {a i : Expr} {pos : Pos} {ti : TE} (hu : X.A.units + 1 < cLine) (ha : PE X a ta) (hi : PE X i ti) (hs : PlainIx i) : PE X (.Subscript a i pos) (tIdx X.K ta ti) :=
  pe_alt (pe_ix ix_seq ha hi hs) (pe_dget hu ha hi hs)
theorem atI_rep {F : Hp} {ds : List D} {vs : List V} {i : Int} {d : D} (h : RepDs K F ds vs) (e : atI ds i = some d) : ∃ v, atI vs i = some v ∧ RepD K F d v := by
  unfold atI at e
  obtain ⟨j, e1, e2⟩ := Option.bind_eq_some_iff.mp e
  obtain ⟨v, e3, e4⟩ := h.get e2
  exact ⟨v, by unfold atI; rw [h.length, e1]; exact e3, e4⟩
def D.isDct : D → Bool
  | .dct _ _ => true
  | _ => false
/-- an item of frozen data -/
theorem item_rep {F H : Hp} {d e r : D} {x y : V} (s : Same F H) (hd : RepD K F d x) (he : RepD K F e y) (q : d.item e = some r) :
    ∃ v, RepD K F r v ∧ (if d.isDct = true then ∃ a, x = .ref a ∧ DGet H a y (some v) else ∀ Q : VK, Q v H → rIx K x y H Q) := by
  cases d with
  | tup ds =>
    cases e with
    | int k =>
      obtain ⟨a, vs, rfl, h2, h3⟩ := hd
      cases (show y = .int k from he)
      obtain ⟨v, e1, e2⟩ := atI_rep h3 (show atI ds k = some r from q)
      exact ⟨v, e2, fun Q z => .inr (.inl ⟨a, vs, k, v, rfl, rfl, Same.sqt s h2, e1, z⟩)⟩
    | _ => cases q
  | lst ds =>
    cases e with
    | int k =>
      obtain ⟨a, vs, rfl, h2, h3⟩ := hd
      cases (show y = .int k from he)
      obtain ⟨v, e1, e2⟩ := atI_rep h3 (show atI ds k = some r from q)
      exact ⟨v, e2, fun Q z => .inl ⟨a, vs, k, v, rfl, rfl, SqL.of (s _ _ h2), e1, z⟩⟩
    | _ => cases q
  | rol ds =>
    cases e with
    | int k =>
      obtain ⟨a, vs, rfl, h2, h3⟩ := hd
      cases (show y = .int k from he)
      obtain ⟨v, e1, e2⟩ := atI_rep h3 (show atI ds k = some r from q)
      exact ⟨v, e2, fun Q z => .inl ⟨a, vs, k, v, rfl, rfl, Same.sql s h2, e1, z⟩⟩
    | _ => cases q
  | str x =>
    cases e with
    | int k =>
      cases (show _ = V.str x from hd)
      cases (show y = .int k from he)
      have q' : (if x.length ≤ 4096 then (atI x.cps.toList k).map fun c => D.str ⟨#[c]⟩ else none) = some r := q
      by_cases z : x.length ≤ 4096
      · rw [if_pos z] at q'
        obtain ⟨c, e1, rfl⟩ := Option.map_eq_some_iff.mp q'
        exact ⟨_, rfl, fun Q h => .inr (.inr ⟨x, k, c, rfl, rfl, by rw [sizeLine_eq]; omega, e1, h⟩)⟩
      · rw [if_neg z] at q'; cases q'
    | _ => cases q
  | dct ks ds =>
    obtain ⟨a, vs, rfl, h2, h3, h4⟩ := hd
    cases e with
    | int k =>
      cases (show y = .int k from he)
      obtain ⟨j, e1, e2⟩ := Option.bind_eq_some_iff.mp (show ((kidx (.inl k) ks).bind fun j => ds[j]?) = some r from q)
      obtain ⟨v, e3, e4⟩ := h4.get e2
      exact ⟨v, e4, ⟨a, rfl, .inl ⟨_, .inl k, Same.rd s h2, rfl, by rw [valV_zip e1, e3]⟩⟩⟩
    | str z =>
      cases (show y = .str z from he)
      obtain ⟨j, e1, e2⟩ := Option.bind_eq_some_iff.mp (show ((kidx (.inr z) ks).bind fun j => ds[j]?) = some r from q)
      obtain ⟨v, e3, e4⟩ := h4.get e2
      exact ⟨v, e4, ⟨a, rfl, .inl ⟨_, .inr z, Same.rd s h2, rfl, by rw [valV_zip e1, e3]⟩⟩⟩
    | _ => cases q
  | _ => cases e <;> cases q
end
end L3
namespace L3
open PySem PySem.Spec PyProof.Rows L2

def T.isDct : T → Bool
  | .fr d => d.isDct
  | .dct _ _ => true
  | _ => false
section
variable {K : PySem.W.Frag} {b b1 b2 b3 : Bool} {ta tb tc te ti : TE} {ma mb mc mi : ME} {mp : MP}
theorem Pl.nrm_get {p p' : Pl} {ρ : Env} (h : p.nrm ρ = some p') : ∃ t, p.get ρ = some t := by
  rcases Pl.nrm_cases h with ⟨d, e, _⟩ | ⟨t, e, _⟩
  · exact ⟨_, e⟩
  · exact ⟨_, e⟩
theorem get_step {ρ : Env} {i : Nat} {π : Path} {s : Stp} {t0 t t1 : T} (h1 : ρ[i]? = some (some t0)) (h2 : t0.get π = some t) (h : (Pl.plc i (π ++ [s])).get ρ = some t1) : t.sub s = some t1 := by
  have e : (match ρ[i]? with | some (some t0) => t0.get (π ++ [s]) | _ => none) = some t1 := h
  rw [h1] at e
  have e' : t0.get (π ++ [s]) = some t1 := e
  rw [T.get_append h2] at e'
  have e3 : (match t.sub s with | some x => x.get [] | none => none) = some t1 := e'
  cases z : t.sub s with
  | none => rw [z] at e3; cases e3
  | some u => rw [z] at e3; exact e3
/-- an item of an owned thing -/
theorem stp_rep {F H : Hp} {t t1 : T} {e : D} {s : Stp} {x y : V} {S : List Addr} (hr : Rep K F H t x S) (hs : t.stp e = some s) (h1 : t.sub s = some t1) (he : RepD K F e y) :
    ∃ w, Lcn1 H s x w ∧ (if t.isDct = true then ∃ a, x = .ref a ∧ DGet H a y (some w) else ∀ Q : VK, Q w H → rIx K x y H Q) := by
  obtain ⟨w, _, _, _, l1, _⟩ := Rep.step hr h1
  have l2 := l1 H fun _ _ => rfl
  cases t with
  | lst ts =>
    cases e with
    | int k =>
      obtain ⟨a, vs, S', rfl, h2, rfl, h3⟩ := hr
      cases (show y = .int k from he)
      obtain ⟨j, e1, rfl⟩ := Option.map_eq_some_iff.mp (show (ixN ts.length k).map Stp.ix = some s from hs)
      refine ⟨w, l2, fun Q z => ?_⟩
      obtain ⟨a', vs', e2, e3, e4⟩ := l2
      cases e2
      rw [h2] at e3; cases e3
      exact .inl ⟨a, vs, k, w, rfl, rfl, SqL.of h2, by unfold atI; rw [h3.length, e1]; exact e4, z⟩
    | _ => cases hs
  | dct ks ts =>
    cases e with
    | int k =>
      obtain ⟨a, vs, S', rfl, h2, h4, rfl, h3⟩ := hr
      cases (show y = .int k from he)
      cases hs
      refine ⟨w, l2, ?_⟩
      obtain ⟨a', kvs, e2, e3, e4⟩ := l2
      cases e2
      exact ⟨a, rfl, .inl ⟨_, .inl k, .inl e3, rfl, e4.symm⟩⟩
    | str k =>
      obtain ⟨a, vs, S', rfl, h2, h4, rfl, h3⟩ := hr
      cases (show y = .str k from he)
      cases hs
      refine ⟨w, l2, ?_⟩
      obtain ⟨a', kvs, e2, e3, e4⟩ := l2
      cases e2
      exact ⟨a, rfl, .inl ⟨_, .inr k, .inl e3, rfl, e4.symm⟩⟩
    | _ => cases hs
  | _ => cases e <;> cases hs
theorem sndP_idx (ha : SndP K ta mp) (hi : Snd K true ti mi) : SndP K (tIdx K ta ti) (pIdx mp mi) := by
  intro F H A S σ ρ p' R q Q k
  unfold pIdx at q
  obtain ⟨p, e1, q⟩ := Option.bind_eq_some_iff.mp q
  obtain ⟨⟨te, ρ1⟩, e2, q⟩ := Option.bind_eq_some_iff.mp q
  cases te with
  | fr e =>
    cases p with
    | val d =>
      obtain ⟨r, e3, rfl⟩ := Option.map_eq_some_iff.mp (show (d.item e).map Pl.val = some p' from q)
      have go : ∀ Q2 : V → V → Hp → Prop, (∀ x y F2 H2, Same F F2 → (∀ a ∈ A ++ S, H2 a = H a) → RelE K F2 H2 A S σ ρ → RepD K F2 d x → RepD K F2 e y → Q2 x y H2) → ta σ H fun x H1 => ti σ H1 fun y H2 => Q2 x y H2 := fun Q2 k2 =>
        ha F H A S σ ρ _ R e1 _ fun x F1 H1 f1 k1 R1 a1 => hi F1 H1 A S σ ρ _ ρ1 R1 e2 _ fun y F2 H2 S2 Sy f2 k2' R2' r2 p2 => by
          obtain ⟨rfl, rfl, u⟩ := p2 rfl
          obtain ⟨rfl, r2⟩ := r2
          exact k2 x y F2 H2 (f1.trans f2) (fun a h => by
            rcases List.mem_append.mp h with z | z
            · rw [k2' a z, k1 a h]
            · rw [u a z, k1 a h]) (by simpa using R2') (RepD.mono f2 d x a1) r2
      by_cases z : d.isDct = true
      · refine .inr (go _ fun x y F2 H2 f2 k2 R2 r1 r2 => ?_)
        obtain ⟨v, r3, g⟩ := item_rep R2.wd.same r1 r2 e3
        rw [if_pos z] at g
        obtain ⟨a, rfl, g⟩ := g
        exact ⟨a, v, rfl, g, k v F2 H2 f2 k2 R2 r3⟩
      · refine .inl (go _ fun x y F2 H2 f2 k2 R2 r1 r2 => ?_)
        obtain ⟨v, r3, g⟩ := item_rep R2.wd.same r1 r2 e3
        rw [if_neg z] at g
        exact g Q (k v F2 H2 f2 k2 R2 r3)
    | plc i π =>
      obtain ⟨t, e3, q⟩ := Option.bind_eq_some_iff.mp (show (((Pl.plc i π).get ρ).bind fun t => (t.stp e).bind fun s => (Pl.plc i (π ++ [s])).nrm ρ) = some p' from q)
      obtain ⟨s, e4, q⟩ := Option.bind_eq_some_iff.mp q
      have go : ∀ Q2 : V → V → Hp → Prop, (∀ x y F2 H2, Same F F2 → (∀ a ∈ A ++ S, H2 a = H a) → RelE K F2 H2 A S σ ρ → AtP K F2 H2 σ (.plc i π) x → RepD K F2 e y → Q2 x y H2) → ta σ H fun x H1 => ti σ H1 fun y H2 => Q2 x y H2 := fun Q2 k2 =>
        ha F H A S σ ρ _ R e1 _ fun x F1 H1 f1 k1 R1 a1 => hi F1 H1 A S σ ρ _ ρ1 R1 e2 _ fun y F2 H2 S2 Sy f2 k2' R2' r2 p2 => by
          obtain ⟨rfl, rfl, u⟩ := p2 rfl
          obtain ⟨rfl, r2⟩ := r2
          refine k2 x y F2 H2 (f1.trans f2) (fun a h => by
            rcases List.mem_append.mp h with z | z
            · rw [k2' a z, k1 a h]
            · rw [u a z, k1 a h]) (by simpa using R2') ?_ r2
          obtain ⟨t0, v0, Sa, Sb, Sc, q1, q2, q3, q4, q5, q6, q7⟩ := AtP.same R1 a1 e3
          exact ⟨v0, q2, q6 H2 u⟩
      obtain ⟨t1, e5⟩ := Pl.nrm_get q
      by_cases z : t.isDct = true
      · refine .inr (go _ fun x y F2 H2 f2 k2 R2 a2 r2 => ?_)
        obtain ⟨t0, v0, Sa, Sb, Sc, q1, q2, q3, q4, q5, q6, q7⟩ := AtP.same R2 a2 e3
        obtain ⟨w, l, g⟩ := stp_rep q5 e4 (get_step q1 q3 e5) r2
        rw [if_pos z] at g
        obtain ⟨a, rfl, g⟩ := g
        exact ⟨a, w, rfl, g, k w F2 H2 f2 k2 R2 (AtP.nrm R2 q q2 ((q6 H2 fun _ _ => rfl).snoc l))⟩
      · refine .inl (go _ fun x y F2 H2 f2 k2 R2 a2 r2 => ?_)
        obtain ⟨t0, v0, Sa, Sb, Sc, q1, q2, q3, q4, q5, q6, q7⟩ := AtP.same R2 a2 e3
        obtain ⟨w, l, g⟩ := stp_rep q5 e4 (get_step q1 q3 e5) r2
        rw [if_neg z] at g
        exact g Q (k w F2 H2 f2 k2 R2 (AtP.nrm R2 q q2 ((q6 H2 fun _ _ => rfl).snoc l)))
  | _ => cases q
theorem snd_plP (ha : SndP K ta mp) : Snd K true ta (mPlP mp) := by
  intro F H A S σ ρ t ρ' R q Q k
  unfold mPlP at q
  obtain ⟨p, e1, q⟩ := Option.bind_eq_some_iff.mp q
  cases p with
  | val d =>
    cases q
    exact ha F H A S σ ρ _ R e1 _ fun x F1 H1 f1 k1 R1 a1 => k x F1 H1 S [] f1 (fun a h => k1 a (by simp [h])) (by simpa using R1) ⟨rfl, a1⟩ fun _ => ⟨rfl, rfl, fun a h => k1 a (by simp [h])⟩
  | plc i π => cases q
theorem snd_pl (ha : SndP K ta mp) : Snd K false ta (mPl mp) := by
  intro F H A S σ ρ t ρ' R q Q k
  unfold mPl at q
  obtain ⟨p, e1, q⟩ := Option.bind_eq_some_iff.mp q
  refine ha F H A S σ ρ _ R e1 _ fun x F1 H1 f1 k1 R1 a1 => ?_
  cases p with
  | val d =>
    cases q
    exact k x F1 H1 S [] f1 (fun a h => k1 a (by simp [h])) (by simpa using R1) ⟨rfl, a1⟩ fun z => nomatch z
  | plc i π =>
    have q' : (match ρ[i]? with
      | some (some t) => (t.get π).bind fun u => u.frz.map fun d => (T.fr d, ρ.set i (some (t.put (.fr d) π)))
      | _ => none) = some (t, ρ') := q
    split at q'
    · rename_i t0 z
      obtain ⟨u, e2, q'⟩ := Option.bind_eq_some_iff.mp q'
      obtain ⟨d, e3, q'⟩ := Option.map_eq_some_iff.mp q'
      cases q'
      have e4 : (Pl.plc i π).get ρ = some u := by
        show (match ρ[i]? with | some (some t0) => t0.get π | _ => none) = some u
        rw [z]; exact e2
      obtain ⟨t0', v0, Sa, Sb, Sc, q1, q2, q3, rfl, q5, q6, q7⟩ := AtP.same R1 a1 e4
      rw [z] at q1
      cases q1
      have w : Wd F1 H1 (Sb ++ (A ++ (Sa ++ Sc))) := R1.wd.sub fun a => by simp only [List.count_append]; omega
      have h4 : RepD K (fz F1 H1 Sb) d x := Rep.frozen w.fz_same u x Sb d q5 (fun a ha => fz_in ha) e3
      refine k x (fz F1 H1 Sb) H1 (Sa ++ Sc) [] (f1.trans w.fz_same) (fun a h => k1 a (by simp [h])) ⟨?_, by simpa using w.fz, by simpa using R1.tr⟩ ⟨rfl, h4⟩ fun z => nomatch z
      have := q7 (fz F1 H1 Sb) H1 w.fz_same (fun _ _ => rfl) (.fr d) [] ⟨rfl, h4⟩
      simpa using this
    · cases q'
/-! an item of a value: what is owned in it goes on -/
def T.item : T → D → Option T
  | .fr d, e => (d.item e).map .fr
  | .lst ts, .int k => (ixN ts.length k).bind fun j => ts[j]?
  | .tup ts, .int k => (ixN ts.length k).bind fun j => ts[j]?
  | _, _ => none
def mItem (ma mi : ME) : ME := fun ρ => (ma ρ).bind fun p => (mi p.2).bind fun q => match q.1 with
  | .fr e => (p.1.item e).map fun t => (t, q.2)
  | _ => none
theorem titem_rep {F H : Hp} {t r : T} {e : D} {x y : V} {S : List Addr} (s : Same F H) (hd : Rep K F H t x S) (he : RepD K F e y) (q : t.item e = some r) :
    ∃ v Sv, Rep K F H r v Sv ∧ (∀ a, Sv.count a ≤ S.count a) ∧ (if t.isDct = true then ∃ a, x = .ref a ∧ DGet H a y (some v) else ∀ Q : VK, Q v H → rIx K x y H Q) := by
  cases t with
  | fr d =>
    obtain ⟨r', e1, rfl⟩ := Option.map_eq_some_iff.mp (show (d.item e).map T.fr = some r from q)
    obtain ⟨v, r1, g⟩ := item_rep s hd.2 he e1
    exact ⟨v, [], ⟨rfl, r1⟩, fun a => by simp, g⟩
  | lst ts =>
    cases e with
    | int k =>
      obtain ⟨j, e1, e2⟩ := Option.bind_eq_some_iff.mp (show ((ixN ts.length k).bind fun j => ts[j]?) = some r from q)
      obtain ⟨a, vs, S', rfl, h2, rfl, h3⟩ := hd
      cases (show y = .int k from he)
      obtain ⟨v, Sa, Sb, Sc, q1, rfl, q3, _⟩ := Reps.split h3 e2
      exact ⟨v, Sb, q3, fun a => by simp only [List.count_append, List.count_cons]; omega, fun Q z => .inl ⟨a, vs, k, v, rfl, rfl, SqL.of h2, by unfold atI; rw [h3.length, e1]; exact q1, z⟩⟩
    | _ => cases q
  | tup ts =>
    cases e with
    | int k =>
      obtain ⟨j, e1, e2⟩ := Option.bind_eq_some_iff.mp (show ((ixN ts.length k).bind fun j => ts[j]?) = some r from q)
      obtain ⟨a, vs, rfl, h2, h3⟩ := hd
      cases (show y = .int k from he)
      obtain ⟨v, Sa, Sb, Sc, q1, rfl, q3, _⟩ := Reps.split h3 e2
      exact ⟨v, Sb, q3, fun a => by simp only [List.count_append]; omega, fun Q z => .inr (.inl ⟨a, vs, k, v, rfl, rfl, Same.sqt s h2, by unfold atI; rw [h3.length, e1]; exact q1, z⟩)⟩
    | _ => cases q
  | dct ks ts => cases e <;> cases q
  | obj c fs ts => cases e <;> cases q
  | hole => cases e <;> cases q
theorem snd_item (ha : Snd K b1 ta ma) (hi : Snd K b2 ti mi) : Snd K (b1 && b2) (tIdx K ta ti) (mItem ma mi) := by
  intro F H A S σ ρ t ρ' R q Q k
  unfold mItem at q
  obtain ⟨⟨tx, ρ1⟩, e1, q⟩ := Option.bind_eq_some_iff.mp q
  obtain ⟨⟨ty, ρ2⟩, e2, q⟩ := Option.bind_eq_some_iff.mp q
  cases ty with
  | fr e =>
    obtain ⟨r, e3, q⟩ := Option.map_eq_some_iff.mp (show (tx.item e).map (fun t => (t, ρ2)) = some (t, ρ') from q)
    cases q
    have go : ∀ Q2 : V → V → Hp → Prop, (∀ x y F2 H2 S2 Sx, Same F F2 → (∀ a ∈ A, H2 a = H a) → RelE K F2 H2 (Sx ++ A) S2 σ ρ' → Rep K F2 H2 tx x Sx → RepD K F2 e y → ((b1 && b2) = true → ρ' = ρ ∧ S2 = S ∧ ∀ a ∈ S, H2 a = H a) → Q2 x y H2) →
        ta σ H fun x H1 => ti σ H1 fun y H2 => Q2 x y H2 := fun Q2 k2 =>
      ha F H A S σ ρ tx ρ1 R e1 _ fun x F1 H1 S1 Sx f1 k1 R1 r1 p1 => hi F1 H1 _ S1 σ ρ1 _ ρ' R1 e2 _ fun y F2 H2 S2 Sy f2 k2' R2' r2 p2 => by
        obtain ⟨rfl, r2⟩ := r2
        exact k2 x y F2 H2 S2 Sx (f1.trans f2) (fun a h => by rw [k2' a (by simp [h]), k1 a h]) (by simpa using R2') (Rep.ext f2 tx x Sx (fun a h => k2' a (by simp [h])) r1) r2 (pure2 p1 p2)
    have fin : ∀ {x y : V} {F2 H2 : Hp} {S2 Sx Sv : List Addr} {v : V}, Same F F2 → (∀ a ∈ A, H2 a = H a) → RelE K F2 H2 (Sx ++ A) S2 σ ρ' → Rep K F2 H2 t v Sv → (∀ a, Sv.count a ≤ Sx.count a) → ((b1 && b2) = true → ρ' = ρ ∧ S2 = S ∧ ∀ a ∈ S, H2 a = H a) → Q v H2 :=
      fun {x y F2 H2 S2 Sx Sv v} f2 k2 R2 r hc p => k v F2 H2 S2 Sv f2 k2 ⟨R2.rep, R2.wd.sub fun a => by have := hc a; simp only [List.count_append]; omega, fun a h => by
        rcases List.mem_append.mp h with z | z
        · exact Rep.tracked _ _ _ r a z
        · exact R2.tr a (by simp [z])⟩ r p
    by_cases z : tx.isDct = true
    · refine .inr (go _ fun x y F2 H2 S2 Sx f2 k2 R2 r1 r2 p => ?_)
      obtain ⟨v, Sv, r3, hc, g⟩ := titem_rep R2.wd.same r1 r2 e3
      rw [if_pos z] at g
      obtain ⟨a, rfl, g⟩ := g
      exact ⟨a, v, rfl, g, fin (x := .non) (y := y) f2 k2 R2 r3 hc p⟩
    · refine .inl (go _ fun x y F2 H2 S2 Sx f2 k2 R2 r1 r2 p => ?_)
      obtain ⟨v, Sv, r3, hc, g⟩ := titem_rep R2.wd.same r1 r2 e3
      rw [if_neg z] at g
      exact g Q (fin (x := x) (y := y) f2 k2 R2 r3 hc p)
  | _ => cases q
end
end L3
namespace L3
open PySem PySem.Spec PyProof.Rows L2

/-! ### results -/
section
variable {K : PySem.W.Frag} {F H : Hp}
/-- a plain result: nothing is made -/
theorem res0 {d : D} {v : V} {Q : VK} (s : Same F H) (k : ∀ (v : V) (F' H' : Hp) (Sv : List Addr), Gr F H F' H' → Fresh F' H Sv → Rep K F' H' (.fr d) v Sv → Q v H') (r : RepD K F d v) : Q v H :=
  k v F H [] (Gr.refl s) Fresh.nil ⟨rfl, r⟩
/-- a new frozen tuple -/
theorem resT {ds : List D} {vs : List V} {Q : VK} {p : Addr} (s : Same F H) (k : ∀ (v : V) (F' H' : Hp) (Sv : List Addr), Gr F H F' H' → Fresh F' H Sv → Rep K F' H' (.fr (.tup ds)) v Sv → Q v H') (r : RepDs K F ds vs) (hp : H p = none) : Q (.ref p) (upd H p (.tup vs)) :=
  k (.ref p) _ _ [] (Gr.one s hp) Fresh.nil ⟨rfl, p, vs, rfl, SqT.of upd_same, RepDs.mono (Gr.one s hp).f _ _ r⟩
theorem reps_fr : ∀ {ds : List D} {vs : List V} {H : Hp}, RepDs K F ds vs → Reps K F H (ds.map .fr) vs []
  | [], _, _, h => ⟨h, rfl⟩
  | d :: ds, _, _, h => by
    obtain ⟨w, ws, rfl, h2, h3⟩ := h
    exact ⟨w, ws, [], [], rfl, rfl, ⟨rfl, h2⟩, reps_fr h3⟩
/-- a new owned list of frozen items -/
theorem resL {ds : List D} {vs : List V} {Q : VK} {p : Addr} (s : Same F H) (k : ∀ (v : V) (F' H' : Hp) (Sv : List Addr), Gr F H F' H' → Fresh F' H Sv → Rep K F' H' (.lst (ds.map .fr)) v Sv → Q v H') (r : RepDs K F ds vs) (hp : H p = none) : Q (.ref p) (upd H p (.lst vs)) :=
  k (.ref p) F _ [p] (Gr.own s hp) (Fresh.one' hp (s.free hp)) ⟨p, vs, [], rfl, upd_same, rfl, reps_fr r⟩
theorem RepDs.append : ∀ {ds es : List D} {vs ws : List V}, RepDs K F ds vs → RepDs K F es ws → RepDs K F (ds ++ es) (vs ++ ws)
  | [], _, _, _, h, h' => by rw [show _ = [] from h]; exact h'
  | d :: ds, _, _, _, h, h' => by
    obtain ⟨w, ws, rfl, h2, h3⟩ := h
    exact ⟨w, _, rfl, h2, RepDs.append h3 h'⟩
theorem RepDs.drop : ∀ {ds : List D} {vs : List V} (n : Nat), RepDs K F ds vs → RepDs K F (ds.drop n) (vs.drop n)
  | _, _, 0, h => by simpa using h
  | [], _, n + 1, h => by rw [show _ = [] from h]; exact rfl
  | d :: ds, _, n + 1, h => by
    obtain ⟨w, ws, rfl, h2, h3⟩ := h
    simpa using RepDs.drop n h3
theorem RepDs.take : ∀ {ds : List D} {vs : List V} (n : Nat), RepDs K F ds vs → RepDs K F (ds.take n) (vs.take n)
  | ds, vs, 0, h => by rw [List.take_zero, List.take_zero]; exact rfl
  | [], _, n + 1, h => by rw [show _ = [] from h]; exact rfl
  | d :: ds, _, n + 1, h => by
    obtain ⟨w, ws, rfl, h2, h3⟩ := h
    exact ⟨w, _, rfl, h2, RepDs.take n h3⟩
theorem RepDs.isNil {ds : List D} {vs : List V} (h : RepDs K F ds vs) : vs = [] ↔ ds = [] := by
  have := h.length
  constructor
  · intro e; subst e; cases ds with
    | nil => rfl
    | cons _ _ => simp at this
  · intro e; subst e; exact h
theorem RepDs.ints : ∀ {ds : List D} {vs : List V} {ns : List Int}, RepDs K F ds vs → ds = ns.map D.int → vs = ns.map V.int
  | [], _, [], h, _ => h
  | [], _, _ :: _, _, e => by cases e
  | d :: ds, _, [], _, e => by cases e
  | d :: ds, _, n :: ns, h, e => by
    obtain ⟨w, ws, rfl, h2, h3⟩ := h
    injection e with e1 e2
    subst e1
    rw [RepDs.ints h3 e2, show w = V.int n from h2] <;> rfl
theorem RepDs.bls : ∀ {ds : List D} {vs : List V} {ns : List Bool}, RepDs K F ds vs → ds = ns.map D.bl → vs = ns.map V.bl
  | [], _, [], h, _ => h
  | [], _, _ :: _, _, e => by cases e
  | d :: ds, _, [], _, e => by cases e
  | d :: ds, _, n :: ns, h, e => by
    obtain ⟨w, ws, rfl, h2, h3⟩ := h
    injection e with e1 e2
    subst e1
    rw [RepDs.bls h3 e2, show w = V.bl n from h2] <;> rfl
theorem RepDs.rep : ∀ {ds : List D} {vs : List V} (n : Nat), RepDs K F ds vs → RepDs K F (List.replicate n ds).flatten (List.replicate n vs).flatten
  | ds, vs, 0, h => rfl
  | ds, vs, n + 1, h => by
    rw [List.replicate_succ, List.replicate_succ, List.flatten_cons, List.flatten_cons]
    exact h.append (RepDs.rep n h)
end
/-! ### arithmetic -/
def gAdd : D → D → Option T
  | .int i, .int j => some (.fr (.int (i + j)))
  | .str x, .str y => if x.length + y.length ≤ 4096 then some (.fr (.str (x ++ y))) else none
  | .tup xs, .tup ys => if xs.length + ys.length ≤ 16777216 then some (.fr (.tup (xs ++ ys))) else none
  | .lst xs, .lst ys => if xs.length + ys.length ≤ 16777216 then some (.lst ((xs ++ ys).map .fr)) else none
  | _, _ => none
def rAddA (K : PySem.W.Frag) : R2 := fun x y H Q => (rI0 fun i j => .int (i + j)) x y H Q ∨ ((fun x y H Q => ∃ i j, x = .str i ∧ y = .str j ∧ i.length + j.length ≤ sizeLine ∧ Q (.str (i ++ j)) H : R2) x y H Q ∨ (rCatA K x y H Q ∨ rCat x y H Q))
theorem op_addA {X : Cx} : OpR X (binaryOp .Add) (rAddA X.K) := op_add.or (op_add_str.or (op_catA.or op_cat))
theorem f_add {K : PySem.W.Frag} : OpF2 K (rAddA K) gAdd := by
  intro F H d x e y t s hd he q Q k
  cases d with
  | int i =>
    cases e with
    | int j =>
      cases q
      cases (show x = .int i from hd)
      cases (show y = .int j from he)
      exact .inl ⟨i, j, rfl, rfl, res0 s k rfl⟩
    | _ => cases q
  | str a =>
    cases e with
    | str b =>
      cases (show x = .str a from hd)
      cases (show y = .str b from he)
      have q' : (if a.length + b.length ≤ 4096 then some (T.fr (.str (a ++ b))) else none) = some t := q
      by_cases z : a.length + b.length ≤ 4096
      · rw [if_pos z] at q'; cases q'
        exact .inr (.inl ⟨a, b, rfl, rfl, by rw [sizeLine_eq]; omega, res0 s k rfl⟩)
      · rw [if_neg z] at q'; cases q'
    | _ => cases q
  | tup xs =>
    cases e with
    | tup ys =>
      obtain ⟨a, vs, rfl, h2, h3⟩ := hd
      obtain ⟨b, ws, rfl, g2, g3⟩ := he
      have q' : (if xs.length + ys.length ≤ 16777216 then some (T.fr (.tup (xs ++ ys))) else none) = some t := q
      by_cases z : xs.length + ys.length ≤ 16777216
      · rw [if_pos z] at q'; cases q'
        refine .inr (.inr (.inl ⟨a, b, vs, ws, rfl, rfl, Same.sqt s h2, Same.sqt s g2, by rw [sizeLine_eq, h3.length, g3.length]; exact z, fun e => ?_, fun _ e => ?_, fun _ _ p hp => resT s k (h3.append g3) hp⟩))
        · have := h3.isNil.mp e
          subst this
          exact res0 s k ⟨b, ws, rfl, g2, g3⟩
        · have := g3.isNil.mp e
          subst this
          refine res0 s k ⟨a, vs, rfl, h2, by rw [List.append_nil]; exact h3⟩
      · rw [if_neg z] at q'; cases q'
    | _ => cases q
  | lst xs =>
    cases e with
    | lst ys =>
      obtain ⟨a, vs, rfl, h2, h3⟩ := hd
      obtain ⟨b, ws, rfl, g2, g3⟩ := he
      have q' : (if xs.length + ys.length ≤ 16777216 then some (T.lst ((xs ++ ys).map .fr)) else none) = some t := q
      by_cases z : xs.length + ys.length ≤ 16777216
      · rw [if_pos z] at q'; cases q'
        exact .inr (.inr (.inr ⟨a, b, vs, ws, rfl, rfl, s _ _ h2, s _ _ g2, by rw [sizeLine_eq, h3.length, g3.length]; exact z, fun p hp => resL s k (h3.append g3) hp⟩))
      · rw [if_neg z] at q'; cases q'
    | _ => cases q
  | _ => cases e <;> cases q
/-- ints in, an int out -/
def gI (c : Int → Int → Bool) (g : Int → Int → Int) : D → D → Option T
  | .int i, .int j => if c i j = true then some (.fr (.int (g i j))) else none
  | _, _ => none
theorem f_I {K : PySem.W.Frag} {C : Int → Int → Prop} {c : Int → Int → Bool} {g : Int → Int → Int} (hC : ∀ i j, c i j = true → C i j) : OpF2 K (rI C fun i j => .int (g i j)) (gI c g) := by
  intro F H d x e y t s hd he q Q k
  cases d with
  | int i =>
    cases e with
    | int j =>
      cases (show x = .int i from hd)
      cases (show y = .int j from he)
      have q' : (if c i j = true then some (T.fr (.int (g i j))) else none) = some t := q
      by_cases z : c i j = true
      · rw [if_pos z] at q'; cases q'
        exact ⟨i, j, rfl, rfl, hC i j z, res0 s k rfl⟩
      · rw [if_neg z] at q'; cases q'
    | _ => cases q
  | _ => cases e <;> cases q
def gI0 (g : Int → Int → Int) : D → D → Option T
  | .int i, .int j => some (.fr (.int (g i j)))
  | _, _ => none
def gB0 (g : Int → Int → Bool) : D → D → Option T
  | .int i, .int j => some (.fr (.bl (g i j)))
  | _, _ => none
theorem f_I0 {K : PySem.W.Frag} {g : Int → Int → Int} : OpF2 K (rI0 fun i j => .int (g i j)) (gI0 g) := by
  intro F H d x e y t s hd he q Q k
  cases d with
  | int i =>
    cases e with
    | int j =>
      cases (show x = .int i from hd)
      cases (show y = .int j from he)
      cases q
      exact ⟨i, j, rfl, rfl, res0 s k rfl⟩
    | _ => cases q
  | _ => cases e <;> cases q
theorem f_B0 {K : PySem.W.Frag} {g : Int → Int → Bool} : OpF2 K (rI0 fun i j => .bl (g i j)) (gB0 g) := by
  intro F H d x e y t s hd he q Q k
  cases d with
  | int i =>
    cases e with
    | int j =>
      cases (show x = .int i from hd)
      cases (show y = .int j from he)
      cases q
      exact ⟨i, j, rfl, rfl, res0 s k rfl⟩
    | _ => cases q
  | _ => cases e <;> cases q
def bMul (i j : Int) : Bool := (decide (-(2 ^ 64) < i) && decide (i < 2 ^ 64)) || (decide (-(2 ^ 64) < j) && decide (j < 2 ^ 64))
theorem bMul_ok {i j : Int} (h : bMul i j = true) : CMul i j := by
  unfold bMul at h
  simp only [Bool.or_eq_true, Bool.and_eq_true, decide_eq_true_eq] at h
  exact h
def gMul : D → D → Option T
  | .int i, .int j => if bMul i j = true then some (.fr (.int (i * j))) else none
  | .lst xs, .int k => if k < 100000 ∧ -100000 < k ∧ xs.length ≤ 100 then some (.lst ((List.replicate k.toNat xs).flatten.map .fr)) else none
  | _, _ => none
def rMulA : R2 := fun x y H Q => (rI CMul fun i j => .int (i * j)) x y H Q ∨ rRep x y H Q
theorem op_mulA {X : Cx} : OpR X (binaryOp .Mult) rMulA := op_mul.or op_rep
theorem f_mul {K : PySem.W.Frag} : OpF2 K rMulA gMul := by
  intro F H d x e y t s hd he q Q k
  cases d with
  | int i =>
    cases e with
    | int j =>
      cases (show x = .int i from hd)
      cases (show y = .int j from he)
      have q' : (if bMul i j = true then some (T.fr (.int (i * j))) else none) = some t := q
      by_cases z : bMul i j = true
      · rw [if_pos z] at q'; cases q'
        exact .inl ⟨i, j, rfl, rfl, bMul_ok z, res0 s k rfl⟩
      · rw [if_neg z] at q'; cases q'
    | _ => cases q
  | lst xs =>
    cases e with
    | int n =>
      obtain ⟨a, vs, rfl, h2, h3⟩ := hd
      cases (show y = .int n from he)
      have q' : (if n < 100000 ∧ -100000 < n ∧ xs.length ≤ 100 then some (T.lst ((List.replicate n.toNat xs).flatten.map .fr)) else none) = some t := q
      by_cases z : n < 100000 ∧ -100000 < n ∧ xs.length ≤ 100
      · rw [if_pos z] at q'; cases q'
        refine .inr ⟨a, n, vs, rfl, rfl, s _ _ h2, by omega, by omega, ?_, fun p hp => resL s k (RepDs.rep _ h3) hp⟩
        rw [sizeLine_eq, h3.length]
        have h1 : n.toNat ≤ 100000 := by omega
        calc xs.length * n.toNat ≤ 100 * 100000 := Nat.mul_le_mul z.2.2 h1
          _ ≤ 16777216 := by decide
      · rw [if_neg z] at q'; cases q'
    | _ => cases q
  | _ => cases e <;> cases q
def bDiv (_ j : Int) : Bool := decide (0 < j) && decide (j < 1073741824)
theorem bDiv_ok {i j : Int} (h : bDiv i j = true) : CDiv i j := by
  unfold bDiv at h
  simp only [Bool.and_eq_true, decide_eq_true_eq] at h
  exact h
def bPos (_ j : Int) : Bool := decide (0 < j)
def bPow (i j : Int) : Bool := decide (0 ≤ j) && (decide (j ≤ 1000000) && decide (i.natAbs < 2 ^ 64))
theorem bPow_ok {i j : Int} (h : bPow i j = true) : CPow i j := by
  unfold bPow at h
  simp only [Bool.and_eq_true, decide_eq_true_eq] at h
  exact h
abbrev gFloor := gI bDiv fun i j => i / j
abbrev gMod := gI bPos fun i j => i % j
abbrev gPow := gI bPow fun i j => i ^ j.toNat
abbrev gShl := gI bPow fun i j => i * 2 ^ j.toNat
abbrev gShr := gI (fun _ j => decide (0 ≤ j)) fun i j => i / 2 ^ j.toNat
abbrev gAnd := gI0 Builtin.bitAnd
abbrev gOr := gI0 Builtin.bitOr
theorem f_floor {K : PySem.W.Frag} : OpF2 K (rI CDiv fun i j => .int (i / j)) gFloor := f_I fun _ _ h => bDiv_ok h
theorem f_mod {K : PySem.W.Frag} : OpF2 K (rI (fun _ j => 0 < j) fun i j => .int (i % j)) gMod := f_I fun _ _ h => of_decide_eq_true h
theorem f_pow {K : PySem.W.Frag} : OpF2 K (rI CPow fun i j => .int (i ^ j.toNat)) gPow := f_I fun _ _ h => bPow_ok h
theorem f_shl {K : PySem.W.Frag} : OpF2 K (rI CPow fun i j => .int (i * 2 ^ j.toNat)) gShl := f_I fun _ _ h => bPow_ok h
theorem f_shr {K : PySem.W.Frag} : OpF2 K (rI (fun _ j => 0 ≤ j) fun i j => .int (i / 2 ^ j.toNat)) gShr := f_I fun _ _ h => of_decide_eq_true h
theorem f_sub {K : PySem.W.Frag} : OpF2 K (rI0 fun i j => .int (i - j)) (gI0 fun i j => i - j) := f_I0
def gNeg : D → Option T
  | .int i => some (.fr (.int (-i)))
  | _ => none
theorem f_neg {K : PySem.W.Frag} : OpF1 K (rU fun i => .int (-i)) gNeg := by
  intro F H d x t s hd q Q k
  cases d with
  | int i =>
    cases (show x = .int i from hd)
    cases q
    exact ⟨i, rfl, res0 s k rfl⟩
  | _ => cases q
/-! ### is None -/
def D.isNon : D → Bool
  | .non => true
  | _ => false
theorem isNon_rep {K : PySem.W.Frag} {F : Hp} {d : D} {x : V} (h : RepD K F d x) : decide (x = .non) = d.isNon := by
  cases d with
  | non => cases (show x = .non from h); rfl
  | bl b => cases (show x = .bl b from h); rfl
  | int b => cases (show x = .int b from h); rfl
  | str b => cases (show x = .str b from h); rfl
  | ty b => cases (show x = .ty b from h); rfl
  | tup ds => obtain ⟨a, vs, rfl, _⟩ := h; rfl
  | lst ds => obtain ⟨a, vs, rfl, _⟩ := h; rfl
  | rol ds => obtain ⟨a, vs, rfl, _⟩ := h; rfl
  | dct ks ds => obtain ⟨a, vs, rfl, _⟩ := h; rfl
  | obj c fs ds => obtain ⟨a, dx, vs, rfl, _⟩ := h; rfl
def gIs (d e : D) : Option T := if e.isNon = true then some (.fr (.bl d.isNon)) else none
def gIsNot (d e : D) : Option T := if e.isNon = true then some (.fr (.bl (!d.isNon))) else none
theorem f_is {K : PySem.W.Frag} : OpF2 K (fun x y H Q => y = .non ∧ Q (.bl (decide (x = .non))) H) gIs := by
  intro F H d x e y t s hd he q Q k
  unfold gIs at q
  by_cases z : e.isNon = true
  · rw [if_pos z] at q; cases q
    refine ⟨of_decide_eq_true (by rw [isNon_rep he]; exact z), ?_⟩
    rw [isNon_rep hd]
    exact res0 s k rfl
  · rw [if_neg z] at q; cases q
theorem f_isNot {K : PySem.W.Frag} : OpF2 K (fun x y H Q => y = .non ∧ Q (.bl (!decide (x = .non))) H) gIsNot := by
  intro F H d x e y t s hd he q Q k
  unfold gIsNot at q
  by_cases z : e.isNon = true
  · rw [if_pos z] at q; cases q
    refine ⟨of_decide_eq_true (by rw [isNon_rep he]; exact z), ?_⟩
    rw [isNon_rep hd]
    exact res0 s k rfl
  · rw [if_neg z] at q; cases q
/-! ### == -/
mutual
def D.toP : D → Option PyData
  | .non => some .none
  | .bl b => some (.bool b)
  | .int i => some (.int i)
  | .str x => some (.str x)
  | .tup ds => (D.toPs ds).map .tuple
  | .lst ds => (D.toPs ds).map .list
  | .rol ds => (D.toPs ds).map .list
  | _ => none
def D.toPs : List D → Option (List PyData)
  | [] => some []
  | d :: ds => match D.toP d with
    | some p => match D.toPs ds with
      | some ps => some (p :: ps)
      | none => none
    | none => none
end
section
variable {K : PySem.W.Frag} {F H : Hp}
mutual
theorem D.toP_rep (s : Same F H) : ∀ (d : D) (v : V) (p : PyData), RepD K F d v → d.toP = some p → Dp K H v p
  | .non, _, _, h, q => by cases q; rw [show _ = V.non from h]; exact .non
  | .bl b, _, _, h, q => by cases q; rw [show _ = V.bl b from h]; exact .bl b
  | .int i, _, _, h, q => by cases q; rw [show _ = V.int i from h]; exact .int i
  | .str x, _, _, h, q => by cases q; rw [show _ = V.str x from h]; exact .str x
  | .ty x, _, _, h, q => by cases q
  | .tup ds, _, _, h, q => by
    obtain ⟨ps, e, rfl⟩ := Option.map_eq_some_iff.mp (show (D.toPs ds).map PyData.tuple = some _ from q)
    obtain ⟨a, vs, rfl, h2, h3⟩ := h
    exact .tup (Same.sqt s h2) (D.toPs_rep s ds vs ps h3 e)
  | .lst ds, _, _, h, q => by
    obtain ⟨ps, e, rfl⟩ := Option.map_eq_some_iff.mp (show (D.toPs ds).map PyData.list = some _ from q)
    obtain ⟨a, vs, rfl, h2, h3⟩ := h
    exact .lst (SqL.of (s _ _ h2)) (D.toPs_rep s ds vs ps h3 e)
  | .rol ds, _, _, h, q => by
    obtain ⟨ps, e, rfl⟩ := Option.map_eq_some_iff.mp (show (D.toPs ds).map PyData.list = some _ from q)
    obtain ⟨a, vs, rfl, h2, h3⟩ := h
    exact .lst (Same.sql s h2) (D.toPs_rep s ds vs ps h3 e)
  | .dct _ _, _, _, h, q => by cases q
  | .obj _ _ _, _, _, h, q => by cases q
theorem D.toPs_rep (s : Same F H) : ∀ (ds : List D) (vs : List V) (ps : List PyData), RepDs K F ds vs → D.toPs ds = some ps → DpAll K H vs ps
  | [], _, _, h, q => by cases q; rw [show _ = [] from h]; exact .nil
  | d :: ds, _, ps, h, q => by
    obtain ⟨w, ws, rfl, h2, h3⟩ := h
    have q' : (match D.toP d with
      | some p => match D.toPs ds with
        | some ps => some (p :: ps)
        | none => none
      | none => none) = some ps := q
    cases z : D.toP d with
    | none => rw [z] at q'; cases q'
    | some p =>
      rw [z] at q'
      cases y : D.toPs ds with
      | none => simp only [y] at q'; cases q'
      | some ps' =>
        simp only [y] at q'
        cases q'
        exact .cons (D.toP_rep s d w p h2 z) (D.toPs_rep s ds ws ps' h3 y)
end
end
/-- == of data: scalars of one kind at once, all else by PyData.eqv -/
def D.eqB : D → D → Option Bool
  | .int i, .int j => some (decide (i = j))
  | .bl i, .bl j => some (decide (i = j))
  | .str i, .str j => some (decide (i = j))
  | .non, .non => some true
  | d, e => match d.toP, e.toP with
    | some p, some q => if SeqAt.shaped p = true ∧ SeqAt.shaped q = true then some (PyData.eqv p q) else none
    | _, _ => none
def gEq (d e : D) : Option T := (d.eqB e).map fun b => .fr (.bl b)
def gNe (d e : D) : Option T := (d.eqB e).map fun b => .fr (.bl (!b))
def rEqA (K : PySem.W.Frag) : R2 := fun x y H Q => rEq x y H Q ∨ rEqD K x y H Q
def rNeA (K : PySem.W.Frag) : R2 := fun x y H Q => rNe x y H Q ∨ rNeD K x y H Q
theorem op_eqA {X : Cx} (hu : X.A.units + 64 < cLine) : OpR X (compareOp .Eq) (rEqA X.K) := op_eq.or (op_eqD hu)
theorem op_neA {X : Cx} (hu : X.A.units + 64 < cLine) : OpR X (compareOp .NotEq) (rNeA X.K) := op_ne.or (op_neD hu)
theorem eqB_rep {K : PySem.W.Frag} {F H : Hp} {d e : D} {x y : V} {b : Bool} (s : Same F H) (hd : RepD K F d x) (he : RepD K F e y) (q : d.eqB e = some b) :
    (scal x y = true ∧ decide (x = y) = b) ∨ ∃ p r, Dp K H x p ∧ Dp K H y r ∧ SeqAt.shaped p = true ∧ SeqAt.shaped r = true ∧ PyData.eqv p r = b := by
  have gen : (match d.toP, e.toP with
    | some p, some q => if SeqAt.shaped p = true ∧ SeqAt.shaped q = true then some (PyData.eqv p q) else none
    | _, _ => none) = some b → ∃ p r, Dp K H x p ∧ Dp K H y r ∧ SeqAt.shaped p = true ∧ SeqAt.shaped r = true ∧ PyData.eqv p r = b := fun q => by
    split at q
    · rename_i p r e1 e2
      by_cases z : SeqAt.shaped p = true ∧ SeqAt.shaped r = true
      · rw [if_pos z] at q
        exact ⟨p, r, D.toP_rep s d x p hd e1, D.toP_rep s e y r he e2, z.1, z.2, Option.some.inj q⟩
      · rw [if_neg z] at q; cases q
    · cases q
  cases d with
  | int i =>
    cases e with
    | int j =>
      cases (show x = .int i from hd)
      cases (show y = .int j from he)
      have q' := Option.some.inj (show some (decide (i = j)) = some b from q)
      exact .inl ⟨rfl, by rw [← q', dec_int]; exact Bool.beq_eq_decide_eq _ _⟩
    | _ => exact .inr (gen q)
  | bl i =>
    cases e with
    | bl j =>
      cases (show x = .bl i from hd)
      cases (show y = .bl j from he)
      have q' := Option.some.inj (show some (decide (i = j)) = some b from q)
      exact .inl ⟨rfl, by rw [← q', dec_bl]; exact Bool.beq_eq_decide_eq _ _⟩
    | _ => exact .inr (gen q)
  | str i =>
    cases e with
    | str j =>
      cases (show x = .str i from hd)
      cases (show y = .str j from he)
      have q' := Option.some.inj (show some (decide (i = j)) = some b from q)
      exact .inl ⟨rfl, by rw [← q']; by_cases z : i = j <;> simp [z]⟩
    | _ => exact .inr (gen q)
  | non =>
    cases e with
    | non =>
      cases (show x = .non from hd)
      cases (show y = .non from he)
      have q' := Option.some.inj (show some true = some b from q)
      exact .inl ⟨rfl, by rw [← q'] <;> rfl⟩
    | _ => exact .inr (gen q)
  | _ => exact .inr (gen (by cases e <;> exact q))
theorem f_eq {K : PySem.W.Frag} : OpF2 K (rEqA K) gEq := by
  intro F H d x e y t s hd he q Q k
  obtain ⟨b, e1, rfl⟩ := Option.map_eq_some_iff.mp q
  rcases eqB_rep s hd he e1 with ⟨h1, h2⟩ | ⟨p, r, h1, h2, h3, h4, h5⟩
  · exact .inl ⟨h1, by rw [h2]; exact res0 s k rfl⟩
  · exact .inr ⟨p, r, h1, h2, h3, h4, by rw [h5]; exact res0 s k rfl⟩
theorem f_ne {K : PySem.W.Frag} : OpF2 K (rNeA K) gNe := by
  intro F H d x e y t s hd he q Q k
  obtain ⟨b, e1, rfl⟩ := Option.map_eq_some_iff.mp q
  rcases eqB_rep s hd he e1 with ⟨h1, h2⟩ | ⟨p, r, h1, h2, h3, h4, h5⟩
  · exact .inl ⟨h1, by rw [h2]; exact res0 s k rfl⟩
  · exact .inr ⟨p, r, h1, h2, h3, h4, by rw [h5]; exact res0 s k rfl⟩
/-! ### in -/
def D.flat : D → Bool
  | .non => true | .bl _ => true | .int _ => true | .str _ => true | _ => false
def D.toV : D → V
  | .non => .non | .bl b => .bl b | .int i => .int i | .str x => .str x | _ => .non
theorem flat_rep {K : PySem.W.Frag} {F : Hp} {d : D} {x : V} (h : RepD K F d x) (f : d.flat = true) : x = d.toV ∧ flatV x = true := by
  cases d with
  | non => cases (show x = .non from h); exact ⟨rfl, rfl⟩
  | bl b => cases (show x = .bl b from h); exact ⟨rfl, rfl⟩
  | int b => cases (show x = .int b from h); exact ⟨rfl, rfl⟩
  | str b => cases (show x = .str b from h); exact ⟨rfl, rfl⟩
  | _ => exact absurd f Bool.false_ne_true
theorem flats_rep {K : PySem.W.Frag} {F : Hp} : ∀ {ds : List D} {vs : List V}, RepDs K F ds vs → ds.all D.flat = true → vs = ds.map D.toV ∧ vs.all flatV = true
  | [], _, h, _ => by rw [show _ = [] from h]; exact ⟨rfl, rfl⟩
  | d :: ds, _, h, f => by
    obtain ⟨w, ws, rfl, h2, h3⟩ := h
    rw [List.all_cons, Bool.and_eq_true] at f
    obtain ⟨e1, e2⟩ := flat_rep h2 f.1
    obtain ⟨e3, e4⟩ := flats_rep h3 f.2
    exact ⟨by rw [List.map_cons, ← e1, ← e3], by rw [List.all_cons, e2, e4] <;> rfl⟩
def D.items : D → Option (List D)
  | .tup ds => some ds
  | .lst ds => some ds
  | .rol ds => some ds
  | _ => none
def gIn (neg : Bool) (d e : D) : Option T := e.items.bind fun ds => if d.flat = true ∧ ds.all D.flat = true then some (.fr (.bl (if neg then !inV d.toV (ds.map D.toV) else inV d.toV (ds.map D.toV)))) else none
theorem items_rep {K : PySem.W.Frag} {F H : Hp} {e : D} {y : V} {ds : List D} (s : Same F H) (h : RepD K F e y) (q : e.items = some ds) : ∃ p vs, y = .ref p ∧ (SqL K H p vs ∨ SqT K H p vs) ∧ RepDs K F ds vs := by
  cases e with
  | tup xs => cases q; obtain ⟨a, vs, rfl, h2, h3⟩ := h; exact ⟨a, vs, rfl, .inr (Same.sqt s h2), h3⟩
  | lst xs => cases q; obtain ⟨a, vs, rfl, h2, h3⟩ := h; exact ⟨a, vs, rfl, .inl (SqL.of (s _ _ h2)), h3⟩
  | rol xs => cases q; obtain ⟨a, vs, rfl, h2, h3⟩ := h; exact ⟨a, vs, rfl, .inl (Same.sql s h2), h3⟩
  | _ => cases q
theorem f_in {K : PySem.W.Frag} {neg : Bool} : OpF2 K (rIn K neg) (gIn neg) := by
  intro F H d x e y t s hd he q Q k
  obtain ⟨ds, e1, q⟩ := Option.bind_eq_some_iff.mp q
  by_cases z : d.flat = true ∧ ds.all D.flat = true
  · rw [if_pos z] at q; cases q
    obtain ⟨p, vs, rfl, h1, h2⟩ := items_rep s he e1
    obtain ⟨rfl, h3⟩ := flat_rep hd z.1
    obtain ⟨rfl, h4⟩ := flats_rep h2 z.2
    exact ⟨p, _, rfl, h1, h3, h4, res0 s k rfl⟩
  · rw [if_neg z] at q; cases q
end L3
namespace L3
open PySem PySem.Spec PyProof.Rows L2

section
variable {K : PySem.W.Frag}
/-! ### built-in calls -/
def D.len : D → Option Nat
  | .str x => if x.length ≤ 4096 then some x.length else none
  | .tup ds => some ds.length
  | .lst ds => some ds.length
  | .rol ds => some ds.length
  | _ => none
def gLen : D → Option T := fun d => d.len.map fun (n : Nat) => T.fr (.int (n : Int))
theorem len_rep {F H : Hp} {d : D} {x : V} {n : Nat} (s : Same F H) (h : RepD K F d x) (q : d.len = some n) : LenV K x H n := by
  cases d with
  | str z =>
    cases (show x = .str z from h)
    have q' : (if z.length ≤ 4096 then some z.length else none) = some n := q
    by_cases y : z.length ≤ 4096
    · rw [if_pos y] at q'; cases q'; exact ⟨by rw [sizeLine_eq]; omega, rfl⟩
    · rw [if_neg y] at q'; cases q'
  | tup ds => cases q; obtain ⟨a, vs, rfl, h2, h3⟩ := h; exact .inr ⟨vs, Same.sqt s h2, h3.length.symm⟩
  | lst ds => cases q; obtain ⟨a, vs, rfl, h2, h3⟩ := h; exact .inl ⟨vs, SqL.of (s _ _ h2), h3.length.symm⟩
  | rol ds => cases q; obtain ⟨a, vs, rfl, h2, h3⟩ := h; exact .inl ⟨vs, Same.sql s h2, h3.length.symm⟩
  | _ => cases q
theorem reps1 {F : Hp} {d : D} {vs : List V} (h : RepDs K F [d] vs) : ∃ x, vs = [x] ∧ RepD K F d x := by
  obtain ⟨w, ws, rfl, h2, h3⟩ := h
  exact ⟨w, by rw [show ws = [] from h3], h2⟩
theorem reps2 {F : Hp} {d e : D} {vs : List V} (h : RepDs K F [d, e] vs) : ∃ x y, vs = [x, y] ∧ RepD K F d x ∧ RepD K F e y := by
  obtain ⟨w, ws, rfl, h2, h3⟩ := h
  obtain ⟨y, rfl, h4⟩ := reps1 h3
  exact ⟨w, y, rfl, h2, h4⟩
def g1 (f : D → Option T) : List D → Option T
  | [d] => f d
  | _ => none
def g2 (f : D → D → Option T) : List D → Option T
  | [d, e] => f d e
  | _ => none
theorem opn1 {R : List V → Hp → VK → Prop} {f : D → Option T} (h : OpF1 K (fun x H Q => R [x] H Q) f) : OpFn K R (g1 f) := by
  intro F H ds vs t s hr q Q k
  cases ds with
  | nil => cases q
  | cons d ds =>
    cases ds with
    | nil =>
      obtain ⟨x, rfl, hx⟩ := reps1 hr
      exact h F H d x t s hx q Q k
    | cons _ _ => cases q
theorem opn2 {R : List V → Hp → VK → Prop} {f : D → D → Option T} (h : OpF2 K (fun x y H Q => R [x, y] H Q) f) : OpFn K R (g2 f) := by
  intro F H ds vs t s hr q Q k
  cases ds with
  | nil => cases q
  | cons d ds =>
    cases ds with
    | nil => cases q
    | cons e ds =>
      cases ds with
      | nil =>
        obtain ⟨x, y, rfl, hx, hy⟩ := reps2 hr
        exact h F H d x e y t s hx hy q Q k
      | cons _ _ => cases q
abbrev rLen (K : PySem.W.Frag) : List V → Hp → VK → Prop := fun xs H Q => ∃ (x : V) (n : Nat), xs = [x] ∧ LenV K x H n ∧ Q (.int n) H
theorem f_len : OpFn K (rLen K) (g1 gLen) := opn1 (by
  intro F H d x t s hx q Q k
  obtain ⟨n, e, rfl⟩ := Option.map_eq_some_iff.mp q
  exact ⟨x, n, rfl, len_rep s hx e, res0 s k rfl⟩)
def gAbs : D → Option T
  | .int i => some (.fr (.int (if i < 0 then -i else i)))
  | _ => none
theorem f_abs : OpFn K (fun xs H Q => ∃ i, xs = [.int i] ∧ Q (.int (if i < 0 then -i else i)) H) (g1 gAbs) := opn1 (by
  intro F H d x t s hx q Q k
  cases d with
  | int i =>
    cases (show x = .int i from hx)
    cases q
    exact ⟨i, rfl, res0 s k rfl⟩
  | _ => cases q)
def gInt : D → Option T
  | .int i => some (.fr (.int i))
  | .bl b => some (.fr (.int (if b then 1 else 0)))
  | _ => none
theorem f_int1 : OpFn K (fun xs H Q => (∃ i, xs = [.int i] ∧ Q (.int i) H) ∨ ∃ k, xs = [.bl k] ∧ Q (.int (if k then 1 else 0)) H) (g1 gInt) := opn1 (by
  intro F H d x t s hx q Q k
  cases d with
  | int i =>
    cases (show x = .int i from hx)
    cases q
    exact .inl ⟨i, rfl, res0 s k rfl⟩
  | bl i =>
    cases (show x = .bl i from hx)
    cases q
    exact .inr ⟨i, rfl, res0 s k rfl⟩
  | _ => cases q)
def asInts : List D → Option (List Int)
  | [] => some []
  | .int i :: ds => (asInts ds).map (i :: ·)
  | _ => none
theorem asInts_eq : ∀ {ds : List D} {ns : List Int}, asInts ds = some ns → ds = ns.map D.int
  | [], _, h => by cases h; rfl
  | .int i :: ds, _, h => by
    obtain ⟨ms, e, rfl⟩ := Option.map_eq_some_iff.mp (show (asInts ds).map (i :: ·) = some _ from h)
    rw [asInts_eq e] <;> rfl
  | .non :: _, _, h => by cases h
  | .bl _ :: _, _, h => by cases h
  | .str _ :: _, _, h => by cases h
  | .ty _ :: _, _, h => by cases h
  | .tup _ :: _, _, h => by cases h
  | .lst _ :: _, _, h => by cases h
  | .rol _ :: _, _, h => by cases h
  | .dct _ _ :: _, _, h => by cases h
  | .obj _ _ _ :: _, _, h => by cases h
def asBls : List D → Option (List Bool)
  | [] => some []
  | .bl i :: ds => (asBls ds).map (i :: ·)
  | _ => none
theorem asBls_eq : ∀ {ds : List D} {ns : List Bool}, asBls ds = some ns → ds = ns.map D.bl
  | [], _, h => by cases h; rfl
  | .bl i :: ds, _, h => by
    obtain ⟨ms, e, rfl⟩ := Option.map_eq_some_iff.mp (show (asBls ds).map (i :: ·) = some _ from h)
    rw [asBls_eq e] <;> rfl
  | .non :: _, _, h => by cases h
  | .int _ :: _, _, h => by cases h
  | .str _ :: _, _, h => by cases h
  | .ty _ :: _, _, h => by cases h
  | .tup _ :: _, _, h => by cases h
  | .lst _ :: _, _, h => by cases h
  | .rol _ :: _, _, h => by cases h
  | .dct _ _ :: _, _, h => by cases h
  | .obj _ _ _ :: _, _, h => by cases h
/-- the items of a list -/
def D.litems : D → Option (List D)
  | .lst ds => some ds
  | .rol ds => some ds
  | _ => none
theorem litems_rep {F H : Hp} {e : D} {y : V} {ds : List D} (s : Same F H) (h : RepD K F e y) (q : e.litems = some ds) : ∃ p vs, y = .ref p ∧ SqL K H p vs ∧ RepDs K F ds vs := by
  cases e with
  | lst xs => cases q; obtain ⟨a, vs, rfl, h2, h3⟩ := h; exact ⟨a, vs, rfl, SqL.of (s _ _ h2), h3⟩
  | rol xs => cases q; obtain ⟨a, vs, rfl, h2, h3⟩ := h; exact ⟨a, vs, rfl, Same.sql s h2, h3⟩
  | _ => cases q
def gSum : D → Option T := fun d => d.litems.bind fun ds => (asInts ds).map fun ns => .fr (.int ns.sum)
theorem f_sum : OpFn K (rSum K) (g1 gSum) := opn1 (by
  intro F H d x t s hx q Q k
  obtain ⟨es, e1, q⟩ := Option.bind_eq_some_iff.mp q
  obtain ⟨ns, e2, rfl⟩ := Option.map_eq_some_iff.mp q
  obtain ⟨p, ws, rfl, h1, h2⟩ := litems_rep s hx e1
  rw [h2.ints (asInts_eq e2)] at h1
  exact ⟨p, ns, rfl, h1, res0 s k rfl⟩)
def gAll : D → Option T := fun d => d.litems.bind fun ds => (asBls ds).map fun ns => .fr (.bl (ns.all id))
theorem f_all : OpFn K (rAll K) (g1 gAll) := opn1 (by
  intro F H d x t s hx q Q k
  obtain ⟨es, e1, q⟩ := Option.bind_eq_some_iff.mp q
  obtain ⟨ns, e2, rfl⟩ := Option.map_eq_some_iff.mp q
  obtain ⟨p, ws, rfl, h1, h2⟩ := litems_rep s hx e1
  rw [h2.bls (asBls_eq e2)] at h1
  exact ⟨p, ns, rfl, h1, res0 s k rfl⟩)
def gAny : D → Option T := fun d => d.litems.bind fun ds => (asBls ds).map fun ns => .fr (.bl (ns.any id))
theorem f_any : OpFn K (rAny K) (g1 gAny) := opn1 (by
  intro F H d x t s hx q Q k
  obtain ⟨es, e1, q⟩ := Option.bind_eq_some_iff.mp q
  obtain ⟨ns, e2, rfl⟩ := Option.map_eq_some_iff.mp q
  obtain ⟨p, ws, rfl, h1, h2⟩ := litems_rep s hx e1
  rw [h2.bls (asBls_eq e2)] at h1
  exact ⟨p, ns, rfl, h1, res0 s k rfl⟩)
def maxI : List Int → Int
  | [] => 0
  | [a] => a
  | a :: b :: l => if maxI (b :: l) < a then a else maxI (b :: l)
theorem maxI_le : ∀ {l : List Int} {a : Int}, a ∈ l → a ≤ maxI l
  | [_], _, h => by simp at h; subst h; simp [maxI]
  | x :: b :: l, a, h => by
    unfold maxI
    rcases List.mem_cons.mp h with rfl | h
    · split <;> omega
    · have := maxI_le (l := b :: l) h
      split <;> omega
theorem maxI_mem : ∀ {l : List Int}, l ≠ [] → maxI l ∈ l
  | [a], _ => by simp [maxI]
  | x :: b :: l, _ => by
    unfold maxI
    split
    · simp
    · exact List.mem_cons_of_mem _ (maxI_mem (by simp))
def gMax1 : D → Option T := fun d => d.litems.bind fun ds => (asInts ds).bind fun ns => if ns = [] then none else some (.fr (.int (maxI ns)))
def gMax2 : D → D → Option T := gI0 fun i j => if j > i then j else i
theorem f_max1 : OpFn K (rMax K) (g1 gMax1) := opn1 (by
  intro F H d x t s hx q Q k
  obtain ⟨es, e1, q⟩ := Option.bind_eq_some_iff.mp q
  obtain ⟨ns, e2, q⟩ := Option.bind_eq_some_iff.mp q
  by_cases z : ns = []
  · rw [if_pos z] at q; cases q
  · rw [if_neg z] at q
    cases q
    obtain ⟨p, ws, rfl, h1, h2⟩ := litems_rep s hx e1
    rw [h2.ints (asInts_eq e2)] at h1
    refine ⟨p, ns, rfl, h1, List.length_pos_iff.mpr z, fun m hm hle => ?_⟩
    have e : m = maxI ns := by
      have a := hle _ (maxI_mem z)
      have b := maxI_le hm
      omega
    rw [e]
    exact res0 s k rfl)
theorem f_max2 : OpFn K (fun vs H Q => ∃ i j, vs = [.int i, .int j] ∧ Q (.int (if j > i then j else i)) H) (g2 gMax2) := opn2 (by
  intro F H d x e y t s hx hy q Q k
  cases d with
  | int i =>
    cases e with
    | int j =>
      cases (show x = .int i from hx)
      cases (show y = .int j from hy)
      cases q
      exact ⟨i, j, rfl, res0 s k rfl⟩
    | _ => cases q
  | _ => cases e <;> cases q)
def gMin2 : D → D → Option T := gI0 fun i j => if j < i then j else i
theorem f_min2 : OpFn K (fun vs H Q => ∃ i j, vs = [.int i, .int j] ∧ Q (.int (if j < i then j else i)) H) (g2 gMin2) := opn2 (by
  intro F H d x e y t s hx hy q Q k
  cases d with
  | int i =>
    cases e with
    | int j =>
      cases (show x = .int i from hx)
      cases (show y = .int j from hy)
      cases q
      exact ⟨i, j, rfl, res0 s k rfl⟩
    | _ => cases q
  | _ => cases e <;> cases q)
def gTupleOf : D → Option T
  | .tup ds => some (.fr (.tup ds))
  | .lst ds => some (.fr (.tup ds))
  | .rol ds => some (.fr (.tup ds))
  | _ => none
abbrev rTupleOf (K : PySem.W.Frag) : List V → Hp → VK → Prop := fun xs H Q => ∃ p ys, xs = [.ref p] ∧ ((SqL K H p ys ∧ ∀ l, H l = none → Q (.ref l) (upd H l (.tup ys))) ∨ (SqT K H p ys ∧ Q (.ref p) H))
theorem f_tupleOf : OpFn K (rTupleOf K) (g1 gTupleOf) := opn1 (by
  intro F H d x t s hx q Q k
  cases d with
  | tup es =>
    obtain ⟨a, ws, rfl, h2, h3⟩ := hx
    cases q
    exact ⟨a, ws, rfl, .inr ⟨Same.sqt s h2, res0 s k ⟨a, ws, rfl, h2, h3⟩⟩⟩
  | lst es =>
    obtain ⟨a, ws, rfl, h2, h3⟩ := hx
    cases q
    exact ⟨a, ws, rfl, .inl ⟨SqL.of (s _ _ h2), fun p hp => resT s k h3 hp⟩⟩
  | rol es =>
    obtain ⟨a, ws, rfl, h2, h3⟩ := hx
    cases q
    exact ⟨a, ws, rfl, .inl ⟨Same.sql s h2, fun p hp => resT s k h3 hp⟩⟩
  | _ => cases q)
def gListOf : D → Option T := fun d => d.items.map fun ds => .lst (ds.map .fr)
abbrev rListOf (K : PySem.W.Frag) : List V → Hp → VK → Prop := fun xs H Q => ∃ p ys, xs = [.ref p] ∧ (SqL K H p ys ∨ SqT K H p ys) ∧ ∀ l, H l = none → Q (.ref l) (upd H l (.lst ys))
theorem f_listOf : OpFn K (rListOf K) (g1 gListOf) := opn1 (by
  intro F H d x t s hx q Q k
  obtain ⟨es, e1, rfl⟩ := Option.map_eq_some_iff.mp q
  obtain ⟨p, ws, rfl, h1, h2⟩ := items_rep s hx e1
  exact ⟨p, ws, rfl, h1, fun l hl => resL s k h2 hl⟩)
/-! ### isinstance -/
def D.tyName : D → Option String
  | .non => some "NoneType" | .bl _ => some "bool" | .int _ => some "int" | .str _ => some "str"
  | .tup _ => some "tuple" | .lst _ => some "list" | .rol _ => some "list" | .dct _ _ => some "dict" | _ => none
/-- is a value of the type a one of the type b -/
def isiB (a b : String) : Bool := a == b || (a == "bool" && b == "int")
def isiAsk (b : String) : Bool := ["int", "bool", "str", "tuple", "list", "dict"].contains b
def D.asTy : D → Option String
  | .ty b => some b
  | _ => none
def gIsi : D → D → Option T := fun d e => e.asTy.bind fun b => d.tyName.bind fun a => if isiAsk b = true then some (.fr (.bl (isiB a b))) else none
theorem isi_all : ∀ a ∈ ["NoneType", "bool", "int", "str", "tuple", "list", "dict"], ∀ b ∈ ["int", "bool", "str", "tuple", "list", "dict"], kitB a b = some (isiB a b) := by decide +kernel
theorem isi_kit {d : D} {a b : String} (h : d.tyName = some a) (hb : isiAsk b = true) : PySem.W.kitOne K (.type a) (.type b) = some (isiB a b) := by
  have ha : a ∈ ["NoneType", "bool", "int", "str", "tuple", "list", "dict"] := by
    cases d <;> first | (cases h; decide) | cases h
  exact kit_ty (isi_all a ha b (by simpa [isiAsk] using hb))
theorem tyName_rep {F H : Hp} {d : D} {x : V} {a : String} (s : Same F H) (h : RepD K F d x) (q : d.tyName = some a) : TyX K H x (.type a) := by
  cases d with
  | non => cases q; cases (show x = .non from h); exact .base .non
  | bl b => cases q; cases (show x = .bl b from h); exact .base (.bl b)
  | int b => cases q; cases (show x = .int b from h); exact .base (.int b)
  | str b => cases q; cases (show x = .str b from h); exact .base (.str b)
  | tup ds =>
    cases q
    obtain ⟨p, vs, rfl, h2, h3⟩ := h
    rcases Same.sqt s h2 with (h2 | ⟨o, h2⟩) | ⟨o, its, n, h4, h5, h6⟩
    · exact .base (.tup h2)
    · exact .fTuple h2
    · exact .kTuple h4 h5
  | lst ds =>
    cases q
    obtain ⟨p, vs, rfl, h2, h3⟩ := h
    exact .base (.lst (s _ _ h2))
  | rol ds =>
    cases q
    obtain ⟨p, vs, rfl, h2, h3⟩ := h
    rcases Same.sql s h2 with (h2 | ⟨o, h2⟩) | ⟨o, its, n, h4, h5, h6⟩
    · exact .base (.lst h2)
    · exact .base (.frz h2)
    · exact .kList h4 h5
  | dct ks ds =>
    cases q
    obtain ⟨p, vs, rfl, h2, h3⟩ := h
    rcases Same.rd s h2 with h2 | ⟨o, h2⟩
    · exact .base (.dK h2)
    · exact .fDict h2
  | _ => cases q
theorem f_isi : OpFn K (rIsi K) (g2 gIsi) := opn2 (by
  intro F H d x e y t s hx hy q0 Q k
  obtain ⟨b, e0, q1⟩ := Option.bind_eq_some_iff.mp q0
  obtain ⟨a, e1, q⟩ := Option.bind_eq_some_iff.mp q1
  clear q0 q1
  by_cases z : isiAsk b = true
  · rw [if_pos z] at q
    cases q
    cases e with
    | ty c =>
      cases e0
      cases (show y = .ty b from hy)
      exact ⟨x, .ty b, _, _, _, rfl, .ty b, tyName_rep s hx e1, isi_kit e1 z, res0 s k rfl⟩
    | _ => cases e0
  · rw [if_neg z] at q; cases q)
/-! ### sorted ints -/
def insI (a : Int) : List Int → List Int
  | [] => [a]
  | b :: l => if a ≤ b then a :: b :: l else b :: insI a l
def sortI : List Int → List Int
  | [] => []
  | a :: l => insI a (sortI l)
theorem insI_perm (a : Int) : ∀ l : List Int, (insI a l).Perm (a :: l)
  | [] => .refl _
  | b :: l => by
    unfold insI
    split
    · exact .refl _
    · exact ((insI_perm a l).cons b).trans (.swap a b l)
theorem sortI_perm : ∀ l : List Int, (sortI l).Perm l
  | [] => .refl _
  | a :: l => (insI_perm a _).trans ((sortI_perm l).cons a)
theorem insI_sorted (a : Int) : ∀ {l : List Int}, l.Pairwise (· ≤ ·) → (insI a l).Pairwise (· ≤ ·)
  | [], _ => by simp [insI]
  | b :: l, h => by
    unfold insI
    split
    · rename_i z
      refine List.pairwise_cons.mpr ⟨fun c hc => ?_, h⟩
      rcases List.mem_cons.mp hc with rfl | hc
      · exact z
      · exact Int.le_trans z ((List.pairwise_cons.mp h).1 c hc)
    · rename_i z
      refine List.pairwise_cons.mpr ⟨fun c hc => ?_, insI_sorted a (List.pairwise_cons.mp h).2⟩
      have hc' := (insI_perm a l).mem_iff.mp hc
      rcases List.mem_cons.mp hc' with rfl | hc'
      · omega
      · exact (List.pairwise_cons.mp h).1 c hc'
theorem sortI_sorted : ∀ l : List Int, (sortI l).Pairwise (· ≤ ·)
  | [] => .nil
  | a :: l => insI_sorted a (sortI_sorted l)
theorem sorted_unique {l m : List Int} (hp : l.Perm m) (hl : l.Pairwise (· ≤ ·)) (hm : m.Pairwise (· ≤ ·)) : l = m := by
  induction l generalizing m with
  | nil => exact (List.perm_nil.mp hp.symm).symm
  | cons a l ih =>
    cases m with
    | nil => simp at hp
    | cons b m =>
      have hab : a = b := by
        have h1 : a ∈ b :: m := hp.mem_iff.mp (by simp)
        have h2 : b ∈ a :: l := hp.mem_iff.mpr (by simp)
        rcases List.mem_cons.mp h1 with e | h1
        · exact e
        · rcases List.mem_cons.mp h2 with e | h2
          · exact e.symm
          · have i1 := (List.pairwise_cons.mp hm).1 a h1
            have i2 := (List.pairwise_cons.mp hl).1 b h2
            omega
      subst hab
      rw [ih (List.Perm.cons_inv hp) (List.pairwise_cons.mp hl).2 (List.pairwise_cons.mp hm).2]
def gSorted : D → Option T := fun d => d.litems.bind fun ds => (asInts ds).bind fun ns => if ns.length < 64 then some (.lst ((sortI ns).map fun i => .fr (.int i))) else none
theorem reps_ints {F : Hp} : ∀ {ns : List Int}, RepDs K F (ns.map D.int) (ns.map V.int)
  | [] => rfl
  | n :: ns => ⟨.int n, ns.map V.int, rfl, rfl, reps_ints⟩
theorem f_sorted : OpFn K (rSorted K) (g1 gSorted) := opn1 (by
  intro F H d x t s hx q Q k
  obtain ⟨es, e1, q⟩ := Option.bind_eq_some_iff.mp q
  obtain ⟨ns, e2, q⟩ := Option.bind_eq_some_iff.mp q
  by_cases z : ns.length < 64
  · rw [if_pos z] at q; cases q
    obtain ⟨p, ws, rfl, h1, h2⟩ := litems_rep s hx e1
    rw [h2.ints (asInts_eq e2)] at h1
    refine ⟨p, ns, rfl, h1, z, fun ns' l hp hs hl => ?_⟩
    have e : ns' = sortI ns := sorted_unique (hp.trans (sortI_perm ns).symm) hs (sortI_sorted ns)
    rw [e]
    refine resL (K := K) s (fun v F' H' Sv g n r => k v F' H' Sv g n ?_) (reps_ints (ns := sortI ns)) hl
    rw [List.map_map] at r
    exact r
  · rw [if_neg z] at q; cases q)
/-! ### slices -/
def cutD (xs : List D) (lo hi : Option Int) : List D := (xs.drop (HT.sIx xs.length 0 lo)).take (HT.sIx xs.length xs.length hi - HT.sIx xs.length 0 lo)
theorem cut_rep {F : Hp} {ds : List D} {vs : List V} (h : RepDs K F ds vs) (lo hi : Option Int) : RepDs K F (cutD ds lo hi) (cutV vs lo hi) := by
  unfold cutD cutV
  rw [h.length]
  exact RepDs.take _ (RepDs.drop _ h)
def gSlice (d : D) (lo hi : Option Int) : Option T := match d with
  | .tup ds => some (.fr (.tup (cutD ds lo hi)))
  | .lst ds => some (.lst ((cutD ds lo hi).map .fr))
  | .rol ds => some (.lst ((cutD ds lo hi).map .fr))
  | _ => none
def rSlice (K : PySem.W.Frag) : V → Option Int → Option Int → Hp → VK → Prop := fun x lo hi H Q => rSlA K x lo hi H Q ∨ rSlL K x lo hi H Q
theorem sl_any {X : Cx} : SlR X (rSlice X.K) := SlR.or sl_tupA sl_list
theorem f_slice {F H : Hp} {d : D} {x : V} {lo hi : Option Int} {t : T} (s : Same F H) (hd : RepD K F d x) (q : gSlice d lo hi = some t) {Q : VK}
    (k : ∀ (v : V) (F' H' : Hp) (Sv : List Addr), Gr F H F' H' → Fresh F' H Sv → Rep K F' H' t v Sv → Q v H') : rSlice K x lo hi H Q := by
  cases d with
  | tup ds =>
    cases q
    obtain ⟨a, vs, rfl, h2, h3⟩ := hd
    refine .inl ⟨a, vs, rfl, Same.sqt s h2, fun hw => ?_, fun _ p hp => resT s k (cut_rep h3 lo hi) hp⟩
    have e : cutD ds lo hi = ds := by
      unfold cutD
      rw [h3.length] at hw
      rw [hw.1, hw.2]
      simp
    rw [e] at k
    exact res0 s k ⟨a, vs, rfl, h2, h3⟩
  | lst ds =>
    cases q
    obtain ⟨a, vs, rfl, h2, h3⟩ := hd
    exact .inr ⟨a, vs, rfl, SqL.of (s _ _ h2), fun p hp => resL s k (cut_rep h3 lo hi) hp⟩
  | rol ds =>
    cases q
    obtain ⟨a, vs, rfl, h2, h3⟩ := hd
    exact .inr ⟨a, vs, rfl, Same.sql s h2, fun p hp => resL s k (cut_rep h3 lo hi) hp⟩
  | _ => cases q
/-- a part of a slice -/
abbrev MO := Env → Option (Option Int × Env)
def SndO (K : PySem.W.Frag) (b : Bool) (tl : TO) (m : MO) : Prop :=
  ∀ (F H : Hp) (A S : List Addr) (σ : Sg) (ρ : Env) (c : Option Int) (ρ' : Env), RelE K F H A S σ ρ → m ρ = some (c, ρ') → ∀ Q : Option Int → Hp → Prop,
    (∀ (F' H' : Hp) (S' : List Addr), Same F F' → (∀ a ∈ A, H' a = H a) → RelE K F' H' A S' σ ρ' → (b = true → ρ' = ρ ∧ S' = S ∧ ∀ a ∈ S, H' a = H a) → Q c H') → tl σ H Q
def mNoPart : MO := fun ρ => some (none, ρ)
def mPart (m : ME) : MO := fun ρ => (m ρ).bind fun p => match p.1 with
  | .fr (.int i) => some (some i, p.2)
  | _ => none
theorem sndO_none : SndO K true tNoPart mNoPart := by
  intro F H A S σ ρ c ρ' R q Q k
  cases q
  exact k F H S (Same.refl _) (fun _ _ => rfl) R fun _ => ⟨rfl, rfl, fun _ _ => rfl⟩
theorem sndO_some {b : Bool} {te : TE} {m : ME} (h : Snd K b te m) : SndO K b (tPart te) (mPart m) := by
  intro F H A S σ ρ c ρ' R q Q k
  unfold mPart at q
  obtain ⟨⟨tx, ρ1⟩, e1, q⟩ := Option.bind_eq_some_iff.mp q
  refine h F H A S σ ρ tx ρ1 R e1 _ fun x F1 H1 S1 Sx f1 k1 R1 r1 p1 => ?_
  split at q
  · rename_i i e
    cases (show tx = _ from e)
    obtain ⟨rfl, r1⟩ := r1
    cases q
    exact ⟨i, r1, k F1 H1 S1 f1 k1 (by simpa using R1) p1⟩
  · cases q
def mSlice (ma : ME) (ml mh : MO) : ME := fun ρ => (ma ρ).bind fun p => (ml p.2).bind fun l => (mh l.2).bind fun h => p.1.frz.bind fun d => (gSlice d l.1 h.1).map fun t => (t, h.2)
theorem snd_slice {b1 b2 b3 : Bool} {ta : TE} {tl th : TO} {ma : ME} {ml mh : MO} (ha : Snd K b1 ta ma) (hl : SndO K b2 tl ml) (hh : SndO K b3 th mh) : Snd K (b1 && (b2 && b3)) (tSl (rSlice K) ta tl th) (mSlice ma ml mh) := by
  intro F H A S σ ρ t ρ' R q Q k
  unfold mSlice at q
  obtain ⟨⟨tx, ρ1⟩, e1, q⟩ := Option.bind_eq_some_iff.mp q
  obtain ⟨⟨lo, ρ2⟩, e2, q⟩ := Option.bind_eq_some_iff.mp q
  obtain ⟨⟨hi, ρ3⟩, e3, q⟩ := Option.bind_eq_some_iff.mp q
  obtain ⟨d, e4, q⟩ := Option.bind_eq_some_iff.mp q
  obtain ⟨u, e5, q⟩ := Option.map_eq_some_iff.mp q
  cases q
  refine ha F H A S σ ρ tx ρ1 R e1 _ fun x F1 H1 S1 Sx f1 k1 R1 r1 p1 => ?_
  refine hl F1 H1 _ S1 σ ρ1 lo ρ2 R1 e2 _ fun F2 H2 S2 f2 k2 R2' p2 => ?_
  refine hh F2 H2 _ S2 σ ρ2 hi _ R2' e3 _ fun F3 H3 S3 f3 k3 R3' p3 => ?_
  have r1' : Rep K F3 H3 tx x Sx := Rep.ext (f2.trans f3) tx x Sx (fun a h => by rw [k3 a (by simp [h]), k2 a (by simp [h])]) r1
  have w : Wd F3 H3 (Sx ++ (A ++ S3)) := R3'.wd.sub fun a => by simp only [List.count_append]; omega
  have f4 := w.fz_same
  have m1 : RepD K (fz F3 H3 Sx) d x := Rep.frozen f4 tx x Sx d r1' (fun a h => fz_in h) e4
  have R4 : RelE K (fz F3 H3 Sx) H3 A S3 σ ρ3 := ⟨RepE.ext f4 (fun _ _ => rfl) R3'.rep, w.fz, fun a h => R3'.tr a (by simp [h])⟩
  refine f_slice w.fz.same m1 e5 fun v F5 H5 Sv g5 n5 r5 => ?_
  refine k v F5 H5 S3 Sv (fun b o z => g5.f b o (f4 b o (f3 b o (f2 b o (f1 b o z))))) (fun a h => ?_) (g5.rel R4 n5 (Rep.tracked _ _ _ r5)) r5 fun z => ?_
  · rw [g5.keepA R4 a h, k3 a (by simp [h]), k2 a (by simp [h]), k1 a h]
  · obtain ⟨z1, z2, z3⟩ := pure2 p1 (pure2 p2 p3) z
    exact ⟨z1, z2, fun a h => by rw [g5.keepS R4 a (by rw [z2]; exact h), z3 a h]⟩
/-! ### len of a place, without freezing it -/
def T.len : T → Option Nat
  | .fr d => d.len
  | .lst ts => some ts.length
  | _ => none
def mLenP (mp : MP) : ME := fun ρ => (mp ρ).bind fun p => (p.get ρ).bind fun t => t.len.map fun (n : Nat) => (T.fr (.int (n : Int)), ρ)
theorem snd_lenP {ta : TE} {mp : MP} (ha : SndP K ta mp) : Snd K true (tCB (rLen K) (tCons ta tNil)) (mLenP mp) := by
  intro F H A S σ ρ t ρ' R q Q k
  unfold mLenP at q
  obtain ⟨p, e1, q⟩ := Option.bind_eq_some_iff.mp q
  obtain ⟨u, e2, q⟩ := Option.bind_eq_some_iff.mp q
  obtain ⟨n, e3, q⟩ := Option.map_eq_some_iff.mp q
  cases q
  refine ha F H A S σ ρ _ R e1 _ fun x F1 H1 f1 k1 R1 a1 => ?_
  refine ⟨x, n, rfl, ?_, k _ F1 H1 S [] f1 (fun a h => k1 a (by simp [h])) (by simpa using R1) ⟨rfl, rfl⟩ fun _ => ⟨rfl, rfl, fun a h => k1 a (by simp [h])⟩⟩
  cases p with
  | val d =>
    cases e2
    exact len_rep R1.wd.same a1 e3
  | plc i π =>
    obtain ⟨t0, v0, Sa, Sb, Sc, q1, q2, q3, q4, q5, q6, q7⟩ := AtP.same R1 a1 e2
    cases u with
    | fr d => exact len_rep R1.wd.same q5.2 e3
    | lst ts =>
      cases e3
      obtain ⟨a, vs, S', rfl, h2, rfl, h3⟩ := q5
      exact .inl ⟨vs, SqL.of h2, h3.length.symm⟩
    | _ => cases e3
end
end L3
namespace L3
open PySem PySem.Spec PyProof.Rows L2

/-! ### an owned node, and what is put in its place -/
inductive Cl where
  | lst | dct (ks : List Key) | obj (c : Str) (fs : List Str)
def Cl.t : Cl → List T → T
  | .lst, ts => .lst ts
  | .dct ks, ts => .dct ks ts
  | .obj c fs, ts => .obj c fs ts
def Cl.o (K : PySem.W.Frag) (dx : Addr) : Cl → List V → HO
  | .lst, vs => .lst vs
  | .dct ks, vs => .dK (ks.zip vs)
  | .obj c fs, vs => .ins (He.ga K c) dx (fs.zip vs)
def Cl.ok : Cl → Nat → Prop
  | .lst, _ => True
  | .dct ks, n => ks.length = n
  | .obj _ fs, n => fs.length = n
section
variable {K : PySem.W.Frag} {F F' H H' : Hp}
theorem Rep.node {cl : Cl} {ts : List T} {v : V} {S : List Addr} (h : Rep K F H (cl.t ts) v S) : ∃ a dx vs S', v = .ref a ∧ H a = some (cl.o K dx vs) ∧ cl.ok ts.length ∧ S = a :: S' ∧ Reps K F H ts vs S' := by
  cases cl with
  | lst =>
    obtain ⟨a, vs, S', h1, h2, h3, h4⟩ := h
    exact ⟨a, 0, vs, S', h1, h2, trivial, h3, h4⟩
  | dct ks =>
    obtain ⟨a, vs, S', h1, h2, h5, h3, h4⟩ := h
    exact ⟨a, 0, vs, S', h1, h2, h5, h3, h4⟩
  | obj c fs =>
    obtain ⟨a, dx, vs, S', h1, h2, h5, h3, h4⟩ := h
    exact ⟨a, dx, vs, S', h1, h2, h5, h3, h4⟩
theorem Rep.of_node {cl : Cl} {ts : List T} {a dx : Addr} {vs : List V} {S' : List Addr} (h2 : H a = some (cl.o K dx vs)) (h5 : cl.ok ts.length) (h4 : Reps K F H ts vs S') : Rep K F H (cl.t ts) (.ref a) (a :: S') := by
  cases cl with
  | lst => exact ⟨a, vs, S', rfl, h2, rfl, h4⟩
  | dct ks => exact ⟨a, vs, S', rfl, h2, h5, rfl, h4⟩
  | obj c fs => exact ⟨a, dx, vs, S', rfl, h2, h5, rfl, h4⟩
/-- the node at a place is written anew: Sv are temporaries that may go into it, Sk what comes out of it -/
theorem RelE.write {A S Sv : List Addr} {σ : Sg} {ρ : Env} {i : Nat} {π : Path} {x : V} {cl : Cl} {ts : List T} (R : RelE K F H (Sv ++ A) S σ ρ) (at_ : AtP K F H σ (.plc i π) x) (e : (Pl.plc i π).get ρ = some (cl.t ts)) :
    ∃ a dx vs S' t0, x = .ref a ∧ H a = some (cl.o K dx vs) ∧ cl.ok ts.length ∧ Reps K F H ts vs S' ∧ ρ[i]? = some (some t0) ∧
      ∀ (cl' : Cl) (ts' : List T) (vs' : List V) (S'' Sk : List Addr), (∀ b, S''.count b + Sk.count b ≤ Sv.count b + S'.count b) → cl'.ok ts'.length → Reps K F H ts' vs' S'' →
        (∃ S2, RelE K F (upd H a (cl'.o K dx vs')) (Sk ++ A) S2 σ (ρ.set i (some (t0.put (cl'.t ts') π)))) ∧ (∀ b ∈ Sk ++ A, upd H a (cl'.o K dx vs') b = H b) := by
  obtain ⟨t0, v0, Sa, Sb, Sc, q1, q2, q3, rfl, q5, q6, q7⟩ := AtP.same R at_ e
  obtain ⟨a, dx, vs, S', rfl, h2, h3, rfl, h4⟩ := q5.node
  refine ⟨a, dx, vs, S', t0, rfl, h2, h3, h4, q1, fun cl' ts' vs' S'' Sk hc ok r => ?_⟩
  have one := R.wd.one
  have ca : ∀ b, (Sv ++ A ++ (Sa ++ (a :: S' ++ Sc))).count b = Sv.count b + A.count b + (Sa.count b + ((if b = a then 1 else 0) + S'.count b + Sc.count b)) := fun b => by
    simp only [List.count_append, List.count_cons, List.cons_append, beq_iff_eq]
    by_cases z : b = a
    · subst z; simp
      try omega
    · have : ¬ a = b := fun y => z y.symm
      simp [z, this]
      try omega
  have out : ∀ b, b ∈ A ∨ b ∈ Sa ∨ b ∈ Sc ∨ b ∈ S'' ∨ b ∈ Sk → b ≠ a := fun b hb z => by
    subst z
    have h1 := one b
    rw [ca b, if_pos rfl] at h1
    have h5 := hc b
    rcases hb with hb | hb | hb | hb | hb <;> (have := List.count_pos_iff.mpr hb; omega)
  have ag : ∀ b, b ∈ A ∨ b ∈ Sa ∨ b ∈ Sc ∨ b ∈ S'' ∨ b ∈ Sk → upd H a (cl'.o K dx vs') b = H b := fun b hb => upd_ne (out b hb)
  have r2 : Reps K F (upd H a (cl'.o K dx vs')) ts' vs' S'' := Reps.ext (Same.refl _) _ _ _ (fun b hb => ag b (.inr (.inr (.inr (.inl hb))))) r
  have n2 : Rep K F (upd H a (cl'.o K dx vs')) (cl'.t ts') (.ref a) (a :: S'') := Rep.of_node upd_same ok r2
  have e2 := q7 F (upd H a (cl'.o K dx vs')) (Same.refl _) (fun b hb => ag b (by
    rcases List.mem_append.mp hb with z | z
    · exact .inr (.inl z)
    · exact .inr (.inr (.inl z)))) (cl'.t ts') (a :: S'') n2
  have agk : ∀ b ∈ Sk ++ A, upd H a (cl'.o K dx vs') b = H b := fun b hb => by
    rcases List.mem_append.mp hb with z | z
    · exact ag b (.inr (.inr (.inr (.inr z))))
    · exact ag b (.inl z)
  refine ⟨⟨_, e2, ?_, fun b hb => ?_⟩, agk⟩
  · have w : Wd F H (a :: ((Sk ++ A) ++ (Sa ++ (S'' ++ Sc)))) := R.wd.sub fun b => by
      have h5 := hc b
      rw [ca b]
      simp only [List.count_append, List.count_cons, beq_iff_eq]
      by_cases z : b = a
      · subst z; simp
        try omega
      · have : ¬ a = b := fun y => z y.symm
        simp [z, this]
        try omega
    refine (w.upd (o := cl'.o K dx vs')).sub fun b => ?_
    simp only [List.count_append, List.count_cons, List.cons_append]
    omega
  · rw [agk b hb]
    rcases List.mem_append.mp hb with z | z
    · have h5 := hc b
      have h6 := List.count_pos_iff.mpr z
      by_cases y : b ∈ Sv
      · exact R.tr b (by simp [y])
      · have y0 : Sv.count b = 0 := List.count_eq_zero.mpr y
        have : 0 < S'.count b := by omega
        exact Reps.tracked _ _ _ h4 b (List.count_pos_iff.mp this)
    · exact R.tr b (by simp [z])
end

/-! ### statements -/
def mNx : MS := fun ρ => some (.nx, ρ)
def mBk : MS := fun ρ => some (.bk, ρ)
def mCt : MS := fun ρ => some (.ct, ρ)
def mSeq (m1 m2 : MS) : MS := fun ρ => (m1 ρ).bind fun p => match p.1 with
  | .nx => m2 p.2
  | o => some (o, p.2)
def mRet (m : ME) : MS := fun ρ => (m ρ).map fun p => (.ret p.1, p.2)
def mRetN : MS := fun ρ => some (.ret (.fr .non), ρ)
def mDrop (m : ME) : MS := fun ρ => (m ρ).map fun p => (.nx, p.2)
def mIfS (mt : MT) (m1 m2 : MS) : MS := fun ρ => (mt ρ).bind fun p => if p.1 = true then m1 p.2 else m2 p.2
abbrev MG := T → Env → Option Env
abbrev MGs := List T → Env → Option Env
def mName (i : Nat) : MG := fun t ρ => if i < ρ.length then some (ρ.set i (some t)) else none
def mAsg (m : ME) (g : MG) : MS := fun ρ => (m ρ).bind fun p => (g p.1 p.2).map fun ρ' => (.nx, ρ')
def mgNil : MGs := fun ts ρ => match ts with
  | [] => some ρ
  | _ => none
def mgCons (g : MG) (gs : MGs) : MGs := fun ts ρ => match ts with
  | t :: ts => (g t ρ).bind fun ρ' => gs ts ρ'
  | [] => none
def mgTup (n : Nat) (gs : MGs) : MG := fun t ρ => match t with
  | .fr (.tup ds) => if ds.length = n then gs (ds.map .fr) ρ else none
  | .tup ts => if ts.length = n then gs ts ρ else none
  | _ => none
def SndG (K : PySem.W.Frag) (W : List Nat) (g : TG) (m : MG) : Prop :=
  ∀ (F H : Hp) (A S : List Addr) (σ : Sg) (ρ : Env) (t : T) (v : V) (Sv : List Addr) (ρ' : Env), RelE K F H (Sv ++ A) S σ ρ → Rep K F H t v Sv → m t ρ = some ρ' → ∀ Q : Sg → Hp → Prop,
    (∀ (σ' : Sg) (F' H' : Hp) (S' : List Addr), Same F F' → (∀ a ∈ A, H' a = H a) → (∀ i, i ∉ W → σ'[i]? = σ[i]?) → RelE K F' H' A S' σ' ρ' → Q σ' H') → g v σ H Q
def SndGs (K : PySem.W.Frag) (W : List Nat) (g : TGs) (m : MGs) : Prop :=
  ∀ (F H : Hp) (A S : List Addr) (σ : Sg) (ρ : Env) (ts : List T) (vs : List V) (Sv : List Addr) (ρ' : Env), RelE K F H (Sv ++ A) S σ ρ → Reps K F H ts vs Sv → m ts ρ = some ρ' → ∀ Q : Sg → Hp → Prop,
    (∀ (σ' : Sg) (F' H' : Hp) (S' : List Addr), Same F F' → (∀ a ∈ A, H' a = H a) → (∀ i, i ∉ W → σ'[i]? = σ[i]?) → RelE K F' H' A S' σ' ρ' → Q σ' H') → g vs σ H Q
section
variable {K : PySem.W.Frag} {b b1 b2 : Bool} {W W1 W2 : List Nat} {te ta : TE} {m ma : ME} {t u : TS} {m1 m2 : MS} {tt : TT} {mt : MT} {g : TG} {mg : MG} {gs : TGs} {mgs : MGs}
theorem sndS_nx : SndS K [] tNext mNx := by
  intro F H A S σ ρ o ρ' R q D k
  cases q
  exact k σ F H S (Same.refl _) (fun _ _ => rfl) (fun _ _ => rfl) R
theorem sndS_bk : SndS K [] tBreak mBk := by
  intro F H A S σ ρ o ρ' R q D k
  cases q
  exact k σ F H S (Same.refl _) (fun _ _ => rfl) (fun _ _ => rfl) R
theorem sndS_ct : SndS K [] tCont mCt := by
  intro F H A S σ ρ o ρ' R q D k
  cases q
  exact k σ F H S (Same.refl _) (fun _ _ => rfl) (fun _ _ => rfl) R
theorem sndS_seq (h1 : SndS K W1 t m1) (h2 : SndS K W2 u m2) : SndS K (W1 ++ W2) (tSeq t u) (mSeq m1 m2) := by
  intro F H A S σ ρ o ρ' R q D k
  obtain ⟨⟨o1, ρ1⟩, e1, q⟩ := Option.bind_eq_some_iff.mp q
  refine h1 F H A S σ ρ o1 ρ1 R e1 { D with nx := u D } fun σ1 F1 H1 S1 f1 k1 w1 => ?_
  cases o1 with
  | nx =>
    intro R1
    refine h2 F1 H1 A S1 σ1 ρ1 o ρ' R1 q D fun σ2 F2 H2 S2 f2 k2 w2 => ?_
    exact k σ2 F2 H2 S2 (f1.trans f2) (fun a h => (k2 a h).trans (k1 a h)) fun i hi => by
      rw [List.mem_append, not_or] at hi
      rw [w2 i hi.2, w1 i hi.1]
  | bk =>
    cases q
    exact k σ1 F1 H1 S1 f1 k1 fun i hi => w1 i fun z => hi (List.mem_append_left _ z)
  | ct =>
    cases q
    exact k σ1 F1 H1 S1 f1 k1 fun i hi => w1 i fun z => hi (List.mem_append_left _ z)
  | ret tr =>
    cases q
    exact k σ1 F1 H1 S1 f1 k1 fun i hi => w1 i fun z => hi (List.mem_append_left _ z)
theorem sndS_ret (h : Snd K b te m) : SndS K [] (tRet te) (mRet m) := by
  intro F H A S σ ρ o ρ' R q D k
  obtain ⟨⟨t1, ρ1⟩, e1, q⟩ := Option.map_eq_some_iff.mp q
  cases q
  exact h F H A S σ ρ t1 ρ1 R e1 _ fun v F1 H1 S1 Sv f1 k1 R1 r1 _ => k σ F1 H1 S1 f1 k1 (fun _ _ => rfl) v Sv R1 r1
theorem sndS_retN : SndS K [] tRetN mRetN := by
  intro F H A S σ ρ o ρ' R q D k
  cases q
  exact k σ F H S (Same.refl _) (fun _ _ => rfl) (fun _ _ => rfl) .non [] (by simpa using R) ⟨rfl, rfl⟩
theorem sndS_drop (h : Snd K b te m) : SndS K [] (tDrop te) (mDrop m) := by
  intro F H A S σ ρ o ρ' R q D k
  obtain ⟨⟨t1, ρ1⟩, e1, q⟩ := Option.map_eq_some_iff.mp q
  cases q
  exact h F H A S σ ρ t1 ρ1 R e1 _ fun v F1 H1 S1 Sv f1 k1 R1 r1 _ => k σ F1 H1 S1 f1 k1 (fun _ _ => rfl) ⟨R1.rep, R1.wd.sub fun a => by simp only [List.count_append]; omega, fun a h => R1.tr a (by simp [h])⟩
theorem sndS_if (hc : SndT K b tt mt) (h1 : SndS K W1 t m1) (h2 : SndS K W2 u m2) : SndS K (W1 ++ W2) (tIfS tt t u) (mIfS mt m1 m2) := by
  intro F H A S σ ρ o ρ' R q D k
  obtain ⟨⟨c, ρ1⟩, e1, q⟩ := Option.bind_eq_some_iff.mp q
  refine hc F H A S σ ρ c ρ1 R e1 _ fun F1 H1 S1 f1 k1 R1 _ => ?_
  cases c with
  | true =>
    rw [if_pos rfl] at q ⊢
    exact h1 F1 H1 A S1 σ ρ1 o ρ' R1 q D fun σ2 F2 H2 S2 f2 k2 w2 => k σ2 F2 H2 S2 (f1.trans f2) (fun a h => (k2 a h).trans (k1 a h)) fun i hi => w2 i fun z => hi (List.mem_append_left _ z)
  | false =>
    rw [if_neg Bool.false_ne_true] at q ⊢
    exact h2 F1 H1 A S1 σ ρ1 o ρ' R1 q D fun σ2 F2 H2 S2 f2 k2 w2 => k σ2 F2 H2 S2 (f1.trans f2) (fun a h => (k2 a h).trans (k1 a h)) fun i hi => w2 i fun z => hi (List.mem_append_right _ z)
theorem sndG_name {i : Nat} : SndG K [i] (gName i) (mName i) := by
  intro F H A S σ ρ t v Sv ρ' R r q Q k
  unfold mName at q
  by_cases z : i < ρ.length
  · rw [if_pos z] at q; cases q
    obtain ⟨Sa, Sc, h1, h2⟩ := RepE.put R.rep z
    have h3 := (h2 F H (Same.refl _) fun _ _ => rfl).2 v t Sv r
    refine k (σ.set i (some v)) F H (Sa ++ (Sv ++ Sc)) (Same.refl _) (fun _ _ => rfl) (fun j hj => List.getElem?_set_ne (fun e => hj (by simp [e]))) ⟨h3, R.wd.sub fun a => ?_, fun a h => R.tr a (by simp [h])⟩
    have := h1 a
    simp only [List.count_append] at this ⊢
    omega
  · rw [if_neg z] at q; cases q
theorem sndGs_nil : SndGs K [] gNil mgNil := by
  intro F H A S σ ρ ts vs Sv ρ' R r q Q k
  cases ts with
  | nil =>
    cases q
    obtain ⟨rfl, rfl⟩ := r
    exact ⟨rfl, k σ F H S (Same.refl _) (fun _ _ => rfl) (fun _ _ => rfl) (by simpa using R)⟩
  | cons _ _ => cases q
theorem sndGs_cons (h1 : SndG K W1 g mg) (h2 : SndGs K W2 gs mgs) : SndGs K (W1 ++ W2) (gCons g gs) (mgCons mg mgs) := by
  intro F H A S σ ρ ts vs Sv ρ' R r q Q k
  cases ts with
  | nil => cases q
  | cons t ts =>
    obtain ⟨v, ws, S1, S2, rfl, rfl, r1, r2⟩ := r
    obtain ⟨ρ1, e1, q⟩ := Option.bind_eq_some_iff.mp (show ((mg t ρ).bind fun ρ' => mgs ts ρ') = some ρ' from q)
    have R' : RelE K F H (S1 ++ (S2 ++ A)) S σ ρ := by simpa using R
    refine ⟨v, ws, rfl, h1 F H (S2 ++ A) S σ ρ t v S1 ρ1 R' r1 e1 _ fun σ1 F1 H1 S3 f1 k1 w1 R1 => ?_⟩
    refine h2 F1 H1 A S3 σ1 ρ1 ts ws S2 ρ' R1 (Reps.ext f1 ts ws S2 (fun a h => k1 a (by simp [h])) r2) q Q fun σ2 F2 H2 S4 f2 k2 w2 R2 => ?_
    exact k σ2 F2 H2 S4 (f1.trans f2) (fun a h => by rw [k2 a h, k1 a (by simp [h])]) (fun i hi => by
      rw [List.mem_append, not_or] at hi
      rw [w2 i hi.2, w1 i hi.1]) R2
theorem sndG_tup {n : Nat} (h : SndGs K W gs mgs) : SndG K W (gTup K n gs) (mgTup n mgs) := by
  intro F H A S σ ρ t v Sv ρ' R r q Q k
  cases t with
  | fr d =>
    cases d with
    | tup ds =>
      have q' : (if ds.length = n then mgs (ds.map .fr) ρ else none) = some ρ' := q
      by_cases z : ds.length = n
      · rw [if_pos z] at q'
        obtain ⟨rfl, a, vs, rfl, h2, h3⟩ := r
        exact ⟨a, vs, rfl, Same.sqt R.wd.same h2, h3.length.trans z, h F H A S σ ρ _ vs [] ρ' R (reps_fr h3) q' Q k⟩
      · rw [if_neg z] at q'; cases q'
    | _ => cases q
  | tup ts =>
    have q' : (if ts.length = n then mgs ts ρ else none) = some ρ' := q
    by_cases z : ts.length = n
    · rw [if_pos z] at q'
      obtain ⟨a, vs, rfl, h2, h3⟩ := r
      exact ⟨a, vs, rfl, Same.sqt R.wd.same h2, h3.length.trans z, h F H A S σ ρ _ vs Sv ρ' R h3 q' Q k⟩
    · rw [if_neg z] at q'; cases q'
  | _ => cases q
theorem sndS_asg (h : Snd K b te m) (hg : SndG K W g mg) : SndS K W (tAsg te g) (mAsg m mg) := by
  intro F H A S σ ρ o ρ' R q D k
  obtain ⟨⟨t1, ρ1⟩, e1, q⟩ := Option.bind_eq_some_iff.mp q
  obtain ⟨ρ2, e2, q⟩ := Option.map_eq_some_iff.mp q
  cases q
  exact h F H A S σ ρ t1 ρ1 R e1 _ fun v F1 H1 S1 Sv f1 k1 R1 r1 _ => hg F1 H1 A S1 σ ρ1 t1 v Sv _ R1 r1 e2 _ fun σ2 F2 H2 S2 f2 k2 w2 R2 => k σ2 F2 H2 S2 (f1.trans f2) (fun a h => (k2 a h).trans (k1 a h)) w2 R2
/-- weaken what may be stored -/
theorem sndS_sub (h : SndS K W1 t m1) (hs : ∀ i, i ∈ W1 → i ∈ W2) : SndS K W2 t m1 := by
  intro F H A S σ ρ o ρ' R q D k
  exact h F H A S σ ρ o ρ' R q D fun σ2 F2 H2 S2 f2 k2 w2 => k σ2 F2 H2 S2 f2 k2 fun i hi => w2 i fun z => hi (hs i z)

/-! ### stores, append, pop -/
/-- x[k] = v at an owned list, d[k] = v at an owned dict, by trees -/
def storeK (ks : List Key) (ts : List T) (k : Key) (u : T) : Option T :=
  if ks.length < 4096 then match kidx k ks with
    | some j => if (kidx k (ks.drop (j + 1))).isNone = true then some (.dct ks (ts.set j u)) else none
    | none => some (.dct (ks ++ [k]) (ts ++ [u]))
  else none
def T.store : T → D → T → Option T
  | .lst ts, .int k, u => (ixN ts.length k).map fun j => .lst (ts.set j u)
  | .dct ks ts, .int k, u => storeK ks ts (.inl k) u
  | .dct ks ts, .str k, u => storeK ks ts (.inr k) u
  | _, _, _ => none
def Pl.set (p : Pl) (u : T) (ρ : Env) : Option Env := match p with
  | .val _ => none
  | .plc i π => match ρ[i]? with
    | some (some t) => some (ρ.set i (some (t.put u π)))
    | _ => none
def mStore (mv : ME) (mp : MP) (mi : ME) : MS := fun ρ => (mv ρ).bind fun p => (mp p.2).bind fun pl => (mi p.2).bind fun q => match q.1 with
  | .fr e => (pl.get p.2).bind fun t => (t.store e p.1).bind fun t' => (pl.set t' p.2).map fun ρ' => (.nx, ρ')
  | _ => none
theorem Reps.set {F H : Hp} {ts : List T} {vs : List V} {S Sv : List Addr} {j : Nat} {u : T} {v : V} (r : Reps K F H ts vs S) (hj : j < ts.length) (ru : Rep K F H u v Sv) :
    ∃ S'', (∀ b, S''.count b ≤ Sv.count b + S.count b) ∧ Reps K F H (ts.set j u) (vs.set j v) S'' := by
  obtain ⟨w, Sa, Sb, Sc, h1, rfl, h3, h4, _⟩ := Reps.split r (List.getElem?_eq_getElem hj)
  exact ⟨Sa ++ (Sv ++ Sc), fun b => by simp only [List.count_append]; omega, h4 u v Sv ru⟩
theorem Reps.snoc {F H : Hp} {ts : List T} {vs : List V} {S Sv : List Addr} {u : T} {v : V} (r : Reps K F H ts vs S) (ru : Rep K F H u v Sv) : Reps K F H (ts ++ [u]) (vs ++ [v]) (S ++ Sv) := Reps.append r (Reps.one ru)
theorem kidx_none {α : Type} [DecidableEq α] {k : α} : ∀ {ks : List α}, kidx k ks = none → ∀ x ∈ ks, x ≠ k
  | x :: xs, h, y, hy => by
    unfold kidx at h
    by_cases e : x = k
    · rw [if_pos e] at h; cases h
    · rw [if_neg e] at h
      have h' : kidx k xs = none := by
        cases z : kidx k xs with
        | none => rfl
        | some i => rw [z] at h; cases h
      rcases List.mem_cons.mp hy with rfl | hy
      · exact e
      · exact kidx_none h' y hy
theorem putK_map {k : Key} {v : V} : ∀ {ks : List Key} {vs : List V}, (∀ x ∈ ks, x ≠ k) → (ks.zip vs).map (fun kv => if kv.1 = k then (kv.1, v) else kv) = ks.zip vs
  | [], _, _ => by simp
  | x :: xs, [], _ => by simp
  | x :: xs, w :: ws, h => by
    have h1 : x ≠ k := h x (by simp)
    simp only [List.zip_cons_cons, List.map_cons]
    rw [if_neg h1, putK_map fun y hy => h y (by simp [hy])]
theorem putK_zip_some {k : Key} {v : V} : ∀ {ks : List Key} {vs : List V} {j : Nat}, ks.length = vs.length → kidx k ks = some j → (kidx k (ks.drop (j + 1))).isNone = true → putK (ks.zip vs) k v = ks.zip (vs.set j v)
  | [], _, _, _, h, _ => by cases h
  | x :: xs, [], _, hl, _, _ => by simp at hl
  | x :: xs, w :: ws, j, hl, h, hn => by
    have h0 := h
    unfold kidx at h
    by_cases e : x = k
    · rw [if_pos e] at h
      cases h
      have h2 : kidx k xs = none := by simpa using hn
      unfold putK
      rw [if_pos (by simp [e])]
      simp only [List.zip_cons_cons, List.map_cons, List.set_cons_zero]
      rw [if_pos e, putK_map (kidx_none h2)]
    · rw [if_neg e] at h
      cases z : kidx k xs with
      | none => rw [z] at h; cases h
      | some i =>
        rw [z] at h
        cases h
        have ih := putK_zip_some (v := v) (ks := xs) (vs := ws) (by simpa using hl) z (by simpa using hn)
        have hany : ((xs.zip ws).any fun kv => decide (kv.1 = k)) = true := by
          have hv := valV_zip (vs := ws) z
          have hi : i < ws.length := by have := kidx_lt z; simp at hl; omega
          rw [List.getElem?_eq_getElem hi] at hv
          unfold valV at hv
          obtain ⟨p, hp, _⟩ := Option.map_eq_some_iff.mp hv
          exact List.any_eq_true.mpr ⟨p, List.mem_of_find?_eq_some hp, List.find?_some (p := fun kv : Key × V => decide (kv.1 = k)) hp⟩
        unfold putK at ih ⊢
        rw [if_pos hany] at ih
        rw [if_pos (by simp only [List.zip_cons_cons, List.any_cons, hany, Bool.or_true])]
        simp only [List.zip_cons_cons, List.map_cons, List.set_cons_succ]
        rw [if_neg e, ih]
theorem putK_zip_none {k : Key} {v : V} {ks : List Key} {vs : List V} (hl : ks.length = vs.length) (h : kidx k ks = none) : putK (ks.zip vs) k v = (ks ++ [k]).zip (vs ++ [v]) := by
  rw [putK_new v (valV_zip_none h), List.zip_append hl] <;> rfl
theorem putF_zip_some {f : Str} {v : V} : ∀ {fs : List Str} {vs : List V} {j : Nat}, fs.length = vs.length → kidx f fs = some j → putF f v (fs.zip vs) = fs.zip (vs.set j v)
  | [], _, _, _, h => by cases h
  | x :: xs, [], _, hl, _ => by simp at hl
  | x :: xs, w :: ws, j, hl, h => by
    unfold kidx at h
    by_cases e : x = f
    · rw [if_pos e] at h
      cases h
      show (if x = f then (x, v) :: xs.zip ws else (x, w) :: putF f v (xs.zip ws)) = _
      rw [if_pos e] <;> rfl
    · rw [if_neg e] at h
      cases z : kidx f xs with
      | none => rw [z] at h; cases h
      | some i =>
        rw [z] at h
        cases h
        show (if x = f then (x, v) :: xs.zip ws else (x, w) :: putF f v (xs.zip ws)) = _
        rw [if_neg e, putF_zip_some (by simpa using hl) z] <;> rfl
theorem putF_zip_none {f : Str} {v : V} : ∀ {fs : List Str} {vs : List V}, fs.length = vs.length → kidx f fs = none → putF f v (fs.zip vs) = (fs ++ [f]).zip (vs ++ [v])
  | [], [], _, _ => rfl
  | [], _ :: _, hl, _ => by simp at hl
  | x :: xs, [], hl, _ => by simp at hl
  | x :: xs, w :: ws, hl, h => by
    unfold kidx at h
    by_cases e : x = f
    · rw [if_pos e] at h; cases h
    · rw [if_neg e] at h
      have z : kidx f xs = none := by
        cases z : kidx f xs with
        | none => rfl
        | some i => rw [z] at h; cases h
      show (if x = f then (x, v) :: xs.zip ws else (x, w) :: putF f v (xs.zip ws)) = _
      rw [if_neg e, putF_zip_none (by simpa using hl) z] <;> rfl
end
end L3
namespace L3
open PySem PySem.Spec PyProof.Rows L2

section
variable {K : PySem.W.Frag} {b b1 b2 : Bool} {W W1 W2 : List Nat} {te ta ti tv : TE} {m ma mi mv : ME} {mp : MP} {t u : TS} {m1 m2 : MS} {tl : TA} {ml : MA}
theorem Pl.set_eq {i : Nat} {π : Path} {t0 u : T} {ρ ρ' : Env} (h : (Pl.plc i π).set u ρ = some ρ') (h0 : ρ[i]? = some (some t0)) : ρ' = ρ.set i (some (t0.put u π)) := by
  have h' : (match ρ[i]? with | some (some t) => some (ρ.set i (some (t.put u π))) | _ => none) = some ρ' := h
  rw [h0] at h'
  exact (Option.some.inj h').symm
/-- a place, then an index that changes nothing -/
theorem plc_idx (ha : SndP K ta mp) (hi : Snd K true ti mi) {F H : Hp} {A S : List Addr} {σ : Sg} {ρ ρ1 : Env} {i : Nat} {π : Path} {e : D} {t : T} (R : RelE K F H A S σ ρ) (e1 : mp ρ = some (.plc i π)) (e2 : mi ρ = some (.fr e, ρ1))
    (e3 : (Pl.plc i π).get ρ = some t) (Q2 : V → V → Hp → Prop)
    (k2 : ∀ x y F2 H2, Same F F2 → (∀ a ∈ A ++ S, H2 a = H a) → RelE K F2 H2 A S σ ρ → AtP K F2 H2 σ (.plc i π) x → RepD K F2 e y → Q2 x y H2) : ta σ H fun x H1 => ti σ H1 fun y H2 => Q2 x y H2 :=
  ha F H A S σ ρ _ R e1 _ fun x F1 H1 f1 k1 R1 a1 => hi F1 H1 A S σ ρ _ ρ1 R1 e2 _ fun y F2 H2 S2 Sy f2 k2' R2' r2 p2 => by
    obtain ⟨rfl, rfl, u⟩ := p2 rfl
    obtain ⟨rfl, r2⟩ := r2
    refine k2 x y F2 H2 (f1.trans f2) (fun a h => by
      rcases List.mem_append.mp h with z | z
      · rw [k2' a z, k1 a h]
      · rw [u a z, k1 a h]) (by simpa using R2') ?_ r2
    obtain ⟨t0, v0, Sa, Sb, Sc, q1, q2, q3, q4, q5, q6, q7⟩ := AtP.same R1 a1 e3
    exact ⟨v0, q2, q6 H2 u⟩
def tStore (te to ti : TE) : TS := fun D σ H => tAsg te (gSub to ti rSetL) D σ H ∨ sDPut to ti te D σ H
theorem sndS_store (hv : Snd K b tv mv) (ha : SndP K ta mp) (hi : Snd K true ti mi) : SndS K [] (tStore tv ta ti) (mStore mv mp mi) := by
  intro F H A S σ ρ o ρ' R q D k
  obtain ⟨⟨tu, ρ1⟩, e1, q⟩ := Option.bind_eq_some_iff.mp q
  obtain ⟨pl, e2, q⟩ := Option.bind_eq_some_iff.mp q
  obtain ⟨⟨ty, ρ2⟩, e3, q⟩ := Option.bind_eq_some_iff.mp q
  cases ty with
  | fr e =>
    obtain ⟨t, e4, q⟩ := Option.bind_eq_some_iff.mp (show ((pl.get ρ1).bind fun t => (t.store e tu).bind fun t' => (pl.set t' ρ1).map fun ρ' => (Out.nx, ρ')) = some (o, ρ') from q)
    obtain ⟨t', e5, q⟩ := Option.bind_eq_some_iff.mp q
    obtain ⟨ρ3, e6, q⟩ := Option.map_eq_some_iff.mp q
    cases q
    cases pl with
    | val d => cases e6
    | plc i π =>
      cases t with
      | lst ts =>
        cases e with
        | int n =>
          obtain ⟨j, e7, rfl⟩ := Option.map_eq_some_iff.mp (show (ixN ts.length n).map (fun j => T.lst (ts.set j tu)) = some t' from e5)
          refine .inl (hv F H A S σ ρ tu ρ1 R e1 _ fun v F1 H1 S1 Sv f1 k1 R1 r1 _ => ?_)
          refine plc_idx ha hi R1 e2 e3 e4 _ fun x y F2 H2 f2 k2 R2 a2 r2 => ?_
          cases (show y = .int n from r2)
          obtain ⟨a, dx, vs, S', t0, rfl, h2, h3, h4, h5, wr⟩ := RelE.write (cl := .lst) (ts := ts) R2 a2 e4
          have hj : j < ts.length := by
            unfold ixN at e7
            split at e7
            · split at e7
              · cases e7; omega
              · cases e7
            · split at e7
              · cases e7; omega
              · cases e7
          obtain ⟨S'', c1, r3⟩ := h4.set hj (Rep.ext f2 tu v Sv (fun a h => k2 a (by simp [h])) r1)
          obtain ⟨⟨S2, R3⟩, ag⟩ := wr .lst (ts.set j tu) (vs.set j v) S'' [] (fun b => by have := c1 b; simp; omega) trivial r3
          rw [Pl.set_eq e6 h5] at k
          refine ⟨a, vs, n, j, rfl, rfl, h2, by rw [h4.length]; exact e7, k σ F2 _ S2 (f1.trans f2) (fun b hb => ?_) (fun _ _ => rfl) R3⟩
          rw [show upd H2 a (.lst (vs.set j v)) b = H2 b from ag b (by simpa using hb), k2 b (by simp [hb]), k1 b hb]
        | _ => cases e5
      | dct ks ts =>
        have go : ∀ kk : Key, (∀ y F2, RepD K F2 e y → y = kV kk) → storeK ks ts kk tu = some t' → sDPut ta ti tv D σ H := fun kk hk e5 => by
          refine hv F H A S σ ρ tu ρ1 R e1 _ fun v F1 H1 S1 Sv f1 k1 R1 r1 _ => ?_
          refine plc_idx ha hi R1 e2 e3 e4 _ fun x y F2 H2 f2 k2 R2 a2 r2 => ?_
          have ey := hk y F2 r2
          subst ey
          obtain ⟨a, dx, vs, S', t0, rfl, h2, h3, h4, h5, wr⟩ := RelE.write (cl := .dct ks) (ts := ts) R2 a2 e4
          have h3' : ks.length = ts.length := h3
          have hl : ks.length = vs.length := by rw [h4.length]; exact h3'
          have r1' := Rep.ext f2 tu v Sv (fun a h => k2 a (by simp [h])) r1
          unfold storeK at e5
          by_cases z : ks.length < 4096
          · rw [if_pos z] at e5
            have lt : (ks.zip vs).length < sizeLine := by rw [sizeLine_eq, List.length_zip]; omega
            cases y : kidx kk ks with
            | some j =>
              rw [y] at e5
              have e5' : (if (kidx kk (ks.drop (j + 1))).isNone = true then some (T.dct ks (ts.set j tu)) else none) = some t' := e5
              by_cases y2 : (kidx kk (ks.drop (j + 1))).isNone = true
              · rw [if_pos y2] at e5'
                cases e5'
                obtain ⟨S'', c1, r3⟩ := h4.set (by rw [← h3']; exact kidx_lt y) r1'
                obtain ⟨⟨S2, R3⟩, ag⟩ := wr (.dct ks) (ts.set j tu) (vs.set j v) S'' [] (fun b => by have := c1 b; simp; omega) (by show ks.length = _; rw [List.length_set]; exact h3') r3
                rw [Pl.set_eq e6 h5] at k
                refine ⟨a, _, rfl, DPut.k (k := kk) h2 lt, ?_⟩
                rw [putK_zip_some hl y y2]
                refine k σ F2 _ S2 (f1.trans f2) (fun b hb => ?_) (fun _ _ => rfl) R3
                rw [show upd H2 a (.dK (ks.zip (vs.set j v))) b = H2 b from ag b (by simpa using hb), k2 b (by simp [hb]), k1 b hb]
              · rw [if_neg y2] at e5'; cases e5'
            | none =>
              rw [y] at e5
              cases e5
              have r3 := h4.snoc r1'
              obtain ⟨⟨S2, R3⟩, ag⟩ := wr (.dct (ks ++ [kk])) (ts ++ [tu]) (vs ++ [v]) (S' ++ Sv) [] (fun b => by simp only [List.count_append, List.count_nil]; omega) (by show (ks ++ [kk]).length = _; simp [h3']) r3
              rw [Pl.set_eq e6 h5] at k
              refine ⟨a, _, rfl, DPut.k (k := kk) h2 lt, ?_⟩
              rw [putK_zip_none hl y]
              refine k σ F2 _ S2 (f1.trans f2) (fun b hb => ?_) (fun _ _ => rfl) R3
              rw [show upd H2 a (.dK ((ks ++ [kk]).zip (vs ++ [v]))) b = H2 b from ag b (by simpa using hb), k2 b (by simp [hb]), k1 b hb]
          · rw [if_neg z] at e5; cases e5
        cases e with
        | int n => exact .inr (go (.inl n) (fun y F2 r => r) e5)
        | str n => exact .inr (go (.inr n) (fun y F2 r => r) e5)
        | _ => cases e5
      | _ => cases e <;> cases e5
  | _ => cases q
/-! ### fields -/
def T.fput (c f : Str) (t : T) (u : T) : Option T := match t with
  | .obj c' fs ts => if c' = c ∧ fs.length < 900 then some (match kidx f fs with
    | some j => .obj c' fs (ts.set j u)
    | none => .obj c' (fs ++ [f]) (ts ++ [u])) else none
  | _ => none
def mFput (c f : Str) (mv : ME) (mp : MP) : MS := fun ρ => (mv ρ).bind fun p => (mp p.2).bind fun pl => (pl.get p.2).bind fun t => (t.fput c f p.1).bind fun t' => (pl.set t' p.2).map fun ρ' => (.nx, ρ')
theorem sndS_fput {c f : Str} (hc : Cls K (He.ga K c)) (hn : NoAttr K (He.ga K c) f) (hv : Snd K b tv mv) (ha : SndP K ta mp) : SndS K [] (sFld K ta tv f) (mFput c f mv mp) := by
  intro F H A S σ ρ o ρ' R q D k
  obtain ⟨⟨tu, ρ1⟩, e1, q⟩ := Option.bind_eq_some_iff.mp q
  obtain ⟨pl, e2, q⟩ := Option.bind_eq_some_iff.mp q
  obtain ⟨t, e4, q⟩ := Option.bind_eq_some_iff.mp q
  obtain ⟨t', e5, q⟩ := Option.bind_eq_some_iff.mp q
  obtain ⟨ρ3, e6, q⟩ := Option.map_eq_some_iff.mp q
  cases q
  cases pl with
  | val d => cases e6
  | plc i π =>
    cases t with
    | obj c' fs ts =>
      have e5' : (if c' = c ∧ fs.length < 900 then some (match kidx f fs with
        | some j => T.obj c' fs (ts.set j tu)
        | none => .obj c' (fs ++ [f]) (ts ++ [tu])) else none) = some t' := e5
      by_cases z : c' = c ∧ fs.length < 900
      · rw [if_pos z] at e5'
        obtain ⟨rfl, z2⟩ := z
        refine hv F H A S σ ρ tu ρ1 R e1 _ fun v F1 H1 S1 Sv f1 k1 R1 r1 _ => ?_
        refine ha F1 H1 _ S1 σ ρ1 _ R1 e2 _ fun x F2 H2 f2 k2 R2 a2 => ?_
        obtain ⟨a, dx, vs, S', t0, rfl, h2, h3, h4, h5, wr⟩ := RelE.write (cl := .obj c' fs) (ts := ts) R2 a2 e4
        have h3' : fs.length = ts.length := h3
        have hl : fs.length = vs.length := by rw [h4.length]; exact h3'
        have r1' := Rep.ext f2 tu v Sv (fun a h => k2 a (by simp [h])) r1
        rw [Pl.set_eq e6 h5] at k
        refine ⟨a, _, dx, _, rfl, h2, hc, hn, by rw [List.length_zip]; omega, ?_⟩
        cases y : kidx f fs with
        | some j =>
          rw [y] at e5'
          cases e5'
          obtain ⟨S'', c1, r3⟩ := h4.set (by rw [← h3']; exact kidx_lt y) r1'
          obtain ⟨⟨S2, R3⟩, ag⟩ := wr (.obj c' fs) (ts.set j tu) (vs.set j v) S'' [] (fun b => by have := c1 b; simp; omega) (by show fs.length = _; rw [List.length_set]; exact h3') r3
          rw [putF_zip_some hl y]
          refine k σ F2 _ S2 (f1.trans f2) (fun b hb => ?_) (fun _ _ => rfl) R3
          rw [show upd H2 a (.ins (He.ga K c') dx (fs.zip (vs.set j v))) b = H2 b from ag b (by simpa using hb), k2 b (by simp [hb]), k1 b hb]
        | none =>
          rw [y] at e5'
          cases e5'
          have r3 := h4.snoc r1'
          obtain ⟨⟨S2, R3⟩, ag⟩ := wr (.obj c' (fs ++ [f])) (ts ++ [tu]) (vs ++ [v]) (S' ++ Sv) [] (fun b => by simp only [List.count_append, List.count_nil]; omega) (by show (fs ++ [f]).length = _; simp [h3']) r3
          rw [putF_zip_none hl y]
          refine k σ F2 _ S2 (f1.trans f2) (fun b hb => ?_) (fun _ _ => rfl) R3
          rw [show upd H2 a (.ins (He.ga K c') dx ((fs ++ [f]).zip (vs ++ [v]))) b = H2 b from ag b (by simpa using hb), k2 b (by simp [hb]), k1 b hb]
      · rw [if_neg z] at e5'; cases e5'
    | _ => cases e5
/-! ### append, pop -/
/-- x.append(e), where e changes nothing of the slots -/
def mAppP (mp : MP) (mv : ME) : ME := fun ρ => (mp ρ).bind fun pl => (mv ρ).bind fun p => (pl.get ρ).bind fun t => match t with
  | .lst ts => if ts.length < 1000000 then (pl.set (.lst (ts ++ [p.1])) ρ).map fun ρ' => (.fr .non, ρ') else none
  | _ => none
/-- x.append(e), where e does not touch the slot of x -/
def mAppT (mp : MP) (mv : ME) : ME := fun ρ => (mp ρ).bind fun pl => match pl with
  | .plc i π => match ρ[i]? with
    | some (some t0) => (mv (ρ.set i none)).bind fun p => (t0.get π).bind fun t => match t with
      | .lst ts => if ts.length < 1000000 then some (.fr .non, p.2.set i (some (t0.put (.lst (ts ++ [p.1])) π))) else none
      | _ => none
    | _ => none
  | _ => none
abbrev tApp (K : PySem.W.Frag) (to te : TE) : TE := tBM K "list" rAppend to (tCons te tNil)
theorem snd_appP (ha : SndP K ta mp) (hv : Snd K true tv mv) : Snd K false (tApp K ta tv) (mAppP mp mv) := by
  intro F H A S σ ρ t ρ' R q Q k
  obtain ⟨pl, e1, q⟩ := Option.bind_eq_some_iff.mp q
  obtain ⟨⟨tu, ρ1⟩, e2, q⟩ := Option.bind_eq_some_iff.mp q
  obtain ⟨t0, e3, q⟩ := Option.bind_eq_some_iff.mp q
  cases t0 with
  | lst ts =>
    have q' : (if ts.length < 1000000 then (pl.set (.lst (ts ++ [tu])) ρ).map fun ρ' => (T.fr .non, ρ') else none) = some (t, ρ') := q
    by_cases z : ts.length < 1000000
    · rw [if_pos z] at q'
      obtain ⟨ρ2, e4, q'⟩ := Option.map_eq_some_iff.mp q'
      cases q'
      cases pl with
      | val d => cases e4
      | plc i π =>
        refine ha F H A S σ ρ _ R e1 _ fun x F1 H1 f1 k1 R1 a1 => ?_
        obtain ⟨t0, v0, Sa, Sb, Sc, q1, q2, q3, q4, q5, q6, q7⟩ := AtP.same R1 a1 e3
        refine ⟨?_, ?_⟩
        · obtain ⟨a, vs, S', rfl, h2, _⟩ := q5
          exact .inl ⟨rfl, vs, SqL.of h2⟩
        refine hv F1 H1 A S σ ρ tu ρ1 R1 e2 _ fun y F2 H2 S2 Sy f2 k2 R2 r2 p2 => ?_
        obtain ⟨rfl, rfl, u⟩ := p2 rfl
        have a2 : AtP K F2 H2 σ (.plc i π) x := ⟨v0, q2, q6 H2 u⟩
        obtain ⟨a, dx, vs, S', t0', rfl, h2, h3, h4, h5, wr⟩ := RelE.write (cl := .lst) (ts := ts) R2 a2 e3
        obtain ⟨⟨S3, R3⟩, ag⟩ := wr .lst (ts ++ [tu]) (vs ++ [y]) (S' ++ Sy) [] (fun b => by simp only [List.count_append, List.count_nil]; omega) trivial (h4.snoc r2)
        rw [Pl.set_eq e4 h5] at k
        refine ⟨a, vs, y, rfl, rfl, h2, by rw [sizeLine_eq, h4.length]; omega, k .non F2 _ S3 [] (f1.trans f2) (fun b hb => ?_) R3 ⟨rfl, rfl⟩ fun z => nomatch z⟩
        rw [show upd H2 a (.lst (vs ++ [y])) b = H2 b from ag b (by simpa using hb), k2 b hb, k1 b (by simp [hb])]
    · rw [if_neg z] at q'; cases q'
  | _ => cases q
theorem snd_appT (ha : SndP K ta mp) (hv : Snd K b tv mv) : Snd K false (tApp K ta tv) (mAppT mp mv) := by
  intro F H A S σ ρ t ρ' R q Q k
  obtain ⟨pl, e1, q⟩ := Option.bind_eq_some_iff.mp q
  cases pl with
  | val d => cases q
  | plc i π =>
    have q' : (match ρ[i]? with
      | some (some t0) => (mv (ρ.set i none)).bind fun p => (t0.get π).bind fun t => match t with
        | .lst ts => if ts.length < 1000000 then some (T.fr .non, p.2.set i (some (t0.put (.lst (ts ++ [p.1])) π))) else none
        | _ => none
      | _ => none) = some (t, ρ') := q
    split at q'
    · rename_i t0 e0
      obtain ⟨⟨tu, ρ1⟩, e2, q'⟩ := Option.bind_eq_some_iff.mp q'
      obtain ⟨t1, e3, q'⟩ := Option.bind_eq_some_iff.mp q'
      cases t1 with
      | lst ts =>
        have q2 : (if ts.length < 1000000 then some (T.fr .non, ρ1.set i (some (t0.put (.lst (ts ++ [tu])) π))) else none) = some (t, ρ') := q'
        by_cases z : ts.length < 1000000
        · rw [if_pos z] at q2
          cases q2
          refine ha F H A S σ ρ _ R e1 _ fun x F1 H1 f1 k1 R1 a1 => ?_
          have e3' : (Pl.plc i π).get ρ = some (.lst ts) := by
            show (match ρ[i]? with | some (some t) => t.get π | _ => none) = _
            rw [e0]; exact e3
          obtain ⟨t0', v0, Sa, Sb, Sc, q1, q2, q3, q4, q5, q6, q7⟩ := AtP.same R1 a1 e3'
          refine ⟨?_, ?_⟩
          · obtain ⟨a, vs, S', rfl, h2, _⟩ := q5
            exact .inl ⟨rfl, vs, SqL.of h2⟩
          -- the slot taken out
          obtain ⟨v1, Ta, Tb, Tc, s1, rfl, s3, s4⟩ := RepE.split R1.rep e0
          rw [q2] at s1
          cases s1
          have R1' : RelE K F1 H1 (Tb ++ A) (Ta ++ Tc) σ (ρ.set i none) := ⟨(s4 F1 H1 (Same.refl _) fun _ _ => rfl).1, R1.wd.sub fun a => by simp only [List.count_append]; omega, fun a h => by
            rcases List.mem_append.mp h with z | z
            · exact Rep.tracked _ _ _ s3 a z
            · exact R1.tr a z⟩
          refine hv F1 H1 _ _ σ _ tu ρ1 R1' e2 _ fun y F2 H2 S2 Sy f2 k2 R2 r2 _ => ?_
          -- and put back
          have s3' : Rep K F2 H2 t0 v0 Tb := Rep.ext f2 t0 v0 Tb (fun a h => k2 a (by simp [h])) s3
          have hi : i < ρ1.length := by
            have l1 := R2.rep.length
            have l2 := R1.rep.length
            have l3 : i < ρ.length := (List.getElem?_eq_some_iff.mp e0).1
            omega
          obtain ⟨Ua, Uc, u1, u2⟩ := RepE.put R2.rep hi
          have R3 : RelE K F2 H2 (Sy ++ A) (Ua ++ (Tb ++ Uc)) σ (ρ1.set i (some t0)) := by
            have h := (u2 F2 H2 (Same.refl _) fun _ _ => rfl).2 v0 t0 Tb s3'
            have hσ : σ.set i (some v0) = σ := set_same q2
            rw [hσ] at h
            refine ⟨h, R2.wd.sub fun a => ?_, fun a h => ?_⟩
            · have := u1 a
              simp only [List.count_append] at this ⊢
              omega
            · refine R2.tr a ?_
              rcases List.mem_append.mp h with z | z <;> simp [z]
          have e4 : (ρ1.set i (some t0))[i]? = some (some t0) := List.getElem?_set_self hi
          have e5 : (Pl.plc i π).get (ρ1.set i (some t0)) = some (.lst ts) := by
            show (match (ρ1.set i (some t0))[i]? with | some (some t) => t.get π | _ => none) = _
            rw [e4]; exact e3
          have a2 : AtP K F2 H2 σ (.plc i π) x := by
            obtain ⟨w, _, _, _, l1, _⟩ := Rep.path s3 e3
            have h1 : Lcn H1 π v0 w := l1 H1 fun _ _ => rfl
            obtain ⟨v9, h8, h9⟩ := a1
            rw [q2] at h8
            cases h8
            have ew := h9.inj h1
            subst ew
            exact ⟨v0, q2, l1 H2 fun a h => k2 a (by simp [h])⟩
          obtain ⟨a, dx, vs, S', t9, rfl, h2, h3, h4, h5, wr⟩ := RelE.write (cl := .lst) (ts := ts) R3 a2 e5
          rw [e4] at h5
          cases h5
          obtain ⟨⟨S3, R4⟩, ag⟩ := wr .lst (ts ++ [tu]) (vs ++ [y]) (S' ++ Sy) [] (fun b => by simp only [List.count_append, List.count_nil]; omega) trivial (h4.snoc r2)
          rw [List.set_set] at R4
          refine ⟨a, vs, y, rfl, rfl, h2, by rw [sizeLine_eq, h4.length]; omega, k .non F2 _ S3 [] (f1.trans f2) (fun b hb => ?_) R4 ⟨rfl, rfl⟩ fun z => nomatch z⟩
          rw [show upd H2 a (.lst (vs ++ [y])) b = H2 b from ag b (by simpa using hb), k2 b (by simp [hb]), k1 b (by simp [hb])]
        · rw [if_neg z] at q2; cases q2
      | _ => cases q'
    · cases q'
theorem Reps.last {F H : Hp} : ∀ {ts : List T} {vs : List V} {S : List Addr} {t : T}, Reps K F H ts vs S → ts[ts.length - 1]? = some t →
    ∃ v S1 S2, vs[vs.length - 1]? = some v ∧ Rep K F H t v S2 ∧ Reps K F H ts.dropLast vs.dropLast S1 ∧ ∀ b, S1.count b + S2.count b ≤ S.count b
  | [], _, _, _, _, e => by simp at e
  | [t0], _, _, t, h, e => by
    obtain ⟨w, ws, S1, S2, rfl, rfl, h2, h3⟩ := h
    obtain ⟨rfl, rfl⟩ := h3
    simp at e; subst e
    exact ⟨w, [], S1, by simp, h2, ⟨rfl, rfl⟩, fun b => by simp⟩
  | t0 :: t1 :: ts, _, _, t, h, e => by
    obtain ⟨w, ws, S1, S2, rfl, rfl, h2, h3⟩ := h
    have hl := h3.length
    obtain ⟨v, T1, T2, q1, q2, q3, q4⟩ := Reps.last (ts := t1 :: ts) (t := t) h3 (by simpa using e)
    cases ws with
    | nil => simp at hl
    | cons w1 ws =>
      refine ⟨v, S1 ++ T1, T2, by simpa using q1, q2, ?_, fun b => by have := q4 b; simp only [List.count_append]; omega⟩
      exact ⟨w, _, S1, T1, rfl, rfl, h2, q3⟩
def mPop (mp : MP) : ME := fun ρ => (mp ρ).bind fun pl => (pl.get ρ).bind fun t => match t with
  | .lst ts => (ts[ts.length - 1]?).bind fun u => (pl.set (.lst ts.dropLast) ρ).map fun ρ' => (u, ρ')
  | _ => none
abbrev tPop (K : PySem.W.Frag) (to : TE) : TE := tBM0 K "list" rPop to
theorem snd_pop (ha : SndP K ta mp) : Snd K false (tPop K ta) (mPop mp) := by
  intro F H A S σ ρ t ρ' R q Q k
  obtain ⟨pl, e1, q⟩ := Option.bind_eq_some_iff.mp q
  obtain ⟨t0, e3, q⟩ := Option.bind_eq_some_iff.mp q
  cases t0 with
  | lst ts =>
    obtain ⟨u, e5, q⟩ := Option.bind_eq_some_iff.mp (show ((ts[ts.length - 1]?).bind fun u => (pl.set (.lst ts.dropLast) ρ).map fun ρ' => (u, ρ')) = some (t, ρ') from q)
    obtain ⟨ρ2, e4, q⟩ := Option.map_eq_some_iff.mp q
    cases q
    cases pl with
    | val d => cases e4
    | plc i π =>
      refine ha F H A S σ ρ _ R e1 _ fun x F1 H1 f1 k1 R1 a1 => ?_
      obtain ⟨a, dx, vs, S', t0', rfl, h2, h3, h4, h5, wr⟩ := RelE.write (cl := .lst) (ts := ts) (Sv := []) R1 a1 e3
      obtain ⟨v, S1, S2, q1, q2, q3, q4⟩ := h4.last e5
      obtain ⟨⟨S3, R3⟩, ag⟩ := wr .lst ts.dropLast vs.dropLast S1 S2 (fun b => by have := q4 b; simp; omega) trivial q3
      rw [Pl.set_eq e4 h5] at k
      refine ⟨.inl ⟨rfl, vs, SqL.of h2⟩, a, vs, v, rfl, rfl, h2, q1, k v F1 _ S3 S2 f1 (fun b hb => ?_) R3 (Rep.ext (Same.refl _) _ _ _ (fun b hb => ag b (by simp [hb])) q2) fun z => nomatch z⟩
      rw [show upd H1 a (.lst vs.dropLast) b = H1 b from ag b (by simp [hb]), k1 b (by simp [hb])]
  | _ => cases q
end
end L3
namespace L3
open PySem PySem.Spec PyProof.Rows L2

/-! ### loops -/
abbrev MI := Env → Option (List D × Env)
/-- what is walked: frozen items, as they stand in any later heap -/
def SndI (K : PySem.W.Frag) (wi : TI) (mi : MI) : Prop :=
  ∀ (F H : Hp) (A S : List Addr) (σ : Sg) (ρ : Env) (ds : List D) (ρ' : Env), RelE K F H A S σ ρ → mi ρ = some (ds, ρ') → ∀ R : It → Hp → Prop,
    (∀ (J : It) (F' H' : Hp) (S' : List Addr), Same F F' → (∀ a ∈ A, H' a = H a) → RelE K F' H' A S' σ ρ' →
      (∀ H2, Same F' H2 → (∀ (i : Nat) (d : D), ds[i]? = some d → J.go i H2 ∧ ∀ x H3, J.yld i H2 x H3 → H3 = H2 ∧ RepD K F' d x) ∧ J.stop ds.length H2) → R J H') → wi σ H R
def mLoop (g : MG) (body : MS) : List D → Env → Option (Out × Env)
  | [], ρ => some (.nx, ρ)
  | d :: ds, ρ => (g (.fr d) ρ).bind fun ρ1 => (body ρ1).bind fun p => match p.1 with
    | .nx => mLoop g body ds p.2
    | .ct => mLoop g body ds p.2
    | .bk => some (.nx, p.2)
    | .ret t => some (.ret t, p.2)
def mFor (mi : MI) (g : MG) (body : MS) : MS := fun ρ => (mi ρ).bind fun q => mLoop g body q.1 q.2
def miSeq (m : ME) : MI := fun ρ => (m ρ).bind fun p => p.1.frz.bind fun d => d.items.map fun ds => (ds, p.2)
def intsFrom (lo : Int) : Nat → List D
  | 0 => []
  | n + 1 => .int lo :: intsFrom (lo + 1) n
theorem intsFrom_get : ∀ {n : Nat} {lo : Int} {i : Nat}, (intsFrom lo n)[i]? = if i < n then some (.int (lo + i)) else none
  | 0, lo, i => by simp [intsFrom]
  | n + 1, lo, 0 => by simp [intsFrom]
  | n + 1, lo, i + 1 => by
    simp only [intsFrom, List.getElem?_cons_succ]
    rw [intsFrom_get]
    by_cases h : i < n
    · rw [if_pos h, if_pos (by omega)]
      congr 2
      push_cast
      omega
    · rw [if_neg h, if_neg (by omega)]
theorem intsFrom_len : ∀ {n : Nat} {lo : Int}, (intsFrom lo n).length = n
  | 0, _ => rfl
  | n + 1, lo => by simp [intsFrom, intsFrom_len]
def miRng1 (m : ME) : MI := fun ρ => (m ρ).bind fun p => match p.1 with
  | .fr (.int j) => if j < 100000 ∧ -100000 < j then some (intsFrom 0 j.toNat, p.2) else none
  | _ => none
def miRng2 (m m' : ME) : MI := fun ρ => (m ρ).bind fun p => match p.1 with
  | .fr (.int i) => (m' p.2).bind fun q => match q.1 with
    | .fr (.int j) => if (-100000 < i ∧ i < 100000) ∧ (-100000 < j ∧ j < 100000) then some (intsFrom i (j - i).toNat, q.2) else none
    | _ => none
  | _ => none
section
variable {K : PySem.W.Frag} {b b1 b2 : Bool} {W W1 W2 : List Nat} {te ta tb : TE} {m ma mb : ME} {wi : TI} {mi : MI} {g : TG} {mg : MG} {t : TS} {body : MS}
/-- the readings for a list, a tuple: one of the two -/
def iSeq (K : PySem.W.Frag) (te : TE) : TI := fun σ H R => iList K te σ H R ∨ iTup K te σ H R
theorem pi_seq {X : Cx} {tg l : Expr} (h : PE X l te) : PI X tg l (iSeq X.K te) := ⟨fun pins s σ H R I q => q.elim ((pi_list h).run pins s σ H R I) ((pi_tup h).run pins s σ H R I)⟩
def D.isTup : D → Bool
  | .tup _ => true
  | _ => false
theorem sndI_seq (h : Snd K b te m) : SndI K (iSeq K te) (miSeq m) := by
  intro F H A S σ ρ ds ρ' R q Q k
  obtain ⟨⟨tx, ρ1⟩, e1, q⟩ := Option.bind_eq_some_iff.mp q
  obtain ⟨d, e2, q⟩ := Option.bind_eq_some_iff.mp q
  obtain ⟨es, e3, q⟩ := Option.map_eq_some_iff.mp q
  cases q
  have go : ∀ Q2 : V → Hp → Prop, (∀ x F2 H2 S2, Same F F2 → (∀ a ∈ A, H2 a = H a) → RelE K F2 H2 A S2 σ ρ1 → RepD K F2 d x → Q2 x H2) → te σ H Q2 := fun Q2 k2 =>
    h F H A S σ ρ tx _ R e1 _ fun x F1 H1 S1 Sx f1 k1 R1 r1 _ => by
      have w : Wd F1 H1 (Sx ++ (A ++ S1)) := R1.wd.sub fun a => by simp only [List.count_append]; omega
      have f3 := w.fz_same
      exact k2 x (fz F1 H1 Sx) H1 S1 (f1.trans f3) k1 ⟨RepE.ext f3 (fun _ _ => rfl) R1.rep, w.fz, fun a h => R1.tr a (by simp [h])⟩ (Rep.frozen f3 tx x Sx d r1 (fun a h => fz_in h) e2)
  cases d with
  | tup xs =>
    cases e3
    refine .inr (go _ fun x F2 H2 S2 f2 k2 R2 r2 => ?_)
    obtain ⟨a, vs, rfl, h2, h3⟩ := r2
    refine ⟨a, rfl, ⟨vs, Same.sqt R2.wd.same h2⟩, k _ F2 H2 S2 f2 k2 R2 fun H3 s3 => ⟨fun i d e => ?_, vs, Same.sqt s3 h2, by rw [h3.length]; exact Nat.le_refl _⟩⟩
    obtain ⟨v, e5, e6⟩ := h3.get e
    refine ⟨⟨vs, v, Same.sqt s3 h2, e5⟩, fun x H4 y => ⟨y.1, ?_⟩⟩
    have := y.2 vs (Same.sqt s3 h2)
    rw [e5] at this
    cases this
    exact e6
  | lst xs =>
    cases e3
    refine .inl (go _ fun x F2 H2 S2 f2 k2 R2 r2 => ?_)
    obtain ⟨a, vs, rfl, h2, h3⟩ := r2
    refine ⟨a, rfl, ⟨vs, SqL.of (R2.wd.same _ _ h2)⟩, k _ F2 H2 S2 f2 k2 R2 fun H3 s3 => ⟨fun i d e => ?_, vs, SqL.of (s3 _ _ h2), by rw [h3.length]; exact Nat.le_refl _⟩⟩
    obtain ⟨v, e5, e6⟩ := h3.get e
    refine ⟨⟨vs, v, SqL.of (s3 _ _ h2), e5⟩, fun x H4 y => ⟨y.1, ?_⟩⟩
    have := y.2 vs (SqL.of (s3 _ _ h2))
    rw [e5] at this
    cases this
    exact e6
  | rol xs =>
    cases e3
    refine .inl (go _ fun x F2 H2 S2 f2 k2 R2 r2 => ?_)
    obtain ⟨a, vs, rfl, h2, h3⟩ := r2
    refine ⟨a, rfl, ⟨vs, Same.sql R2.wd.same h2⟩, k _ F2 H2 S2 f2 k2 R2 fun H3 s3 => ⟨fun i d e => ?_, vs, Same.sql s3 h2, by rw [h3.length]; exact Nat.le_refl _⟩⟩
    obtain ⟨v, e5, e6⟩ := h3.get e
    refine ⟨⟨vs, v, Same.sql s3 h2, e5⟩, fun x H4 y => ⟨y.1, ?_⟩⟩
    have := y.2 vs (Same.sql s3 h2)
    rw [e5] at this
    cases this
    exact e6
  | _ => cases e3
theorem rng_fact {lo : Int} {n : Nat} {F' : Hp} (H2 : Hp) : (∀ (i : Nat) (d : D), (intsFrom lo n)[i]? = some d → (Itr lo n).go i H2 ∧ ∀ x H3, (Itr lo n).yld i H2 x H3 → H3 = H2 ∧ RepD K F' d x) ∧ (Itr lo n).stop (intsFrom lo n).length H2 := by
  refine ⟨fun i d e => ?_, by rw [intsFrom_len]; exact Nat.le_refl _⟩
  rw [intsFrom_get] at e
  by_cases h : i < n
  · rw [if_pos h] at e
    cases e
    exact ⟨h, fun x H3 y => ⟨y.1, y.2⟩⟩
  · rw [if_neg h] at e; cases e
theorem sndI_rng1 (h : Snd K b te m) : SndI K (iRng1 (tCons te tNil)) (miRng1 m) := by
  intro F H A S σ ρ ds ρ' R q Q k
  obtain ⟨⟨tx, ρ1⟩, e1, q⟩ := Option.bind_eq_some_iff.mp q
  refine h F H A S σ ρ tx ρ1 R e1 _ fun x F1 H1 S1 Sx f1 k1 R1 r1 _ => ?_
  split at q
  · rename_i j e
    cases (show tx = _ from e)
    obtain ⟨rfl, r1⟩ := r1
    by_cases z : j < 100000 ∧ -100000 < j
    · rw [if_pos z] at q
      cases q
      exact ⟨j, by rw [show x = V.int j from r1], by omega, by omega, k _ F1 H1 S1 f1 k1 (by simpa using R1) fun H2 _ => rng_fact H2⟩
    · rw [if_neg z] at q; cases q
  · cases q
theorem sndI_rng2 (h : Snd K b1 ta ma) (h' : Snd K b2 tb mb) : SndI K (iRng2 (tCons ta (tCons tb tNil))) (miRng2 ma mb) := by
  intro F H A S σ ρ ds ρ' R q Q k
  obtain ⟨⟨tx, ρ1⟩, e1, q⟩ := Option.bind_eq_some_iff.mp q
  refine h F H A S σ ρ tx ρ1 R e1 _ fun x F1 H1 S1 Sx f1 k1 R1 r1 _ => ?_
  split at q
  · rename_i i e
    cases (show tx = _ from e)
    obtain ⟨rfl, r1⟩ := r1
    obtain ⟨⟨ty, ρ2⟩, e2, q⟩ := Option.bind_eq_some_iff.mp q
    refine h' F1 H1 A S1 σ ρ1 ty ρ2 (by simpa using R1) e2 _ fun y F2 H2 S2 Sy f2 k2 R2 r2 _ => ?_
    split at q
    · rename_i j e'
      cases (show ty = _ from e')
      obtain ⟨rfl, r2⟩ := r2
      by_cases z : (-100000 < i ∧ i < 100000) ∧ (-100000 < j ∧ j < 100000)
      · rw [if_pos z] at q
        cases q
        exact ⟨i, j, by rw [show x = V.int i from r1, show y = V.int j from r2], by omega, k _ F2 H2 S2 (f1.trans f2) (fun a h => (k2 a h).trans (k1 a h)) (by simpa using R2) fun H3 _ => rng_fact H3⟩
      · rw [if_neg z] at q; cases q
    · cases q
  · cases q
theorem mLoop_ok (hg : SndG K W1 g mg) (hb : SndS K W2 t body) {A : List Addr} {n : Nat} {ds : List D} {J : It} {F1 H1 : Hp} {σ0 : Sg} {D0 : Ends} {o : Out} {ρ' : Env} (hn : ds.length = n)
    (hJ : ∀ H2, Same F1 H2 → (∀ (i : Nat) (d : D), ds[i]? = some d → J.go i H2 ∧ ∀ x H3, J.yld i H2 x H3 → H3 = H2 ∧ RepD K F1 d x) ∧ J.stop n H2)
    (k : ∀ (σ' : Sg) (F' H' : Hp) (S' : List Addr), Same F1 F' → (∀ a ∈ A, H' a = H1 a) → (∀ i, i ∉ W1 ++ W2 → σ'[i]? = σ0[i]?) → match o with
      | .nx => RelE K F' H' A S' σ' ρ' → D0.nx σ' H'
      | .bk => RelE K F' H' A S' σ' ρ' → D0.bk σ' H'
      | .ct => RelE K F' H' A S' σ' ρ' → D0.ct σ' H'
      | .ret t => ∀ (v : V) (Sv : List Addr), RelE K F' H' (Sv ++ A) S' σ' ρ' → Rep K F' H' t v Sv → D0.rt v H')
    {S : List Addr} {ρ : Env} (R : RelE K F1 H1 A S σ0 ρ) (q : mLoop mg body ds ρ = some (o, ρ')) :
    ∃ W : Nat → Nat → L2.St → Hp → Prop, (∃ m, W 0 m σ0 H1) ∧ ∀ i m σ H, W i m σ H →
      (J.stop i H ∧ D0.nx σ H) ∨ (J.go i H ∧ ∃ N : L2.St → Hp → Prop, (∀ σ' H', N σ' H' → ∃ m', m' < m ∧ W (i + 1) m' σ' H') ∧ ∀ x H', J.yld i H x H' → g x σ H' fun σ2 H2 => t { D0 with nx := N, ct := N, bk := D0.nx } σ2 H2) := by
  refine ⟨fun i m σ H => m = n - i ∧ i ≤ n ∧ ∃ (F : Hp) (S : List Addr) (ρi : Env), Same F1 F ∧ (∀ a ∈ A, H a = H1 a) ∧ (∀ j, j ∉ W1 ++ W2 → σ[j]? = σ0[j]?) ∧ RelE K F H A S σ ρi ∧ mLoop mg body (ds.drop i) ρi = some (o, ρ'),
    ⟨n, by simp, Nat.zero_le _, F1, S, ρ, Same.refl _, fun _ _ => rfl, fun _ _ => rfl, R, by simpa using q⟩, ?_⟩
  rintro i m σ H ⟨rfl, hi, F, S2, ρi, f1, k1, w1, R1, q1⟩
  obtain ⟨hJ1, hJ2⟩ := hJ H (fun a o z => R1.wd.same a o (f1 a o z))
  by_cases hlt : i < n
  · have hd : ds[i]? = some ds[i] := List.getElem?_eq_getElem (by omega)
    obtain ⟨hgo, hy⟩ := hJ1 i _ hd
    have ed : ds.drop i = ds[i] :: ds.drop (i + 1) := (List.drop_eq_getElem_cons (by omega))
    rw [ed] at q1
    obtain ⟨ρ1, e1, q2⟩ := Option.bind_eq_some_iff.mp (show ((mg (.fr ds[i]) ρi).bind fun ρ1 => (body ρ1).bind fun p => match p.1 with
      | .nx => mLoop mg body (ds.drop (i + 1)) p.2
      | .ct => mLoop mg body (ds.drop (i + 1)) p.2
      | .bk => some (.nx, p.2)
      | .ret t => some (.ret t, p.2)) = some (o, ρ') from q1)
    obtain ⟨⟨o1, ρ2⟩, e2, q3⟩ := Option.bind_eq_some_iff.mp q2
    refine .inr ⟨hgo, fun σ' H' => n - (i + 1) = n - (i + 1) ∧ i + 1 ≤ n ∧ ∃ (F : Hp) (S : List Addr) (ρi : Env), Same F1 F ∧ (∀ a ∈ A, H' a = H1 a) ∧ (∀ j, j ∉ W1 ++ W2 → σ'[j]? = σ0[j]?) ∧ RelE K F H' A S σ' ρi ∧ mLoop mg body (ds.drop (i + 1)) ρi = some (o, ρ'),
      fun σ' H' p => ⟨n - (i + 1), by omega, p⟩, fun x H' y => ?_⟩
    obtain ⟨rfl, hx⟩ := hy x H' y
    refine hg F H' A S2 σ ρi (.fr ds[i]) x [] ρ1 (by simpa using R1) ⟨rfl, RepD.mono f1 _ _ hx⟩ e1 _ fun σ2 F2 H2 S3 f2 k2 w2 R2 => ?_
    have w3 : ∀ j, j ∉ W1 ++ W2 → σ2[j]? = σ0[j]? := fun j hj => by
      rw [w2 j fun z => hj (List.mem_append_left _ z), w1 j hj]
    refine hb F2 H2 A S3 σ2 ρ1 o1 ρ2 R2 e2 _ fun σ4 F4 H4 S4 f4 k4 w4 => ?_
    have w5 : ∀ j, j ∉ W1 ++ W2 → σ4[j]? = σ0[j]? := fun j hj => by
      rw [w4 j fun z => hj (List.mem_append_right _ z), w3 j hj]
    have f5 : Same F1 F4 := f1.trans (f2.trans f4)
    have k5 : ∀ a ∈ A, H4 a = H1 a := fun a h => by rw [k4 a h, k2 a h, k1 a h]
    cases o1 with
    | nx => exact fun R4 => ⟨rfl, hlt, F4, S4, ρ2, f5, k5, w5, R4, q3⟩
    | ct => exact fun R4 => ⟨rfl, hlt, F4, S4, ρ2, f5, k5, w5, R4, q3⟩
    | bk =>
      intro R4
      cases q3
      exact k σ4 F4 H4 S4 f5 k5 w5 R4
    | ret tr =>
      intro v Sv R4 r4
      cases q3
      exact k σ4 F4 H4 S4 f5 k5 w5 v Sv R4 r4
  · have e : i = n := by omega
    subst e
    rw [List.drop_of_length_le (by omega)] at q1
    cases q1
    exact .inl ⟨hJ2, k σ F H S2 f1 k1 w1 R1⟩
theorem sndS_for (hi : SndI K wi mi) (hg : SndG K W1 g mg) (hb : SndS K W2 t body) : SndS K (W1 ++ W2) (tFor wi g t) (mFor mi mg body) := by
  intro F H A S σ ρ o ρ' R q D0 k
  obtain ⟨⟨ds, ρ1⟩, e1, q⟩ := Option.bind_eq_some_iff.mp q
  refine hi F H A S σ ρ ds ρ1 R e1 _ fun J F1 H1 S1 f1 k1 R1 hJ => ?_
  exact mLoop_ok hg hb rfl hJ (fun σ' F' H' S' f k2 w => k σ' F' H' S' (f1.trans f) (fun a h => (k2 a h).trans (k1 a h)) w) R1 q
end
end L3
namespace L3
open PySem PySem.Spec PyProof.Rows L2

/-! ### defs -/
def T.asFr : T → Option T
  | .fr d => some (.fr d)
  | _ => none
def outs (W : List Nat) : Nat → List T → Env → Option (List T)
  | _, [], _ => some []
  | i, t :: ts, o :: ρ => match (if W.contains i = true then t.asFr else o) with
    | some u => (outs W (i + 1) ts ρ).map (u :: ·)
    | none => none
  | _, _ :: _, [] => none
def Out.val : Out → Option T
  | .nx => some (.fr .non)
  | .ret t => some t
  | _ => none
def mFun (np n : Nat) (W : List Nat) (body : MS) : MF := fun ts => if ts.length = np then (body (ts.map some ++ List.replicate (n - np) none)).bind fun p => p.1.val.bind fun t => (outs W 0 ts p.2).map fun ts' => (t, ts') else none
section
variable {K : PySem.W.Frag} {F F' H H' : Hp}
theorem repE_none : ∀ (n : Nat), RepE K F H (List.replicate n none) (List.replicate n none) []
  | 0 => rfl
  | n + 1 => by
    rw [List.replicate_succ, List.replicate_succ]
    exact repE_none n
theorem repE_start : ∀ {ts : List T} {vs : List V} {S : List Addr} {n : Nat}, Reps K F H ts vs S → RepE K F H (vs.map some ++ List.replicate n none) (ts.map some ++ List.replicate n none) S
  | [], _, _, n, h => by
    obtain ⟨rfl, rfl⟩ := h
    exact repE_none n
  | t :: ts, _, _, n, h => by
    obtain ⟨w, ws, S1, S2, rfl, rfl, h2, h3⟩ := h
    exact ⟨w, S1, S2, rfl, rfl, h2, repE_start h3⟩
theorem outs_rep {W : List Nat} : ∀ {ts : List T} {vs : List V} {σ : Sg} {ρ : Env} {S : List Addr} {i : Nat} {ts' : List T}, RepE K F' H' σ ρ S → vs.length = ts.length →
    (∀ (j : Nat) (v : V), vs[j]? = some v → i + j ∉ W → σ[j]? = some (some v)) → (∀ (j : Nat) (v : V) (d : D), vs[j]? = some v → ts[j]? = some (.fr d) → RepD K F' d v) → outs W i ts ρ = some ts' →
    ∃ S'', (∀ b, S''.count b ≤ S.count b) ∧ Reps K F' H' ts' vs S''
  | [], [], _, _, S, _, _, _, _, _, _, q => by
    cases q
    exact ⟨[], fun b => by simp, rfl, rfl⟩
  | [], _ :: _, _, _, _, _, _, _, hl, _, _, _ => by simp at hl
  | _ :: _, [], _, _, _, _, _, _, hl, _, _, _ => by simp at hl
  | t :: ts, v :: vs, σ, [], S, i, ts', h, hl, hσ, hf, q => by cases q
  | t :: ts, v :: vs, [], o :: ρ, S, i, ts', h, hl, hσ, hf, q => by cases h
  | t :: ts, v :: vs, x :: σ, o :: ρ, S, i, ts', h, hl, hσ, hf, q => by
    have q' : (match (if W.contains i = true then t.asFr else o) with
      | some u => (outs W (i + 1) ts ρ).map (u :: ·)
      | none => none) = some ts' := q
    have rest : ∀ {S0 : List Addr}, RepE K F' H' σ ρ S0 → ∀ {us : List T}, outs W (i + 1) ts ρ = some us → ∃ S'', (∀ b, S''.count b ≤ S0.count b) ∧ Reps K F' H' us vs S'' := fun {S0} h0 {us} e =>
      outs_rep (ts := ts) (vs := vs) (i := i + 1) h0 (by simpa using hl) (fun j w hj hw => by
        have := hσ (j + 1) w (by simpa using hj) (by rw [show i + (j + 1) = i + 1 + j by omega]; exact hw)
        simpa using this) (fun j w d hj hd => hf (j + 1) w d (by simpa using hj) (by simpa using hd)) e
    by_cases z : W.contains i = true
    · rw [if_pos z] at q'
      have tail : ∃ S0, (∀ b, S0.count b ≤ S.count b) ∧ RepE K F' H' σ ρ S0 := by
        cases o with
        | none => exact ⟨S, fun b => Nat.le_refl _, h⟩
        | some u =>
          obtain ⟨_, S1, S2, _, rfl, _, h3⟩ := h
          exact ⟨S2, fun b => by rw [List.count_append]; omega, h3⟩
      obtain ⟨S0, c0, h0⟩ := tail
      cases t with
      | fr d =>
        obtain ⟨us, e, rfl⟩ := Option.map_eq_some_iff.mp (show (outs W (i + 1) ts ρ).map (T.fr d :: ·) = some ts' from q')
        obtain ⟨S'', c1, r1⟩ := rest h0 e
        exact ⟨S'', fun b => Nat.le_trans (c1 b) (c0 b), v, vs, [], S'', rfl, rfl, ⟨rfl, hf 0 v d rfl rfl⟩, r1⟩
      | _ => cases q'
    · rw [if_neg z] at q'
      cases o with
      | none => cases q'
      | some u =>
        obtain ⟨us, e, rfl⟩ := Option.map_eq_some_iff.mp (show (outs W (i + 1) ts ρ).map (u :: ·) = some ts' from q')
        obtain ⟨w, S1, S2, e1, rfl, h2, h3⟩ := h
        have := hσ 0 v rfl (by simpa using z)
        rw [show (x :: σ)[0]? = some x from rfl, e1] at this
        cases this
        obtain ⟨S'', c1, r1⟩ := rest h3 e
        exact ⟨S1 ++ S'', fun b => by rw [List.count_append, List.count_append]; have := c1 b; omega, v, vs, S1, S'', rfl, rfl, h2, r1⟩
end
/-- a def by its body's mirror -/
theorem fn3 {P : Program} {w : World} {K : PySem.W.Frag} {mg : Str → Option Value} {base : Heap} {x qual : Str} {args : Arguments} {stmts : List Stmt} {scope : Scope} {f : Addr} {fd : FuncData} {N ps : List Str} {k : Nat} {W : List Nat} {m : MS}
    (Fd : FunD K x qual args stmts scope [] [] f fd) (S : FnScope N ps scope)
    (h : ∀ (cdv : Value) (A : Around) (outer : List PySem.Env) (s : Shared) (H : Hp) (E : XK), Room k (A.deeper (envOfC qual scope s.heap.objs.size f cdv)) → B3 (cxOf CX0 P w K mg base N qual scope f cdv A outer s H E).nox W stmts m) :
    FnOk P w K mg base CX0 (k + 1) f fd ps (spM K (mFun ps.length N.length W m)) := by
  refine Fd.ok S (fun vs H Q E hs => ?_) (fun cdv A outer s H vs Q E hr hs => ?_)
  · obtain ⟨F, A, S, ts, t, ts', _, _, r, q, _⟩ := hs
    unfold mFun at q
    by_cases z : ts.length = ps.length
    · rw [← z]; exact r.length
    · rw [if_neg z] at q; cases q
  · obtain ⟨F, A', S', ts, t, ts', wd, tr, r, q, k'⟩ := hs
    unfold mFun at q
    by_cases z : ts.length = ps.length
    · rw [if_pos z] at q
      obtain ⟨⟨o, ρ'⟩, e1, q⟩ := Option.bind_eq_some_iff.mp q
      obtain ⟨t1, e2, q⟩ := Option.bind_eq_some_iff.mp q
      obtain ⟨us, e3, q⟩ := Option.map_eq_some_iff.mp q
      cases q
      obtain ⟨tsr, hp, hsn0⟩ := h cdv A outer s H E hr
      have hsn : SndS K W tsr m := hsn0
      refine ⟨tsr, hp.nox, ?_⟩
      have hl := r.length
      have R : RelE K F H A' S' (L2.start N vs) (ts.map some ++ List.replicate (N.length - ps.length) none) := ⟨by
        unfold L2.start
        rw [hl, z]
        exact repE_start r, wd, tr⟩
      refine hsn F H A' S' _ _ o ρ' R e1 _ fun σ2 F2 H2 S2 f2 k2 w2 => ?_
      have fin : ∀ {v : V} {Sv S3 : List Addr}, RelE K F2 H2 (Sv ++ A') S3 σ2 ρ' → Rep K F2 H2 t v Sv → Q v H2 := fun {v Sv S3} R2 rv => by
        obtain ⟨S4, c4, r4⟩ := outs_rep (i := 0) R2.rep (hl) (fun j v hj hw => by
          rw [Nat.zero_add] at hw
          rw [w2 j hw]
          unfold L2.start
          have hj' : j < vs.length := (List.getElem?_eq_some_iff.mp hj).1
          rw [List.getElem?_append_left (by simpa using hj'), List.getElem?_map, hj] <;> rfl) (fun j v d hj hd => by
          obtain ⟨v', _, Sb, _, q1, _, q3, _⟩ := Reps.split r hd
          rw [hj] at q1
          cases q1
          exact RepD.mono f2 _ _ q3.2) e3
        refine k' v F2 H2 Sv S4 f2 k2 (R2.wd.sub fun b => ?_) rv r4
        have := c4 b
        simp only [List.count_append] at this ⊢
        omega
      cases o with
      | nx =>
        intro R2
        cases e2
        exact fin (Sv := []) (by simpa using R2) ⟨rfl, rfl⟩
      | ret t2 =>
        intro v Sv R2 rv
        cases e2
        exact fin R2 rv
      | bk => cases e2
      | ct => cases e2
    · rw [if_neg z] at q; cases q

/-! ### calls -/
inductive Ag where
  | val (t : T) | bor (i : Nat)
abbrev MB := Env → Option (List Ag × Env)
section
variable {K : PySem.W.Frag}
def AgRep (K : PySem.W.Frag) (F H : Hp) (σ : Sg) : List Ag → List V → List Addr → Prop
  | [], vs, S => vs = [] ∧ S = []
  | .val t :: as, vs, S => ∃ v ws S1 S2, vs = v :: ws ∧ S = S1 ++ S2 ∧ Rep K F H t v S1 ∧ AgRep K F H σ as ws S2
  | .bor i :: as, vs, S => ∃ v ws, vs = v :: ws ∧ σ[i]? = some (some v) ∧ AgRep K F H σ as ws S
theorem AgRep.ext {F F' H H' : Hp} {σ : Sg} (e : Same F F') : ∀ {as : List Ag} {vs : List V} {S : List Addr}, (∀ a ∈ S, H' a = H a) → AgRep K F H σ as vs S → AgRep K F' H' σ as vs S
  | [], _, _, _, h => h
  | .val t :: as, _, _, k, h => by
    obtain ⟨v, ws, S1, S2, h1, rfl, h2, h3⟩ := h
    exact ⟨v, ws, S1, S2, h1, rfl, Rep.ext e t v S1 (fun a ha => k a (by simp [ha])) h2, AgRep.ext e (fun a ha => k a (by simp [ha])) h3⟩
  | .bor i :: as, _, _, k, h => by
    obtain ⟨v, ws, h1, h2, h3⟩ := h
    exact ⟨v, ws, h1, h2, AgRep.ext e k h3⟩
def SndB (K : PySem.W.Frag) (ta : TA) (m : MB) : Prop :=
  ∀ (F H : Hp) (A S : List Addr) (σ : Sg) (ρ : Env) (as : List Ag) (ρ' : Env), RelE K F H A S σ ρ → m ρ = some (as, ρ') → ∀ Q : List V → Hp → Prop,
    (∀ (vs : List V) (F' H' : Hp) (S' Sv : List Addr), Same F F' → (∀ a ∈ A, H' a = H a) → RelE K F' H' (Sv ++ A) S' σ ρ' → AgRep K F' H' σ as vs Sv → Q vs H') → ta σ H Q
def mbNil : MB := fun ρ => some ([], ρ)
def mbVal (m : ME) (mr : MB) : MB := fun ρ => (m ρ).bind fun p => (mr p.2).map fun q => (.val p.1 :: q.1, q.2)
def mbBor (i : Nat) (mr : MB) : MB := fun ρ => match ρ[i]? with
  | some (some _) => (mr ρ).map fun q => (.bor i :: q.1, q.2)
  | _ => none
theorem sndB_nil : SndB K tNil mbNil := by
  intro F H A S σ ρ as ρ' R q Q k
  cases q
  exact k [] F H S [] (Same.refl _) (fun _ _ => rfl) (by simpa using R) ⟨rfl, rfl⟩
theorem sndB_val {b : Bool} {te : TE} {m : ME} {ta : TA} {mr : MB} (h : Snd K b te m) (hr : SndB K ta mr) : SndB K (tCons te ta) (mbVal m mr) := by
  intro F H A S σ ρ as ρ' R q Q k
  obtain ⟨⟨tx, ρ1⟩, e1, q⟩ := Option.bind_eq_some_iff.mp q
  obtain ⟨⟨bs, ρ2⟩, e2, q⟩ := Option.map_eq_some_iff.mp q
  cases q
  refine h F H A S σ ρ tx ρ1 R e1 _ fun x F1 H1 S1 Sx f1 k1 R1 r1 _ => ?_
  refine hr F1 H1 _ S1 σ ρ1 bs _ R1 e2 _ fun vs F2 H2 S2 Sy f2 k2 R2 r2 => ?_
  refine k (x :: vs) F2 H2 S2 (Sx ++ Sy) (f1.trans f2) (fun a h => by rw [k2 a (by simp [h]), k1 a h]) ⟨R2.rep, R2.wd.sub fun a => by simp only [List.count_append]; omega, fun a h => R2.tr a ?_⟩
    ⟨x, vs, Sx, Sy, rfl, rfl, Rep.ext f2 tx x Sx (fun a h => k2 a (by simp [h])) r1, r2⟩
  rcases List.mem_append.mp h with z | z
  · rcases List.mem_append.mp z with y | y <;> simp [y]
  · simp [z]
theorem sndB_bor {i : Nat} {ta : TA} {mr : MB} (hr : SndB K ta mr) : SndB K (tCons (tVar i) ta) (mbBor i mr) := by
  intro F H A S σ ρ as ρ' R q Q k
  unfold mbBor at q
  split at q
  · rename_i t e
    obtain ⟨⟨bs, ρ2⟩, e2, q⟩ := Option.map_eq_some_iff.mp q
    cases q
    obtain ⟨v, Sa, Sb, Sc, h1, rfl, h2, h3⟩ := RepE.split R.rep e
    refine ⟨v, h1, hr F H A _ σ ρ bs _ R e2 _ fun vs F2 H2 S2 Sy f2 k2 R2 r2 => ?_⟩
    exact k (v :: vs) F2 H2 S2 Sy f2 k2 R2 ⟨v, vs, rfl, h1, r2⟩
  · cases q
def agTake : List Ag → Env → Option (List T × Env)
  | [], ρ => some ([], ρ)
  | .val t :: as, ρ => (agTake as ρ).map fun p => (t :: p.1, p.2)
  | .bor i :: as, ρ => match ρ[i]? with
    | some (some t) => (agTake as (ρ.set i none)).map fun p => (t :: p.1, p.2)
    | _ => none
def agGive : List Ag → List T → Env → Option Env
  | [], [], ρ => some ρ
  | .val _ :: as, _ :: ts, ρ => agGive as ts ρ
  | .bor i :: as, t :: ts, ρ => if i < ρ.length then agGive as ts (ρ.set i (some t)) else none
  | _, _, _ => none
theorem agTake_rep {F H : Hp} {σ : Sg} : ∀ {as : List Ag} {vs : List V} {Sv S : List Addr} {ρ : Env} {ts : List T} {ρ2 : Env}, AgRep K F H σ as vs Sv → RepE K F H σ ρ S → agTake as ρ = some (ts, ρ2) →
    ∃ St S2, Reps K F H ts vs St ∧ RepE K F H σ ρ2 S2 ∧ ∀ b, St.count b + S2.count b ≤ Sv.count b + S.count b
  | [], _, _, S, ρ, _, _, h, hE, q => by
    cases q
    obtain ⟨rfl, rfl⟩ := h
    exact ⟨[], S, ⟨rfl, rfl⟩, hE, fun b => by simp⟩
  | .val t :: as, _, _, S, ρ, _, _, h, hE, q => by
    obtain ⟨v, ws, S1, S2, rfl, rfl, h2, h3⟩ := h
    obtain ⟨⟨us, ρ3⟩, e, q⟩ := Option.map_eq_some_iff.mp q
    cases q
    obtain ⟨St, S4, r1, r2, c⟩ := agTake_rep h3 hE e
    exact ⟨S1 ++ St, S4, ⟨v, ws, S1, St, rfl, rfl, h2, r1⟩, r2, fun b => by have := c b; simp only [List.count_append]; omega⟩
  | .bor i :: as, _, _, S, ρ, ts, ρ2, h, hE, q => by
    obtain ⟨v, ws, rfl, h2, h3⟩ := h
    have q' : (match ρ[i]? with
      | some (some t) => (agTake as (ρ.set i none)).map fun p => (t :: p.1, p.2)
      | _ => none) = some (ts, ρ2) := q
    split at q'
    · rename_i t e0
      obtain ⟨⟨us, ρ3⟩, e, q'⟩ := Option.map_eq_some_iff.mp q'
      cases q'
      obtain ⟨v', Sa, Sb, Sc, g1, rfl, g3, g4⟩ := RepE.split hE e0
      rw [h2] at g1
      cases g1
      obtain ⟨St, S4, r1, r2, c⟩ := agTake_rep h3 (g4 F H (Same.refl _) fun _ _ => rfl).1 e
      exact ⟨Sb ++ St, S4, ⟨v, ws, Sb, St, rfl, rfl, g3, r1⟩, r2, fun b => by have := c b; simp only [List.count_append] at this ⊢; omega⟩
    · cases q'
theorem agGive_rep {F H : Hp} {σ : Sg} : ∀ {as : List Ag} {vs : List V} {S' S : List Addr} {ρ : Env} {ts : List T} {ρ3 : Env} {F0 H0 : Hp} {Sv : List Addr}, AgRep K F0 H0 σ as vs Sv → Reps K F H ts vs S' → RepE K F H σ ρ S → agGive as ts ρ = some ρ3 →
    ∃ S3, RepE K F H σ ρ3 S3 ∧ ∀ b, S3.count b ≤ S'.count b + S.count b
  | [], _, _, S, ρ, [], _, _, _, _, _, _, hE, q => by
    cases q
    exact ⟨S, hE, fun b => by omega⟩
  | [], _, _, _, _, _ :: _, _, _, _, _, _, _, _, q => by cases q
  | .val t :: as, _, _, S, ρ, [], _, _, _, _, _, _, _, q => by cases q
  | .val t :: as, _, _, S, ρ, u :: ts, _, _, _, _, h, r, hE, q => by
    obtain ⟨v, ws, S1, S2, rfl, rfl, h2, h3⟩ := h
    obtain ⟨v', ws', T1, T2, e, rfl, r2, r3⟩ := r
    cases e
    obtain ⟨S3, g1, c⟩ := agGive_rep h3 r3 hE q
    exact ⟨S3, g1, fun b => by have := c b; simp only [List.count_append]; omega⟩
  | .bor i :: as, _, _, S, ρ, [], _, _, _, _, _, _, _, q => by cases q
  | .bor i :: as, _, _, S, ρ, u :: ts, ρ3, _, _, _, h, r, hE, q => by
    obtain ⟨v, ws, rfl, h2, h3⟩ := h
    obtain ⟨v', ws', T1, T2, e, rfl, r2, r3⟩ := r
    cases e
    have q' : (if i < ρ.length then agGive as ts (ρ.set i (some u)) else none) = some ρ3 := q
    by_cases z : i < ρ.length
    · rw [if_pos z] at q'
      obtain ⟨Sa, Sc, c1, g1⟩ := RepE.put hE z
      have g2 := (g1 F H (Same.refl _) fun _ _ => rfl).2 v u T1 r2
      rw [set_same h2] at g2
      obtain ⟨S3, g3, c⟩ := agGive_rep h3 r3 g2 q'
      exact ⟨S3, g3, fun b => by have := c b; have := c1 b; simp only [List.count_append] at *; omega⟩
    · rw [if_neg z] at q'; cases q'
def mCall (mf : MF) (mb : MB) : ME := fun ρ => (mb ρ).bind fun p => (agTake p.1 p.2).bind fun q => (mf q.1).bind fun r => (agGive p.1 r.2 q.2).map fun ρ' => (r.1, ρ')
/-- the callee, from arguments that stand by: what is left of the frame -/
theorem call_go {F H : Hp} {A S Sv : List Addr} {σ : Sg} {ρ ρ2 ρ3 : Env} {as : List Ag} {vs : List V} {ts ts' : List T} {mf : MF} {t : T} {Q : VK} (R : RelE K F H (Sv ++ A) S σ ρ) (ra : AgRep K F H σ as vs Sv) (e1 : agTake as ρ = some (ts, ρ2))
    (e2 : mf ts = some (t, ts')) (e3 : agGive as ts' ρ2 = some ρ3) (E : XK)
    (k : ∀ (v : V) (F' H' : Hp) (S' Sv : List Addr), Same F F' → (∀ a ∈ A, H' a = H a) → RelE K F' H' (Sv ++ A) S' σ ρ3 → Rep K F' H' t v Sv → Q v H') : spM K mf vs H Q E := by
  obtain ⟨St, S2, r1, r2, c⟩ := agTake_rep ra R.rep e1
  refine ⟨F, A ++ S2, St, ts, t, ts', R.wd.sub fun b => by have := c b; simp only [List.count_append] at this ⊢; omega, fun a h => ?_, r1, e2, fun v F' H' Sw S' f k2 w rv rs => ?_⟩
  · rcases List.mem_append.mp h with z | z
    · exact R.tr a (by simp [z])
    · exact RepE.tracked r2 a z
  · obtain ⟨S3, g1, c3⟩ := agGive_rep ra rs (RepE.ext f (fun a h => k2 a (by simp [h])) r2) e3
    refine k v F' H' S3 Sw f (fun a h => k2 a (by simp [h])) ⟨g1, w.sub fun b => by have := c3 b; simp only [List.count_append] at this ⊢; omega, fun a h => ?_⟩ rv
    rcases List.mem_append.mp h with z | z
    · exact Rep.tracked _ _ _ rv a z
    · rw [k2 a (by simp [z])]; exact R.tr a (by simp [z])
theorem snd_call {mf : MF} {mb : MB} {ta : TA} {E : XK} (hb : SndB K ta mb) : Snd K false (tCall (spM K mf) [] E ta) (mCall mf mb) := by
  intro F H A S σ ρ t ρ' R q Q k
  obtain ⟨⟨as, ρ1⟩, e1, q⟩ := Option.bind_eq_some_iff.mp q
  obtain ⟨⟨ts, ρ2⟩, e2, q⟩ := Option.bind_eq_some_iff.mp q
  obtain ⟨⟨r, ts'⟩, e3, q⟩ := Option.bind_eq_some_iff.mp q
  obtain ⟨ρ3, e4, q⟩ := Option.map_eq_some_iff.mp q
  cases q
  refine hb F H A S σ ρ as ρ1 R e1 _ fun vs F1 H1 S1 Sv f1 k1 R1 r1 => ?_
  rw [List.append_nil]
  exact call_go R1 r1 e2 e3 e4 E fun v F2 H2 S2 Sw f2 k2 R2 r2 => k v F2 H2 S2 Sw (f1.trans f2) (fun a h => (k2 a h).trans (k1 a h)) R2 r2 fun z => nomatch z
/-- values alone as arguments: what the slots own stays -/
def mCallP (mf : MF) (ma : MA) : ME := fun ρ => (ma ρ).bind fun p => (mf p.1).map fun r => (r.1, p.2)
theorem snd_callP {mf : MF} {b : Bool} {ma : MA} {ta : TA} {E : XK} (hb : SndA K b ta ma) : Snd K b (tCall (spM K mf) [] E ta) (mCallP mf ma) := by
  intro F H A S σ ρ t ρ' R q Q k
  obtain ⟨⟨ts, ρ1⟩, e1, q⟩ := Option.bind_eq_some_iff.mp q
  obtain ⟨⟨r, ts'⟩, e3, q⟩ := Option.map_eq_some_iff.mp q
  cases q
  refine hb F H A S σ ρ ts _ R e1 _ fun vs F1 H1 S1 Sv f1 k1 R1 r1 p1 => ?_
  rw [List.append_nil]
  refine ⟨F1, A ++ S1, Sv, ts, _, ts', R1.wd.sub fun b => by simp only [List.count_append]; omega, fun a h => ?_, r1, e3, fun v F' H' Sw S' f k2 w rv rs => ?_⟩
  · rcases List.mem_append.mp h with z | z
    · exact R1.tr a (by simp [z])
    · exact RepE.tracked R1.rep a z
  · refine k v F' H' S1 Sw (f1.trans f) (fun a h => (k2 a (by simp [h])).trans (k1 a h)) ⟨RepE.ext f (fun a h => k2 a (by simp [h])) R1.rep, w.sub fun b => by simp only [List.count_append]; omega, fun a h => ?_⟩ rv fun z => ?_
    · rcases List.mem_append.mp h with y | y
      · exact Rep.tracked _ _ _ rv a y
      · rw [k2 a (by simp [y])]; exact R1.tr a (by simp [y])
    · obtain ⟨z1, rfl, z3⟩ := p1 z
      exact ⟨z1, rfl, fun a h => by rw [k2 a (by simp [h]), z3 a h]⟩
end
end L3
namespace L3
open PySem PySem.Spec PyProof.Rows L2

/-! ### methods -/
def T.hasM (c mn : Str) : T → Bool
  | .obj c' fs _ => decide (c' = c) && (kidx mn fs).isNone
  | .fr (.obj c' fs _) => decide (c' = c) && (kidx mn fs).isNone
  | _ => false
def mMethR (c mn : Str) (mf : MF) (i : Nat) (mb : MB) : ME := fun ρ => match ρ[i]? with
  | some (some t) => if t.hasM c mn = true then mCall mf (mbBor i mb) ρ else none
  | _ => none
def methFin (pl : Pl) (r : T) (ts' : List T) (ρ : Env) : Option (T × Env) := match ts' with
  | t' :: _ => match pl with
    | .val _ => some (r, ρ)
    | .plc i π => ((Pl.plc i π).set t' ρ).map fun ρ' => (r, ρ')
  | [] => none
def mMethP (c mn : Str) (mf : MF) (mp : MP) (ma : MA) : ME := fun ρ => (mp ρ).bind fun pl => (pl.get ρ).bind fun t => if t.hasM c mn = true then (ma ρ).bind fun p => (mf (t :: p.1)).bind fun r => methFin pl r.1 r.2 ρ else none
section
variable {K : PySem.W.Frag}
theorem lookup_zip_none {f : Str} : ∀ {fs : List Str} {vs : List V}, kidx f fs = none → (fs.zip vs).lookup f = none
  | [], _, _ => by simp
  | x :: xs, [], _ => by simp
  | x :: xs, w :: ws, h => by
    unfold kidx at h
    by_cases e : x = f
    · rw [if_pos e] at h; cases h
    · rw [if_neg e] at h
      have z : kidx f xs = none := by
        cases z : kidx f xs with
        | none => rfl
        | some i => rw [z] at h; cases h
      have ne : (f == x) = false := beq_eq_false_iff_ne.mpr fun q => e q.symm
      simp [List.lookup_cons, ne, lookup_zip_none z]
theorem hasM_rep {F H : Hp} {c mn : Str} {t : T} {v : V} {S : List Addr} (s : Same F H) (r : Rep K F H t v S) (h : t.hasM c mn = true) : ∃ a dx fs, v = .ref a ∧ H a = some (.ins (He.ga K c) dx fs) ∧ fs.lookup mn = none := by
  cases t with
  | obj c' fs ts =>
    obtain ⟨h1, h2⟩ := Bool.and_eq_true_iff.mp (show (decide (c' = c) && (kidx mn fs).isNone) = true from h)
    have e := of_decide_eq_true h1
    subst e
    obtain ⟨a, dx, vs, S', rfl, h3, _⟩ := r
    exact ⟨a, dx, _, rfl, h3, lookup_zip_none (by simpa using h2)⟩
  | fr d =>
    cases d with
    | obj c' fs ds =>
      obtain ⟨h1, h2⟩ := Bool.and_eq_true_iff.mp (show (decide (c' = c) && (kidx mn fs).isNone) = true from h)
      have e := of_decide_eq_true h1
      subst e
      obtain ⟨_, a, dx, vs, rfl, h3, _⟩ := r
      exact ⟨a, dx, _, rfl, s _ _ h3, lookup_zip_none (by simpa using h2)⟩
    | _ => exact absurd (show false = true from h) Bool.false_ne_true
  | _ => exact absurd (show false = true from h) Bool.false_ne_true
theorem snd_methR {c mn : Str} {mf : MF} {i : Nat} {mb : MB} {ta : TA} {E : XK} (hb : SndB K ta mb) : Snd K false (tMeth (He.ga K c) mn (spM K mf) [] E (tVar i) ta) (mMethR c mn mf i mb) := by
  intro F H A S σ ρ t ρ' R q Q k
  unfold mMethR at q
  split at q
  · rename_i t0 e0
    by_cases z : t0.hasM c mn = true
    · rw [if_pos z] at q
      obtain ⟨⟨as, ρ1⟩, e1, q⟩ := Option.bind_eq_some_iff.mp q
      obtain ⟨⟨ts, ρ2⟩, e2, q⟩ := Option.bind_eq_some_iff.mp q
      obtain ⟨⟨r, ts'⟩, e3, q⟩ := Option.bind_eq_some_iff.mp q
      obtain ⟨ρ3, e4, q⟩ := Option.map_eq_some_iff.mp q
      cases q
      obtain ⟨v, Sa, Sb, Sc, h1, rfl, h2, h3⟩ := RepE.split R.rep e0
      obtain ⟨a, dx, fs, rfl, g1, g2⟩ := hasM_rep R.wd.same h2 z
      unfold mbBor at e1
      rw [e0] at e1
      obtain ⟨⟨bs, ρ4⟩, e5, e6⟩ := Option.map_eq_some_iff.mp (show (mb ρ).map (fun q => (Ag.bor i :: q.1, q.2)) = some (as, ρ1) from e1)
      cases e6
      refine ⟨_, h1, a, dx, fs, rfl, g1, g2, ?_⟩
      refine hb F H A _ σ ρ bs _ R e5 _ fun vs F1 H1 S1 Sv f1 k1 R1 r1 => ?_
      rw [List.append_nil]
      exact call_go (as := .bor i :: bs) (vs := .ref a :: vs) R1 ⟨_, vs, rfl, h1, r1⟩ e2 e3 e4 E fun v F2 H2 S2 Sw f2 k2 R2 r2 => k v F2 H2 S2 Sw (f1.trans f2) (fun a h => (k2 a h).trans (k1 a h)) R2 r2 fun z => nomatch z
    · rw [if_neg z] at q; cases q
  · cases q
theorem snd_methP {c mn : Str} {mf : MF} {mp : MP} {to : TE} {ma : MA} {ta : TA} {E : XK} (ho : SndP K to mp) (hb : SndA K true ta ma) : Snd K false (tMeth (He.ga K c) mn (spM K mf) [] E to ta) (mMethP c mn mf mp ma) := by
  intro F H A S σ ρ t ρ' R q Q k
  unfold mMethP at q
  obtain ⟨pl, e1, q⟩ := Option.bind_eq_some_iff.mp q
  obtain ⟨t0, e2, q⟩ := Option.bind_eq_some_iff.mp q
  by_cases z : t0.hasM c mn = true
  · rw [if_pos z] at q
    obtain ⟨⟨ts, ρ1⟩, e3, q⟩ := Option.bind_eq_some_iff.mp q
    obtain ⟨⟨r, ts'⟩, e4, q⟩ := Option.bind_eq_some_iff.mp q
    refine ho F H A S σ ρ _ R e1 _ fun x F1 H1 f1 k1 R1 a1 => ?_
    have first : ∃ a dx fs, x = .ref a ∧ H1 a = some (.ins (He.ga K c) dx fs) ∧ fs.lookup mn = none := by
      cases pl with
      | val d =>
        cases e2
        exact hasM_rep (t := .fr d) (S := []) R1.wd.same ⟨rfl, a1⟩ z
      | plc i π =>
        obtain ⟨t0, v0, Sa, Sb, Sc, q1, q2, q3, q4, q5, q6, q7⟩ := AtP.same R1 a1 e2
        exact hasM_rep R1.wd.same q5 z
    obtain ⟨a, dx, fs, rfl, g1, g2⟩ := first
    refine ⟨a, dx, fs, rfl, g1, g2, ?_⟩
    refine hb F1 H1 A S σ ρ ts ρ1 R1 e3 _ fun vs F2 H2 S2 Sv f2 k2 R2 r2 p2 => ?_
    obtain ⟨rfl, rfl, u⟩ := p2 rfl
    rw [List.append_nil]
    have q' : methFin pl r ts' ρ1 = some (t, ρ') := q
    cases ts' with
    | nil => cases q'
    | cons t' us =>
      cases pl with
      | val d =>
        cases e2
        cases q'
        refine ⟨F2, A ++ S2, Sv, T.fr d :: ts, _, t' :: us, R2.wd.sub fun b => by simp only [List.count_append]; omega, fun b h => ?_, ⟨.ref a, vs, [], Sv, rfl, rfl, ⟨rfl, RepD.mono f2 _ _ a1⟩, r2⟩, e4, fun v F' H' Sw S' f3 k3 w rv rs => ?_⟩
        · rcases List.mem_append.mp h with y | y
          · exact R2.tr b (by simp [y])
          · exact RepE.tracked R2.rep b y
        · refine k v F' H' S2 Sw (f1.trans (f2.trans f3)) (fun b h => by rw [k3 b (by simp [h]), k2 b h, k1 b (by simp [h])]) ⟨RepE.ext f3 (fun b h => k3 b (by simp [h])) R2.rep, w.sub fun b => by simp only [List.count_append]; omega, fun b h => ?_⟩ rv fun z => nomatch z
          rcases List.mem_append.mp h with y | y
          · exact Rep.tracked _ _ _ rv b y
          · rw [k3 b (by simp [y])]; exact R2.tr b (by simp [y])
      | plc i π =>
        obtain ⟨ρ2, e5, e6⟩ := Option.map_eq_some_iff.mp (show ((Pl.plc i π).set t' ρ1).map (fun ρ' => (r, ρ')) = some (t, ρ') from q')
        cases e6
        have a2 : AtP K F2 H2 σ (.plc i π) (.ref a) := by
          obtain ⟨t1, v0, Sa, Sb, Sc, q1, q2, q3, q4, q5, q6, q7⟩ := AtP.same R1 a1 e2
          exact ⟨v0, q2, q6 H2 u⟩
        obtain ⟨t1, v0, Sa, Sb, Sc, q1, q2, q3, rfl, q5, q6, q7⟩ := AtP.same R2 a2 e2
        rw [Pl.set_eq e5 q1] at k
        refine ⟨F2, A ++ (Sa ++ Sc), Sb ++ Sv, t0 :: ts, _, t' :: us, R2.wd.sub fun b => by simp only [List.count_append]; omega, fun b h => ?_, ⟨.ref a, vs, Sb, Sv, rfl, rfl, q5, r2⟩, e4, fun v F' H' Sw S' f3 k3 w rv rs => ?_⟩
        · rcases List.mem_append.mp h with y | y
          · exact R2.tr b (by simp [y])
          · refine RepE.tracked R2.rep b ?_
            rcases List.mem_append.mp y with y | y <;> simp [y]
        · obtain ⟨w', ws', T1, T2, ee, rfl, r3, r4⟩ := rs
          cases ee
          have e7 := q7 F' H' f3 (fun b h => k3 b (by simp only [List.mem_append] at h ⊢; exact .inr h)) t' T1 r3
          refine k v F' H' _ Sw (f1.trans (f2.trans f3)) (fun b h => by rw [k3 b (by simp [h]), k2 b h, k1 b (by simp [h])]) ⟨e7, w.sub fun b => by simp only [List.count_append]; omega, fun b h => ?_⟩ rv fun z => nomatch z
          rcases List.mem_append.mp h with y | y
          · exact Rep.tracked _ _ _ rv b y
          · rw [k3 b (by simp [y])]; exact R2.tr b (by simp [y])
  · rw [if_neg z] at q; cases q
/-! ### a new instance -/
def makeFin (as : List Ag) (r : T) (ts' : List T) (ρ : Env) : Option (T × Env) := match r, ts' with
  | .fr .non, t :: ts => (agGive as ts ρ).map fun ρ' => (t, ρ')
  | _, _ => none
def mMake (c : Str) (mf : MF) (mb : MB) : ME := fun ρ => (mb ρ).bind fun p => (agTake p.1 p.2).bind fun q => (mf (.obj c [] [] :: q.1)).bind fun r => makeFin p.1 r.1 r.2 q.2
theorem snd_make {c : Str} {mf : MF} {mb : MB} {ta : TA} {E : XK} (hb : SndB K ta mb) : Snd K false (tMake (He.ga K c) (spM K mf) [] E ta) (mMake c mf mb) := by
  intro F H A S σ ρ t ρ' R q Q k
  obtain ⟨⟨as, ρ1⟩, e1, q⟩ := Option.bind_eq_some_iff.mp q
  obtain ⟨⟨ts, ρ2⟩, e2, q⟩ := Option.bind_eq_some_iff.mp q
  obtain ⟨⟨r, ts'⟩, e3, q⟩ := Option.bind_eq_some_iff.mp q
  have q1 : makeFin as r ts' ρ2 = some (t, ρ') := q
  have sh : r = .fr .non ∧ ∃ tt us, ts' = tt :: us ∧ (agGive as us ρ2).map (fun ρ' => (tt, ρ')) = some (t, ρ') := by
    unfold makeFin at q1
    split at q1
    · exact ⟨rfl, _, _, rfl, q1⟩
    · cases q1
  obtain ⟨rfl, tt, us, rfl, q'⟩ := sh
  clear q q1
  · obtain ⟨ρ3, e4, q'⟩ := Option.map_eq_some_iff.mp q'
    cases q'
    refine hb F H A S σ ρ as ρ1 R e1 _ fun vs F1 H1 S1 Sv f1 k1 R1 r1 => ?_
    intro x dx hx hdx hne
    rw [List.append_nil]
    obtain ⟨St, S2, g1, g2, cc⟩ := agTake_rep r1 R1.rep e2
    have trS := RepE.tracked R1.rep
    have trk : ∀ b, b ∈ Sv ++ A ++ S1 → b ≠ x ∧ b ≠ dx := fun b hb => by
      have hb' : H1 b ≠ none := by
        rcases List.mem_append.mp hb with z | z
        · exact R1.tr b z
        · exact trS b z
      exact ⟨fun z => by subst z; exact hb' hx, fun z => by subst z; exact hb' hdx⟩
    have hH : ∀ b, H1 b ≠ none → (upd (upd H1 dx (.own x)) x (.ins (He.ga K c) dx [])) b = H1 b := fun b hb => by
      rw [upd_ne (fun z => by subst z; exact hb hx), upd_ne (fun z => by subst z; exact hb hdx)]
    have w0 := R1.wd
    have w1 : Wd F1 (upd (upd H1 dx (.own x)) x (.ins (He.ga K c) dx [])) (x :: (Sv ++ A ++ S1)) := by
      refine ⟨fun b o e => ?_, fun b => ?_, fun b h => ?_⟩
      · have e' := w0.same b o e
        rw [hH b (by rw [e']; exact fun z => by cases z)]; exact e'
      · rw [List.count_cons]
        by_cases z : x = b
        · subst z
          have : (Sv ++ A ++ S1).count x = 0 := List.count_eq_zero.mpr fun hb => (trk x hb).1 rfl
          rw [this]; simp
        · have : (x == b) = false := beq_eq_false_iff_ne.mpr z
          simp only [this]
          have := w0.one b
          simpa using this
      · by_cases z : x = b
        · subst z; exact w0.same.free hx
        · rw [List.count_cons] at h
          have : (x == b) = false := beq_eq_false_iff_ne.mpr z
          simp only [this] at h
          exact w0.free b (by simpa using h)
    refine ⟨F1, A ++ S2, x :: St, T.obj c [] [] :: ts, _, _, w1.sub fun b => by have := cc b; simp only [List.count_append, List.count_cons] at this ⊢; omega, fun b h => ?_, ⟨.ref x, vs, [x], St, rfl, rfl, ⟨x, dx, [], [], rfl, upd_same, rfl, rfl, rfl, rfl⟩, Reps.ext (Same.refl _) _ _ _ (fun b hb => hH b (Reps.tracked _ _ _ g1 b hb)) g1⟩, e3, fun v F' H' Sw S' f3 k3 w rv rs => ?_⟩
    · rcases List.mem_append.mp h with y | y
      · rw [hH b (R1.tr b (by simp [y]))]; exact R1.tr b (by simp [y])
      · rw [hH b (RepE.tracked g2 b y)]; exact RepE.tracked g2 b y
    · obtain ⟨w', ws', T1, T2, ee, rfl, r3, r4⟩ := rs
      cases ee
      refine ⟨rv.2, ?_⟩
      have hA : ∀ b ∈ A, H' b = H1 b := fun b hb => by rw [k3 b (by simp [hb]), hH b (R1.tr b (by simp [hb]))]
      obtain ⟨S3, g3, c3⟩ := agGive_rep r1 r4 (RepE.ext f3 (fun b hb => by rw [k3 b (by simp [hb])]) (RepE.ext (Same.refl _) (fun b hb => hH b (RepE.tracked g2 b hb)) g2)) e4
      refine k (.ref x) F' H' S3 T1 (f1.trans f3) (fun b h => by rw [hA b h, k1 b h]) ⟨g3, w.sub fun b => by have := c3 b; simp only [List.count_append] at this ⊢; omega, fun b h => ?_⟩ r3 fun z => nomatch z
      rcases List.mem_append.mp h with y | y
      · exact Rep.tracked _ _ _ r3 b y
      · rw [hA b y]; exact R1.tr b (by simp [y])
end
end L3
namespace L3
open PySem PySem.Spec PyProof.Rows L2

/-! ### list comprehensions -/
def wipeE (ρ : Env) : List Nat → Env
  | [] => ρ
  | v :: vs => wipeE (ρ.set v none) vs
def lcLoop (g : MG) (mt : MT) (me : ME) (vs : List Nat) : List D → List T → Env → Option (T × Env)
  | [], acc, ρ => some (.lst acc, wipeE ρ vs)
  | d :: ds, acc, ρ => (g (.fr d) ρ).bind fun ρ1 => (mt ρ1).bind fun c => if c.1 = true then
      (me c.2).bind fun p => if acc.length < 1000000 then lcLoop g mt me vs ds (acc ++ [p.1]) (wipeE p.2 vs) else none
    else lcLoop g mt me vs ds acc (wipeE c.2 vs)
def mLc (mi : MI) (g : MG) (mt : MT) (me : ME) (vs : List Nat) : ME := fun ρ => (mi ρ).bind fun q => lcLoop g mt me vs q.1 [] (wipeE q.2 vs)
def mYes : MT := fun ρ => some (true, ρ)
section
variable {K : PySem.W.Frag} {F H : Hp}
theorem wipeE_length : ∀ {vs : List Nat} {ρ : Env}, (wipeE ρ vs).length = ρ.length
  | [], _ => rfl
  | v :: vs, ρ => by unfold wipeE; rw [wipeE_length, List.length_set]
theorem wipeE_none : ∀ {vs : List Nat} {ρ : Env} {i : Nat}, (∀ t, ρ[i]? ≠ some (some t)) → ∀ t, (wipeE ρ vs)[i]? ≠ some (some t)
  | [], _, _, h => h
  | v :: vs, ρ, i, h => by
    unfold wipeE
    refine wipeE_none fun t z => ?_
    by_cases e : v = i
    · subst e
      by_cases hv : v < ρ.length
      · rw [List.getElem?_set_self hv] at z; cases z
      · rw [List.getElem?_eq_none (by simpa using hv)] at z; cases z
    · rw [List.getElem?_set_ne e] at z; exact h t z
theorem set_self_none {ρ : Env} {i : Nat} (h : ∀ t, ρ[i]? ≠ some (some t)) : ρ.set i none = ρ := by
  by_cases hi : i < ρ.length
  · refine set_same ?_
    cases z : ρ[i]? with
    | none => rw [List.getElem?_eq_none_iff] at z; omega
    | some o =>
      cases o with
      | none => rfl
      | some t => exact absurd z (h t)
  · exact List.set_eq_of_length_le (by omega)
theorem repE_drop {σ : Sg} {ρ : Env} {S : List Addr} (h : RepE K F H σ ρ S) (i : Nat) (x : Option V) : ∃ S', (∀ b, S'.count b ≤ S.count b) ∧ RepE K F H (σ.set i x) (ρ.set i none) S' := by
  by_cases hi : i < ρ.length
  · obtain ⟨Sa, Sc, c, g⟩ := RepE.put h hi
    exact ⟨Sa ++ Sc, c, (g F H (Same.refl _) fun _ _ => rfl).1 x⟩
  · have e1 : ρ.set i none = ρ := List.set_eq_of_length_le (by omega)
    have e2 : σ.set i x = σ := List.set_eq_of_length_le (by rw [h.length]; omega)
    rw [e1, e2]
    exact ⟨S, fun _ => Nat.le_refl _, h⟩
theorem set_get_self {α : Type} {l : List α} {i : Nat} (h : i < l.length) : l.set i l[i] = l := set_same (List.getElem?_eq_getElem h)
theorem repE_wipe : ∀ {vs : List Nat} {σ : Sg} {ρ : Env} {S : List Addr}, RepE K F H σ ρ S → ∃ S', (∀ b, S'.count b ≤ S.count b) ∧ RepE K F H (wipe σ vs) (wipeE ρ vs) S'
  | [], _, _, S, h => ⟨S, fun _ => Nat.le_refl _, h⟩
  | v :: vs, σ, ρ, S, h => by
    obtain ⟨S1, c1, h1⟩ : ∃ S', (∀ b, S'.count b ≤ S.count b) ∧ RepE K F H σ (ρ.set v none) S' := by
      by_cases hv : v < σ.length
      · obtain ⟨S', c, g⟩ := repE_drop h v (σ[v])
        rw [set_get_self hv] at g
        exact ⟨S', c, g⟩
      · have e1 : ρ.set v none = ρ := List.set_eq_of_length_le (by rw [← h.length]; omega)
        rw [e1]
        exact ⟨S, fun _ => Nat.le_refl _, h⟩
    obtain ⟨S2, c2, h2⟩ := repE_wipe (vs := vs) h1
    have n0 : ∀ t, (ρ.set v none)[v]? ≠ some (some t) := fun t z => by
      by_cases hv : v < ρ.length
      · rw [List.getElem?_set_self hv] at z; cases z
      · rw [List.getElem?_eq_none (by simpa using hv)] at z; cases z
    have n1 := wipeE_none (vs := vs) n0
    obtain ⟨S3, c3, h3⟩ := repE_drop h2 v none
    rw [set_self_none n1] at h3
    exact ⟨S3, fun b => Nat.le_trans (c3 b) (Nat.le_trans (c2 b) (c1 b)), h3⟩
theorem repE_unwipe : ∀ {vs : List Nat} {σ : Sg} {ρ : Env} {S : List Addr}, RepE K F H (wipe σ vs) ρ S → ∃ S', (∀ b, S'.count b ≤ S.count b) ∧ RepE K F H σ (wipeE ρ vs) S'
  | [], _, _, S, h => ⟨S, fun _ => Nat.le_refl _, h⟩
  | v :: vs, σ, ρ, S, h => by
    have h' : RepE K F H ((wipe σ vs).set v none) ρ S := h
    have hl := h'.length
    rw [List.length_set] at hl
    obtain ⟨S1, c1, h1⟩ : ∃ S', (∀ b, S'.count b ≤ S.count b) ∧ RepE K F H (wipe σ vs) (ρ.set v none) S' := by
      by_cases hv : v < (wipe σ vs).length
      · obtain ⟨S', c, g⟩ := repE_drop h' v ((wipe σ vs)[v])
        rw [List.set_set, set_get_self hv] at g
        exact ⟨S', c, g⟩
      · have e1 : ρ.set v none = ρ := List.set_eq_of_length_le (by omega)
        have e2 : (wipe σ vs).set v none = wipe σ vs := List.set_eq_of_length_le (by omega)
        rw [e1]
        rw [e2] at h'
        exact ⟨S, fun _ => Nat.le_refl _, h'⟩
    obtain ⟨S2, c2, h2⟩ := repE_unwipe (vs := vs) h1
    exact ⟨S2, fun b => Nat.le_trans (c2 b) (c1 b), h2⟩
theorem wipe_get {i : Nat} (τ : Sg) : ∀ (vs : List Nat), (wipe τ vs)[i]? = if i ∈ vs then (if i < τ.length then some none else none) else τ[i]?
  | [] => by simp [wipe]
  | v :: vs => by
    unfold wipe
    by_cases e : v = i
    · subst e
      rw [if_pos (show v ∈ v :: vs from List.mem_cons_self)]
      by_cases hv : v < τ.length
      · rw [if_pos hv, List.getElem?_set_self (by rw [wipe_length]; exact hv)]
      · rw [if_neg hv, List.getElem?_eq_none (by rw [List.length_set, wipe_length]; omega)]
    · rw [List.getElem?_set_ne e, wipe_get τ vs]
      by_cases hi : i ∈ vs
      · rw [if_pos hi, if_pos (show i ∈ v :: vs from List.mem_cons_of_mem _ hi)]
      · have h2 : i ∉ v :: vs := by simp only [List.mem_cons, not_or]; exact ⟨fun z => e z.symm, hi⟩
        rw [if_neg hi, if_neg h2]
theorem wipe_agree {σ σ2 : Sg} (hl : σ2.length = σ.length) {vs : List Nat} (h : ∀ i, i ∉ vs → σ2[i]? = σ[i]?) : wipe σ2 vs = wipe σ vs := by
  apply List.ext_getElem?
  intro i
  rw [wipe_get, wipe_get, hl]
  by_cases hi : i ∈ vs
  · rw [if_pos hi, if_pos hi]
  · rw [if_neg hi, if_neg hi, h i hi]
theorem wipe_wipe {σ : Sg} {vs : List Nat} : wipe (wipe σ vs) vs = wipe σ vs := by
  apply List.ext_getElem?
  intro i
  rw [wipe_get, wipe_length, wipe_get]
  by_cases hi : i ∈ vs
  · rw [if_pos hi, if_pos hi]
  · rw [if_neg hi, if_neg hi]
def LenG (mg : MG) : Prop := ∀ t ρ ρ', mg t ρ = some ρ' → ρ'.length = ρ.length
def LenGs (mg : MGs) : Prop := ∀ ts ρ ρ', mg ts ρ = some ρ' → ρ'.length = ρ.length
theorem lenG_name {i : Nat} : LenG (mName i) := fun t ρ ρ' h => by
  unfold mName at h
  by_cases z : i < ρ.length
  · rw [if_pos z] at h; cases h; exact List.length_set
  · rw [if_neg z] at h; cases h
theorem lenGs_nil : LenGs mgNil := fun ts ρ ρ' h => by
  cases ts with
  | nil => cases h; rfl
  | cons _ _ => cases h
theorem lenGs_cons {mg : MG} {mgs : MGs} (h1 : LenG mg) (h2 : LenGs mgs) : LenGs (mgCons mg mgs) := fun ts ρ ρ' h => by
  cases ts with
  | nil => cases h
  | cons t ts =>
    obtain ⟨ρ1, e1, e2⟩ := Option.bind_eq_some_iff.mp (show ((mg t ρ).bind fun ρ' => mgs ts ρ') = some ρ' from h)
    rw [h2 _ _ _ e2, h1 _ _ _ e1]
theorem lenG_tup {n : Nat} {mgs : MGs} (h1 : LenGs mgs) : LenG (mgTup n mgs) := fun t ρ ρ' h => by
  unfold mgTup at h
  split at h
  · split at h
    · exact h1 _ _ _ h
    · cases h
  · split at h
    · exact h1 _ _ _ h
    · cases h
  · cases h
theorem sndT_yes : SndT K true tYes mYes := by
  intro F H A S σ ρ c ρ' R q Q k
  cases q
  exact k F H S (Same.refl _) (fun _ _ => rfl) R fun _ => ⟨rfl, rfl, fun _ _ => rfl⟩
theorem snd_lc {b1 b2 : Bool} {W vs : List Nat} {wi : TI} {mi : MI} {g : TG} {mg : MG} {tt : TT} {mt : MT} {te : TE} {me : ME} (hi : SndI K wi mi) (hg : SndG K W g mg) (hL : LenG mg) (hW : ∀ i, i ∈ W → i ∈ vs) (ht : SndT K b1 tt mt) (he : Snd K b2 te me) :
    Snd K false (tLc wi g tt te vs) (mLc mi mg mt me vs) := by
  intro F H A S σ ρ t ρ' R q Q k
  obtain ⟨⟨ds, ρ1⟩, e1, q⟩ := Option.bind_eq_some_iff.mp q
  refine hi F H A S σ ρ ds ρ1 R e1 _ fun J F1 H1 S1 f1 k1 R1 hJ => ?_
  intro Da hD
  have hFD : F1 Da = none := R1.wd.same.free hD
  have trS := RepE.tracked R1.rep
  have hH : ∀ b, H1 b ≠ none → (upd H1 Da (.lst [])) b = H1 b := fun b hb => upd_ne fun z => by subst z; exact hb hD
  have gr := Gr.own (o := .lst []) R1.wd.same hD
  have R2 : RelE K F1 (upd H1 Da (.lst [])) ([Da] ++ A) S1 σ ρ1 := gr.rel R1 (Fresh.one' hD hFD) (fun a h => by
    have : a = Da := by simpa using h
    subst this; rw [upd_same]; exact fun z => by cases z)
  obtain ⟨S3, c3, h3⟩ := repE_wipe (vs := vs) R2.rep
  have R3 : RelE K F1 (upd H1 Da (.lst [])) ([Da] ++ A) S3 (wipe σ vs) (wipeE ρ1 vs) := ⟨h3, R2.wd.sub fun b => by have := c3 b; simp only [List.count_append]; omega, R2.tr⟩
  refine ⟨fun i m Hi => m = ds.length - i ∧ i ≤ ds.length ∧ ∃ (Fi : Hp) (Si Sa : List Addr) (ρi : Env) (acc : List T) (av : List V), Same F1 Fi ∧ (∀ b ∈ A, Hi b = H1 b) ∧ RelE K Fi Hi (Da :: Sa ++ A) Si (wipe σ vs) ρi ∧ Reps K Fi Hi acc av Sa ∧ Hi Da = some (.lst av) ∧
    lcLoop mg mt me vs (ds.drop i) acc ρi = some (t, ρ'), ⟨ds.length, by simp, Nat.zero_le _, F1, S3, [], wipeE ρ1 vs, [], [], Same.refl _, fun b hb => hH b (R1.tr b hb), by simpa using R3, ⟨rfl, rfl⟩, upd_same, by simpa using q⟩, ?_⟩
  rintro i m Hi ⟨rfl, hi', Fi, Si, Sa, ρi, acc, av, f2, k2, Ri, ra, hDi, qi⟩
  obtain ⟨hJ1, hJ2⟩ := hJ Hi (fun a o z => Ri.wd.same a o (f2 a o z))
  by_cases hlt : i < ds.length
  · have hd : ds[i]? = some ds[i] := List.getElem?_eq_getElem hlt
    obtain ⟨hgo, hy⟩ := hJ1 i _ hd
    have ed : ds.drop i = ds[i] :: ds.drop (i + 1) := List.drop_eq_getElem_cons hlt
    rw [ed] at qi
    obtain ⟨ρ2, e2, q2⟩ := Option.bind_eq_some_iff.mp (show ((mg (.fr ds[i]) ρi).bind fun ρ1 => (mt ρ1).bind fun c => if c.1 = true then
      (me c.2).bind fun p => if acc.length < 1000000 then lcLoop mg mt me vs (ds.drop (i + 1)) (acc ++ [p.1]) (wipeE p.2 vs) else none
      else lcLoop mg mt me vs (ds.drop (i + 1)) acc (wipeE c.2 vs)) = some (t, ρ') from qi)
    obtain ⟨⟨c, ρ3⟩, e3, q3⟩ := Option.bind_eq_some_iff.mp q2
    refine .inr ⟨hgo, fun Hn => ds.length - (i + 1) = ds.length - (i + 1) ∧ i + 1 ≤ ds.length ∧ ∃ (Fi : Hp) (Si Sa : List Addr) (ρi : Env) (acc : List T) (av : List V), Same F1 Fi ∧ (∀ b ∈ A, Hn b = H1 b) ∧ RelE K Fi Hn (Da :: Sa ++ A) Si (wipe σ vs) ρi ∧ Reps K Fi Hn acc av Sa ∧ Hn Da = some (.lst av) ∧
      lcLoop mg mt me vs (ds.drop (i + 1)) acc ρi = some (t, ρ'), fun H' p => ⟨_, by omega, p⟩, fun x H' y => ?_⟩
    obtain ⟨rfl, hx⟩ := hy x H' y
    refine hg Fi H' (Da :: Sa ++ A) Si (wipe σ vs) ρi (.fr ds[i]) x [] ρ2 (by simpa using Ri) ⟨rfl, RepD.mono f2 _ _ hx⟩ e2 _ fun σ2 F3 H3 S5 f3 k3 w3 R5 => ?_
    have hl2 : σ2.length = (wipe σ vs).length := by
      rw [R5.rep.length, hL _ _ _ e2, Ri.rep.length]
    have hw : wipe σ2 vs = wipe σ vs := by
      rw [wipe_agree hl2 fun j hj => w3 j fun z => hj (hW j z), wipe_wipe]
    refine ⟨hw, ?_⟩
    refine ht F3 H3 _ S5 σ2 ρ2 c ρ3 R5 e3 _ fun F4 H4 S6 f4 k4 R6 _ => ?_
    have kD : H4 Da = some (.lst av) := by rw [k4 Da (by simp), k3 Da (by simp), hDi]
    have kA4 : ∀ b ∈ A, H4 b = H1 b := fun b hb => by rw [k4 b (by simp [hb]), k3 b (by simp [hb]), k2 b hb]
    have ra4 : Reps K F4 H4 acc av Sa := Reps.ext (f3.trans f4) _ _ _ (fun b hb => by rw [k4 b (by simp [hb]), k3 b (by simp [hb])]) ra
    cases c with
    | false =>
      rw [if_neg Bool.false_ne_true] at q3 ⊢
      obtain ⟨S7, c7, h7⟩ := repE_wipe (vs := vs) R6.rep
      rw [hw] at h7
      exact ⟨rfl, hlt, F4, S7, Sa, wipeE ρ3 vs, acc, av, f2.trans (f3.trans f4), kA4, ⟨h7, R6.wd.sub fun b => by have := c7 b; simp only [List.count_append]; omega, R6.tr⟩, ra4, kD, q3⟩
    | true =>
      rw [if_pos rfl] at q3 ⊢
      obtain ⟨⟨ty, ρ4⟩, e5, q4⟩ := Option.bind_eq_some_iff.mp q3
      refine he F4 H4 _ S6 σ2 ρ3 ty ρ4 R6 e5 _ fun y F5 H5 S8 Sy f5 k5 R8 ry _ => ?_
      by_cases zl : acc.length < 1000000
      · rw [if_pos zl] at q4
        have kD5 : H5 Da = some (.lst av) := by rw [k5 Da (by simp), kD]
        have hla := ra.length
        refine ⟨av, kD5, by rw [sizeLine_eq, hla]; omega, rfl, hlt, ?_⟩
        have nin : ∀ b, b ∈ Sy ∨ b ∈ Sa ∨ b ∈ A ∨ b ∈ S8 → b ≠ Da := fun b hb z => by
          subst z
          have h1 := R8.wd.one b
          simp only [List.count_append, List.count_cons, List.cons_append, beq_self_eq_true, if_true] at h1
          rcases hb with hb | hb | hb | hb <;> (have := List.count_pos_iff.mpr hb; omega)
        have ag : ∀ b, b ∈ Sy ∨ b ∈ Sa ∨ b ∈ A ∨ b ∈ S8 → upd H5 Da (.lst (av ++ [y])) b = H5 b := fun b hb => upd_ne (nin b hb)
        have ra5 : Reps K F5 (upd H5 Da (.lst (av ++ [y]))) (acc ++ [ty]) (av ++ [y]) (Sa ++ Sy) := by
          refine Reps.snoc (Reps.ext f5 _ _ _ (fun b hb => ?_) ra4) (Rep.ext (Same.refl _) _ _ _ (fun b hb => ag b (.inl hb)) ry)
          rw [ag b (.inr (.inl hb)), k5 b (by simp [hb])]
        obtain ⟨S7, c7, h7⟩ := repE_wipe (vs := vs) (RepE.ext (Same.refl _) (fun b hb => ag b (.inr (.inr (.inr hb)))) R8.rep)
        rw [hw] at h7
        refine ⟨F5, S7, Sa ++ Sy, wipeE ρ4 vs, acc ++ [ty], av ++ [y], f2.trans (f3.trans (f4.trans f5)), fun b hb => by rw [ag b (.inr (.inr (.inl hb))), k5 b (by simp [hb]), kA4 b hb], ⟨h7, ?_, fun b hb => ?_⟩, ra5, upd_same, q4⟩
        · have w : Wd F5 H5 (Da :: (Sa ++ Sy ++ A ++ S7)) := R8.wd.sub fun b => by have := c7 b; simp only [List.count_append, List.count_cons, List.cons_append]; omega
          refine (w.upd (o := .lst (av ++ [y]))).sub fun b => ?_
          simp only [List.count_append, List.count_cons, List.cons_append]
          omega
        · by_cases z : b = Da
          · subst z; rw [upd_same]; exact fun z => by cases z
          · rw [upd_ne z]
            refine R8.tr b ?_
            simp only [List.mem_append, List.mem_cons, List.cons_append] at hb ⊢
            rcases hb with hb | ((hb | hb) | hb)
            · exact .inr (.inl hb)
            · exact .inr (.inr (.inl hb))
            · exact .inl hb
            · exact .inr (.inr (.inr hb))
      · rw [if_neg zl] at q4; cases q4
  · have e : i = ds.length := by omega
    subst e
    rw [List.drop_of_length_le (Nat.le_refl _)] at qi
    have q' : (some (T.lst acc, wipeE ρi vs)) = some (t, ρ') := qi
    cases q'
    obtain ⟨S9, c9, h9⟩ := repE_unwipe Ri.rep
    exact .inl ⟨hJ2, k (.ref Da) Fi Hi S9 (Da :: Sa) (f1.trans f2) (fun b hb => by rw [k2 b hb, k1 b hb]) ⟨h9, Ri.wd.sub fun b => by have := c9 b; simp only [List.count_append]; omega, Ri.tr⟩ ⟨Da, av, Sa, rfl, hDi, rfl, ra⟩ fun z => nomatch z⟩
end
end L3
namespace L3
open PySem PySem.Spec PyProof.Rows L2

/-! ### defs that callers know -/
structure Cal (P : Program) (w : World) (K : PySem.W.Frag) (mg : Str → Option Value) (base : Heap) (k : Nat) (x : Str) (sp : Sp) : Prop where
  ex : ∃ (f : Addr) (fd : FuncData) (ps : List Str), FnOk P w K mg base CX0 k f fd ps sp ∧ mg x = some (.ref f) ∧ PySem.W.keepIn K (.ref f) = true ∧ Binds K fd ps []
structure Met (P : Program) (w : World) (K : PySem.W.Frag) (mg : Str → Option Value) (base : Heap) (k : Nat) (C : Addr) (m : Str) (sp : Sp) : Prop where
  ex : ∃ (f : Addr) (fd : FuncData) (ps : List Str), Cls K C ∧ Meth K C m f ∧ FnOk P w K mg base CX0 k f fd ps sp ∧ Binds K fd ps []
structure Mak (P : Program) (w : World) (K : PySem.W.Frag) (mg : Str → Option Value) (base : Heap) (k : Nat) (x : Str) (C : Addr) (sp : Sp) : Prop where
  ex : ∃ (f : Addr) (fd : FuncData) (ps : List Str), Mk K C f ∧ FnOk P w K mg base CX0 k f fd ps sp ∧ mg x = some (.ref C) ∧ Binds K fd ps []
section
variable {X : Cx} {k j : Nat} {C : Addr} {x m : Str} {sp : Sp} {p pos apos : Pos} {e o : Expr} {es : List Expr} {ta : TE} {t : TA}
theorem pe_c (c : Cal X.prog X.w X.K X.mg X.base k x sp) (hr : Room j X.A) (hk : k ≤ j) (hg : Gl X x) (ha : PA X (e :: es) t)
    (hdb : (x == ("__debug__" : Str)) = false := by decide) (he : starEach (e :: es) X.env = (false, eval e X.env) :: starEach es X.env := by rfl) (hpl : (backTo pos (starEach es X.env)).any (·.1) = false := by rfl) :
    PE X (.Call (.Name x p) (e :: es) [] pos) (tCall sp [] E0 t) := by
  obtain ⟨f, fd, ps, F, hm, kp, b⟩ := c.ex
  exact pe_call F (hr.mono hk) hg hm kp b .nil pass0 ha hdb he hpl
theorem pe_mk (c : Mak X.prog X.w X.K X.mg X.base k x C sp) (hr : Room j X.A) (hk : k + 1 ≤ j) (hg : Gl X x) (ha : PA X (e :: es) t)
    (hdb : (x == ("__debug__" : Str)) = false := by decide) (he : starEach (e :: es) X.env = (false, eval e X.env) :: starEach es X.env := by rfl) (hpl : (backTo pos (starEach es X.env)).any (·.1) = false := by rfl) :
    PE X (.Call (.Name x p) (e :: es) [] pos) (tMake C sp [] E0 t) := by
  obtain ⟨f, fd, ps, M, F, hm, b⟩ := c.ex
  exact pe_make M F (hr.mono hk) hg hm b .nil pass0 ha hdb he hpl
theorem pe_mt {pl : Sem Bool} (c : Met X.prog X.w X.K X.mg X.base k C m sp) (hr : Room j X.A) (hk : k ≤ j) (he : PE X o ta) (ha : PA X (e :: es) t)
    (hst : starEach (e :: es) X.env = (false, eval e X.env) :: starEach es X.env := by rfl) (hpl : (backTo pos (starEach es X.env)).any (·.1) = false := by rfl)
    (ht : eval (.Call (.Attribute o m apos) (e :: es) [] pos) X.env = (do
      let ov ← eval o X.env
      standAt apos.atName
      let (f, first) ← holding [ov] (getMethod ov m pl)
      callWith pos f first (backTo pos (starEach (e :: es) X.env)) (backToKw pos (keywordEach [] X.env))) := by rfl) :
    PE X (.Call (.Attribute o m apos) (e :: es) [] pos) (tMeth C m sp [] E0 ta t) := by
  obtain ⟨f, fd, ps, hc, hm, F, b⟩ := c.ex
  exact pe_meth (pl := pl) he hc hm F (hr.mono hk) b .nil pass0 ha hst hpl ht
theorem pe_mt0 {pl : Sem Bool} (c : Met X.prog X.w X.K X.mg X.base k C m sp) (hr : Room j X.A) (hk : k ≤ j) (he : PE X o ta)
    (ht : eval (.Call (.Attribute o m apos) [] [] pos) X.env = (do
      let ov ← eval o X.env
      standAt apos.atName
      let (f, first) ← holding [ov] (getMethod ov m pl)
      callWith pos f first (backTo pos (starEach [] X.env)) (backToKw pos (keywordEach [] X.env))) := by rfl) :
    PE X (.Call (.Attribute o m apos) [] [] pos) (tMeth C m sp [] E0 ta tNil) := by
  obtain ⟨f, fd, ps, hc, hm, F, b⟩ := c.ex
  exact pe_meth0 (pl := pl) he hc hm F (hr.mono hk) b .nil pass0 ht
end
section
variable {P : Program} {w : World} {K : PySem.W.Frag} {mg : Str → Option Value} {base : Heap} {x qual : Str} {args : Arguments} {stmts : List Stmt} {scope : Scope} {f C : Addr} {fd : FuncData} {N ps : List Str} {k : Nat} {W : List Nat} {m : MS}
theorem cal3 (Fd : FunD K x qual args stmts scope [] [] f fd) (hm : mg x = some (.ref f)) (S : FnScope N ps scope)
    (hb : ∀ (kV doc pm : Value) (an : Option Addr) (cdv ct : Value) (us : List Value), us.length = ps.length → bindArgs (PySem.W.fnOf x qual args stmts scope .none kV doc pm an cdv ct) ⟨us, []⟩ = pure (ps.zip us))
    (h : ∀ (cdv : Value) (A : Around) (outer : List PySem.Env) (s : Shared) (H : Hp) (E : XK), Room k (A.deeper (envOfC qual scope s.heap.objs.size f cdv)) → B3 (cxOf CX0 P w K mg base N qual scope f cdv A outer s H E).nox W stmts m) :
    Cal P w K mg base (k + 1) x (spM K (mFun ps.length N.length W m)) := ⟨f, fd, ps, fn3 Fd S h, hm, Fd.kp, Fd.bindsN hb⟩
theorem met3 (Fd : FunD K x qual args stmts scope [] [] f fd) (hc : Cls K C) (hm : Meth K C x f) (S : FnScope N ps scope)
    (hb : ∀ (kV doc pm : Value) (an : Option Addr) (cdv ct : Value) (us : List Value), us.length = ps.length → bindArgs (PySem.W.fnOf x qual args stmts scope .none kV doc pm an cdv ct) ⟨us, []⟩ = pure (ps.zip us))
    (h : ∀ (cdv : Value) (A : Around) (outer : List PySem.Env) (s : Shared) (H : Hp) (E : XK), Room k (A.deeper (envOfC qual scope s.heap.objs.size f cdv)) → B3 (cxOf CX0 P w K mg base N qual scope f cdv A outer s H E).nox W stmts m) :
    Met P w K mg base (k + 1) C x (spM K (mFun ps.length N.length W m)) := ⟨f, fd, ps, hc, hm, fn3 Fd S h, Fd.bindsN hb⟩
theorem mak3 {cn : Str} (Fd : FunD K x qual args stmts scope [] [] f fd) (hM : Mk K C f) (hm : mg cn = some (.ref C)) (S : FnScope N ps scope)
    (hb : ∀ (kV doc pm : Value) (an : Option Addr) (cdv ct : Value) (us : List Value), us.length = ps.length → bindArgs (PySem.W.fnOf x qual args stmts scope .none kV doc pm an cdv ct) ⟨us, []⟩ = pure (ps.zip us))
    (h : ∀ (cdv : Value) (A : Around) (outer : List PySem.Env) (s : Shared) (H : Hp) (E : XK), Room k (A.deeper (envOfC qual scope s.heap.objs.size f cdv)) → B3 (cxOf CX0 P w K mg base N qual scope f cdv A outer s H E).nox W stmts m) :
    Mak P w K mg base (k + 1) cn C (spM K (mFun ps.length N.length W m)) := ⟨f, fd, ps, hM, fn3 Fd S h, hm, Fd.bindsN hb⟩
end

structure G3 (X : Cx) (W : List Nat) (tg : Expr) (g : TG) (m : MG) : Prop where
  pg : PG X tg g
  ok : SndG X.K W g m
  len : LenG m
structure Gs3 (X : Cx) (W : List Nat) (tgs : List Expr) (g : TGs) (m : MGs) : Prop where
  pgs : PGs X tgs g
  ok : SndGs X.K W g m
  len : LenGs m
structure I3 (X : Cx) (tg it : Expr) (wi : TI) (m : MI) : Prop where
  pi : PI X tg it wi
  ok : SndI X.K wi m
structure A3b (X : Cx) (es : List Expr) (ta : TA) (m : MB) : Prop where
  pa : PA X es ta
  ok : SndB X.K ta m
structure O3 (X : Cx) (b : Bool) (e : Option Expr) (t : TO) (m : MO) : Prop where
  po : PO X e t
  ok : SndO X.K b t m
structure Ts3 (X : Cx) (b : Bool) (ifs : List Expr) (tt : TT) (m : MT) : Prop where
  pts : PTs X ifs tt
  ok : SndT X.K b tt m

section
variable {X : Cx} {b b1 b2 b3 : Bool} {e a c d l : Expr} {es rest : List Expr} {ta tb tc te : TE} {ma mb mc me : ME} {pos p : Pos} {x : Str} {tl : TA} {ml : MA} {tA tB' : TT} {mA mB : MT}
/-! ### names, constants -/
theorem e_var (i : Nat) (hN : X.N[i]? = some x := by rfl) (hv : Vis X.env.scope x := by first | exact Or.inl rfl | exact Or.inr (Or.inl rfl) | exact Or.inr (Or.inr rfl)) (hd : (x == ("__debug__" : Str)) = false := by decide)
    (hcd : (x == ("__classdict__" : Str)) = false := by decide) : E3 X true (.Name x pos) (tVar i) (mVarP i) := ⟨pe_var hN hv hd hcd, snd_varP⟩
theorem e_varF (i : Nat) (hN : X.N[i]? = some x := by rfl) (hv : Vis X.env.scope x := by first | exact Or.inl rfl | exact Or.inr (Or.inl rfl) | exact Or.inr (Or.inr rfl)) (hd : (x == ("__debug__" : Str)) = false := by decide)
    (hcd : (x == ("__classdict__" : Str)) = false := by decide) : E3 X false (.Name x pos) (tVar i) (mVarF i) := ⟨pe_var hN hv hd hcd, snd_varF⟩
theorem e_varM (i : Nat) (hN : X.N[i]? = some x := by rfl) (hv : Vis X.env.scope x := by first | exact Or.inl rfl | exact Or.inr (Or.inl rfl) | exact Or.inr (Or.inr rfl)) (hd : (x == ("__debug__" : Str)) = false := by decide)
    (hcd : (x == ("__classdict__" : Str)) = false := by decide) : E3 X false (.Name x pos) (tVar i) (mVarM i) := ⟨pe_var hN hv hd hcd, snd_varM⟩
theorem p_var (i : Nat) (hN : X.N[i]? = some x := by rfl) (hv : Vis X.env.scope x := by first | exact Or.inl rfl | exact Or.inr (Or.inl rfl) | exact Or.inr (Or.inr rfl)) (hd : (x == ("__debug__" : Str)) = false := by decide)
    (hcd : (x == ("__classdict__" : Str)) = false := by decide) : P3 X (.Name x pos) (tVar i) (pName i) := ⟨pe_var hN hv hd hcd, sndP_name⟩
theorem e_int {i j} : E3 X true (.Constant (.int i) j pos) (tC (.int i)) (mC (.int i)) := ⟨pe_int, snd_int⟩
theorem e_bl {i j} : E3 X true (.Constant (.bool i) j pos) (tC (.bl i)) (mC (.bl i)) := ⟨pe_bl, snd_bl⟩
theorem e_non {j} : E3 X true (.Constant .none j pos) (tC .non) (mC .non) := ⟨pe_non, snd_non⟩
theorem e_str {i j} : E3 X true (.Constant (.str i) j pos) (tC (.str i)) (mC (.str i)) := ⟨pe_str, snd_str⟩
/-- a constant of the module -/
theorem e_glob {v : V} {dd : D} (h : ∃ u, X.mg x = some u ∧ RelV v u) (hd : ∀ F, RepD X.K F dd v) (hg : Gl X x := by rfl) (hdb : (x == ("__debug__" : Str)) = false := by decide) : E3 X true (.Name x pos) (tC v) (mC dd) := ⟨let ⟨_, hm, r⟩ := h; pe_glob hg hm r hdb, snd_c hd⟩
/-- a built-in class as a value -/
theorem e_ty {n : String} (hm : X.mg x = none) (hv : bootBuiltins x = some (.type n)) (hg : Gl X x := by rfl) (hn : x ≠ "__name__" := by decide) (hd : (x == ("__debug__" : Str)) = false := by decide) : E3 X true (.Name x pos) (tC (.ty n)) (mC (.ty n)) :=
  ⟨pe_bltn hg hm hv rfl hn hd, snd_c fun _ => rfl⟩
/-! ### operators -/
theorem e_bin {op : Operator} {r : R2} {g : D → D → Option T} (ho : OpR X (binaryOp op) r) (hs : OpF2 X.K r g) (ha : E3 X b1 a ta ma) (hb : E3 X b2 c tb mb) : E3 X (b1 && b2) (.BinOp a op c pos) (tOp r ta tb) (mOp2 g ma mb) := ⟨pe_op ho ha.pe hb.pe, snd_op2 hs ha.ok hb.ok⟩
theorem e_add (ha : E3 X b1 a ta ma) (hb : E3 X b2 c tb mb) : E3 X (b1 && b2) (.BinOp a .Add c pos) (tOp (rAddA X.K) ta tb) (mOp2 gAdd ma mb) := e_bin op_addA f_add ha hb
theorem e_sub (ha : E3 X b1 a ta ma) (hb : E3 X b2 c tb mb) : E3 X (b1 && b2) (.BinOp a .Sub c pos) (tOp (rI0 fun i j => .int (i - j)) ta tb) (mOp2 (gI0 fun i j => i - j) ma mb) := e_bin op_sub f_sub ha hb
theorem e_mul (ha : E3 X b1 a ta ma) (hb : E3 X b2 c tb mb) : E3 X (b1 && b2) (.BinOp a .Mult c pos) (tOp rMulA ta tb) (mOp2 gMul ma mb) := e_bin op_mulA f_mul ha hb
theorem e_floor (ha : E3 X b1 a ta ma) (hb : E3 X b2 c tb mb) : E3 X (b1 && b2) (.BinOp a .FloorDiv c pos) (tOp (rI CDiv fun i j => .int (i / j)) ta tb) (mOp2 gFloor ma mb) := e_bin op_fdiv f_floor ha hb
theorem e_mod (ha : E3 X b1 a ta ma) (hb : E3 X b2 c tb mb) : E3 X (b1 && b2) (.BinOp a .Mod c pos) (tOp (rI (fun _ j => 0 < j) fun i j => .int (i % j)) ta tb) (mOp2 gMod ma mb) := e_bin op_mod f_mod ha hb
theorem e_pow (ha : E3 X b1 a ta ma) (hb : E3 X b2 c tb mb) : E3 X (b1 && b2) (.BinOp a .Pow c pos) (tOp (rI CPow fun i j => .int (i ^ j.toNat)) ta tb) (mOp2 gPow ma mb) := e_bin op_pow f_pow ha hb
theorem e_shl (ha : E3 X b1 a ta ma) (hb : E3 X b2 c tb mb) : E3 X (b1 && b2) (.BinOp a .LShift c pos) (tOp (rI CPow fun i j => .int (i * 2 ^ j.toNat)) ta tb) (mOp2 gShl ma mb) := e_bin op_shl f_shl ha hb
theorem e_shr (ha : E3 X b1 a ta ma) (hb : E3 X b2 c tb mb) : E3 X (b1 && b2) (.BinOp a .RShift c pos) (tOp (rI (fun _ j => 0 ≤ j) fun i j => .int (i / 2 ^ j.toNat)) ta tb) (mOp2 gShr ma mb) := e_bin op_shr f_shr ha hb
theorem e_band (ha : E3 X b1 a ta ma) (hb : E3 X b2 c tb mb) : E3 X (b1 && b2) (.BinOp a .BitAnd c pos) (tOp (rI0 fun i j => .int (Builtin.bitAnd i j)) ta tb) (mOp2 gAnd ma mb) := e_bin op_and f_I0 ha hb
theorem e_bor (ha : E3 X b1 a ta ma) (hb : E3 X b2 c tb mb) : E3 X (b1 && b2) (.BinOp a .BitOr c pos) (tOp (rI0 fun i j => .int (Builtin.bitOr i j)) ta tb) (mOp2 gOr ma mb) := e_bin op_or f_I0 ha hb
theorem e_neg (ha : E3 X b a ta ma) : E3 X b (.UnaryOp .USub a pos) (tUn (rU fun i => .int (-i)) ta) (mOp1 gNeg ma) := ⟨pe_un un_neg ha.pe, snd_op1 f_neg ha.ok⟩
/-! ### comparisons -/
abbrev gLt := gB0 fun i j => decide (i < j)
abbrev gLe := gB0 fun i j => decide (i ≤ j)
abbrev gGt := gB0 fun i j => decide (j < i)
abbrev gGe := gB0 fun i j => decide (j ≤ i)
/-- a comparison's rule, by its operator -/
structure C3 (X : Cx) (op : CmpOp) (r : R2) (g : D → D → Option T) : Prop where
  ho : OpR X (compareOp op) r
  hs : OpF2 X.K r g
theorem c_lt : C3 X .Lt (rI0 fun i j => .bl (decide (i < j))) gLt := ⟨op_lt, f_B0⟩
theorem c_le : C3 X .LtE (rI0 fun i j => .bl (decide (i ≤ j))) gLe := ⟨op_le, f_B0⟩
theorem c_gt : C3 X .Gt (rI0 fun i j => .bl (decide (j < i))) gGt := ⟨op_gt, f_B0⟩
theorem c_ge : C3 X .GtE (rI0 fun i j => .bl (decide (j ≤ i))) gGe := ⟨op_ge, f_B0⟩
theorem c_eq (hu : X.A.units + 64 < cLine) : C3 X .Eq (rEqA X.K) gEq := ⟨op_eqA hu, f_eq⟩
theorem c_ne (hu : X.A.units + 64 < cLine) : C3 X .NotEq (rNeA X.K) gNe := ⟨op_neA hu, f_ne⟩
theorem c_in : C3 X .In (rIn X.K false) (gIn false) := ⟨op_in_seq, f_in⟩
theorem c_nin : C3 X .NotIn (rIn X.K true) (gIn true) := ⟨op_notIn_seq, f_in⟩
theorem c_is : C3 X .Is (fun x y H Q => y = .non ∧ Q (.bl (decide (x = .non))) H) gIs := ⟨op_isN, f_is⟩
theorem c_isnot : C3 X .IsNot (fun x y H Q => y = .non ∧ Q (.bl (!decide (x = .non))) H) gIsNot := ⟨op_notN, f_isNot⟩
theorem e_cmp {op : CmpOp} {r : R2} {g : D → D → Option T} (h : C3 X op r g) (ha : E3 X b1 a ta ma) (hb : E3 X b2 c tb mb) (hm : behindInMarks op c = false := by first | exact nomark _ | rfl) : E3 X (b1 && b2) (.Compare a [op] [c] pos) (tOp r ta tb) (mOp2 g ma mb) :=
  ⟨pe_cmpR h.ho ha.pe hb.pe hm, snd_op2 h.hs ha.ok hb.ok⟩
theorem t_cmp {op : CmpOp} {r : R2} {g : D → D → Option T} (h : C3 X op r g) (ha : E3 X b1 a ta ma) (hb : E3 X b2 c tb mb) (hm : behindInMarks op c = false := by first | exact nomark _ | rfl) : T3 X (b1 && b2) (.Compare a [op] [c] pos) (tTest (tOp r ta tb)) (mTest (mOp2 g ma mb)) :=
  ⟨pt_cmpR h.ho ha.pe hb.pe hm, sndT_test (snd_op2 h.hs ha.ok hb.ok)⟩
theorem e_chain {op op' : CmpOp} {r r' : R2} {g g' : D → D → Option T} (h : C3 X op r g) (h' : C3 X op' r' g') (ha : E3 X b1 a ta ma) (hb : E3 X b2 c tb mb) (hc : E3 X b3 d tc mc) (hm : lastMarks [op, op'] [c, d] = false := by with_unfolding_all rfl) :
    E3 X ((b1 && b2) && b3) (.Compare a [op, op'] [c, d] pos) (tChain r r' ta tb tc) (mChain g g' ma mb mc) := ⟨pe_chain h.ho h'.ho ha.pe hb.pe hc.pe hm, snd_chain h.hs h'.hs ha.ok hb.ok hc.ok⟩
theorem t_chain {op op' : CmpOp} {r r' : R2} {g g' : D → D → Option T} (h : C3 X op r g) (h' : C3 X op' r' g') (ha : E3 X b1 a ta ma) (hb : E3 X b2 c tb mb) (hc : E3 X b3 d tc mc) (hm : lastMarks [op, op'] [c, d] = false := by with_unfolding_all rfl) :
    T3 X ((b1 && b2) && b3) (.Compare a [op, op'] [c, d] pos) (tTest (tChain r r' ta tb tc)) (mTest (mChain g g' ma mb mc)) := ⟨pt_chain h.ho h'.ho ha.pe hb.pe hc.pe hm, sndT_test (snd_chain h.hs h'.hs ha.ok hb.ok hc.ok)⟩
/-! ### and, or, not, if -/
theorem e_one {op} (h : E3 X b a ta ma) : E3 X b (.BoolOp op [a] pos) ta ma := ⟨pe_one h.pe, h.ok⟩
theorem e_and (ha : E3 X b1 a ta ma) (hb : E3 X b2 (.BoolOp .And (c :: rest) pos) tb mb) : E3 X (b1 && b2) (.BoolOp .And (a :: c :: rest) pos) (tAndV ta tb) (mAnd ma mb) := ⟨pe_and ha.pe hb.pe, snd_and ha.ok hb.ok⟩
theorem e_or (ha : E3 X b1 a ta ma) (hb : E3 X b2 (.BoolOp .Or (c :: rest) pos) tb mb) : E3 X (b1 && b2) (.BoolOp .Or (a :: c :: rest) pos) (tOrV ta tb) (mOr ma mb) := ⟨pe_or ha.pe hb.pe, snd_or ha.ok hb.ok⟩
theorem e_not (ha : E3 X b a ta ma) : E3 X b (.UnaryOp .Not a pos) (tNotV ta) (mNot ma) := ⟨pe_not ha.pe, snd_not ha.ok⟩
theorem e_if (hc : T3 X b1 c tA mA) (ha : E3 X b2 a ta ma) (hb : E3 X b3 d tb mb) : E3 X (b1 && (b2 && b3)) (.IfExp c a d pos) (tIf tA ta tb) (mIf mA ma mb) := ⟨pe_ifExp hc.pt ha.pe hb.pe, snd_if hc.ok ha.ok hb.ok⟩
theorem w_and1 (ha : T3 X b a tA mA) : W3 X b (.BoolOp .And [a] pos) tA mA := ⟨pw_and1 ha.pt, ha.ok⟩
theorem w_or1 (ha : T3 X b a tA mA) : W3 X b (.BoolOp .Or [a] pos) tA mA := ⟨pw_or1 ha.pt, ha.ok⟩
theorem w_and (ha : T3 X b1 a tA mA) (hb : W3 X b2 (.BoolOp .And (c :: rest) pos) tB' mB) : W3 X (b1 && b2) (.BoolOp .And (a :: c :: rest) pos) (tAnd tA tB') (mTAnd mA mB) := ⟨pw_and ha.pt hb.pw, sndT_and ha.ok hb.ok⟩
theorem w_or (ha : T3 X b1 a tA mA) (hb : W3 X b2 (.BoolOp .Or (c :: rest) pos) tB' mB) : W3 X (b1 && b2) (.BoolOp .Or (a :: c :: rest) pos) (tOr tA tB') (mTOr mA mB) := ⟨pw_or ha.pt hb.pw, sndT_or ha.ok hb.ok⟩
theorem t_w (h : W3 X b a tA mA) : T3 X b a tA mA := ⟨h.pw.pt, h.ok⟩
theorem t_not (ha : T3 X b a tA mA) : T3 X b (.UnaryOp .Not a pos) (tNot tA) (mTNot mA) := ⟨pt_not ha.pt, sndT_not ha.ok⟩
theorem t_val (ha : E3 X b a ta ma) (he : ∀ whole, isTrue a X.env whole = (do let v ← whole; standAt a.pos; holding [v] (truthy v)) := by intro _; rfl) : T3 X b a (fun σ H Q => ta σ H fun x H' => ∃ k, TruV X.K x H' k ∧ Q k H') (mTruth ma) := ⟨pt_truth ha.pe he, sndT_truth ha.ok⟩
/-! ### displays, items, slices -/
theorem a_nil : A3 X true [] tNil mNil := ⟨pa_nil, sndA_nil⟩
theorem a_cons (ha : E3 X b1 e te me) (hr : A3 X b2 es tl ml) (hs : starEach (e :: es) X.env = (false, eval e X.env) :: starEach es X.env := by rfl) : A3 X (b1 && b2) (e :: es) (tCons te tl) (mCons me ml) := ⟨pa_cons ha.pe hr.pa hs, sndA_cons ha.ok hr.ok⟩
theorem e_tup {x1} (h : A3 X b es tl ml) : E3 X b (.Tuple es x1 pos) (tTup tl) (mTup ml) := ⟨pe_tup h.pa, snd_tup h.ok⟩
theorem e_lst (h : A3 X b es tl ml) : E3 X b (.List es pos) (tLst tl) (mLst ml) := ⟨pe_lst h.pa, snd_lst h.ok⟩
theorem p_idx {mp : MP} (hu : X.A.units + 1 < cLine) (ha : P3 X a ta mp) (hi : E3 X true c tb mb) (hs : PlainIx c := by exact fun _ _ => rfl) : P3 X (.Subscript a c pos) (tIdx X.K ta tb) (pIdx mp mb) := ⟨pe_idx hu ha.pe hi.pe hs, sndP_idx ha.ok hi.ok⟩
theorem e_item (hu : X.A.units + 1 < cLine) (ha : E3 X b1 a ta ma) (hi : E3 X b2 c tb mb) (hs : PlainIx c := by exact fun _ _ => rfl) : E3 X (b1 && b2) (.Subscript a c pos) (tIdx X.K ta tb) (mItem ma mb) := ⟨pe_idx hu ha.pe hi.pe hs, snd_item ha.ok hi.ok⟩
theorem p_fld {mp : MP} {cn f : Str} (hc : Cls X.K (He.ga X.K cn)) (hn : NoAttr X.K (He.ga X.K cn) f) (ha : P3 X a ta mp) (hb : attributeBase a f X.env (eval a X.env) = eval a X.env := by rfl) : P3 X (.Attribute a f pos) (tFld X.K ta f) (pFld cn mp f) := ⟨pe_fld ha.pe hb, sndP_fld hc hn ha.ok⟩
theorem e_pl {mp : MP} (h : P3 X a ta mp) : E3 X false a ta (mPl mp) := ⟨h.pe, snd_pl h.ok⟩
theorem e_plP {mp : MP} (h : P3 X a ta mp) : E3 X true a ta (mPlP mp) := ⟨h.pe, snd_plP h.ok⟩
theorem o_none : O3 X true none tNoPart mNoPart := ⟨po_none, sndO_none⟩
theorem o_some (h : E3 X b a ta ma) : O3 X b (some a) (tPart ta) (mPart ma) := ⟨po_some h.pe, sndO_some h.ok⟩
theorem e_slice {lo hi : Option Expr} {p2 : Pos} {to th : TO} {mo mh : MO} (ha : E3 X b1 a ta ma) (hl : O3 X b2 lo to mo) (hh : O3 X b3 hi th mh) : E3 X (b1 && (b2 && b3)) (.Subscript a (.Slice lo hi none p2) pos) (tSl (rSlice X.K) ta to th) (mSlice ma mo mh) :=
  ⟨pe_slice sl_any ha.pe hl.po hh.po, snd_slice ha.ok hl.ok hh.ok⟩
/-! ### built-in calls -/
theorem e_blt {id : String} {r : List V → Hp → VK → Prop} {g : List D → Option T} (hc : CallR X (.builtin id) r) (hs : OpFn X.K r g) (hm : X.mg x = none) (hv : bootBuiltins x = some (.builtin id)) (ha : A3 X b (e :: es) tl ml) (hg : Gl X x := by rfl) (hn : x ≠ "__name__" := by decide)
    (hdb : (x == ("__debug__" : Str)) = false := by decide) (he : starEach (e :: es) X.env = (false, eval e X.env) :: starEach es X.env := by rfl) (hpl : (backTo pos (starEach es X.env)).any (·.1) = false := by rfl) : E3 X b (.Call (.Name x p) (e :: es) [] pos) (tCB r tl) (mOpn g ml) :=
  ⟨pe_callB hc hg hm hv ha.pa hn hdb he hpl, snd_opn hs ha.ok⟩
theorem e_bty {n : String} {r : List V → Hp → VK → Prop} {g : List D → Option T} (hc : CallR X (.type n) r) (hs : OpFn X.K r g) (hm : X.mg x = none) (hv : bootBuiltins x = some (.type n)) (ha : A3 X b (e :: es) tl ml) (hg : Gl X x := by rfl) (hn : x ≠ "__name__" := by decide)
    (hdb : (x == ("__debug__" : Str)) = false := by decide) (he : starEach (e :: es) X.env = (false, eval e X.env) :: starEach es X.env := by rfl) (hpl : (backTo pos (starEach es X.env)).any (·.1) = false := by rfl) : E3 X b (.Call (.Name x p) (e :: es) [] pos) (tCB r tl) (mOpn g ml) :=
  ⟨pe_callTy hc hg hm hv ha.pa hn hdb he hpl, snd_opn hs ha.ok⟩
theorem e_lenP {mp : MP} (hm : X.mg "len" = none) (ha : P3 X a ta mp) (hg : Gl X "len" := by rfl) (he : starEach [a] X.env = (false, eval a X.env) :: starEach [] X.env := by rfl) : E3 X true (.Call (.Name "len" p) [a] [] pos) (tCB (rLen X.K) (tCons ta tNil)) (mLenP mp) :=
  ⟨pe_callB call_len hg hm PySem.boot_len (pa_cons ha.pe pa_nil he) (by decide) (by decide) he rfl, snd_lenP ha.ok⟩
/-! ### own calls -/
theorem b_nil : A3b X [] tNil mbNil := ⟨pa_nil, sndB_nil⟩
theorem b_val {mr : MB} (ha : E3 X b e te me) (hr : A3b X es tl mr) (hs : starEach (e :: es) X.env = (false, eval e X.env) :: starEach es X.env := by rfl) : A3b X (e :: es) (tCons te tl) (mbVal me mr) := ⟨pa_cons ha.pe hr.pa hs, sndB_val ha.ok hr.ok⟩
theorem b_bor (i : Nat) {mr : MB} (hr : A3b X es tl mr) (hN : X.N[i]? = some x := by rfl) (hv : Vis X.env.scope x := by first | exact Or.inl rfl | exact Or.inr (Or.inl rfl) | exact Or.inr (Or.inr rfl)) (hd : (x == ("__debug__" : Str)) = false := by decide)
    (hcd : (x == ("__classdict__" : Str)) = false := by decide) (hs : starEach (.Name x p :: es) X.env = (false, eval (.Name x p) X.env) :: starEach es X.env := by rfl) : A3b X (.Name x p :: es) (tCons (tVar i) tl) (mbBor i mr) := ⟨pa_cons (pe_var hN hv hd hcd) hr.pa hs, sndB_bor hr.ok⟩
theorem e_call {k j : Nat} {mf : MF} {mr : MB} (F : Cal X.prog X.w X.K X.mg X.base k x (spM X.K mf)) (hr : Room j X.A) (ha : A3b X (e :: es) tl mr) (hk : k ≤ j := by decide) (hg : Gl X x := by rfl) (hdb : (x == ("__debug__" : Str)) = false := by decide)
    (he : starEach (e :: es) X.env = (false, eval e X.env) :: starEach es X.env := by rfl) (hpl : (backTo pos (starEach es X.env)).any (·.1) = false := by rfl) : E3 X false (.Call (.Name x p) (e :: es) [] pos) (tCall (spM X.K mf) [] E0 tl) (mCall mf mr) :=
  ⟨pe_c F hr hk hg ha.pa hdb he hpl, snd_call ha.ok⟩
theorem e_callP {k j : Nat} {mf : MF} (F : Cal X.prog X.w X.K X.mg X.base k x (spM X.K mf)) (hr : Room j X.A) (ha : A3 X b (e :: es) tl ml) (hk : k ≤ j := by decide) (hg : Gl X x := by rfl) (hdb : (x == ("__debug__" : Str)) = false := by decide)
    (he : starEach (e :: es) X.env = (false, eval e X.env) :: starEach es X.env := by rfl) (hpl : (backTo pos (starEach es X.env)).any (·.1) = false := by rfl) : E3 X b (.Call (.Name x p) (e :: es) [] pos) (tCall (spM X.K mf) [] E0 tl) (mCallP mf ml) :=
  ⟨pe_c F hr hk hg ha.pa hdb he hpl, snd_callP ha.ok⟩
theorem e_methR {k j : Nat} {cn m o : Str} {mf : MF} {mr : MB} {opos apos : Pos} {pl : Sem Bool} (F : Met X.prog X.w X.K X.mg X.base k (He.ga X.K cn) m (spM X.K mf)) (hr : Room j X.A) (i : Nat) (ha : A3b X (e :: es) tl mr) (hk : k ≤ j := by decide)
    (hN : X.N[i]? = some o := by rfl) (hv : Vis X.env.scope o := by first | exact Or.inl rfl | exact Or.inr (Or.inl rfl) | exact Or.inr (Or.inr rfl)) (hd : (o == ("__debug__" : Str)) = false := by decide) (hcd : (o == ("__classdict__" : Str)) = false := by decide)
    (hst : starEach (e :: es) X.env = (false, eval e X.env) :: starEach es X.env := by rfl) (hpl : (backTo pos (starEach es X.env)).any (·.1) = false := by rfl)
    (ht : eval (.Call (.Attribute (.Name o opos) m apos) (e :: es) [] pos) X.env = (do
      let ov ← eval (.Name o opos) X.env
      standAt apos.atName
      let (f, first) ← holding [ov] (getMethod ov m pl)
      callWith pos f first (backTo pos (starEach (e :: es) X.env)) (backToKw pos (keywordEach [] X.env))) := by rfl) :
    E3 X false (.Call (.Attribute (.Name o opos) m apos) (e :: es) [] pos) (tMeth (He.ga X.K cn) m (spM X.K mf) [] E0 (tVar i) tl) (mMethR cn m mf i mr) :=
  ⟨pe_mt (pl := pl) F hr hk (pe_var hN hv hd hcd) ha.pa hst hpl ht, snd_methR ha.ok⟩
theorem e_methR0 {k j : Nat} {cn m o : Str} {mf : MF} {opos apos : Pos} {pl : Sem Bool} (F : Met X.prog X.w X.K X.mg X.base k (He.ga X.K cn) m (spM X.K mf)) (hr : Room j X.A) (i : Nat) (hk : k ≤ j := by decide)
    (hN : X.N[i]? = some o := by rfl) (hv : Vis X.env.scope o := by first | exact Or.inl rfl | exact Or.inr (Or.inl rfl) | exact Or.inr (Or.inr rfl)) (hd : (o == ("__debug__" : Str)) = false := by decide) (hcd : (o == ("__classdict__" : Str)) = false := by decide)
    (ht : eval (.Call (.Attribute (.Name o opos) m apos) [] [] pos) X.env = (do
      let ov ← eval (.Name o opos) X.env
      standAt apos.atName
      let (f, first) ← holding [ov] (getMethod ov m pl)
      callWith pos f first (backTo pos (starEach [] X.env)) (backToKw pos (keywordEach [] X.env))) := by rfl) :
    E3 X false (.Call (.Attribute (.Name o opos) m apos) [] [] pos) (tMeth (He.ga X.K cn) m (spM X.K mf) [] E0 (tVar i) tNil) (mMethR cn m mf i mbNil) :=
  ⟨pe_mt0 (pl := pl) F hr hk (pe_var hN hv hd hcd) ht, snd_methR sndB_nil⟩
theorem e_methP {k j : Nat} {cn m : Str} {mf : MF} {mp : MP} {apos : Pos} {pl : Sem Bool} (F : Met X.prog X.w X.K X.mg X.base k (He.ga X.K cn) m (spM X.K mf)) (hr : Room j X.A) (ho : P3 X a ta mp) (ha : A3 X true (e :: es) tl ml) (hk : k ≤ j := by decide)
    (hst : starEach (e :: es) X.env = (false, eval e X.env) :: starEach es X.env := by rfl) (hpl : (backTo pos (starEach es X.env)).any (·.1) = false := by rfl)
    (ht : eval (.Call (.Attribute a m apos) (e :: es) [] pos) X.env = (do
      let ov ← eval a X.env
      standAt apos.atName
      let (f, first) ← holding [ov] (getMethod ov m pl)
      callWith pos f first (backTo pos (starEach (e :: es) X.env)) (backToKw pos (keywordEach [] X.env))) := by rfl) :
    E3 X false (.Call (.Attribute a m apos) (e :: es) [] pos) (tMeth (He.ga X.K cn) m (spM X.K mf) [] E0 ta tl) (mMethP cn m mf mp ml) :=
  ⟨pe_mt (pl := pl) F hr hk ho.pe ha.pa hst hpl ht, snd_methP ho.ok ha.ok⟩
theorem e_methP0 {k j : Nat} {cn m : Str} {mf : MF} {mp : MP} {apos : Pos} {pl : Sem Bool} (F : Met X.prog X.w X.K X.mg X.base k (He.ga X.K cn) m (spM X.K mf)) (hr : Room j X.A) (ho : P3 X a ta mp) (hk : k ≤ j := by decide)
    (ht : eval (.Call (.Attribute a m apos) [] [] pos) X.env = (do
      let ov ← eval a X.env
      standAt apos.atName
      let (f, first) ← holding [ov] (getMethod ov m pl)
      callWith pos f first (backTo pos (starEach [] X.env)) (backToKw pos (keywordEach [] X.env))) := by rfl) :
    E3 X false (.Call (.Attribute a m apos) [] [] pos) (tMeth (He.ga X.K cn) m (spM X.K mf) [] E0 ta tNil) (mMethP cn m mf mp mNil) :=
  ⟨pe_mt0 (pl := pl) F hr hk ho.pe ht, snd_methP ho.ok sndA_nil⟩
theorem e_make {k j : Nat} {mf : MF} {mr : MB} (F : Mak X.prog X.w X.K X.mg X.base k x (He.ga X.K x) (spM X.K mf)) (hr : Room j X.A) (ha : A3b X (e :: es) tl mr) (hk : k + 1 ≤ j := by decide) (hg : Gl X x := by rfl) (hdb : (x == ("__debug__" : Str)) = false := by decide)
    (he : starEach (e :: es) X.env = (false, eval e X.env) :: starEach es X.env := by rfl) (hpl : (backTo pos (starEach es X.env)).any (·.1) = false := by rfl) : E3 X false (.Call (.Name x p) (e :: es) [] pos) (tMake (He.ga X.K x) (spM X.K mf) [] E0 tl) (mMake x mf mr) :=
  ⟨pe_mk F hr hk hg ha.pa hdb he hpl, snd_make ha.ok⟩
/-! ### x.append(e), x.pop() -/
theorem e_appP {mp : MP} {apos : Pos} (ha : P3 X a ta mp) (hv : E3 X true e te me) (hbase : attributeBase a "append" X.env (eval a X.env) = eval a X.env := by rfl)
    (hfew : ((backTo pos (starEach (e :: []) X.env)).all (fun x => !x.1) && (backToKw pos (keywordEach [] X.env)).all (fun x => x.1.isSome)
      && decide ((e :: []).length + ([] : List Keyword).length + (if ([] : List Keyword).isEmpty then 0 else 1) < 30)) = true := by rfl)
    (hline : (apos.endLine == pos.line) = true := by rfl) (hs : starEach (e :: []) X.env = (false, eval e X.env) :: starEach [] X.env := by rfl) : E3 X false (.Call (.Attribute a "append" apos) [e] [] pos) (tApp X.K ta te) (mAppP mp me) :=
  ⟨pe_bm PySem.F.plainAttrs_list PySem.F.slot_list_append PySem.F.type_list_append mt_append ha.pe (pa_cons hv.pe pa_nil hs) hbase hfew hline hs rfl, snd_appP ha.ok hv.ok⟩
theorem e_appT {mp : MP} {apos : Pos} (ha : P3 X a ta mp) (hv : E3 X b e te me) (hbase : attributeBase a "append" X.env (eval a X.env) = eval a X.env := by rfl)
    (hfew : ((backTo pos (starEach (e :: []) X.env)).all (fun x => !x.1) && (backToKw pos (keywordEach [] X.env)).all (fun x => x.1.isSome)
      && decide ((e :: []).length + ([] : List Keyword).length + (if ([] : List Keyword).isEmpty then 0 else 1) < 30)) = true := by rfl)
    (hline : (apos.endLine == pos.line) = true := by rfl) (hs : starEach (e :: []) X.env = (false, eval e X.env) :: starEach [] X.env := by rfl) : E3 X false (.Call (.Attribute a "append" apos) [e] [] pos) (tApp X.K ta te) (mAppT mp me) :=
  ⟨pe_bm PySem.F.plainAttrs_list PySem.F.slot_list_append PySem.F.type_list_append mt_append ha.pe (pa_cons hv.pe pa_nil hs) hbase hfew hline hs rfl, snd_appT ha.ok hv.ok⟩
theorem e_pop {mp : MP} {apos : Pos} (ha : P3 X a ta mp) (hbase : attributeBase a "pop" X.env (eval a X.env) = eval a X.env := by rfl) (hline : (apos.endLine == pos.line) = true := by rfl) : E3 X false (.Call (.Attribute a "pop" apos) [] [] pos) (tPop X.K ta) (mPop mp) :=
  ⟨pe_bm0 PySem.F.plainAttrs_list PySem.F.slot_list_pop PySem.F.type_list_pop mt_pop ha.pe hbase hline, snd_pop ha.ok⟩
/-! ### what is walked, targets, comprehensions -/
variable {tg it : Expr} {W W1 W2 : List Nat} {g : TG} {mg : MG} {gs : TGs} {mgs : MGs} {wi : TI} {mi : MI}
theorem i_seq (h : E3 X b l te me) : I3 X tg l (iSeq X.K te) (miSeq me) := ⟨pi_seq h.pe, sndI_seq h.ok⟩
theorem i_rng1 (hm : X.mg "range" = none) (h : E3 X b a ta ma) (hg : Gl X "range" := by rfl) (hs : starEach [a] X.env = [(false, eval a X.env)] := by rfl) : I3 X tg (.Call (.Name "range" p) [a] [] pos) (iRng1 (tCons ta tNil)) (miRng1 ma) := ⟨pi_range1 hg hm (pa_cons h.pe pa_nil (by rw [hs] <;> rfl)) hs, sndI_rng1 h.ok⟩
theorem i_rng2 (hm : X.mg "range" = none) (h : E3 X b1 a ta ma) (h' : E3 X b2 c tb mb) (hg : Gl X "range" := by rfl) (hs : starEach [a, c] X.env = [(false, eval a X.env), (false, eval c X.env)] := by rfl) (hs2 : starEach [c] X.env = [(false, eval c X.env)] := by rfl) :
    I3 X tg (.Call (.Name "range" p) [a, c] [] pos) (iRng2 (tCons ta (tCons tb tNil))) (miRng2 ma mb) := ⟨pi_range2 hg hm (pa_cons h.pe (pa_cons h'.pe pa_nil (by rw [hs2] <;> rfl)) (by rw [hs, hs2])) hs hs2, sndI_rng2 h.ok h'.ok⟩
theorem g_name (i : Nat) (hN : X.N.Nodup) (hi : X.N[i]? = some x := by rfl) (hx : Loc X.env.scope x := by first | exact Or.inl rfl | exact Or.inr rfl) (hf : X.fn x = true ∨ X.env.scope.names.lookup x = some .local := by first | exact .inl rfl | exact .inr rfl) : G3 X [i] (.Name x pos) (gName i) (mName i) :=
  ⟨pg_name hN hi hx hf, sndG_name, lenG_name⟩
theorem gs_nil : Gs3 X [] [] gNil mgNil := ⟨pgs_nil, sndGs_nil, lenGs_nil⟩
theorem gs_cons (h1 : G3 X W1 e g mg) (h2 : Gs3 X W2 es gs mgs) (hs : (assignEach (e :: es) X.env).map (·.2) = assign e X.env :: (assignEach es X.env).map (·.2) := by rfl) : Gs3 X (W1 ++ W2) (e :: es) (gCons g gs) (mgCons mg mgs) := ⟨pgs_cons h1.pg h2.pgs hs, sndGs_cons h1.ok h2.ok, lenGs_cons h1.len h2.len⟩
theorem g_tup {n k : Nat} (hc : X.calm = true) (h : Gs3 X W es gs mgs) (hn : (assignEach es X.env).length = n := by rfl) (hst : (assignEach es X.env).findIdx? (·.1) = none := by rfl) : G3 X W (.Tuple es k pos) (gTup X.K n gs) (mgTup n mgs) := ⟨pg_tup hc h.pgs hn hst, sndG_tup h.ok, lenG_tup h.len⟩
theorem ts_nil : Ts3 X true [] tYes mYes := ⟨pts_nil, sndT_yes⟩
theorem ts_one (h : T3 X b a tA mA) : Ts3 X b [a] tA mA := ⟨pts_one h.pt, h.ok⟩
theorem e_lc {elt tg iter : Expr} {ifs : List Expr} {scope : Scope} (own : List (Str × Nat)) (hc : X.calm = true) (hN : X.N.Nodup) (hi : I3 X tg iter wi mi) (ok : BlkOk X.N X.env.scope scope own)
    (hg : ∀ (s : Shared) (H : Hp) (C : Addr) (cl : List (Str × Addr)) (fp : List Addr), G3 (X.blk s H scope (compEnvC scope cl C X.env) fp) W tg g mg) (hW : ∀ i, i ∈ W → i ∈ own.map (·.2))
    (ht : ∀ (s : Shared) (H : Hp) (C : Addr) (cl : List (Str × Addr)) (fp : List Addr), Ts3 (X.blk s H scope (compEnvC scope cl C X.env) fp) b1 ifs tA mA)
    (he : ∀ (s : Shared) (H : Hp) (C : Addr) (cl : List (Str × Addr)) (fp : List Addr), E3 (X.blk s H scope (compEnvC scope cl C X.env) fp) b2 elt te me) (hs : ∀ x, foldedSetIterable iter X.env x = pure x := by intro _; rfl) :
    E3 X false (.ListComp elt [⟨tg, iter, ifs, 0⟩] scope pos) (tLc wi g tA te (own.map (·.2))) (mLc mi mg mA me (own.map (·.2))) :=
  ⟨pe_lc hc hN hi.pi ok (fun s H C cl fp => (hg s H C cl fp).pg) (fun s H C cl fp => (ht s H C cl fp).pts) (fun s H C cl fp => (he s H C cl fp).pe) hs,
   snd_lc hi.ok (hg X.s_0 X.H_0 0 [] []).ok (hg X.s_0 X.H_0 0 [] []).len hW (ht X.s_0 X.H_0 0 [] []).ok (he X.s_0 X.H_0 0 [] []).ok⟩
/-! ### statements -/
variable {st : Stmt} {sts : List Stmt} {m m1 m2 : MS}
theorem s_pass : S3 X [] (.Pass pos) mNx := ⟨_, ps_pass, sndS_nx⟩
theorem s_break : S3 X [] (.Break pos) mBk := ⟨_, ps_break, sndS_bk⟩
theorem s_cont : S3 X [] (.Continue pos) mCt := ⟨_, ps_continue, sndS_ct⟩
theorem s_nil : B3 X [] [] mNx := ⟨_, pss_nil, sndS_nx⟩
theorem s_one (h : S3 X W st m) : B3 X W [st] m := let ⟨t, h1, h2⟩ := h; ⟨t, pss_one h1, h2⟩
theorem s_cons (h : S3 X W1 st m1) (h' : B3 X W2 sts m2) : B3 X (W1 ++ W2) (st :: sts) (mSeq m1 m2) := let ⟨_, h1, h2⟩ := h; let ⟨_, h3, h4⟩ := h'; ⟨_, pss_cons h1 h3, sndS_seq h2 h4⟩
theorem s_ret (h : E3 X b e te me) : S3 X [] (.Return (some e) pos) (mRet me) := ⟨_, ps_ret h.pe, sndS_ret h.ok⟩
theorem s_retN : S3 X [] (.Return none pos) mRetN := ⟨_, ps_retN, sndS_retN⟩
theorem s_expr (h : E3 X b e te me) (hs : swapsWith e none pos.line X.env = pure false := by rfl) : S3 X [] (.Expr e pos) (mDrop me) := ⟨_, ps_expr h.pe hs, sndS_drop h.ok⟩
theorem s_set (i : Nat) (hN : X.N.Nodup) (he : E3 X b e te me) (hi : X.N[i]? = some x := by rfl) (hx : Loc X.env.scope x := by first | exact Or.inl rfl | exact Or.inr rfl) (hs : swapsWith e (some (.Name x p)) pos.line X.env = pure false := by rfl)
    (hf : X.fn x = true ∨ X.env.scope.names.lookup x = some .local := by first | exact .inl rfl | exact .inr rfl) : S3 X [i] (.Assign [.Name x p] e pos) (mAsg me (mName i)) := ⟨_, ps_set hN hi hx he.pe hs hf, sndS_asg he.ok sndG_name⟩
theorem s_asg (he : E3 X b e te me) (hg : G3 X W tg g mg) (hs : swapsWithSole [tg] e pos.line X.env = pure false := by rfl) (hw : swappedStores [tg] e X.env = pure none := by rfl) (h1 : (assignEach [tg] X.env).map (·.2) = [assign tg X.env] := by rfl) :
    S3 X W (.Assign [tg] e pos) (mAsg me mg) := ⟨_, ps_asg he.pe hg.pg hs hw h1, sndS_asg he.ok hg.ok⟩
theorem s_if (hc : T3 X b c tA mA) (h1 : B3 X W1 sts m1) {sts2 : List Stmt} (h2 : B3 X W2 sts2 m2) : S3 X (W1 ++ W2) (.If c sts sts2 pos) (mIfS mA m1 m2) := let ⟨_, p1, p2⟩ := h1; let ⟨_, p3, p4⟩ := h2; ⟨_, ps_if hc.pt p1 p3, sndS_if hc.ok p2 p4⟩
theorem s_fput {cn f : Str} {mp : MP} {pos' : Pos} (hc : Cls X.K (He.ga X.K cn)) (hn : NoAttr X.K (He.ga X.K cn) f) (ha : P3 X a ta mp) (hv : E3 X b e te me) (hs : swapsWith e (some (.Attribute a f pos')) pos.line X.env = pure false := by rfl) :
    S3 X [] (.Assign [.Attribute a f pos'] e pos) (mFput cn f me mp) := ⟨_, ps_fld ha.pe hv.pe hs, sndS_fput hc hn hv.ok ha.ok⟩
theorem ps_alt {t u : TS} (h : PS X st t) (h' : PS X st u) : PS X st (fun D σ H => t D σ H ∨ u D σ H) := ⟨fun pins s σ H D I q => q.elim (h.run pins s σ H D I) (h'.run pins s σ H D I)⟩
theorem s_store {mp : MP} {pos' : Pos} (hu : X.A.units + 1 < cLine) (hv : E3 X b e te me) (ha : P3 X a ta mp) (hi : E3 X true c tb mb) (hs : swapsWithSole [.Subscript a c pos'] e pos.line X.env = pure false := by rfl) (hw : swappedStores [.Subscript a c pos'] e X.env = pure none := by rfl)
    (h1 : (assignEach [.Subscript a c pos'] X.env).map (·.2) = [assign (.Subscript a c pos') X.env] := by rfl) (hs2 : swapsWith e (some (.Subscript a c pos')) pos.line X.env = pure false := by rfl)
    (has : ∀ v, assign (.Subscript a c pos') X.env v = (do
      let ov ← holding [v] (eval a X.env)
      let iv ← holding [v, ov] (eval c X.env)
      standAt pos'
      holding [v, ov, iv] (setItem ov iv v)
      release [v, ov, iv] []) := by intro _; rfl) : S3 X [] (.Assign [.Subscript a c pos'] e pos) (mStore me mp mb) :=
  ⟨_, ps_alt (ps_asg hv.pe (pg_sub ha.pe hi.pe set_list has) hs hw h1) (ps_dput hu ha.pe hi.pe hv.pe hs2), sndS_store hv.ok ha.ok hi.ok⟩
end
end L3
namespace L3
open PySem PySem.Spec PyProof.Rows L2

/-! ### written data -/
mutual
def repVB (K : PySem.W.Frag) : D → Value → Bool
  | .non, .none => true
  | .bl b, .bool c => b == c
  | .int i, .int j _ => decide (i = j)
  | .str x, .str y _ => decide (x = y)
  | .tup ds, .ref a => (match K.lookup a with
    | some ⟨.type c, _, .seq its _, _⟩ => decide (c = "tuple") && (decide (its.size ≤ sizeLine) && repVBs K ds its.toList)
    | _ => false)
  | .rol ds, .ref a => (match K.lookup a with
    | some ⟨.type c, none, .seq its _, _⟩ => decide (c = "list") && (decide (its.size ≤ sizeLine) && repVBs K ds its.toList)
    | _ => false)
  | _, _ => false
def repVBs (K : PySem.W.Frag) : List D → List Value → Bool
  | [], [] => true
  | d :: ds, u :: us => repVB K d u && repVBs K ds us
  | _, _ => false
end
section
variable {K : PySem.W.Frag}
mutual
theorem repVB_ok : ∀ (d : D) (u : Value), repVB K d u = true → ∃ v, RelV v u ∧ ∀ F, RepD K F d v
  | .non, u, h => by
    cases u with
    | none => exact ⟨.non, rfl, fun _ => rfl⟩
    | _ => cases h
  | .bl b, u, h => by
    cases u with
    | bool c => exact ⟨.bl b, by rw [eq_of_beq (show (b == c) = true from h)] <;> rfl, fun _ => rfl⟩
    | _ => cases h
  | .int i, u, h => by
    cases u with
    | int c t => exact ⟨.int i, ⟨t, by rw [of_decide_eq_true (show decide (i = c) = true from h)]⟩, fun _ => rfl⟩
    | _ => cases h
  | .str i, u, h => by
    cases u with
    | str c t => exact ⟨.str i, ⟨t, by rw [of_decide_eq_true (show decide (i = c) = true from h)]⟩, fun _ => rfl⟩
    | _ => cases h
  | .tup ds, u, h => by
    cases u with
    | ref a =>
      have h' : (match K.lookup a with
        | some ⟨.type c, _, .seq its _, _⟩ => decide (c = "tuple") && (decide (its.size ≤ sizeLine) && repVBs K ds its.toList)
        | _ => false) = true := h
      cases q : K.lookup a with
      | none => rw [q] at h'; cases h'
      | some o =>
        obtain ⟨oc, od, dt, osl⟩ := o
        rw [q] at h'
        cases oc with
        | type c =>
          cases dt with
          | seq its n =>
            obtain ⟨h1, h2⟩ := He.ba (show (decide (c = "tuple") && (decide (its.size ≤ sizeLine) && repVBs K ds its.toList)) = true from h')
            obtain ⟨h3, h4⟩ := He.ba h2
            obtain ⟨vs, r, hr⟩ := repVBs_ok ds its.toList h4
            exact ⟨.ref a, rfl, fun F => ⟨a, vs, rfl, .inr ⟨_, its, n, q, congrArg Value.type (of_decide_eq_true h1), rfl, of_decide_eq_true h3, r⟩, hr F⟩⟩
          | _ => cases h'
        | _ => cases dt <;> cases h'
    | _ => cases h
  | .rol ds, u, h => by
    cases u with
    | ref a =>
      have h' : (match K.lookup a with
        | some ⟨.type c, none, .seq its _, _⟩ => decide (c = "list") && (decide (its.size ≤ sizeLine) && repVBs K ds its.toList)
        | _ => false) = true := h
      cases q : K.lookup a with
      | none => rw [q] at h'; cases h'
      | some o =>
        obtain ⟨oc, od, dt, osl⟩ := o
        rw [q] at h'
        cases oc with
        | type c =>
          cases od with
          | none =>
            cases dt with
            | seq its n =>
              obtain ⟨h1, h2⟩ := He.ba (show (decide (c = "list") && (decide (its.size ≤ sizeLine) && repVBs K ds its.toList)) = true from h')
              obtain ⟨h3, h4⟩ := He.ba h2
              obtain ⟨vs, r, hr⟩ := repVBs_ok ds its.toList h4
              exact ⟨.ref a, rfl, fun F => ⟨a, vs, rfl, .inr ⟨_, its, n, q, congrArg Value.type (of_decide_eq_true h1), rfl, rfl, of_decide_eq_true h3, r⟩, hr F⟩⟩
            | _ => cases h'
          | some _ => cases dt <;> cases h'
        | _ => cases od <;> cases dt <;> cases h'
    | _ => cases h
  | .ty _, u, h => by cases u <;> cases h
  | .lst _, u, h => by cases u <;> cases h
  | .dct _ _, u, h => by cases u <;> cases h
  | .obj _ _ _, u, h => by cases u <;> cases h
theorem repVBs_ok : ∀ (ds : List D) (us : List Value), repVBs K ds us = true → ∃ vs, Vals vs us ∧ ∀ F, RepDs K F ds vs
  | [], [], _ => ⟨[], .nil, fun _ => rfl⟩
  | [], _ :: _, h => by cases h
  | _ :: _, [], h => by cases h
  | d :: ds, u :: us, h => by
    obtain ⟨h1, h2⟩ := He.ba (show (repVB K d u && repVBs K ds us) = true from h)
    obtain ⟨v, r, hv⟩ := repVB_ok d u h1
    obtain ⟨vs, rs, hvs⟩ := repVBs_ok ds us h2
    exact ⟨v :: vs, .cons r rs, fun F => ⟨v, vs, rfl, hv F, hvs F⟩⟩
end
/-- a constant of the module: a name and its data -/
def conB (K : PySem.W.Frag) (x : Str) (d : D) : Bool := match PySem.W.nsIn K mainGlobals x with
  | some (some u) => repVB K d u
  | _ => false
theorem conB_ok {h : Heap} {mg : Str → Option Value} {x : Str} {d : D} (X : K.In h) (G : h.Ns mainGlobals mg) (c : conB K x d = true) : ∃ v, (∃ u, mg x = some u ∧ RelV v u) ∧ ∀ F, RepD K F d v := by
  unfold conB at c
  cases e : PySem.W.nsIn K mainGlobals x with
  | none => rw [e] at c; cases c
  | some o =>
    rw [e] at c
    cases o with
    | none => cases c
    | some u =>
      obtain ⟨v, r, hv⟩ := repVB_ok d u c
      exact ⟨v, ⟨u, PySem.W.mg_of X G e, r⟩, hv⟩
/-! ### tables of the module: text keys, data -/
abbrev Tbl := List (Str × D)
structure Tab (K : PySem.W.Frag) (w : World) (a : Addr) (tbl : Tbl) : Prop where
  kd : ∃ es n, KDict K w a es n
  has : ∀ z d, tbl.lookup z = some d → ∃ u v, PySem.W.nsIn K a z = some (some u) ∧ RelV v u ∧ ∀ F, RepD K F d v
  no : ∀ z, tbl.lookup z = none → PySem.W.nsIn K a z = some none
def tabB (K : PySem.W.Frag) (x : Str) (tbl : Tbl) : Bool := tbl.all fun q => match PySem.W.nsIn K (He.ga K x) q.1 with
  | some (some u) => repVB K q.2 u
  | _ => false
theorem lookup_mem' {z : Str} {d : D} : ∀ {tbl : Tbl}, tbl.lookup z = some d → (z, d) ∈ tbl
  | [], h => by cases h
  | (y, e) :: r, h => by
    rw [List.lookup_cons] at h
    by_cases q : z = y
    · subst q
      simp at h
      subst h
      exact List.mem_cons_self
    · have : (z == y) = false := beq_eq_false_iff_ne.mpr q
      rw [this] at h
      exact List.mem_cons_of_mem _ (lookup_mem' h)
theorem lookup_none' {z : Str} : ∀ {tbl : Tbl}, tbl.lookup z = none → z ∉ tbl.map (·.1)
  | [], _ => by simp
  | (y, e) :: r, h => by
    rw [List.lookup_cons] at h
    by_cases q : z = y
    · subst q; simp at h
    · have : (z == y) = false := beq_eq_false_iff_ne.mpr q
      rw [this] at h
      simp only [List.map_cons, List.mem_cons, not_or]
      exact ⟨q, lookup_none' h⟩
theorem keys_mem {P : Params} : ∀ {l : List DictEntry} {ks : List Str}, l.map He.keyOf = He.keysIn P ks → ∀ e ∈ l, ∃ x t, e.key = .str x t ∧ x ∈ ks
  | [], _, _, e, he => by cases he
  | e :: r, [], h, _, _ => by cases h
  | e :: r, k :: ks, h, e', he => by
    have h1 : He.keyOf e :: r.map He.keyOf = some (k, PyData.keyHash P k) :: He.keysIn P ks := h
    injection h1 with h2 h3
    rcases List.mem_cons.mp he with rfl | he
    · unfold He.keyOf at h2
      split at h2
      · rename_i x t q
        have h4 := Option.some.inj h2
        obtain ⟨h5, h6⟩ := Prod.mk.inj h4
        exact ⟨x, t, q, by simp [h5]⟩
      · cases h2
    · obtain ⟨x, t, q, m⟩ := keys_mem h3 e' he
      exact ⟨x, t, q, by simp [m]⟩
theorem nsIn_no {P : Params} {a : Addr} {ks : List Str} {z : Str} (h : He.dicW K a = some (He.keysIn P ks)) (hz : z ∉ ks) : PySem.W.nsIn K a z = some none := by
  unfold He.dicW at h
  unfold PySem.W.nsIn
  cases q : K.lookup a with
  | none => rw [q] at h; cases h
  | some o =>
    obtain ⟨oc, od, dt, osl⟩ := o
    rw [q] at h
    cases oc with
    | type c =>
      cases od with
      | none =>
        cases dt with
        | dict es n =>
          have h1 : (match decide (c = "dict") && (osl.isEmpty && !(a == sysModules)) with
            | true => some (es.toList.map He.keyOf)
            | false => none) = some (He.keysIn P ks) := h
          have h2 : es.toList.map He.keyOf = He.keysIn P ks := by
            split at h1
            · exact Option.some.inj h1
            · cases h1
          have hk := keys_mem h2
          have f1 : es.toList.find? (·.key.isStr z) = none := by
            rw [List.find?_eq_none]
            intro e he
            obtain ⟨x, t, e1, m⟩ := hk e he
            rw [e1]
            intro y
            have : x = z := by
              have y' : (Value.str x t).isStr z = true := y
              simpa [Value.isStr] using y'
            exact hz (this ▸ m)
          have f2 : es.toList.any (·.refKey) = false := by
            rw [List.any_eq_false]
            intro e he
            obtain ⟨x, t, e1, m⟩ := hk e he
            simp [PySem.DictEntry.refKey, e1]
          show (match es.toList.find? (·.key.isStr z) with
            | some e => some (some e.val)
            | none => if es.toList.any (·.refKey) then none else some none) = some none
          rw [f1, f2] <;> rfl
        | _ => cases h
      | some b => cases dt <;> cases h
    | _ => cases od <;> cases dt <;> cases h
theorem tab_ok {w : World} {x : Str} {tbl : Tbl} (h1 : He.dicW K (He.ga K x) = some (He.keysIn w.params (tbl.map (·.1)))) (h2 : tabB K x tbl = true) : Tab K w (He.ga K x) tbl := by
  refine ⟨He.dicW_ok h1, fun z d hd => ?_, fun z hz => nsIn_no h1 (lookup_none' hz)⟩
  have h3 := List.all_eq_true.mp h2 (z, d) (lookup_mem' hd)
  cases e : PySem.W.nsIn K (He.ga K x) z with
  | none => simp only [e] at h3; cases h3
  | some r =>
    simp only [e] at h3
    cases r with
    | none => cases h3
    | some u =>
      obtain ⟨v, r, hv⟩ := repVB_ok d u h3
      exact ⟨u, v, rfl, r, hv⟩
end
end L3
namespace L3
open PySem PySem.Spec PyProof.Rows L2

section
variable {X : Cx} {b b1 b2 b3 : Bool} {e f a c d l : Expr} {es rest : List Expr} {ta tb tc te tx : TE} {ma mb mc me mx : ME} {pos p : Pos} {x : Str} {tl : TA} {ml : MA}
/-! ### tables of the module -/
/-- T[e] -/
def mTab (tbl : Tbl) (me : ME) : ME := fun ρ => (me ρ).bind fun p => match p.1 with
  | .fr (.str z) => (tbl.lookup z).map fun d => (.fr d, p.2)
  | _ => none
theorem snd_tab {K : PySem.W.Frag} {w : World} {a : Addr} {tbl : Tbl} (T : Tab K w a tbl) (h : Snd K b te me) : Snd K b (tOp (rIxD K w) (tC (.ref a)) te) (mTab tbl me) := by
  intro F H A S σ ρ t ρ' R q Q k
  obtain ⟨⟨tx, ρ1⟩, e1, q⟩ := Option.bind_eq_some_iff.mp q
  split at q
  · rename_i z e
    cases (show tx = _ from e)
    obtain ⟨d, e2, q⟩ := Option.map_eq_some_iff.mp q
    cases q
    refine h F H A S σ ρ _ _ R e1 _ fun y F1 H1 S1 Sx f1 k1 R1 r1 p1 => ?_
    obtain ⟨rfl, r1⟩ := r1
    cases (show y = .str z from r1)
    obtain ⟨u, v, h1, h2, h3⟩ := T.has z d e2
    obtain ⟨es, n, kd⟩ := T.kd
    exact ⟨a, z, v, rfl, rfl, ⟨es, n, u, kd.at_, kd.lit, h1, h2⟩, k v F1 H1 S1 [] f1 k1 R1 ⟨rfl, h3 F1⟩ p1⟩
  · cases q
theorem e_tab {ad : Addr} {tbl : Tbl} (T : Tab X.K X.w ad tbl) (hm : X.mg x = some (.ref ad)) (he : E3 X b e te me) (hs : PlainIx e := by exact fun _ _ => rfl) (hg : Gl X x := by rfl) (hdb : (x == ("__debug__" : Str)) = false := by decide) :
    E3 X b (.Subscript (.Name x p) e pos) (tOp (rIxD X.K X.w) (tC (.ref ad)) te) (mTab tbl me) := ⟨pe_ix ix_kdict (pe_glob hg hm rfl hdb) he.pe hs, snd_tab T he.ok⟩
/-- e in T, e not in T -/
def mInTab (neg : Bool) (tbl : Tbl) (me : ME) : ME := fun ρ => (me ρ).bind fun p => match p.1 with
  | .fr (.str z) => some (.fr (.bl (if neg then !(tbl.lookup z).isSome else (tbl.lookup z).isSome)), p.2)
  | _ => none
def rInKd (K : PySem.W.Frag) (d : Addr) (neg : Bool) : R2 := fun x y H Q => ∃ (z : Str) (r : Option Value), x = .str z ∧ y = .ref d ∧ PySem.W.nsIn K d z = some r ∧ Q (.bl (if neg then !r.isSome else r.isSome)) H
theorem snd_inTab {K : PySem.W.Frag} {w : World} {a : Addr} {tbl : Tbl} {neg : Bool} (T : Tab K w a tbl) (h : Snd K b te me) : Snd K b (tOp (rInKd K a neg) te (tC (.ref a))) (mInTab neg tbl me) := by
  intro F H A S σ ρ t ρ' R q Q k
  obtain ⟨⟨tx, ρ1⟩, e1, q⟩ := Option.bind_eq_some_iff.mp q
  split at q
  · rename_i z e
    cases (show tx = _ from e)
    cases q
    refine h F H A S σ ρ _ _ R e1 _ fun y F1 H1 S1 Sx f1 k1 R1 r1 p1 => ?_
    obtain ⟨rfl, r1⟩ := r1
    cases (show y = .str z from r1)
    cases hz : tbl.lookup z with
    | none =>
      refine ⟨z, none, rfl, rfl, T.no z hz, ?_⟩
      exact k _ F1 H1 S1 [] f1 k1 R1 ⟨rfl, by rw [hz] <;> rfl⟩ p1
    | some d =>
      obtain ⟨u, v, h1, h2, h3⟩ := T.has z d hz
      refine ⟨z, some u, rfl, rfl, h1, ?_⟩
      exact k _ F1 H1 S1 [] f1 k1 R1 ⟨rfl, by rw [hz] <;> rfl⟩ p1
  · cases q
theorem op_inKd {w : World} {ad : Addr} {tbl : Tbl} (T : Tab X.K X.w ad tbl) : OpR X (compareOp .In) (rInKd X.K ad false) := by
  obtain ⟨es, n, kd⟩ := T.kd
  exact op_in_kd kd
theorem op_ninKd {w : World} {ad : Addr} {tbl : Tbl} (T : Tab X.K X.w ad tbl) : OpR X (compareOp .NotIn) (rInKd X.K ad true) := by
  obtain ⟨es, n, kd⟩ := T.kd
  exact op_notIn_kd kd
theorem e_inTab {ad : Addr} {tbl : Tbl} (T : Tab X.K X.w ad tbl) (hm : X.mg x = some (.ref ad)) (he : E3 X b e te me) (hb : behindInMarks .In (.Name x p) = false := by rfl) (hg : Gl X x := by rfl) (hdb : (x == ("__debug__" : Str)) = false := by decide) :
    E3 X b (.Compare e [.In] [.Name x p] pos) (tOp (rInKd X.K ad false) te (tC (.ref ad))) (mInTab false tbl me) := ⟨pe_cmpR (op_inKd (w := X.w) T) he.pe (pe_glob hg hm rfl hdb) hb, snd_inTab T he.ok⟩
theorem e_ninTab {ad : Addr} {tbl : Tbl} (T : Tab X.K X.w ad tbl) (hm : X.mg x = some (.ref ad)) (he : E3 X b e te me) (hb : behindInMarks .NotIn (.Name x p) = false := by rfl) (hg : Gl X x := by rfl) (hdb : (x == ("__debug__" : Str)) = false := by decide) :
    E3 X b (.Compare e [.NotIn] [.Name x p] pos) (tOp (rInKd X.K ad true) te (tC (.ref ad))) (mInTab true tbl me) := ⟨pe_cmpR (op_ninKd (w := X.w) T) he.pe (pe_glob hg hm rfl hdb) hb, snd_inTab T he.ok⟩
theorem t_inTab {ad : Addr} {tbl : Tbl} (T : Tab X.K X.w ad tbl) (hm : X.mg x = some (.ref ad)) (he : E3 X b e te me) (hb : behindInMarks .In (.Name x p) = false := by rfl) (hg : Gl X x := by rfl) (hdb : (x == ("__debug__" : Str)) = false := by decide) :
    T3 X b (.Compare e [.In] [.Name x p] pos) (tTest (tOp (rInKd X.K ad false) te (tC (.ref ad)))) (mTest (mInTab false tbl me)) := ⟨pt_cmpR (op_inKd (w := X.w) T) he.pe (pe_glob hg hm rfl hdb) hb, sndT_test (snd_inTab T he.ok)⟩
theorem t_ninTab {ad : Addr} {tbl : Tbl} (T : Tab X.K X.w ad tbl) (hm : X.mg x = some (.ref ad)) (he : E3 X b e te me) (hb : behindInMarks .NotIn (.Name x p) = false := by rfl) (hg : Gl X x := by rfl) (hdb : (x == ("__debug__" : Str)) = false := by decide) :
    T3 X b (.Compare e [.NotIn] [.Name x p] pos) (tTest (tOp (rInKd X.K ad true) te (tC (.ref ad)))) (mTest (mInTab true tbl me)) := ⟨pt_cmpR (op_ninKd (w := X.w) T) he.pe (pe_glob hg hm rfl hdb) hb, sndT_test (snd_inTab T he.ok)⟩
/-- T.get(e, f) -/
def tKGet2 (K : PySem.W.Frag) (ad : Addr) (ty tx : TE) : TE := fun σ H Q => ty σ H fun y H2 => tx σ H2 fun z H3 => ∃ (s : Str) (r : Option V), y = .str s ∧ (match r with
  | some v => ∃ u, PySem.W.nsIn K ad s = some (some u) ∧ RelV v u
  | none => PySem.W.nsIn K ad s = some none) ∧ Q (r.getD z) H3
theorem pe_kget2 {ad : Addr} {eso : Array DictEntry} {n : Nat} (D : KDict X.K X.w ad eso n) {o : Expr} {apos : Pos} (ho : PE X o (tC (.ref ad))) (he : PE X e te) (hf : PE X f tx) (m : M2 X o "get" apos e f pos) : PE X (.Call (.Attribute o "get" apos) [e, f] [] pos) (tKGet2 X.K ad te tx) := by
  refine ⟨fun pins s σ H Q I h => ?_⟩
  refine wpAny_Call_method m.base m.few m.line PySem.F.plainAttrs_dict PySem.F.slot_dict_get PySem.F.type_dict_get (thn (ho.run pins s σ H (fun v H1 => v = .ref ad ∧ H1 = H) I ⟨rfl, rfl⟩) fun u s1 ⟨x, H1, I1, rx, ex, eH⟩ => ?_)
  subst ex
  subst eH
  obtain rfl : u = Value.ref ad := rx
  have hm := PySem.W.mapOf_K (prog := X.prog) (w := X.w) I1.kIn D.at_ D.lit
  refine ⟨hm.typeIs, fun b q => ?_, ?_⟩
  · cases q
    exact ⟨_, I1.kIn _ _ D.at_, rfl⟩
  rw [m.trees]
  refine Calls.callWith_builtin rfl (Calls.evalArgs_plain (Calls.spliced_cons (thn (he.run pins s1 σ H1 _ I1 h) fun iv s2 ⟨y, H2, I2, ry, q2⟩ => Calls.spliced_cons (thn (hf.run pins s2 σ H2 _ I2 q2) fun fv s3 ⟨z, H3, I3, rz, q3⟩ => Calls.spliced_nil ?_))))
  obtain ⟨sk, r, rfl, hr, q4⟩ := q3
  obtain ⟨tk, rfl⟩ := ry
  have hm3 := PySem.W.mapOf_K (prog := X.prog) (w := X.w) I3.kIn D.at_ D.lit
  refine call_meetsIn PySem.F.slot_dict_get hm3.typeIs PySem.F.entry_dict_get (PySem.F.args_dict_get_3 _ _ _) (meets_dict_get_default (PySem.strKind X.prog X.w) ad (PySem.strKind_is X.prog X.w sk tk) D.low fv) ⟨_, hm3, ?_⟩
  cases r with
  | none =>
    rw [PySem.W.find_K D.at_ hr]
    exact ⟨z, H3, I3.tok _, rz, q4⟩
  | some v =>
    obtain ⟨u, h1, h2⟩ := hr
    rw [PySem.W.find_K D.at_ h1]
    exact ⟨v, H3, I3.tok _, h2, q4⟩
def mTabGet (tbl : Tbl) (me mx : ME) : ME := fun ρ => (me ρ).bind fun p => match p.1 with
  | .fr (.str z) => (mx p.2).bind fun q => match q.1 with
    | .fr d0 => some (.fr ((tbl.lookup z).getD d0), q.2)
    | _ => none
  | _ => none
theorem snd_tabGet {K : PySem.W.Frag} {w : World} {a : Addr} {tbl : Tbl} (T : Tab K w a tbl) (h : Snd K b1 te me) (h' : Snd K b2 tx mx) : Snd K (b1 && b2) (tKGet2 K a te tx) (mTabGet tbl me mx) := by
  intro F H A S σ ρ t ρ' R q Q k
  obtain ⟨⟨ty, ρ1⟩, e1, q⟩ := Option.bind_eq_some_iff.mp q
  split at q
  · rename_i z e
    cases (show ty = _ from e)
    obtain ⟨⟨tz, ρ2⟩, e2, q⟩ := Option.bind_eq_some_iff.mp q
    refine h F H A S σ ρ _ _ R e1 _ fun y F1 H1 S1 Sx f1 k1 R1 r1 p1 => ?_
    obtain ⟨rfl, r1⟩ := r1
    cases (show y = .str z from r1)
    refine h' F1 H1 A S1 σ ρ1 _ _ (by simpa using R1) e2 _ fun y2 F2 H2 S2 Sy f2 k2 R2 r2 p2 => ?_
    split at q
    · rename_i d0 e'
      cases (show tz = _ from e')
      cases q
      obtain ⟨rfl, r2⟩ := r2
      cases hz : tbl.lookup z with
      | none => exact ⟨z, none, rfl, T.no z hz, k _ F2 H2 S2 [] (f1.trans f2) (fun a h => (k2 a h).trans (k1 a h)) R2 ⟨rfl, by rw [hz]; exact r2⟩ (pure2 p1 p2)⟩
      | some d =>
        obtain ⟨u, v, h1, h2, h3⟩ := T.has z d hz
        exact ⟨z, some v, rfl, ⟨u, h1, h2⟩, k _ F2 H2 S2 [] (f1.trans f2) (fun a h => (k2 a h).trans (k1 a h)) R2 ⟨rfl, by rw [hz]; exact h3 F2⟩ (pure2 p1 p2)⟩
    · cases q
  · cases q
theorem e_tabGet {ad : Addr} {tbl : Tbl} {apos : Pos} (T : Tab X.K X.w ad tbl) (hm : X.mg x = some (.ref ad)) (he : E3 X b1 e te me) (hf : E3 X b2 f tx mx) (hg : Gl X x := by rfl) (hdb : (x == ("__debug__" : Str)) = false := by decide) (m : M2 X (.Name x p) "get" apos e f pos := by exact ⟨rfl, rfl, rfl, rfl⟩) :
    E3 X (b1 && b2) (.Call (.Attribute (.Name x p) "get" apos) [e, f] [] pos) (tKGet2 X.K ad te tx) (mTabGet tbl me mx) := ⟨by
      obtain ⟨es, n, kd⟩ := T.kd
      exact pe_kget2 kd (pe_glob hg hm rfl hdb) he.pe hf.pe m, snd_tabGet T he.ok hf.ok⟩
/-! ### more statements -/
variable {tg it : Expr} {W W1 W2 : List Nat} {g : TG} {mg : MG} {wi : TI} {mi : MI} {st : Stmt} {sts : List Stmt} {m m1 m2 : MS} {tA : TT} {mA : MT}
theorem s_set_lc (i : Nat) {elt tg iter : Expr} {ifs : List Expr} {scope : Scope} {py spos : Pos} {y : Str} (own : List (Str × Nat)) (hc : X.calm = true) (hN : X.N.Nodup) (hi : I3 X tg iter wi mi) (ok : BlkOk X.N X.env.scope scope own)
    (hg : ∀ (s : Shared) (H : Hp) (C : Addr) (cl : List (Str × Addr)) (fp : List Addr), G3 (X.blk s H scope (compEnvC scope cl C X.env) fp) W tg g mg) (hW : ∀ i, i ∈ W → i ∈ own.map (·.2))
    (ht : ∀ (s : Shared) (H : Hp) (C : Addr) (cl : List (Str × Addr)) (fp : List Addr), Ts3 (X.blk s H scope (compEnvC scope cl C X.env) fp) b1 ifs tA mA)
    (he : ∀ (s : Shared) (H : Hp) (C : Addr) (cl : List (Str × Addr)) (fp : List Addr), E3 (X.blk s H scope (compEnvC scope cl C X.env) fp) b2 elt te me)
    (hsw : swapsWith (.ListComp elt [⟨tg, iter, ifs, 0⟩] scope pos) (some (.Name y py)) spos.line X.env = pure true := by exact sw_true rfl rfl rfl (by decide +kernel))
    (hy : X.N[i]? = some y := by rfl) (hyl : X.env.scope.names.lookup y = some .local := by rfl) (hs : ∀ x, foldedSetIterable iter X.env x = pure x := by intro _; rfl) :
    S3 X [i] (.Assign [.Name y py] (.ListComp elt [⟨tg, iter, ifs, 0⟩] scope pos) spos) (mAsg (mLc mi mg mA me (own.map (·.2))) (mName i)) :=
  ⟨_, ps_setLc hc hN hy hyl hsw hi.pi ok (fun s H C cl fp => (hg s H C cl fp).pg) (fun s H C cl fp => (ht s H C cl fp).pts) (fun s H C cl fp => (he s H C cl fp).pe) hs,
   sndS_asg (snd_lc hi.ok (hg X.s_0 X.H_0 0 [] []).ok (hg X.s_0 X.H_0 0 [] []).len hW (ht X.s_0 X.H_0 0 [] []).ok (he X.s_0 X.H_0 0 [] []).ok) sndG_name⟩
theorem s_for (hp : PassesOwn (model X.prog X.w) X.A X.env X.xe) (hc : X.calm = true) (hi : I3 X tg it wi mi) (hg : G3 X W1 tg g mg) (hb : B3 X W2 sts m) (hs : ∀ x, foldedSetIterable it X.env x = pure x := by intro _; rfl) : S3 X (W1 ++ W2) (.For tg it sts [] pos) (mFor mi mg m) :=
  let ⟨_, p1, p2⟩ := hb
  ⟨_, ps_for hp hc hi.pi hg.pg p1 hs, sndS_for hi.ok hg.ok p2⟩
/-- x op= e -/
def mAug (i : Nat) (g : D → D → Option T) (me : ME) : MS := fun ρ => match ρ[i]? with
  | some (some (.fr d)) => (me ρ).bind fun p => p.1.frz.bind fun e => (g d e).bind fun t => if i < p.2.length then some (.nx, p.2.set i (some t)) else none
  | _ => none
theorem sndS_aug {K : PySem.W.Frag} {i : Nat} {r : R2} {g : D → D → Option T} (hs : OpF2 K r g) (h : Snd K b te me) : SndS K [i] (tAug i te r) (mAug i g me) := by
  intro F H A S σ ρ o ρ' R q D k
  unfold mAug at q
  split at q
  · rename_i d e0
    obtain ⟨⟨ty, ρ1⟩, e1, q⟩ := Option.bind_eq_some_iff.mp q
    obtain ⟨e, e2, q⟩ := Option.bind_eq_some_iff.mp q
    obtain ⟨t, e3, q⟩ := Option.bind_eq_some_iff.mp q
    by_cases z : i < ρ1.length
    · rw [if_pos z] at q
      cases q
      obtain ⟨v, Sa, Sb, Sc, h1, rfl, h2, h3⟩ := RepE.split R.rep e0
      obtain ⟨rfl, h2⟩ := h2
      refine ⟨v, h1, h F H A _ σ ρ ty ρ1 R e1 _ fun y F1 H1 S1 Sy f1 k1 R1 r1 _ => ?_⟩
      have w : Wd F1 H1 (Sy ++ (A ++ S1)) := R1.wd.sub fun a => by simp only [List.count_append]; omega
      have f3 := w.fz_same
      have m2 : RepD K (fz F1 H1 Sy) e y := Rep.frozen f3 ty y Sy e r1 (fun a h => fz_in h) e2
      have R3 : RelE K (fz F1 H1 Sy) H1 A S1 σ ρ1 := ⟨RepE.ext f3 (fun _ _ => rfl) R1.rep, w.fz, fun a h => R1.tr a (by simp [h])⟩
      refine hs (fz F1 H1 Sy) H1 d v e y t w.fz.same (RepD.mono f3 _ _ (RepD.mono f1 _ _ h2)) m2 e3 _ fun u F4 H4 Sv g4 n4 r4 => ?_
      have R4 := g4.rel R3 n4 (Rep.tracked _ _ _ r4)
      exact sndG_name (K := K) (i := i) F4 H4 A S1 σ ρ1 t u Sv (ρ1.set i (some t)) R4 r4 (by unfold mName; rw [if_pos z]) D.nx fun σ' F' H' S' f5 k5 w5 R5 =>
        k σ' F' H' S' (fun b o z => f5 b o (g4.f b o (f3 b o (f1 b o z)))) (fun a h => by rw [k5 a h, g4.keepA R3 a h, k1 a h]) w5 R5
    · rw [if_neg z] at q; cases q
  · cases q
theorem s_aug (i : Nat) {op : Operator} {r : R2} {g : D → D → Option T} (hN : X.N.Nodup) (ho : OpR X (inplaceOp op) r) (hs : OpF2 X.K r g) (he : E3 X b e te me) (hi : X.N[i]? = some x := by rfl) (hx : Loc X.env.scope x := by first | exact Or.inl rfl | exact Or.inr rfl)
    (hf : X.fn x = true ∨ X.env.scope.names.lookup x = some .local := by first | exact .inl rfl | exact .inr rfl) : S3 X [i] (.AugAssign (.Name x p) op e pos) (mAug i g me) := ⟨_, ps_aug hN hi hx he.pe ho hf, sndS_aug hs he.ok⟩
/-- the truth of what stands at a place -/
def mTruthP (mp : MP) : MT := fun ρ => (mp ρ).bind fun p => (p.get ρ).bind fun t => t.truth.map fun b => (b, ρ)
theorem sndT_truthP {K : PySem.W.Frag} {mp : MP} (ha : SndP K ta mp) : SndT K true (fun σ H Q => ta σ H fun x H' => ∃ k, TruV K x H' k ∧ Q k H') (mTruthP mp) := by
  intro F H A S σ ρ c ρ' R q Q k
  obtain ⟨p, e1, q⟩ := Option.bind_eq_some_iff.mp q
  obtain ⟨t, e2, q⟩ := Option.bind_eq_some_iff.mp q
  obtain ⟨d, e3, q⟩ := Option.map_eq_some_iff.mp q
  cases q
  refine ha F H A S σ ρ _ R e1 _ fun x F1 H1 f1 k1 R1 a1 => ⟨c, ?_, k F1 H1 S f1 (fun a h => k1 a (by simp [h])) R1 fun _ => ⟨rfl, rfl, fun a h => k1 a (by simp [h])⟩⟩
  cases p with
  | val d =>
    cases e2
    exact T.truth_rep (t := .fr d) (S := []) R1.wd.same ⟨rfl, a1⟩ e3
  | plc i π =>
    obtain ⟨t0, v0, Sa, Sb, Sc, q1, q2, q3, q4, q5, q6, q7⟩ := AtP.same R1 a1 e2
    exact T.truth_rep R1.wd.same q5 e3
theorem t_truthP {mp : MP} (ha : P3 X a ta mp) (he : ∀ whole, isTrue a X.env whole = (do let v ← whole; standAt a.pos; holding [v] (truthy v)) := by intro _; rfl) : T3 X true a (fun σ H Q => ta σ H fun x H' => ∃ k, TruV X.K x H' k ∧ Q k H') (mTruthP mp) :=
  ⟨pt_truth ha.pe he, sndT_truthP ha.ok⟩
end
/-! ### a module's constant by its name -/
def vOf (K : PySem.W.Frag) (x : Str) : V := match PySem.W.nsIn K mainGlobals x with
  | some (some u) => (absV u).getD .non
  | _ => .non
structure Con (K : PySem.W.Frag) (mg : Str → Option Value) (x : Str) (d : D) : Prop where
  u : ∃ u, mg x = some u ∧ RelV (vOf K x) u
  d : ∀ F, RepD K F d (vOf K x)
theorem con_ok {K : PySem.W.Frag} {h : Heap} {mg : Str → Option Value} {x : Str} {d : D} (X : K.In h) (G : h.Ns mainGlobals mg) (c : conB K x d = true) : Con K mg x d := by
  unfold conB at c
  cases e : PySem.W.nsIn K mainGlobals x with
  | none => rw [e] at c; cases c
  | some o =>
    rw [e] at c
    cases o with
    | none => cases c
    | some u =>
      obtain ⟨v, r, hv⟩ := repVB_ok d u c
      have ev : vOf K x = v := by
        unfold vOf
        rw [e]
        show (absV u).getD .non = v
        rw [r.abs] <;> rfl
      exact ⟨⟨u, PySem.W.mg_of X G e, by rw [ev]; exact r⟩, fun F => by rw [ev]; exact hv F⟩
theorem e_con {X : Cx} {x : Str} {pos : Pos} {d : D} (c : Con X.K X.mg x d) (hg : Gl X x := by rfl) (hdb : (x == ("__debug__" : Str)) = false := by decide) : E3 X true (.Name x pos) (tC (vOf X.K x)) (mC d) := e_glob c.u c.d hg hdb
end L3
namespace L3
open PySem PySem.Spec PyProof.Rows L2

/-! ### facts of a program, by their places -/
abbrev Cons := List (Str × D)
abbrev Tbls := List (Str × Tbl)
def tsOf (tb : Tbls) : List He.Tab := tb.map fun p => ((fun K => He.ga K p.1), p.2.map (·.1))
def exB (cs : Cons) (tb : Tbls) (K : PySem.W.Frag) : Bool := (cs.all fun p => conB K p.1 p.2) && tb.all fun p => tabB K p.1 p.2
structure Yf (fa : List He.Fa) (fn : List He.DefD) (tb : Tbls) (cs : Cons) (w : World) (K : PySem.W.Frag) (mg : Str → Option Value) : Prop where
  x : ∃ h : Heap, K.In h ∧ h.Ns mainGlobals mg
  d : He.SaysD fa fn K
  tab : ∀ p ∈ tb, Tab K w (He.ga K p.1) p.2
  con : ∀ p ∈ cs, Con K mg p.1 p.2
theorem Yf.of {fa : List He.Fa} {fn : List He.DefD} {tb : Tbls} {cs : Cons} {w : World} {h : Heap} {K : PySem.W.Frag} {mg : Str → Option Value} (X : K.In h) (G : h.Ns mainGlobals mg) (c : He.SaysX fa fn (tsOf tb) [] (exB cs tb) w h K) : Yf fa fn tb cs w K mg := by
  obtain ⟨h1, h2⟩ := He.ba c.more
  refine ⟨⟨h, X, G⟩, c.t.d, fun p hp => ?_, fun p hp => con_ok X G (List.all_eq_true.mp h1 p hp)⟩
  have h3 := List.all_eq_true.mp h2 p hp
  have e : (tsOf tb).map (fun t => He.dicW K (t.1 K)) = (tsOf tb).map fun t => some (He.keysIn w.params t.2) := congrArg (fun z : He.AlT => z.2) c.t
  have e2 : He.dicW K (He.ga K p.1) = some (He.keysIn w.params (p.2.map (·.1))) := by
    unfold tsOf at e
    rw [List.map_map, List.map_map] at e
    exact List.map_inj_left.mp e p hp
  exact tab_ok e2 h3
section
variable {fa : List He.Fa} {fn : List He.DefD} {tb : Tbls} {cs : Cons} {w : World} {K : PySem.W.Frag} {mg : Str → Option Value}
theorem Yf.glo (Y : Yf fa fn tb cs w K mg) (i : Nat) {x : Str} (h : fa[i]? = some (.glo x) := by rfl) : mg x = some (.ref (He.ga K x)) := let ⟨_, X, G⟩ := Y.x; He.glo_ok X G (Y.d.fact i h)
theorem Yf.free (Y : Yf fa fn tb cs w K mg) (i : Nat) {x : Str} (h : fa[i]? = some (.free x) := by rfl) : mg x = none := let ⟨_, X, G⟩ := Y.x; He.free_ok X G (Y.d.fact i h)
theorem Yf.cls (Y : Yf fa fn tb cs w K mg) (i : Nat) {x : Str} (h : fa[i]? = some (.cls x) := by rfl) : Cls K (He.ga K x) := He.cls_ok (Y.d.fact i h)
theorem Yf.noat (Y : Yf fa fn tb cs w K mg) (i : Nat) {x f : Str} (h : fa[i]? = some (.noat x f) := by rfl) : NoAttr K (He.ga K x) f := He.noat_ok (Y.d.fact i h)
theorem Yf.meth (Y : Yf fa fn tb cs w K mg) (i : Nat) {x m : Str} (h : fa[i]? = some (.meth x m) := by rfl) : Meth K (He.ga K x) m (He.fAd K (x, some m)) := He.meth_ok (Y.d.fact i h)
theorem Yf.mkr (Y : Yf fa fn tb cs w K mg) (i : Nat) {x : Str} (h : fa[i]? = some (.mkr x) := by rfl) : Mk K (He.ga K x) (He.fAd K (x, some "__init__")) := He.mkr_ok (Y.d.fact i h)
theorem Yf.dfn (Y : Yf fa fn tb cs w K mg) (i : Nat) {d : He.DefD} (h : fn[i]? = some d := by rfl) : ∃ fd, FunD K d.name d.qual d.params d.body d.scope (d.dvs K) (d.kws K) (He.fAd K d.at_) fd := Y.d.def_ i h
theorem Yf.tbl (Y : Yf fa fn tb cs w K mg) (i : Nat) {x : Str} {t : Tbl} (h : tb[i]? = some (x, t) := by rfl) : Tab K w (He.ga K x) t := Y.tab (x, t) (List.mem_of_getElem? h)
theorem Yf.cn (Y : Yf fa fn tb cs w K mg) (i : Nat) {x : Str} {t : D} (h : cs[i]? = some (x, t) := by rfl) : Con K mg x t := Y.con (x, t) (List.mem_of_getElem? h)
end
abbrev gSubI := gI0 fun i j => i - j
/-! ### what is not looked at -/
def mDeadE : ME := fun _ => none
def mDeadT : MT := fun _ => none
def mDeadS : MS := fun _ => none
theorem e_dead {X : Cx} {b : Bool} {e : Expr} : E3 X b e (fun _ _ _ => False) mDeadE := ⟨⟨fun _ _ _ _ _ _ h => h.elim⟩, fun _ _ _ _ _ _ _ _ _ q => by cases q⟩
theorem t_dead {X : Cx} {b : Bool} {e : Expr} : T3 X b e (fun _ _ _ => False) mDeadT := ⟨⟨fun _ _ _ _ _ _ h => h.elim⟩, fun _ _ _ _ _ _ _ _ _ q => by cases q⟩
theorem s_dead {X : Cx} {st : Stmt} : S3 X [] st mDeadS := ⟨fun _ _ _ => False, ⟨fun _ _ _ _ _ _ h => h.elim⟩, fun _ _ _ _ _ _ _ _ _ q => by cases q⟩
theorem b_dead {X : Cx} {sts : List Stmt} : B3 X [] sts mDeadS := ⟨fun _ _ _ => False, ⟨fun _ _ _ _ _ _ h => h.elim⟩, fun _ _ _ _ _ _ _ _ _ q => by cases q⟩
/-! ### a call that only looks at what stands at a place, one level deep -/
def RepS (K : PySem.W.Frag) (F H : Hp) (d : D) (v : V) : Prop := match d with
  | .lst ds => ∃ a vs, v = .ref a ∧ H a = some (.lst vs) ∧ RepDs K F ds vs
  | d => RepD K F d v
theorem RepD.repS {K : PySem.W.Frag} {F H : Hp} {d : D} {v : V} (s : Same F H) (h : RepD K F d v) : RepS K F H d v := by
  cases d with
  | lst ds => obtain ⟨a, vs, h1, h2, h3⟩ := h; exact ⟨a, vs, h1, s _ _ h2, h3⟩
  | _ => exact h
/-- .. as frozen: a list's items stand frozen -/
def T.snap : T → Option D
  | .fr d => some d
  | .lst ts => (T.allfr ts).map .lst
  | _ => none
theorem allfr_eq : ∀ {ts : List T} {ds : List D}, T.allfr ts = some ds → ts = ds.map .fr
  | [], _, h => by cases h; rfl
  | .fr d :: ts, _, h => by
    obtain ⟨es, e, rfl⟩ := Option.map_eq_some_iff.mp (show (T.allfr ts).map (d :: ·) = some _ from h)
    rw [allfr_eq e] <;> rfl
  | .lst _ :: _, _, h => by cases h
  | .dct _ _ :: _, _, h => by cases h
  | .obj _ _ _ :: _, _, h => by cases h
  | .tup _ :: _, _, h => by cases h
  | .hole :: _, _, h => by cases h
theorem reps_unfr {K : PySem.W.Frag} {F H : Hp} : ∀ {ds : List D} {vs : List V} {S : List Addr}, Reps K F H (ds.map .fr) vs S → RepDs K F ds vs
  | [], _, _, h => h.1
  | d :: ds, _, _, h => by
    obtain ⟨w, ws, S1, S2, rfl, rfl, h2, h3⟩ := h
    exact ⟨w, ws, rfl, h2.2, reps_unfr h3⟩
theorem snap_rep {K : PySem.W.Frag} {F H : Hp} {t : T} {v : V} {S : List Addr} {d : D} (s : Same F H) (h : Rep K F H t v S) (q : t.snap = some d) : RepS K F H d v := by
  cases t with
  | fr e => cases q; exact RepD.repS s h.2
  | lst ts =>
    obtain ⟨ds, e, rfl⟩ := Option.map_eq_some_iff.mp (show (T.allfr ts).map D.lst = some d from q)
    obtain ⟨a, vs, S', rfl, h2, rfl, h3⟩ := h
    rw [allfr_eq e] at h3
    exact ⟨a, vs, rfl, h2, reps_unfr h3⟩
  | _ => cases q
def OpS (K : PySem.W.Frag) (r : V → Hp → VK → Prop) (g : D → Option T) : Prop := ∀ (F H : Hp) (d : D) (x : V) (t : T), Same F H → RepS K F H d x → g d = some t → ∀ Q : VK,
  (∀ (v : V) (F' H' : Hp) (Sv : List Addr), Gr F H F' H' → Fresh F' H Sv → Rep K F' H' t v Sv → Q v H') → r x H Q
def mSnap (g : D → Option T) (mp : MP) : ME := fun ρ => (mp ρ).bind fun p => (p.get ρ).bind fun t => t.snap.bind fun d => (g d).map fun u => (u, ρ)

theorem snd_snap {K : PySem.W.Frag} {ta : TE} {mp : MP} {r : List V → Hp → VK → Prop} {g : D → Option T} (hs : OpS K (fun x H Q => r [x] H Q) g) (ha : SndP K ta mp) : Snd K true (tCB r (tCons ta tNil)) (mSnap g mp) := by
  intro F H A S σ ρ t ρ' R q Q k
  unfold mSnap at q
  obtain ⟨p, e1, q⟩ := Option.bind_eq_some_iff.mp q
  obtain ⟨u, e2, q⟩ := Option.bind_eq_some_iff.mp q
  obtain ⟨d, e3, q⟩ := Option.bind_eq_some_iff.mp q
  obtain ⟨n, e4, q⟩ := Option.map_eq_some_iff.mp q
  cases q
  refine ha F H A S σ ρ _ R e1 _ fun x F1 H1 f1 k1 R1 a1 => ?_
  have rs : RepS K F1 H1 d x := by
    cases p with
    | val d' =>
      cases e2
      cases e3
      exact RepD.repS R1.wd.same a1
    | plc i π =>
      obtain ⟨t0, v0, Sa, Sb, Sc, q1, q2, q3, q4, q5, q6, q7⟩ := AtP.same R1 a1 e2
      exact snap_rep R1.wd.same q5 e3
  refine hs F1 H1 d x t R1.wd.same rs e4 _ fun v F2 H2 Sv g2 n2 r2 => ?_
  exact k v F2 H2 S Sv (fun b o z => g2.f b o (f1 b o z)) (fun a h => by rw [g2.keepA R1 a h, k1 a (by simp [h])]) (g2.rel R1 n2 (Rep.tracked _ _ _ r2)) r2 fun _ => ⟨rfl, rfl, fun a h => by rw [g2.keepS R1 a h, k1 a (by simp [h])]⟩
theorem fs_tupleOf {K : PySem.W.Frag} : OpS K (fun x H Q => rTupleOf K [x] H Q) gTupleOf := by
  intro F H d x t s hx q Q k
  cases d with
  | tup es =>
    obtain ⟨a, ws, rfl, h2, h3⟩ := hx
    cases q
    exact ⟨a, ws, rfl, .inr ⟨Same.sqt s h2, res0 s k ⟨a, ws, rfl, h2, h3⟩⟩⟩
  | lst es =>
    obtain ⟨a, ws, rfl, h2, h3⟩ := hx
    cases q
    exact ⟨a, ws, rfl, .inl ⟨SqL.of h2, fun p hp => resT s k h3 hp⟩⟩
  | rol es =>
    obtain ⟨a, ws, rfl, h2, h3⟩ := hx
    cases q
    exact ⟨a, ws, rfl, .inl ⟨Same.sql s h2, fun p hp => resT s k h3 hp⟩⟩
  | _ => cases q
theorem items_repS {K : PySem.W.Frag} {F H : Hp} {e : D} {y : V} {ds : List D} (s : Same F H) (h : RepS K F H e y) (q : e.items = some ds) : ∃ p vs, y = .ref p ∧ (SqL K H p vs ∨ SqT K H p vs) ∧ RepDs K F ds vs := by
  cases e with
  | lst xs => cases q; obtain ⟨a, vs, rfl, h2, h3⟩ := h; exact ⟨a, vs, rfl, .inl (SqL.of h2), h3⟩
  | _ => exact items_rep s h q
theorem fs_listOf {K : PySem.W.Frag} : OpS K (fun x H Q => rListOf K [x] H Q) gListOf := by
  intro F H d x t s hx q Q k
  obtain ⟨es, e1, rfl⟩ := Option.map_eq_some_iff.mp q
  obtain ⟨p, ws, rfl, h1, h2⟩ := items_repS s hx e1
  exact ⟨p, ws, rfl, h1, fun l hl => resL s k h2 hl⟩
section
variable {X : Cx} {a : Expr} {ta : TE} {mp : MP} {pos p : Pos} {x : Str}
theorem e_snapT (hm : X.mg "tuple" = none) (ha : P3 X a ta mp) (hg : Gl X "tuple" := by rfl) (he : starEach [a] X.env = (false, eval a X.env) :: starEach [] X.env := by rfl) : E3 X true (.Call (.Name "tuple" p) [a] [] pos) (tCB (rTupleOf X.K) (tCons ta tNil)) (mSnap gTupleOf mp) :=
  ⟨pe_callTy call_tuple_of hg hm rfl (pa_cons ha.pe pa_nil he) (by decide) (by decide) he rfl, snd_snap fs_tupleOf ha.ok⟩
theorem e_snapL (hm : X.mg "list" = none) (ha : P3 X a ta mp) (hg : Gl X "list" := by rfl) (he : starEach [a] X.env = (false, eval a X.env) :: starEach [] X.env := by rfl) : E3 X true (.Call (.Name "list" p) [a] [] pos) (tCB (rListOf X.K) (tCons ta tNil)) (mSnap gListOf mp) :=
  ⟨pe_callTy call_list_of hg hm rfl (pa_cons ha.pe pa_nil he) (by decide) (by decide) he rfl, snd_snap fs_listOf ha.ok⟩
def mDct0 : ME := fun ρ => some (.dct [] [], ρ)
theorem snd_dct0 {K : PySem.W.Frag} : Snd K true tDNewK mDct0 := by
  intro F H A S σ ρ t ρ' R q Q k
  cases q
  intro p hp
  have g := Gr.own (o := .dK []) R.wd.same hp
  have n : Fresh F H [p] := Fresh.one' hp (R.wd.same.free hp)
  have r : Rep K F (upd H p (.dK [])) (.dct [] []) (.ref p) [p] := ⟨p, [], [], rfl, upd_same, rfl, rfl, rfl, rfl⟩
  exact k _ F _ S [p] (Same.refl _) (fun a h => g.keepA R a h) (g.rel R n (Rep.tracked _ _ _ r)) r fun _ => ⟨rfl, rfl, fun a h => g.keepS R a h⟩
theorem e_dct0 : E3 X true (.Dict [] [] pos) tDNewK mDct0 := ⟨pe_dnewK, snd_dct0⟩
end

/-! ### comprehensions, the readings of their parts left open -/
def teOf (K : PySem.W.Frag) (b : Bool) (m : ME) : TE := fun σ H Q => ∃ (F : Hp) (A S : List Addr) (ρ : Env) (t : T) (ρ' : Env), RelE K F H A S σ ρ ∧ m ρ = some (t, ρ') ∧
    ∀ (v : V) (F' H' : Hp) (S' Sv : List Addr), Same F F' → (∀ a ∈ A, H' a = H a) → RelE K F' H' (Sv ++ A) S' σ ρ' → Rep K F' H' t v Sv →
      (b = true → ρ' = ρ ∧ S' = S ∧ ∀ a ∈ S, H' a = H a) → Q v H'
def ttOf (K : PySem.W.Frag) (b : Bool) (m : MT) : TT := fun σ H Q => ∃ (F : Hp) (A S : List Addr) (ρ : Env) (c : Bool) (ρ' : Env), RelE K F H A S σ ρ ∧ m ρ = some (c, ρ') ∧
    ∀ (F' H' : Hp) (S' : List Addr), Same F F' → (∀ a ∈ A, H' a = H a) → RelE K F' H' A S' σ ρ' → (b = true → ρ' = ρ ∧ S' = S ∧ ∀ a ∈ S, H' a = H a) → Q c H'
def tgOf (K : PySem.W.Frag) (W : List Nat) (m : MG) : TG := fun v σ H Q => ∃ (F : Hp) (A S : List Addr) (ρ : Env) (t : T) (Sv : List Addr) (ρ' : Env), RelE K F H (Sv ++ A) S σ ρ ∧ Rep K F H t v Sv ∧ m t ρ = some ρ' ∧
    ∀ (σ' : Sg) (F' H' : Hp) (S' : List Addr), Same F F' → (∀ a ∈ A, H' a = H a) → (∀ i, i ∉ W → σ'[i]? = σ[i]?) → RelE K F' H' A S' σ' ρ' → Q σ' H'
def E4 (X : Cx) (b : Bool) (e : Expr) (m : ME) : Prop := ∃ te, E3 X b e te m
def Ts4 (X : Cx) (b : Bool) (e : List Expr) (m : MT) : Prop := ∃ te, Ts3 X b e te m
def G4 (X : Cx) (W : List Nat) (e : Expr) (m : MG) : Prop := ∃ g, G3 X W e g m
theorem E4.to {X : Cx} {b : Bool} {e : Expr} {m : ME} {K : PySem.W.Frag} (h : E4 X b e m) (hK : X.K = K) : E3 X b e (teOf K b m) m := by
  subst hK
  obtain ⟨te, h⟩ := h
  refine ⟨⟨fun pins s σ H Q I q => ?_⟩, fun F H A S σ ρ t ρ' R e Q k => ⟨F, A, S, ρ, t, ρ', R, e, k⟩⟩
  obtain ⟨F, A, S, ρ, t, ρ', R, e, k⟩ := q
  exact h.pe.run pins s σ H Q I (h.ok F H A S σ ρ t ρ' R e Q k)
theorem Ts4.to {X : Cx} {b : Bool} {e : List Expr} {m : MT} {K : PySem.W.Frag} (h : Ts4 X b e m) (hK : X.K = K) : Ts3 X b e (ttOf K b m) m := by
  subst hK
  obtain ⟨te, h⟩ := h
  refine ⟨⟨fun pins s σ H Q I q => ?_⟩, fun F H A S σ ρ t ρ' R e Q k => ⟨F, A, S, ρ, t, ρ', R, e, k⟩⟩
  obtain ⟨F, A, S, ρ, t, ρ', R, e, k⟩ := q
  exact h.pts.run pins s σ H Q I (h.ok F H A S σ ρ t ρ' R e Q k)
theorem G4.to {X : Cx} {W : List Nat} {e : Expr} {m : MG} {K : PySem.W.Frag} (h : G4 X W e m) (hK : X.K = K) : G3 X W e (tgOf K W m) m := by
  subst hK
  obtain ⟨te, h⟩ := h
  refine ⟨⟨fun pins s σ H v u Q I rv q => ?_⟩, fun F H A S σ ρ t v Sv ρ' R r e Q k => ⟨F, A, S, ρ, t, Sv, ρ', R, r, e, k⟩, h.len⟩
  obtain ⟨F, A, S, ρ, t, Sv, ρ', R, r, e, k⟩ := q
  exact h.pg.run pins s σ H v u Q I rv (h.ok F H A S σ ρ t v Sv ρ' R r e Q k)
section
variable {X : Cx} {b b1 b2 b3 : Bool} {e f a c d l : Expr} {es rest : List Expr} {ta tb tc te tx : TE} {ma mb mc me mx : ME} {pos p : Pos} {x : Str} {tl : TA} {ml : MA}
variable {W : List Nat} {g : TG} {mg : MG} {wi : TI} {mi : MI} {tA : TT} {mA : MT}
theorem e_lc4 {elt tg iter : Expr} {ifs : List Expr} {scope : Scope} (own : List (Str × Nat)) (hc : X.calm = true) (hN : X.N.Nodup) (hi : I3 X tg iter wi mi) (ok : BlkOk X.N X.env.scope scope own)
    (hg : ∀ (s : Shared) (H : Hp) (C : Addr) (cl : List (Str × Addr)) (fp : List Addr), G4 (X.blk s H scope (compEnvC scope cl C X.env) fp) W tg mg) (hW : ∀ i, i ∈ W → i ∈ own.map (·.2))
    (ht : ∀ (s : Shared) (H : Hp) (C : Addr) (cl : List (Str × Addr)) (fp : List Addr), Ts4 (X.blk s H scope (compEnvC scope cl C X.env) fp) b1 ifs mA)
    (he : ∀ (s : Shared) (H : Hp) (C : Addr) (cl : List (Str × Addr)) (fp : List Addr), E4 (X.blk s H scope (compEnvC scope cl C X.env) fp) b2 elt me) (hs : ∀ x, foldedSetIterable iter X.env x = pure x := by intro _; rfl) :
    E3 X false (.ListComp elt [⟨tg, iter, ifs, 0⟩] scope pos) (tLc wi (tgOf X.K W mg) (ttOf X.K b1 mA) (teOf X.K b2 me) (own.map (·.2))) (mLc mi mg mA me (own.map (·.2))) :=
  e_lc own hc hN hi ok (fun s H C cl fp => (hg s H C cl fp).to rfl) hW (fun s H C cl fp => (ht s H C cl fp).to rfl) (fun s H C cl fp => (he s H C cl fp).to rfl) hs
theorem s_set_lc4 (i : Nat) {elt tg iter : Expr} {ifs : List Expr} {scope : Scope} {py spos : Pos} {y : Str} (own : List (Str × Nat)) (hc : X.calm = true) (hN : X.N.Nodup) (hi : I3 X tg iter wi mi) (ok : BlkOk X.N X.env.scope scope own)
    (hg : ∀ (s : Shared) (H : Hp) (C : Addr) (cl : List (Str × Addr)) (fp : List Addr), G4 (X.blk s H scope (compEnvC scope cl C X.env) fp) W tg mg) (hW : ∀ i, i ∈ W → i ∈ own.map (·.2))
    (ht : ∀ (s : Shared) (H : Hp) (C : Addr) (cl : List (Str × Addr)) (fp : List Addr), Ts4 (X.blk s H scope (compEnvC scope cl C X.env) fp) b1 ifs mA)
    (he : ∀ (s : Shared) (H : Hp) (C : Addr) (cl : List (Str × Addr)) (fp : List Addr), E4 (X.blk s H scope (compEnvC scope cl C X.env) fp) b2 elt me)
    (hsw : swapsWith (.ListComp elt [⟨tg, iter, ifs, 0⟩] scope pos) (some (.Name y py)) spos.line X.env = pure true := by exact sw_true rfl rfl rfl (by decide +kernel))
    (hy : X.N[i]? = some y := by rfl) (hyl : X.env.scope.names.lookup y = some .local := by rfl) (hs : ∀ x, foldedSetIterable iter X.env x = pure x := by intro _; rfl) :
    S3 X [i] (.Assign [.Name y py] (.ListComp elt [⟨tg, iter, ifs, 0⟩] scope pos) spos) (mAsg (mLc mi mg mA me (own.map (·.2))) (mName i)) :=
  s_set_lc i own hc hN hi ok (fun s H C cl fp => (hg s H C cl fp).to rfl) hW (fun s H C cl fp => (ht s H C cl fp).to rfl) (fun s H C cl fp => (he s H C cl fp).to rfl) hsw hy hyl hs
end
/-! ### not, of any truth -/
def mNotE (m : MT) : ME := fun ρ => (m ρ).map fun p => (.fr (.bl (!p.1)), p.2)
theorem snd_notE {K : PySem.W.Frag} {b : Bool} {tt : TT} {m : MT} (h : SndT K b tt m) : Snd K b (fun σ H Q => tt σ H fun k H' => Q (.bl (!k)) H') (mNotE m) := by
  intro F H A S σ ρ t ρ' R q Q k
  obtain ⟨⟨c, ρ1⟩, e1, q⟩ := Option.map_eq_some_iff.mp q
  cases q
  exact h F H A S σ ρ c _ R e1 _ fun F1 H1 S1 f1 k1 R1 p1 => k _ F1 H1 S1 [] f1 k1 R1 ⟨rfl, rfl⟩ p1
theorem e_notP {X : Cx} {a : Expr} {ta : TE} {mp : MP} {pos : Pos} (ha : P3 X a ta mp) : E3 X true (.UnaryOp .Not a pos) (tNotT X.K ta) (mNotE (mTruthP mp)) := ⟨pe_notT ha.pe, snd_notE (sndT_truthP ha.ok)⟩
theorem e_notV {X : Cx} {b : Bool} {a : Expr} {ta : TE} {ma : ME} {pos : Pos} (ha : E3 X b a ta ma) : E3 X b (.UnaryOp .Not a pos) (tNotT X.K ta) (mNotE (mTruth ma)) := ⟨pe_notT ha.pe, snd_notE (sndT_truth ha.ok)⟩
end L3
namespace L3
open PySem PySem.Spec PyProof.Rows L2

/-! ### loops of mirrors -/
/-- every turn ends plainly -/
inductive Runs (g : MG) (body : MS) : List D → Env → Env → Prop
  | nil (ρ : Env) : Runs g body [] ρ ρ
  | cons {d : D} {ds : List D} {ρ ρ1 ρ2 ρ3 : Env} (h1 : g (.fr d) ρ = some ρ1) (h2 : body ρ1 = some (.nx, ρ2)) (h3 : Runs g body ds ρ2 ρ3) : Runs g body (d :: ds) ρ ρ3
theorem Runs.app {g : MG} {body : MS} {ds es : List D} {ρ ρ' : Env} (h : Runs g body ds ρ ρ') : mLoop g body (ds ++ es) ρ = mLoop g body es ρ' := by
  induction h with
  | nil ρ => rfl
  | cons h1 h2 h3 ih =>
    rw [List.cons_append]
    conv => lhs; unfold mLoop
    rw [h1]
    show ((body _).bind _) = _
    rw [h2]
    exact ih
theorem Runs.loop {g : MG} {body : MS} {ds : List D} {ρ ρ' : Env} (h : Runs g body ds ρ ρ') : mLoop g body ds ρ = some (.nx, ρ') := by
  have := h.app (es := [])
  rw [List.append_nil] at this
  exact this
theorem Runs.ret {g : MG} {body : MS} {ds es : List D} {d : D} {ρ ρ' ρ1 ρ2 : Env} {t : T} (h : Runs g body ds ρ ρ') (h1 : g (.fr d) ρ' = some ρ1) (h2 : body ρ1 = some (.ret t, ρ2)) : mLoop g body (ds ++ d :: es) ρ = some (.ret t, ρ2) := by
  rw [h.app]
  unfold mLoop
  rw [h1]
  show ((body _).bind _) = _
  rw [h2] <;> rfl
theorem Runs.trans {g : MG} {body : MS} {ds es : List D} {ρ ρ' ρ'' : Env} (h : Runs g body ds ρ ρ') (h' : Runs g body es ρ' ρ'') : Runs g body (ds ++ es) ρ ρ'' := by
  induction h with
  | nil ρ => exact h'
  | cons h1 h2 h3 ih => exact .cons h1 h2 (ih h')
theorem Runs.inv {g : MG} {body : MS} (P : Nat → Env → Prop) : ∀ {ds : List D} {n : Nat} {ρ : Env}, (∀ i d ρ, ds[i]? = some d → P (n + i) ρ → ∃ ρ1 ρ', g (.fr d) ρ = some ρ1 ∧ body ρ1 = some (.nx, ρ') ∧ P (n + i + 1) ρ') → P n ρ →
    ∃ ρ', Runs g body ds ρ ρ' ∧ P (n + ds.length) ρ'
  | [], n, ρ, _, h0 => ⟨ρ, .nil ρ, h0⟩
  | d :: ds, n, ρ, h, h0 => by
    obtain ⟨ρ1, ρ2, e1, e2, h1⟩ := h 0 d ρ rfl h0
    obtain ⟨ρ3, e3, h3⟩ := Runs.inv (g := g) (body := body) P (ds := ds) (n := n + 1) (ρ := ρ2) (fun i d ρ hd hp => by
      have := h (i + 1) d ρ (by simpa using hd) (by rw [show n + (i + 1) = n + 1 + i by omega]; exact hp)
      rw [show n + (i + 1) + 1 = n + 1 + i + 1 by omega] at this
      exact this) h1
    exact ⟨ρ3, .cons e1 e2 e3, by rw [List.length_cons, show n + (ds.length + 1) = n + 1 + ds.length by omega]; exact h3⟩
/-- a comprehension without a test -/
theorem lc_run {g : MG} {me : ME} {vs : List Nat} {f : D → T} {ρ : Env} (hw : wipeE ρ vs = ρ) : ∀ {ds : List D} {acc : List T}, (∀ d ∈ ds, ∃ ρ1 ρ2, g (.fr d) ρ = some ρ1 ∧ me ρ1 = some (f d, ρ2) ∧ wipeE ρ2 vs = ρ) → acc.length + ds.length ≤ 1000000 →
    lcLoop g mYes me vs ds acc ρ = some (.lst (acc ++ ds.map f), ρ)
  | [], acc, _, _ => by
    unfold lcLoop
    rw [hw, List.map_nil, List.append_nil]
  | d :: ds, acc, h, hl => by
    obtain ⟨ρ1, ρ2, e1, e2, e3⟩ := h d (by simp)
    unfold lcLoop
    rw [List.length_cons] at hl
    have z : acc.length < 1000000 := by omega
    simp only [e1, Option.bind_some, mYes, if_true, e2, z]
    rw [e3, lc_run hw (fun d hd => h d (by simp [hd])) (by rw [List.length_append]; simp; omega)]
    simp
/-- all of a list of truths -/
theorem asBls_map {α : Type} {f : α → Bool} : ∀ {l : List α}, asBls (l.map fun a => D.bl (f a)) = some (l.map f)
  | [] => rfl
  | a :: l => by
    show (asBls (l.map fun a => D.bl (f a))).map (f a :: ·) = _
    rw [asBls_map] <;> rfl
theorem frzs_map {α : Type} {f : α → D} : ∀ {l : List α}, T.frzs (l.map fun a => T.fr (f a)) = some (l.map f)
  | [] => by simp [T.frzs]
  | a :: l => by
    rw [List.map_cons]
    unfold T.frzs
    rw [frzs_map]
    simp [T.frz]
theorem asInts_map {l : List Int} : asInts (l.map D.int) = some l := by
  induction l with
  | nil => rfl
  | cons a l ih =>
    show (asInts (l.map D.int)).map (a :: ·) = _
    rw [ih] <;> rfl
theorem allfr_map {α : Type} {f : α → D} : ∀ {l : List α}, T.allfr (l.map fun a => T.fr (f a)) = some (l.map f)
  | [] => rfl
  | a :: l => by
    show (T.allfr (l.map fun a => T.fr (f a))).map (f a :: ·) = _
    rw [allfr_map] <;> rfl
theorem intsFrom_at {n i : Nat} {lo : Int} {d : D} (h : (intsFrom lo n)[i]? = some d) : i < n ∧ d = .int (lo + i) := by
  rw [intsFrom_get] at h
  by_cases z : i < n
  · rw [if_pos z] at h; exact ⟨z, (Option.some.inj h).symm⟩
  · rw [if_neg z] at h; cases h
theorem intsFrom_split {lo : Int} : ∀ {n m : Nat}, intsFrom lo (n + m) = intsFrom lo n ++ intsFrom (lo + n) m
  | 0, m => by simp [intsFrom]
  | n + 1, m => by
    rw [show n + 1 + m = (n + m) + 1 by omega]
    show D.int lo :: intsFrom (lo + 1) (n + m) = D.int lo :: (intsFrom (lo + 1) n ++ _)
    rw [intsFrom_split (n := n) (m := m), show lo + 1 + (n : Int) = lo + ((n + 1 : Nat) : Int) by push_cast; omega]
theorem maxI_eq {l : List Int} {m : Int} (h : m ∈ l) (h' : ∀ a ∈ l, a ≤ m) : maxI l = m := by
  have h1 := maxI_le h
  have h2 := h' _ (maxI_mem (l := l) (by intro e; rw [e] at h; cases h))
  omega
end L3
namespace L3
open PySem PySem.Spec PyProof.Rows L2
theorem ixN_last (n : Nat) : ixN (n + 1) (-1) = some n := by
  unfold ixN
  rw [if_neg (by omega), if_pos (by omega)]
  congr 1
  omega
theorem ixN_zero (n : Nat) : ixN (n + 1) 0 = some 0 := by
  unfold ixN
  rw [if_pos (by omega), if_pos (by omega)] <;> rfl
theorem ixN_one (n : Nat) : ixN (n + 1 + 1) 1 = some 1 := by
  unfold ixN
  rw [if_pos (by omega), if_pos (by omega)] <;> rfl
theorem all_true {α : Type} {X : ME} {ρ ρ' : Env} {ds : List α} (h : X ρ = some (.lst (ds.map fun _ => .fr (.bl true)), ρ')) : mOpn (g1 gAll) (mCons X mNil) ρ = some (.fr (.bl true), ρ') := by
  have e : T.frzs [.lst (ds.map fun _ => T.fr (.bl true))] = some [.lst (ds.map fun _ => .bl true)] := by
    simp [T.frzs, T.frz, frzs_map]
  have e2 : ((ds.map fun _ => true).all id) = true := by simp
  simp [mOpn, mCons, mNil, h, e, g1, gAll, D.litems, asBls_map]
end L3
namespace L3
open PySem PySem.Spec PyProof.Rows L2
theorem frzs_repl {d : D} : ∀ {n : Nat}, T.frzs (List.replicate n (.fr d)) = some (List.replicate n d)
  | 0 => by simp [T.frzs]
  | n + 1 => by
    rw [List.replicate_succ, List.replicate_succ]
    unfold T.frzs
    rw [frzs_repl]
    simp [T.frz]
theorem asBls_repl {b : Bool} : ∀ {n : Nat}, asBls (List.replicate n (.bl b)) = some (List.replicate n b)
  | 0 => rfl
  | n + 1 => by
    rw [List.replicate_succ, List.replicate_succ]
    show (asBls (List.replicate n (.bl b))).map (b :: ·) = _
    rw [asBls_repl] <;> rfl
theorem repl_all {n : Nat} : (List.replicate n true).all id = true := by simp
theorem frzs_append : ∀ {a b : List T} {x y : List D}, T.frzs a = some x → T.frzs b = some y → T.frzs (a ++ b) = some (x ++ y)
  | [], b, x, y, h, h' => by
    simp [T.frzs] at h
    subst h
    exact h'
  | t :: a, b, x, y, h, h' => by
    unfold T.frzs at h
    cases e1 : T.frz t with
    | none => rw [e1] at h; cases h
    | some d =>
      rw [e1] at h
      cases e2 : T.frzs a with
      | none => rw [e2] at h; cases h
      | some ds =>
        rw [e2] at h
        cases h
        rw [List.cons_append]
        unfold T.frzs
        rw [e1, frzs_append e2 h'] <;> rfl
end L3
namespace L3
open PySem PySem.Spec PyProof.Rows L2
theorem ixN_nat {n i : Nat} (h : i < n) : ixN n (i : Int) = some i := by
  unfold ixN
  rw [if_pos (by omega), if_pos (by omega)]
  congr 1
end L3
namespace L3
open PySem PySem.Spec PyProof.Rows L2
theorem eqB_int {i j : Int} : D.eqB (.int i) (.int j) = some (decide (i = j)) := rfl
theorem eqB_bl {i j : Bool} : D.eqB (.bl i) (.bl j) = some (decide (i = j)) := rfl
theorem eqB_str {i j : Str} : D.eqB (.str i) (.str j) = some (decide (i = j)) := rfl
theorem eqB_nn : D.eqB .non .non = some true := rfl
end L3
/-! printed by gen.py from the linked text of handshidden_k69_high_stacks -/
namespace Gk69
open PySem PySem.Spec PyProof.Rows L2 L3
abbrev top (i : Nat) : Stmt := PySem.Challenge.pw_handshidden_k69_high_stacks.main.body.getD i (.Pass ⟨0, 0, 0, 0⟩)
def clsBody : Stmt → List Stmt
  | .ClassDef _ _ _ body .. => body
  | _ => []
abbrev cls (i j : Nat) : Stmt := (clsBody (top i)).getD j (.Pass ⟨0, 0, 0, 0⟩)
abbrev st__law_draw : Stmt := top 47
abbrev st_height_behind : Stmt := top 27
abbrev st_heights_of : Stmt := top 28
abbrev st_heights : Stmt := top 30
abbrev st_opens_region : Stmt := top 25
abbrev st_region : Stmt := top 24
abbrev st_are_regions : Stmt := top 26
abbrev st_has_word : Stmt := top 18
abbrev st_is_within : Stmt := top 17
abbrev st_is_counter : Stmt := top 20
abbrev st_is_whos : Stmt := top 21
abbrev st_is_zone : Stmt := top 19
abbrev st_fits : Stmt := top 22
abbrev st_is_instruction : Stmt := top 23
abbrev st_is_code : Stmt := top 29
abbrev st_everybody : Stmt := top 2
abbrev st_Labels_init : Stmt := cls 43 0
abbrev st_within : Stmt := top 4
abbrev st_Labels_fault : Stmt := cls 43 6
abbrev st_seat_of : Stmt := top 34
abbrev st_place_of : Stmt := top 35
abbrev st_readers : Stmt := top 5
abbrev st_label_of_zone : Stmt := top 40
abbrev st_Labels_zone : Stmt := cls 43 2
abbrev st_counter_readers : Stmt := top 6
abbrev st_name_of : Stmt := top 36
abbrev st_label_of_counter : Stmt := top 41
abbrev st_label_of : Stmt := top 3
abbrev st_label_of_who : Stmt := top 38
abbrev st_label_of_whos : Stmt := top 39
abbrev st_Labels_act : Stmt := cls 43 7
abbrev st_Labels_push : Stmt := cls 43 3
abbrev st_Labels_read : Stmt := cls 43 4
abbrev st_Labels_quiet : Stmt := cls 43 5
abbrev st_Labels_state : Stmt := cls 43 1
abbrev st_instruction_cost : Stmt := top 31
abbrev st_part_costs : Stmt := top 32
abbrev st_follow : Stmt := top 44
abbrev st_verify : Stmt := top 45
abbrev st_law : Stmt := top 48
def d__law_draw : He.DefD := ⟨("_law_draw", none), "_law_draw", "_law_draw", defArgs st__law_draw, defBody st__law_draw, defScope st__law_draw, [], []⟩
def d_height_behind : He.DefD := ⟨("height_behind", none), "height_behind", "height_behind", defArgs st_height_behind, defBody st_height_behind, defScope st_height_behind, [], []⟩
def d_heights_of : He.DefD := ⟨("heights_of", none), "heights_of", "heights_of", defArgs st_heights_of, defBody st_heights_of, defScope st_heights_of, [], []⟩
def d_heights : He.DefD := ⟨("heights", none), "heights", "heights", defArgs st_heights, defBody st_heights, defScope st_heights, [], []⟩
def d_opens_region : He.DefD := ⟨("opens_region", none), "opens_region", "opens_region", defArgs st_opens_region, defBody st_opens_region, defScope st_opens_region, [], []⟩
def d_region : He.DefD := ⟨("region", none), "region", "region", defArgs st_region, defBody st_region, defScope st_region, [], []⟩
def d_are_regions : He.DefD := ⟨("are_regions", none), "are_regions", "are_regions", defArgs st_are_regions, defBody st_are_regions, defScope st_are_regions, [], []⟩
def d_has_word : He.DefD := ⟨("has_word", none), "has_word", "has_word", defArgs st_has_word, defBody st_has_word, defScope st_has_word, [], []⟩
def d_is_within : He.DefD := ⟨("is_within", none), "is_within", "is_within", defArgs st_is_within, defBody st_is_within, defScope st_is_within, [], []⟩
def d_is_counter : He.DefD := ⟨("is_counter", none), "is_counter", "is_counter", defArgs st_is_counter, defBody st_is_counter, defScope st_is_counter, [], []⟩
def d_is_whos : He.DefD := ⟨("is_whos", none), "is_whos", "is_whos", defArgs st_is_whos, defBody st_is_whos, defScope st_is_whos, [], []⟩
def d_is_zone : He.DefD := ⟨("is_zone", none), "is_zone", "is_zone", defArgs st_is_zone, defBody st_is_zone, defScope st_is_zone, [], []⟩
def d_fits : He.DefD := ⟨("fits", none), "fits", "fits", defArgs st_fits, defBody st_fits, defScope st_fits, [], []⟩
def d_is_instruction : He.DefD := ⟨("is_instruction", none), "is_instruction", "is_instruction", defArgs st_is_instruction, defBody st_is_instruction, defScope st_is_instruction, [], []⟩
def d_is_code : He.DefD := ⟨("is_code", none), "is_code", "is_code", defArgs st_is_code, defBody st_is_code, defScope st_is_code, [], []⟩
def d_everybody : He.DefD := ⟨("everybody", none), "everybody", "everybody", defArgs st_everybody, defBody st_everybody, defScope st_everybody, [], []⟩
def d_Labels_init : He.DefD := ⟨("Labels", some "__init__"), "__init__", "Labels.__init__", defArgs st_Labels_init, defBody st_Labels_init, defScope st_Labels_init, [], []⟩
def d_within : He.DefD := ⟨("within", none), "within", "within", defArgs st_within, defBody st_within, defScope st_within, [], []⟩
def d_Labels_fault : He.DefD := ⟨("Labels", some "fault"), "fault", "Labels.fault", defArgs st_Labels_fault, defBody st_Labels_fault, defScope st_Labels_fault, [], []⟩
def d_seat_of : He.DefD := ⟨("seat_of", none), "seat_of", "seat_of", defArgs st_seat_of, defBody st_seat_of, defScope st_seat_of, [], []⟩
def d_place_of : He.DefD := ⟨("place_of", none), "place_of", "place_of", defArgs st_place_of, defBody st_place_of, defScope st_place_of, [], []⟩
def d_readers : He.DefD := ⟨("readers", none), "readers", "readers", defArgs st_readers, defBody st_readers, defScope st_readers, [], []⟩
def d_label_of_zone : He.DefD := ⟨("label_of_zone", none), "label_of_zone", "label_of_zone", defArgs st_label_of_zone, defBody st_label_of_zone, defScope st_label_of_zone, [], []⟩
def d_Labels_zone : He.DefD := ⟨("Labels", some "zone"), "zone", "Labels.zone", defArgs st_Labels_zone, defBody st_Labels_zone, defScope st_Labels_zone, [], []⟩
def d_counter_readers : He.DefD := ⟨("counter_readers", none), "counter_readers", "counter_readers", defArgs st_counter_readers, defBody st_counter_readers, defScope st_counter_readers, [], []⟩
def d_name_of : He.DefD := ⟨("name_of", none), "name_of", "name_of", defArgs st_name_of, defBody st_name_of, defScope st_name_of, [], []⟩
def d_label_of_counter : He.DefD := ⟨("label_of_counter", none), "label_of_counter", "label_of_counter", defArgs st_label_of_counter, defBody st_label_of_counter, defScope st_label_of_counter, [], []⟩
def d_label_of : He.DefD := ⟨("label_of", none), "label_of", "label_of", defArgs st_label_of, defBody st_label_of, defScope st_label_of, [], []⟩
def d_label_of_who : He.DefD := ⟨("label_of_who", none), "label_of_who", "label_of_who", defArgs st_label_of_who, defBody st_label_of_who, defScope st_label_of_who, [], []⟩
def d_label_of_whos : He.DefD := ⟨("label_of_whos", none), "label_of_whos", "label_of_whos", defArgs st_label_of_whos, defBody st_label_of_whos, defScope st_label_of_whos, [], []⟩
def d_Labels_act : He.DefD := ⟨("Labels", some "act"), "act", "Labels.act", defArgs st_Labels_act, defBody st_Labels_act, defScope st_Labels_act, [], []⟩
def d_Labels_push : He.DefD := ⟨("Labels", some "push"), "push", "Labels.push", defArgs st_Labels_push, defBody st_Labels_push, defScope st_Labels_push, [], []⟩
def d_Labels_read : He.DefD := ⟨("Labels", some "read"), "read", "Labels.read", defArgs st_Labels_read, defBody st_Labels_read, defScope st_Labels_read, [], []⟩
def d_Labels_quiet : He.DefD := ⟨("Labels", some "quiet"), "quiet", "Labels.quiet", defArgs st_Labels_quiet, defBody st_Labels_quiet, defScope st_Labels_quiet, [], []⟩
def d_Labels_state : He.DefD := ⟨("Labels", some "state"), "state", "Labels.state", defArgs st_Labels_state, defBody st_Labels_state, defScope st_Labels_state, [], []⟩
def d_instruction_cost : He.DefD := ⟨("instruction_cost", none), "instruction_cost", "instruction_cost", defArgs st_instruction_cost, defBody st_instruction_cost, defScope st_instruction_cost, [], []⟩
def d_part_costs : He.DefD := ⟨("part_costs", none), "part_costs", "part_costs", defArgs st_part_costs, defBody st_part_costs, defScope st_part_costs, [], []⟩
def d_follow : He.DefD := ⟨("follow", none), "follow", "follow", defArgs st_follow, defBody st_follow, defScope st_follow, [], []⟩
def d_verify : He.DefD := ⟨("verify", none), "verify", "verify", defArgs st_verify, defBody st_verify, defScope st_verify, [], []⟩
def d_law : He.DefD := ⟨("law", none), "law", "law", defArgs st_law, defBody st_law, defScope st_law, [], []⟩
def fn : List He.DefD := [d__law_draw, d_height_behind, d_heights_of, d_heights, d_opens_region, d_region, d_are_regions, d_has_word, d_is_within, d_is_counter, d_is_whos, d_is_zone, d_fits, d_is_instruction, d_is_code, d_everybody, d_Labels_init, d_within, d_Labels_fault, d_seat_of, d_place_of, d_readers, d_label_of_zone, d_Labels_zone, d_counter_readers, d_name_of, d_label_of_counter, d_label_of, d_label_of_who, d_label_of_whos, d_Labels_act, d_Labels_push, d_Labels_read, d_Labels_quiet, d_Labels_state, d_instruction_cost, d_part_costs, d_follow, d_verify, d_law]
def c_BINARY : D := .tup [.str "add", .str "sub", .str "mul", .str "min", .str "max", .str "less", .str "same", .str "both", .str "either"]
def c_PUSHES : D := .tup [.str "kind", .str "worth", .str "not", .str "div", .str "mod", .str "copy", .str "push", .str "load", .str "counter", .str "size", .str "tally", .str "add", .str "sub", .str "mul", .str "min", .str "max", .str "less", .str "same", .str "both", .str "either"]
def c_MOST_HEIGHT : D := .int 60
def c_MOST_CODE : D := .int 20000
def t_POPS : Tbl := [("kind", .int 1), ("worth", .int 1), ("not", .int 1), ("div", .int 1), ("mod", .int 1), ("drop", .int 1), ("store", .int 1), ("copy", .int 1), ("count", .int 1), ("move", .int 1), ("swap", .int 2), ("tell", .int 1), ("show", .int 1), ("unless", .int 1)]
def t_FORMS : Tbl := [("push", .tup [.str "value"]), ("load", .tup [.str "variable"]), ("counter", .tup [.str "counter"]), ("size", .tup [.str "zone"]), ("tally", .tup [.str "zone", .str "kind"]), ("kind", .tup [.str "zone"]), ("worth", .tup [.str "zone"]), ("not", .tup []), ("div", .tup [.str "divisor"]), ("mod", .tup [.str "divisor"]), ("drop", .tup []), ("store", .tup [.str "variable"]), ("copy", .tup [.str "variable"]), ("count", .tup [.str "counter"]), ("draw", .tup [.str "who"]), ("move", .tup [.str "zone", .str "zone"]), ("swap", .tup [.str "zone", .str "zone"]), ("tell", .tup [.str "whos"]), ("show", .tup [.str "variable", .str "whos"]), ("ask", .tup [.str "variable", .str "who", .str "many", .str "truth"]), ("unless", .tup [.str "target"]), ("jump", .tup [.str "target"]), ("join", .tup []), ("idle", .tup [.str "idle"])]
def t_BOUNDS : Tbl := [("value", .tup [.int (-9999), .int 9999]), ("variable", .tup [.int 0, .int 5]), ("kind", .tup [.int 0, .int 3]), ("divisor", .tup [.int 1, .int 9]), ("who", .tup [.int 0, .int 3]), ("many", .tup [.int 2, .int 9]), ("target", .tup [.int 0, .int 20000]), ("idle", .tup [.int 1, .int 2000])]
def cs : Cons := [("BINARY", c_BINARY), ("PUSHES", c_PUSHES), ("MOST_HEIGHT", c_MOST_HEIGHT), ("MOST_CODE", c_MOST_CODE)]
def tb : Tbls := [("POPS", t_POPS), ("FORMS", t_FORMS), ("BOUNDS", t_BOUNDS)]
def fa : List He.Fa := [.free "range", .free "tuple", .free "max", .free "len", .free "int", .free "abs", .glo "POPS", .free "isinstance", .free "all", .glo "FORMS", .free "bool", .glo "BOUNDS", .free "str", .cls "Labels", .noat "Labels" "seats", .noat "Labels" "everybody", .noat "Labels" "here", .noat "Labels" "variables", .noat "Labels" "stack", .noat "Labels" "opened", .glo "law", .glo "_law_draw", .glo "height_behind", .glo "heights_of", .glo "heights", .glo "opens_region", .glo "region", .glo "are_regions", .glo "has_word", .glo "is_within", .glo "is_counter", .glo "is_whos", .glo "is_zone", .glo "fits", .glo "is_instruction", .glo "is_code", .glo "everybody", .mkr "Labels", .glo "Labels", .glo "within", .meth "Labels" "fault", .glo "seat_of", .glo "place_of", .glo "readers", .glo "label_of_zone", .meth "Labels" "zone", .glo "counter_readers", .glo "name_of", .glo "label_of_counter", .glo "label_of", .glo "label_of_who", .glo "label_of_whos", .meth "Labels" "act", .meth "Labels" "push", .meth "Labels" "read", .meth "Labels" "quiet", .meth "Labels" "state", .glo "instruction_cost", .glo "part_costs", .glo "follow", .glo "verify"]
section
variable {P : Program} {w : World} {K : PySem.W.Frag} {mg : Str → Option Value} {base : Heap}
theorem sc__law_draw : FnScope ["state", "many", "place", "cell", "one", "two", "taken"] ["state", "many"] (defScope st__law_draw) := ⟨rfl, rfl, rfl, by decide +kernel, rfl, by decide +kernel, by decide +kernel⟩
/-- _law_draw(*state, many) -/
def b__law_draw : MS :=
    (mSeq (mIfS (mTest (mOp2 gLe (mPlP (pIdx (pName 0) (mC (.int 2)))) (mC (.int 0)))) (mSeq (mAsg (mPlP (pIdx (pName 0) (mC (.int 1)))) (mName 2))
    (mSeq (mStore (mOp2 gAdd (mVarF 2) (mC (.int 1))) (pName 0) (mC (.int 1)))
    (mSeq (mAsg (mOp2 gAdd (mOp2 gMul (mVarF 2) (mC (.int 7919))) (mC (.int 13))) (mName 3))
    (mSeq (mIfS (mTest (mOp2 gLt (mVarF 2) (mLenP (pIdx (pName 0) (mC (.int 0)))))) (mAsg (mPlP (pIdx (pIdx (pName 0) (mC (.int 0))) (mVarP 2))) (mName 3)) mNx)
    (mSeq (mIfS (mTest (mChain gLe gLt (mC (.int 0)) (mVarF 3) (mC (.int 1000000000000000000)))) (mSeq (mAsg (mOp2 gMod (mOpn (g1 gInt) (mCons (mOp2 gAdd (mOp2 gAdd (mOp2 gMul (mVarF 3) (mC (.int 48271))) (mOp2 gMul (mVarF 2) (mC (.int 69621)))) (mPlP (pIdx (pName 0) (mC (.int 3))))) mNil)) (mC (.int 2147483647))) (mName 4))
    (mSeq (mAsg (mOp2 gMod (mOpn (g1 gInt) (mCons (mOp2 gAdd (mOp2 gAdd (mOp2 gMul (mVarF 4) (mC (.int 16807))) (mVarF 3)) (mC (.int 11))) mNil)) (mC (.int 2147483629))) (mName 5))
    (mStore (mOp2 gAdd (mOp2 gMul (mVarF 4) (mC (.int 2147483629))) (mVarF 5)) (pName 0) (mC (.int 2))))) (mStore (mOpn (g1 gAbs) (mCons (mVarF 3) mNil)) (pName 0) (mC (.int 2))))
    (mStore (mOp2 gMod (mOpn (g1 gInt) (mCons (mOp2 gAdd (mOp2 gMul (mPlP (pIdx (pName 0) (mC (.int 3)))) (mC (.int 31))) (mVarF 3)) mNil)) (mC (.int 1000003))) (pName 0) (mC (.int 3)))))))) mNx)
    (mSeq (mAsg (mOp2 gMod (mOpn (g1 gInt) (mCons (mPlP (pIdx (pName 0) (mC (.int 2)))) mNil)) (mVarF 1)) (mName 6))
    (mSeq (mStore (mOp2 gFloor (mOpn (g1 gInt) (mCons (mPlP (pIdx (pName 0) (mC (.int 2)))) mNil)) (mVarF 1)) (pName 0) (mC (.int 2)))
    (mRet (mVarM 6)))))
def m__law_draw : MF := mFun 2 7 ((([2] ++ ([] ++ ([3] ++ (([3] ++ []) ++ ((([4] ++ ([5] ++ [])) ++ []) ++ []))))) ++ []) ++ ([6] ++ ([] ++ []))) b__law_draw
theorem cal__law_draw (Y : Yf fa fn tb cs w K mg) : Cal P w K mg base 1 "_law_draw" (spM K m__law_draw) := by
  obtain ⟨fd, Fd⟩ := Y.dfn 0 (d := d__law_draw)
  exact cal3 (N := ["state", "many", "place", "cell", "one", "two", "taken"]) Fd (Y.glo 21) sc__law_draw (fun _ _ _ _ _ _ us hl => match us, hl with | [_, _], _ => rfl) (fun cdv A outer s H E hr =>
    (s_cons (s_if (t_cmp c_le (e_plP (p_idx (hu_of hr) (p_var 0) e_int)) e_int) (s_cons (s_set 2 sc__law_draw.nd (e_plP (p_idx (hu_of hr) (p_var 0) e_int)))
    (s_cons (s_store (hu_of hr) (e_add (e_varF 2) e_int) (p_var 0) e_int)
    (s_cons (s_set 3 sc__law_draw.nd (e_add (e_mul (e_varF 2) e_int) e_int))
    (s_cons (s_if (t_cmp c_lt (e_varF 2) (e_lenP (Y.free 3) (p_idx (hu_of hr) (p_var 0) e_int))) (s_one (s_set 3 sc__law_draw.nd (e_plP (p_idx (hu_of hr) (p_idx (hu_of hr) (p_var 0) e_int) (e_var 2))))) s_nil)
    (s_cons (s_if (t_chain c_le c_lt e_int (e_varF 3) e_int) (s_cons (s_set 4 sc__law_draw.nd (e_mod (e_bty call_int1 f_int1 (Y.free 4) rfl (a_cons (e_add (e_add (e_mul (e_varF 3) e_int) (e_mul (e_varF 2) e_int)) (e_plP (p_idx (hu_of hr) (p_var 0) e_int))) a_nil)) e_int))
    (s_cons (s_set 5 sc__law_draw.nd (e_mod (e_bty call_int1 f_int1 (Y.free 4) rfl (a_cons (e_add (e_add (e_mul (e_varF 4) e_int) (e_varF 3)) e_int) a_nil)) e_int))
    (s_one (s_store (hu_of hr) (e_add (e_mul (e_varF 4) e_int) (e_varF 5)) (p_var 0) e_int)))) (s_one (s_store (hu_of hr) (e_blt call_abs f_abs (Y.free 5) rfl (a_cons (e_varF 3) a_nil)) (p_var 0) e_int)))
    (s_one (s_store (hu_of hr) (e_mod (e_bty call_int1 f_int1 (Y.free 4) rfl (a_cons (e_add (e_mul (e_plP (p_idx (hu_of hr) (p_var 0) e_int)) e_int) (e_varF 3)) a_nil)) e_int) (p_var 0) e_int))))))) s_nil)
    (s_cons (s_set 6 sc__law_draw.nd (e_mod (e_bty call_int1 f_int1 (Y.free 4) rfl (a_cons (e_plP (p_idx (hu_of hr) (p_var 0) e_int)) a_nil)) (e_varF 1)))
    (s_cons (s_store (hu_of hr) (e_floor (e_bty call_int1 f_int1 (Y.free 4) rfl (a_cons (e_plP (p_idx (hu_of hr) (p_var 0) e_int)) a_nil)) (e_varF 1)) (p_var 0) e_int)
    (s_one (s_ret (e_varM 6)))))))
theorem sc_height_behind : FnScope ["instruction", "height", "word"] ["instruction", "height"] (defScope st_height_behind) := ⟨rfl, rfl, rfl, by decide +kernel, rfl, by decide +kernel, by decide +kernel⟩
/-- height_behind(instruction, height) -/
def b_height_behind : MS :=
    (mSeq (mAsg (mPlP (pIdx (pName 0) (mC (.int 0)))) (mName 2))
    (mSeq (mAsg (mOp2 gSubI (mVarF 1) (mIf (mTest (mOp2 (gIn false) (mVarF 2) (mC c_BINARY))) (mC (.int 2)) (mTabGet t_POPS (mVarF 2) (mC (.int 0))))) (mName 1))
    (mSeq (mIfS (mTest (mOp2 gLt (mVarF 1) (mC (.int 0)))) (mRet (mC .non)) mNx)
    (mSeq (mIfS (mTest (mOp2 (gIn false) (mVarF 2) (mC c_PUSHES))) (mAsg (mOp2 gAdd (mVarF 1) (mC (.int 1))) (mName 1)) mNx)
    (mRet (mIf (mTest (mOp2 gLe (mVarF 1) (mC c_MOST_HEIGHT))) (mVarF 1) (mC .non)))))))
def m_height_behind : MF := mFun 2 3 ([2] ++ ([1] ++ (([] ++ []) ++ (([1] ++ []) ++ [])))) b_height_behind
theorem cal_height_behind (Y : Yf fa fn tb cs w K mg) : Cal P w K mg base 1 "height_behind" (spM K m_height_behind) := by
  obtain ⟨fd, Fd⟩ := Y.dfn 1 (d := d_height_behind)
  exact cal3 (N := ["instruction", "height", "word"]) Fd (Y.glo 22) sc_height_behind (fun _ _ _ _ _ _ us hl => match us, hl with | [_, _], _ => rfl) (fun cdv A outer s H E hr =>
    (s_cons (s_set 2 sc_height_behind.nd (e_plP (p_idx (hu_of hr) (p_var 0) e_int)))
    (s_cons (s_set 1 sc_height_behind.nd (e_sub (e_varF 1) (e_if (t_cmp c_in (e_varF 2) (e_con (Y.cn 0))) e_int (e_tabGet (Y.tbl 0) (Y.glo 6) (e_varF 2) e_int))))
    (s_cons (s_if (t_cmp c_lt (e_varF 1) e_int) (s_one (s_ret e_non)) s_nil)
    (s_cons (s_if (t_cmp c_in (e_varF 2) (e_con (Y.cn 1))) (s_one (s_set 1 sc_height_behind.nd (e_add (e_varF 1) e_int))) s_nil)
    (s_one (s_ret (e_if (t_cmp c_le (e_varF 1) (e_con (Y.cn 2))) (e_varF 1) e_non))))))))
theorem sc_heights_of : FnScope ["code", "found", "opened", "instruction", "height"] ["code"] (defScope st_heights_of) := ⟨rfl, rfl, rfl, by decide +kernel, rfl, by decide +kernel, by decide +kernel⟩
/-- heights_of(code) -/
def l_heights_of_1 : MS :=
    (mSeq (mAsg (mCallP m_height_behind (mCons (mVarF 3) (mCons (mPlP (pIdx (pName 1) (mOp1 gNeg (mC (.int 1))))) mNil))) (mName 4))
    (mSeq (mIfS (mTest (mOp2 gIs (mVarF 4) (mC .non))) (mRet (mC .non)) mNx)
    (mSeq (mIfS (mTest (mOp2 gEq (mPlP (pIdx (pName 3) (mC (.int 0)))) (mC (.str "unless")))) mDeadS (mIfS (mTest (mOp2 gEq (mPlP (pIdx (pName 3) (mC (.int 0)))) (mC (.str "jump")))) (mSeq mDeadS
    mDeadS) (mIfS (mTAnd (mTest (mOp2 gEq (mPlP (pIdx (pName 3) (mC (.int 0)))) (mC (.str "join")))) (mTest (mOp2 gNe (mItem (mPop (pName 2)) (mC (.int 1))) (mVarF 4)))) (mRet (mC .non)) mNx)))
    (mDrop (mAppP (pName 1) (mVarP 4))))))
def b_heights_of : MS :=
    (mSeq (mAsg (mLst (mCons (mC (.int 0)) mNil)) (mName 1))
    (mSeq (mAsg (mLst mNil) (mName 2))
    (mSeq (mFor (miSeq (mVarF 0)) (mName 3) l_heights_of_1)
    (mRet (mVarM 1)))))
def m_heights_of : MF := mFun 1 5 ([1] ++ ([2] ++ (([3] ++ ([4] ++ (([] ++ []) ++ (([] ++ (([] ++ []) ++ ([] ++ []))) ++ [])))) ++ []))) b_heights_of
theorem cal_heights_of (Y : Yf fa fn tb cs w K mg) : Cal P w K mg base 2 "heights_of" (spM K m_heights_of) := by
  obtain ⟨fd, Fd⟩ := Y.dfn 2 (d := d_heights_of)
  exact cal3 (N := ["code", "found", "opened", "instruction", "height"]) Fd (Y.glo 23) sc_heights_of (fun _ _ _ _ _ _ us hl => match us, hl with | [_], _ => rfl) (fun cdv A outer s H E hr =>
    (s_cons (s_set 1 sc_heights_of.nd (e_lst (a_cons e_int a_nil)))
    (s_cons (s_set 2 sc_heights_of.nd (e_lst a_nil))
    (s_cons (s_for PassesOwn.never rfl (i_seq (e_varF 0)) (g_name 3 sc_heights_of.nd) (s_cons (s_set 4 sc_heights_of.nd (e_callP (cal_height_behind Y) hr (a_cons (e_varF 3) (a_cons (e_plP (p_idx (hu_of hr) (p_var 1) (e_neg e_int))) a_nil))))
    (s_cons (s_if (t_cmp c_is (e_varF 4) e_non) (s_one (s_ret e_non)) s_nil)
    (s_cons (s_if (t_cmp (c_eq hr.units) (e_plP (p_idx (hu_of hr) (p_var 3) e_int)) e_str) (s_one s_dead) (s_one (s_if (t_cmp (c_eq hr.units) (e_plP (p_idx (hu_of hr) (p_var 3) e_int)) e_str) (s_cons s_dead
    (s_one s_dead)) (s_one (s_if (t_w (w_and (t_cmp (c_eq hr.units) (e_plP (p_idx (hu_of hr) (p_var 3) e_int)) e_str) (w_and1 (t_cmp (c_ne hr.units) (e_item (hu_of hr) (e_pop (p_var 2)) e_int) (e_varF 4))))) (s_one (s_ret e_non)) s_nil)))))
    (s_one (s_expr (e_appP (p_var 1) (e_var 4))))))))
    (s_one (s_ret (e_varM 1)))))))
theorem sc_heights : FnScope ["code"] ["code"] (defScope st_heights) := ⟨rfl, rfl, rfl, by decide +kernel, rfl, by decide +kernel, by decide +kernel⟩
/-- heights(code) -/
def b_heights : MS :=
    (mRet (mCallP m_heights_of (mCons (mVarF 0) mNil)))
def m_heights : MF := mFun 1 1 [] b_heights
theorem cal_heights (Y : Yf fa fn tb cs w K mg) : Cal P w K mg base 3 "heights" (spM K m_heights) := by
  obtain ⟨fd, Fd⟩ := Y.dfn 3 (d := d_heights)
  exact cal3 (N := ["code"]) Fd (Y.glo 24) sc_heights (fun _ _ _ _ _ _ us hl => match us, hl with | [_], _ => rfl) (fun cdv A outer s H E hr =>
    (s_one (s_ret (e_callP (cal_heights_of Y) hr (a_cons (e_varF 0) a_nil)))))
theorem sc_opens_region : FnScope ["code", "place", "last", "target", "end"] ["code", "place", "last"] (defScope st_opens_region) := ⟨rfl, rfl, rfl, by decide +kernel, rfl, by decide +kernel, by decide +kernel⟩
/-- opens_region(code, place, last) -/
def b_opens_region : MS :=
    (mSeq (mAsg (mPlP (pIdx (pIdx (pName 0) (mVarP 1)) (mC (.int 1)))) (mName 3))
    (mSeq (mIfS (mTOr (mTNot (mTest (mChain gLt gLe (mOp2 gAdd (mVarF 1) (mC (.int 1))) (mVarF 3) (mLenP (pName 0))))) (mTest (mOp2 gNe (mPlP (pIdx (pIdx (pName 0) (mOp2 gSubI (mVarP 3) (mC (.int 1)))) (mC (.int 0)))) (mC (.str "jump"))))) (mRet (mC (.bl false))) mNx)
    (mSeq (mAsg (mPlP (pIdx (pIdx (pName 0) (mOp2 gSubI (mVarP 3) (mC (.int 1)))) (mC (.int 1)))) (mName 4))
    (mRet (mAnd (mChain gLe gLe (mVarF 3) (mVarF 4) (mVarF 2)) (mOp2 gEq (mPlP (pIdx (pIdx (pName 0) (mVarP 4)) (mC (.int 0)))) (mC (.str "join"))))))))
def m_opens_region : MF := mFun 3 5 ([3] ++ (([] ++ []) ++ ([4] ++ []))) b_opens_region
theorem cal_opens_region (Y : Yf fa fn tb cs w K mg) : Cal P w K mg base 1 "opens_region" (spM K m_opens_region) := by
  obtain ⟨fd, Fd⟩ := Y.dfn 4 (d := d_opens_region)
  exact cal3 (N := ["code", "place", "last", "target", "end"]) Fd (Y.glo 25) sc_opens_region (fun _ _ _ _ _ _ us hl => match us, hl with | [_, _, _], _ => rfl) (fun cdv A outer s H E hr =>
    (s_cons (s_set 3 sc_opens_region.nd (e_plP (p_idx (hu_of hr) (p_idx (hu_of hr) (p_var 0) (e_var 1)) e_int)))
    (s_cons (s_if (t_w (w_or (t_not (t_chain c_lt c_le (e_add (e_varF 1) e_int) (e_varF 3) (e_lenP (Y.free 3) (p_var 0)))) (w_or1 (t_cmp (c_ne hr.units) (e_plP (p_idx (hu_of hr) (p_idx (hu_of hr) (p_var 0) (e_sub (e_var 3) e_int)) e_int)) e_str)))) (s_one (s_ret e_bl)) s_nil)
    (s_cons (s_set 4 sc_opens_region.nd (e_plP (p_idx (hu_of hr) (p_idx (hu_of hr) (p_var 0) (e_sub (e_var 3) e_int)) e_int)))
    (s_one (s_ret (e_and (e_chain c_le c_le (e_varF 3) (e_varF 4) (e_varF 2)) (e_one (e_cmp (c_eq hr.units) (e_plP (p_idx (hu_of hr) (p_idx (hu_of hr) (p_var 0) (e_var 4)) e_int)) e_str)))))))))
theorem sc_region : FnScope ["code", "place", "target"] ["code", "place"] (defScope st_region) := ⟨rfl, rfl, rfl, by decide +kernel, rfl, by decide +kernel, by decide +kernel⟩
/-- region(code, place) -/
def b_region : MS :=
    (mSeq (mAsg (mPlP (pIdx (pIdx (pName 0) (mVarP 1)) (mC (.int 1)))) (mName 2))
    (mRet (mTup (mCons (mVarF 2) (mCons (mPlP (pIdx (pIdx (pName 0) (mOp2 gSubI (mVarP 2) (mC (.int 1)))) (mC (.int 1)))) mNil)))))
def m_region : MF := mFun 2 3 ([2] ++ []) b_region
theorem cal_region (Y : Yf fa fn tb cs w K mg) : Cal P w K mg base 1 "region" (spM K m_region) := by
  obtain ⟨fd, Fd⟩ := Y.dfn 5 (d := d_region)
  exact cal3 (N := ["code", "place", "target"]) Fd (Y.glo 26) sc_region (fun _ _ _ _ _ _ us hl => match us, hl with | [_, _], _ => rfl) (fun cdv A outer s H E hr =>
    (s_cons (s_set 2 sc_region.nd (e_plP (p_idx (hu_of hr) (p_idx (hu_of hr) (p_var 0) (e_var 1)) e_int)))
    (s_one (s_ret (e_tup (a_cons (e_varF 2) (a_cons (e_plP (p_idx (hu_of hr) (p_idx (hu_of hr) (p_var 0) (e_sub (e_var 2) e_int)) e_int)) a_nil)))))))
theorem sc_are_regions : FnScope ["code", "opened", "place", "word", "last", "target", "end"] ["code"] (defScope st_are_regions) := ⟨rfl, rfl, rfl, by decide +kernel, rfl, by decide +kernel, by decide +kernel⟩
/-- are_regions(code) -/
def l_are_regions_1 : MS :=
    (mSeq (mAsg (mPlP (pIdx (pIdx (pName 0) (mVarP 2)) (mC (.int 0)))) (mName 3))
    (mSeq (mAsg (mOp2 gSubI (mLenP (pName 0)) (mC (.int 1))) (mName 4))
    (mSeq (mIfS (mTruthP (pName 1)) (mSeq (mAsg (mCallP m_region (mCons (mVarF 0) (mCons (mPlP (pIdx (pName 1) (mOp1 gNeg (mC (.int 1))))) mNil))) (mgTup 2 (mgCons (mName 5) (mgCons (mName 6) mgNil))))
    (mAsg (mIf (mTest (mOp2 gLt (mVarF 2) (mVarF 5))) (mOp2 gSubI (mVarF 5) (mC (.int 2))) (mOp2 gSubI (mVarF 6) (mC (.int 1)))) (mName 4))) mNx)
    (mIfS (mTest (mOp2 gEq (mVarF 3) (mC (.str "unless")))) (mSeq (mIfS (mTNot (mTruth (mCallP m_opens_region (mCons (mVarF 0) (mCons (mVarF 2) (mCons (mVarF 4) mNil)))))) (mRet (mC (.bl false))) mNx)
    (mDrop (mAppP (pName 1) (mVarP 2)))) (mIfS (mTest (mOp2 gEq (mVarF 3) (mC (.str "jump")))) (mIfS (mTOr (mTNot (mTruthP (pName 1))) (mTest (mOp2 gNe (mVarF 2) (mOp2 gSubI (mItem (mCallP m_region (mCons (mVarF 0) (mCons (mPlP (pIdx (pName 1) (mOp1 gNeg (mC (.int 1))))) mNil))) (mC (.int 0))) (mC (.int 1)))))) (mRet (mC (.bl false))) mNx) (mIfS (mTest (mOp2 gEq (mVarF 3) (mC (.str "join")))) (mSeq (mIfS (mTOr (mTNot (mTruthP (pName 1))) (mTest (mOp2 gNe (mVarF 2) (mItem (mCallP m_region (mCons (mVarF 0) (mCons (mPlP (pIdx (pName 1) (mOp1 gNeg (mC (.int 1))))) mNil))) (mC (.int 1)))))) (mRet (mC (.bl false))) mNx)
    (mDrop (mPop (pName 1)))) mNx))))))
def b_are_regions : MS :=
    (mSeq (mAsg (mLst mNil) (mName 1))
    (mSeq (mFor (miRng1 (mLenP (pName 0))) (mName 2) l_are_regions_1)
    (mRet (mNotE (mTruthP (pName 1))))))
def m_are_regions : MF := mFun 1 7 ([1] ++ (([2] ++ ([3] ++ ([4] ++ (((([5] ++ ([6] ++ [])) ++ [4]) ++ []) ++ ((([] ++ []) ++ []) ++ (([] ++ []) ++ ((([] ++ []) ++ []) ++ []))))))) ++ [])) b_are_regions
theorem cal_are_regions (Y : Yf fa fn tb cs w K mg) : Cal P w K mg base 2 "are_regions" (spM K m_are_regions) := by
  obtain ⟨fd, Fd⟩ := Y.dfn 6 (d := d_are_regions)
  exact cal3 (N := ["code", "opened", "place", "word", "last", "target", "end"]) Fd (Y.glo 27) sc_are_regions (fun _ _ _ _ _ _ us hl => match us, hl with | [_], _ => rfl) (fun cdv A outer s H E hr =>
    (s_cons (s_set 1 sc_are_regions.nd (e_lst a_nil))
    (s_cons (s_for PassesOwn.never rfl (i_rng1 (Y.free 0) (e_lenP (Y.free 3) (p_var 0))) (g_name 2 sc_are_regions.nd) (s_cons (s_set 3 sc_are_regions.nd (e_plP (p_idx (hu_of hr) (p_idx (hu_of hr) (p_var 0) (e_var 2)) e_int)))
    (s_cons (s_set 4 sc_are_regions.nd (e_sub (e_lenP (Y.free 3) (p_var 0)) e_int))
    (s_cons (s_if (t_truthP (p_var 1)) (s_cons (s_asg (e_callP (cal_region Y) hr (a_cons (e_varF 0) (a_cons (e_plP (p_idx (hu_of hr) (p_var 1) (e_neg e_int))) a_nil))) (g_tup rfl (gs_cons (g_name 5 sc_are_regions.nd) (gs_cons (g_name 6 sc_are_regions.nd) gs_nil))))
    (s_one (s_set 4 sc_are_regions.nd (e_if (t_cmp c_lt (e_varF 2) (e_varF 5)) (e_sub (e_varF 5) e_int) (e_sub (e_varF 6) e_int))))) s_nil)
    (s_one (s_if (t_cmp (c_eq hr.units) (e_varF 3) e_str) (s_cons (s_if (t_not (t_val (e_callP (cal_opens_region Y) hr (a_cons (e_varF 0) (a_cons (e_varF 2) (a_cons (e_varF 4) a_nil)))))) (s_one (s_ret e_bl)) s_nil)
    (s_one (s_expr (e_appP (p_var 1) (e_var 2))))) (s_one (s_if (t_cmp (c_eq hr.units) (e_varF 3) e_str) (s_one (s_if (t_w (w_or (t_not (t_truthP (p_var 1))) (w_or1 (t_cmp (c_ne hr.units) (e_varF 2) (e_sub (e_item (hu_of hr) (e_callP (cal_region Y) hr (a_cons (e_varF 0) (a_cons (e_plP (p_idx (hu_of hr) (p_var 1) (e_neg e_int))) a_nil))) e_int) e_int))))) (s_one (s_ret e_bl)) s_nil)) (s_one (s_if (t_cmp (c_eq hr.units) (e_varF 3) e_str) (s_cons (s_if (t_w (w_or (t_not (t_truthP (p_var 1))) (w_or1 (t_cmp (c_ne hr.units) (e_varF 2) (e_item (hu_of hr) (e_callP (cal_region Y) hr (a_cons (e_varF 0) (a_cons (e_plP (p_idx (hu_of hr) (p_var 1) (e_neg e_int))) a_nil))) e_int))))) (s_one (s_ret e_bl)) s_nil)
    (s_one (s_expr (e_pop (p_var 1))))) s_nil))))))))))
    (s_one (s_ret (e_notP (p_var 1)))))))
theorem sc_has_word : FnScope ["value"] ["value"] (defScope st_has_word) := ⟨rfl, rfl, rfl, by decide +kernel, rfl, by decide +kernel, by decide +kernel⟩
/-- has_word(value) -/
def b_has_word : MS :=
    (mRet (mAnd (mOpn (g2 gIsi) (mCons (mVarF 0) (mCons (mC (.ty "tuple")) mNil))) (mAnd (mOp2 gGt (mLenP (pName 0)) (mC (.int 0))) (mOpn (g2 gIsi) (mCons (mPlP (pIdx (pName 0) (mC (.int 0)))) (mCons (mC (.ty "str")) mNil))))))
def m_has_word : MF := mFun 1 1 [] b_has_word
theorem cal_has_word (Y : Yf fa fn tb cs w K mg) : Cal P w K mg base 1 "has_word" (spM K m_has_word) := by
  obtain ⟨fd, Fd⟩ := Y.dfn 7 (d := d_has_word)
  exact cal3 (N := ["value"]) Fd (Y.glo 28) sc_has_word (fun _ _ _ _ _ _ us hl => match us, hl with | [_], _ => rfl) (fun cdv A outer s H E hr =>
    (s_one (s_ret (e_and (e_blt call_isi f_isi (Y.free 7) rfl (a_cons (e_varF 0) (a_cons (e_ty (Y.free 1) rfl) a_nil))) (e_and (e_cmp c_gt (e_lenP (Y.free 3) (p_var 0)) e_int) (e_one (e_blt call_isi f_isi (Y.free 7) rfl (a_cons (e_plP (p_idx (hu_of hr) (p_var 0) e_int)) (a_cons (e_ty (Y.free 12) rfl) a_nil)))))))))
theorem sc_is_within : FnScope ["value", "low", "high"] ["value", "low", "high"] (defScope st_is_within) := ⟨rfl, rfl, rfl, by decide +kernel, rfl, by decide +kernel, by decide +kernel⟩
/-- is_within(value, low, high) -/
def b_is_within : MS :=
    (mRet (mAnd (mOpn (g2 gIsi) (mCons (mVarF 0) (mCons (mC (.ty "int")) mNil))) (mAnd (mNotE (mTruth (mOpn (g2 gIsi) (mCons (mVarF 0) (mCons (mC (.ty "bool")) mNil))))) (mChain gLe gLe (mVarF 1) (mVarF 0) (mVarF 2)))))
def m_is_within : MF := mFun 3 3 [] b_is_within
theorem cal_is_within (Y : Yf fa fn tb cs w K mg) : Cal P w K mg base 1 "is_within" (spM K m_is_within) := by
  obtain ⟨fd, Fd⟩ := Y.dfn 8 (d := d_is_within)
  exact cal3 (N := ["value", "low", "high"]) Fd (Y.glo 29) sc_is_within (fun _ _ _ _ _ _ us hl => match us, hl with | [_, _, _], _ => rfl) (fun cdv A outer s H E hr =>
    (s_one (s_ret (e_and (e_blt call_isi f_isi (Y.free 7) rfl (a_cons (e_varF 0) (a_cons (e_ty (Y.free 4) rfl) a_nil))) (e_and (e_notV (e_blt call_isi f_isi (Y.free 7) rfl (a_cons (e_varF 0) (a_cons (e_ty (Y.free 10) rfl) a_nil)))) (e_one (e_chain c_le c_le (e_varF 1) (e_varF 0) (e_varF 2))))))))
theorem sc_is_counter : FnScope ["value"] ["value"] (defScope st_is_counter) := ⟨rfl, rfl, rfl, by decide +kernel, rfl, by decide +kernel, by decide +kernel⟩
/-- is_counter(value) -/
def b_is_counter : MS :=
    (mSeq (mIfS (mTNot (mTruth (mCallP m_has_word (mCons (mVarF 0) mNil)))) (mRet (mC (.bl false))) mNx)
    (mSeq (mIfS (mTest (mOp2 gEq (mPlP (pIdx (pName 0) (mC (.int 0)))) (mC (.str "common")))) (mRet (mAnd (mOp2 gEq (mLenP (pName 0)) (mC (.int 2))) (mCallP m_is_within (mCons (mPlP (pIdx (pName 0) (mC (.int 1)))) (mCons (mC (.int 0)) (mCons (mC (.int 1)) mNil)))))) mNx)
    (mSeq (mIfS (mTOr (mTest (mOp2 (gIn true) (mPlP (pIdx (pName 0) (mC (.int 0)))) (mTup (mCons (mC (.str "open")) (mCons (mC (.str "secret")) mNil))))) (mTOr (mTest (mOp2 gNe (mLenP (pName 0)) (mC (.int 3)))) (mTNot (mTruth (mCallP m_is_within (mCons (mPlP (pIdx (pName 0) (mC (.int 2)))) (mCons (mC (.int 0)) (mCons (mC (.int 3)) mNil)))))))) (mRet (mC (.bl false))) mNx)
    (mRet (mCallP m_is_within (mCons (mPlP (pIdx (pName 0) (mC (.int 1)))) (mCons (mC (.int 0)) (mCons (mIf (mTest (mOp2 gEq (mPlP (pIdx (pName 0) (mC (.int 0)))) (mC (.str "open")))) (mC (.int 2)) (mC (.int 1))) mNil))))))))
def m_is_counter : MF := mFun 1 1 (([] ++ []) ++ (([] ++ []) ++ (([] ++ []) ++ []))) b_is_counter
theorem cal_is_counter (Y : Yf fa fn tb cs w K mg) : Cal P w K mg base 2 "is_counter" (spM K m_is_counter) := by
  obtain ⟨fd, Fd⟩ := Y.dfn 9 (d := d_is_counter)
  exact cal3 (N := ["value"]) Fd (Y.glo 30) sc_is_counter (fun _ _ _ _ _ _ us hl => match us, hl with | [_], _ => rfl) (fun cdv A outer s H E hr =>
    (s_cons (s_if (t_not (t_val (e_callP (cal_has_word Y) hr (a_cons (e_varF 0) a_nil)))) (s_one (s_ret e_bl)) s_nil)
    (s_cons (s_if (t_cmp (c_eq hr.units) (e_plP (p_idx (hu_of hr) (p_var 0) e_int)) e_str) (s_one (s_ret (e_and (e_cmp (c_eq hr.units) (e_lenP (Y.free 3) (p_var 0)) e_int) (e_one (e_callP (cal_is_within Y) hr (a_cons (e_plP (p_idx (hu_of hr) (p_var 0) e_int)) (a_cons e_int (a_cons e_int a_nil)))))))) s_nil)
    (s_cons (s_if (t_w (w_or (t_cmp c_nin (e_plP (p_idx (hu_of hr) (p_var 0) e_int)) (e_tup (a_cons e_str (a_cons e_str a_nil)))) (w_or (t_cmp (c_ne hr.units) (e_lenP (Y.free 3) (p_var 0)) e_int) (w_or1 (t_not (t_val (e_callP (cal_is_within Y) hr (a_cons (e_plP (p_idx (hu_of hr) (p_var 0) e_int)) (a_cons e_int (a_cons e_int a_nil)))))))))) (s_one (s_ret e_bl)) s_nil)
    (s_one (s_ret (e_callP (cal_is_within Y) hr (a_cons (e_plP (p_idx (hu_of hr) (p_var 0) e_int)) (a_cons e_int (a_cons (e_if (t_cmp (c_eq hr.units) (e_plP (p_idx (hu_of hr) (p_var 0) e_int)) e_str) e_int e_int) a_nil))))))))))
theorem sc_is_whos : FnScope ["value", "k", "who"] ["value"] (defScope st_is_whos) := ⟨rfl, rfl, rfl, by decide +kernel, rfl, by decide +kernel, by decide +kernel⟩
/-- is_whos(value) -/
def b_is_whos : MS :=
    (mSeq (mIfS (mTOr (mTNot (mTruth (mOpn (g2 gIsi) (mCons (mVarF 0) (mCons (mC (.ty "tuple")) mNil))))) (mTest (mOp2 gEq (mLenP (pName 0)) (mC (.int 0))))) (mRet (mC (.bl false))) mNx)
    (mSeq (mIfS (mTNot (mTruth (mOpn (g1 gAll) (mCons (mLc (miSeq (mVarF 0)) (mName 2) mYes (mCallP m_is_within (mCons (mVarP 2) (mCons (mC (.int 0)) (mCons (mC (.int 3)) mNil)))) (([("who", 2)] : List (Str × Nat)).map (·.2))) mNil)))) (mRet (mC (.bl false))) mNx)
    (mRet (mOpn (g1 gAll) (mCons (mLc (miRng1 (mOp2 gSubI (mLenP (pName 0)) (mC (.int 1)))) (mName 1) mYes (mOp2 gLt (mPlP (pIdx (pName 0) (mVarP 1))) (mPlP (pIdx (pName 0) (mOp2 gAdd (mVarP 1) (mC (.int 1)))))) (([("k", 1)] : List (Str × Nat)).map (·.2))) mNil)))))
def m_is_whos : MF := mFun 1 3 (([] ++ []) ++ (([] ++ []) ++ [])) b_is_whos
theorem cal_is_whos (Y : Yf fa fn tb cs w K mg) : Cal P w K mg base 2 "is_whos" (spM K m_is_whos) := by
  obtain ⟨fd, Fd⟩ := Y.dfn 10 (d := d_is_whos)
  exact cal3 (N := ["value", "k", "who"]) Fd (Y.glo 31) sc_is_whos (fun _ _ _ _ _ _ us hl => match us, hl with | [_], _ => rfl) (fun cdv A outer s H E hr =>
    (s_cons (s_if (t_w (w_or (t_not (t_val (e_blt call_isi f_isi (Y.free 7) rfl (a_cons (e_varF 0) (a_cons (e_ty (Y.free 1) rfl) a_nil))))) (w_or1 (t_cmp (c_eq hr.units) (e_lenP (Y.free 3) (p_var 0)) e_int)))) (s_one (s_ret e_bl)) s_nil)
    (s_cons (s_if (t_not (t_val (e_blt (cr_all rfl) f_all (Y.free 8) rfl (a_cons (e_lc4 [("who", 2)] rfl sc_is_whos.nd (i_seq (e_varF 0)) (blkOk_by (N := ["value", "k", "who"]) (sc := defScope st_is_whos) (by decide +kernel)) (fun _ _ _ _ _ => ⟨_, (g_name 2 sc_is_whos.nd)⟩) (by intro i h; simpa using h) (fun _ _ _ _ _ => ⟨_, ts_nil⟩) (fun _ _ _ _ _ => ⟨_, (e_callP (cal_is_within Y) hr (a_cons (e_var 2) (a_cons e_int (a_cons e_int a_nil))))⟩)) a_nil)))) (s_one (s_ret e_bl)) s_nil)
    (s_one (s_ret (e_blt (cr_all rfl) f_all (Y.free 8) rfl (a_cons (e_lc4 [("k", 1)] rfl sc_is_whos.nd (i_rng1 (Y.free 0) (e_sub (e_lenP (Y.free 3) (p_var 0)) e_int)) (blkOk_by (N := ["value", "k", "who"]) (sc := defScope st_is_whos) (by decide +kernel)) (fun _ _ _ _ _ => ⟨_, (g_name 1 sc_is_whos.nd)⟩) (by intro i h; simpa using h) (fun _ _ _ _ _ => ⟨_, ts_nil⟩) (fun _ _ _ _ _ => ⟨_, (e_cmp c_lt (e_plP (p_idx (hu_of hr) (p_var 0) (e_var 1))) (e_plP (p_idx (hu_of hr) (p_var 0) (e_add (e_var 1) e_int))))⟩)) a_nil)))))))
theorem sc_is_zone : FnScope ["value"] ["value"] (defScope st_is_zone) := ⟨rfl, rfl, rfl, by decide +kernel, rfl, by decide +kernel, by decide +kernel⟩
/-- is_zone(value) -/
def b_is_zone : MS :=
    (mSeq (mIfS (mTNot (mTruth (mCallP m_has_word (mCons (mVarF 0) mNil)))) (mRet (mC (.bl false))) mNx)
    (mSeq (mIfS (mTest (mOp2 (gIn false) (mPlP (pIdx (pName 0) (mC (.int 0)))) (mTup (mCons (mC (.str "deck")) (mCons (mC (.str "heap")) mNil))))) (mRet (mOp2 gEq (mLenP (pName 0)) (mC (.int 1)))) mNx)
    (mRet (mAnd (mOp2 (gIn false) (mPlP (pIdx (pName 0) (mC (.int 0)))) (mTup (mCons (mC (.str "hand")) (mCons (mC (.str "dark")) (mCons (mC (.str "row")) mNil))))) (mAnd (mOp2 gEq (mLenP (pName 0)) (mC (.int 2))) (mCallP m_is_within (mCons (mPlP (pIdx (pName 0) (mC (.int 1)))) (mCons (mC (.int 0)) (mCons (mC (.int 3)) mNil)))))))))
def m_is_zone : MF := mFun 1 1 (([] ++ []) ++ (([] ++ []) ++ [])) b_is_zone
theorem cal_is_zone (Y : Yf fa fn tb cs w K mg) : Cal P w K mg base 2 "is_zone" (spM K m_is_zone) := by
  obtain ⟨fd, Fd⟩ := Y.dfn 11 (d := d_is_zone)
  exact cal3 (N := ["value"]) Fd (Y.glo 32) sc_is_zone (fun _ _ _ _ _ _ us hl => match us, hl with | [_], _ => rfl) (fun cdv A outer s H E hr =>
    (s_cons (s_if (t_not (t_val (e_callP (cal_has_word Y) hr (a_cons (e_varF 0) a_nil)))) (s_one (s_ret e_bl)) s_nil)
    (s_cons (s_if (t_cmp c_in (e_plP (p_idx (hu_of hr) (p_var 0) e_int)) (e_tup (a_cons e_str (a_cons e_str a_nil)))) (s_one (s_ret (e_cmp (c_eq hr.units) (e_lenP (Y.free 3) (p_var 0)) e_int))) s_nil)
    (s_one (s_ret (e_and (e_cmp c_in (e_plP (p_idx (hu_of hr) (p_var 0) e_int)) (e_tup (a_cons e_str (a_cons e_str (a_cons e_str a_nil))))) (e_and (e_cmp (c_eq hr.units) (e_lenP (Y.free 3) (p_var 0)) e_int) (e_one (e_callP (cal_is_within Y) hr (a_cons (e_plP (p_idx (hu_of hr) (p_var 0) e_int)) (a_cons e_int (a_cons e_int a_nil))))))))))))
theorem sc_fits : FnScope ["part", "value", "low", "high"] ["part", "value"] (defScope st_fits) := ⟨rfl, rfl, rfl, by decide +kernel, rfl, by decide +kernel, by decide +kernel⟩
/-- fits(part, value) -/
def b_fits : MS :=
    (mSeq (mIfS (mTest (mOp2 gEq (mVarF 0) (mC (.str "zone")))) (mRet (mCallP m_is_zone (mCons (mVarF 1) mNil))) mNx)
    (mSeq (mIfS (mTest (mOp2 gEq (mVarF 0) (mC (.str "counter")))) (mRet (mCallP m_is_counter (mCons (mVarF 1) mNil))) mNx)
    (mSeq (mIfS (mTest (mOp2 gEq (mVarF 0) (mC (.str "whos")))) (mRet (mCallP m_is_whos (mCons (mVarF 1) mNil))) mNx)
    (mSeq (mIfS (mTest (mOp2 gEq (mVarF 0) (mC (.str "truth")))) (mRet (mOpn (g2 gIsi) (mCons (mVarF 1) (mCons (mC (.ty "bool")) mNil)))) mNx)
    (mSeq (mAsg (mTab t_BOUNDS (mVarF 0)) (mgTup 2 (mgCons (mName 2) (mgCons (mName 3) mgNil))))
    (mRet (mCallP m_is_within (mCons (mVarF 1) (mCons (mVarF 2) (mCons (mVarF 3) mNil))))))))))
def m_fits : MF := mFun 2 4 (([] ++ []) ++ (([] ++ []) ++ (([] ++ []) ++ (([] ++ []) ++ (([2] ++ ([3] ++ [])) ++ []))))) b_fits
theorem cal_fits (Y : Yf fa fn tb cs w K mg) : Cal P w K mg base 3 "fits" (spM K m_fits) := by
  obtain ⟨fd, Fd⟩ := Y.dfn 12 (d := d_fits)
  exact cal3 (N := ["part", "value", "low", "high"]) Fd (Y.glo 33) sc_fits (fun _ _ _ _ _ _ us hl => match us, hl with | [_, _], _ => rfl) (fun cdv A outer s H E hr =>
    (s_cons (s_if (t_cmp (c_eq hr.units) (e_varF 0) e_str) (s_one (s_ret (e_callP (cal_is_zone Y) hr (a_cons (e_varF 1) a_nil)))) s_nil)
    (s_cons (s_if (t_cmp (c_eq hr.units) (e_varF 0) e_str) (s_one (s_ret (e_callP (cal_is_counter Y) hr (a_cons (e_varF 1) a_nil)))) s_nil)
    (s_cons (s_if (t_cmp (c_eq hr.units) (e_varF 0) e_str) (s_one (s_ret (e_callP (cal_is_whos Y) hr (a_cons (e_varF 1) a_nil)))) s_nil)
    (s_cons (s_if (t_cmp (c_eq hr.units) (e_varF 0) e_str) (s_one (s_ret (e_blt call_isi f_isi (Y.free 7) rfl (a_cons (e_varF 1) (a_cons (e_ty (Y.free 10) rfl) a_nil))))) s_nil)
    (s_cons (s_asg (e_tab (Y.tbl 2) (Y.glo 11) (e_varF 0)) (g_tup rfl (gs_cons (g_name 2 sc_fits.nd) (gs_cons (g_name 3 sc_fits.nd) gs_nil))))
    (s_one (s_ret (e_callP (cal_is_within Y) hr (a_cons (e_varF 1) (a_cons (e_varF 2) (a_cons (e_varF 3) a_nil))))))))))))
theorem sc_is_instruction : FnScope ["value", "form", "k"] ["value"] (defScope st_is_instruction) := ⟨rfl, rfl, rfl, by decide +kernel, rfl, by decide +kernel, by decide +kernel⟩
/-- is_instruction(value) -/
def b_is_instruction : MS :=
    (mSeq (mIfS (mTNot (mTruth (mCallP m_has_word (mCons (mVarF 0) mNil)))) (mRet (mC (.bl false))) mNx)
    (mSeq (mIfS (mTest (mOp2 (gIn false) (mPlP (pIdx (pName 0) (mC (.int 0)))) (mC c_BINARY))) (mRet (mOp2 gEq (mLenP (pName 0)) (mC (.int 1)))) mNx)
    (mSeq (mIfS (mTest (mInTab true t_FORMS (mPlP (pIdx (pName 0) (mC (.int 0)))))) (mRet (mC (.bl false))) mNx)
    (mSeq (mAsg (mTab t_FORMS (mPlP (pIdx (pName 0) (mC (.int 0))))) (mName 1))
    (mRet (mAnd (mOp2 gEq (mLenP (pName 0)) (mOp2 gAdd (mLenP (pName 1)) (mC (.int 1)))) (mOpn (g1 gAll) (mCons (mLc (miRng1 (mLenP (pName 1))) (mName 2) mYes (mCallP m_fits (mCons (mPlP (pIdx (pName 1) (mVarP 2))) (mCons (mPlP (pIdx (pName 0) (mOp2 gAdd (mVarP 2) (mC (.int 1))))) mNil))) (([("k", 2)] : List (Str × Nat)).map (·.2))) mNil))))))))
def m_is_instruction : MF := mFun 1 3 (([] ++ []) ++ (([] ++ []) ++ (([] ++ []) ++ ([1] ++ [])))) b_is_instruction
theorem cal_is_instruction (Y : Yf fa fn tb cs w K mg) : Cal P w K mg base 4 "is_instruction" (spM K m_is_instruction) := by
  obtain ⟨fd, Fd⟩ := Y.dfn 13 (d := d_is_instruction)
  exact cal3 (N := ["value", "form", "k"]) Fd (Y.glo 34) sc_is_instruction (fun _ _ _ _ _ _ us hl => match us, hl with | [_], _ => rfl) (fun cdv A outer s H E hr =>
    (s_cons (s_if (t_not (t_val (e_callP (cal_has_word Y) hr (a_cons (e_varF 0) a_nil)))) (s_one (s_ret e_bl)) s_nil)
    (s_cons (s_if (t_cmp c_in (e_plP (p_idx (hu_of hr) (p_var 0) e_int)) (e_con (Y.cn 0))) (s_one (s_ret (e_cmp (c_eq hr.units) (e_lenP (Y.free 3) (p_var 0)) e_int))) s_nil)
    (s_cons (s_if (t_ninTab (Y.tbl 1) (Y.glo 9) (e_plP (p_idx (hu_of hr) (p_var 0) e_int))) (s_one (s_ret e_bl)) s_nil)
    (s_cons (s_set 1 sc_is_instruction.nd (e_tab (Y.tbl 1) (Y.glo 9) (e_plP (p_idx (hu_of hr) (p_var 0) e_int))))
    (s_one (s_ret (e_and (e_cmp (c_eq hr.units) (e_lenP (Y.free 3) (p_var 0)) (e_add (e_lenP (Y.free 3) (p_var 1)) e_int)) (e_one (e_blt (cr_all rfl) f_all (Y.free 8) rfl (a_cons (e_lc4 [("k", 2)] rfl sc_is_instruction.nd (i_rng1 (Y.free 0) (e_lenP (Y.free 3) (p_var 1))) (blkOk_by (N := ["value", "form", "k"]) (sc := defScope st_is_instruction) (by decide +kernel)) (fun _ _ _ _ _ => ⟨_, (g_name 2 sc_is_instruction.nd)⟩) (by intro i h; simpa using h) (fun _ _ _ _ _ => ⟨_, ts_nil⟩) (fun _ _ _ _ _ => ⟨_, (e_callP (cal_fits Y) hr (a_cons (e_plP (p_idx (hu_of hr) (p_var 1) (e_var 2))) (a_cons (e_plP (p_idx (hu_of hr) (p_var 0) (e_add (e_var 2) e_int))) a_nil)))⟩)) a_nil)))))))))))
theorem sc_is_code : FnScope ["value", "found", "instruction"] ["value"] (defScope st_is_code) := ⟨rfl, rfl, rfl, by decide +kernel, rfl, by decide +kernel, by decide +kernel⟩
/-- is_code(value) -/
def b_is_code : MS :=
    (mSeq (mIfS (mTOr (mTNot (mTruth (mOpn (g2 gIsi) (mCons (mVarF 0) (mCons (mC (.ty "tuple")) mNil))))) (mTest (mOp2 gGt (mLenP (pName 0)) (mC c_MOST_CODE)))) (mRet (mC (.bl false))) mNx)
    (mSeq (mIfS (mTOr (mTNot (mTruth (mOpn (g1 gAll) (mCons (mLc (miSeq (mVarF 0)) (mName 2) mYes (mCallP m_is_instruction (mCons (mVarP 2) mNil)) (([("instruction", 2)] : List (Str × Nat)).map (·.2))) mNil)))) (mTNot (mTruth (mCallP m_are_regions (mCons (mVarF 0) mNil))))) (mRet (mC (.bl false))) mNx)
    (mSeq (mAsg (mCallP m_heights_of (mCons (mVarF 0) mNil)) (mName 1))
    (mRet (mAnd (mOp2 gIsNot (mVarF 1) (mC .non)) (mOp2 gEq (mPlP (pIdx (pName 1) (mOp1 gNeg (mC (.int 1))))) (mC (.int 0))))))))
def m_is_code : MF := mFun 1 3 (([] ++ []) ++ (([] ++ []) ++ ([1] ++ []))) b_is_code
theorem cal_is_code (Y : Yf fa fn tb cs w K mg) : Cal P w K mg base 5 "is_code" (spM K m_is_code) := by
  obtain ⟨fd, Fd⟩ := Y.dfn 14 (d := d_is_code)
  exact cal3 (N := ["value", "found", "instruction"]) Fd (Y.glo 35) sc_is_code (fun _ _ _ _ _ _ us hl => match us, hl with | [_], _ => rfl) (fun cdv A outer s H E hr =>
    (s_cons (s_if (t_w (w_or (t_not (t_val (e_blt call_isi f_isi (Y.free 7) rfl (a_cons (e_varF 0) (a_cons (e_ty (Y.free 1) rfl) a_nil))))) (w_or1 (t_cmp c_gt (e_lenP (Y.free 3) (p_var 0)) (e_con (Y.cn 3)))))) (s_one (s_ret e_bl)) s_nil)
    (s_cons (s_if (t_w (w_or (t_not (t_val (e_blt (cr_all rfl) f_all (Y.free 8) rfl (a_cons (e_lc4 [("instruction", 2)] rfl sc_is_code.nd (i_seq (e_varF 0)) (blkOk_by (N := ["value", "found", "instruction"]) (sc := defScope st_is_code) (by decide +kernel)) (fun _ _ _ _ _ => ⟨_, (g_name 2 sc_is_code.nd)⟩) (by intro i h; simpa using h) (fun _ _ _ _ _ => ⟨_, ts_nil⟩) (fun _ _ _ _ _ => ⟨_, (e_callP (cal_is_instruction Y) hr (a_cons (e_var 2) a_nil))⟩)) a_nil)))) (w_or1 (t_not (t_val (e_callP (cal_are_regions Y) hr (a_cons (e_varF 0) a_nil))))))) (s_one (s_ret e_bl)) s_nil)
    (s_cons (s_set 1 sc_is_code.nd (e_callP (cal_heights_of Y) hr (a_cons (e_varF 0) a_nil)))
    (s_one (s_ret (e_and (e_cmp c_isnot (e_varF 1) e_non) (e_one (e_cmp (c_eq hr.units) (e_plP (p_idx (hu_of hr) (p_var 1) (e_neg e_int))) e_int)))))))))
theorem sc_everybody : FnScope ["seats"] ["seats"] (defScope st_everybody) := ⟨rfl, rfl, rfl, by decide +kernel, rfl, by decide +kernel, by decide +kernel⟩
/-- everybody(seats) -/
def b_everybody : MS :=
    (mRet (mOp2 gSubI (mOp2 gShl (mC (.int 1)) (mVarF 0)) (mC (.int 1))))
def m_everybody : MF := mFun 1 1 [] b_everybody
theorem cal_everybody (Y : Yf fa fn tb cs w K mg) : Cal P w K mg base 1 "everybody" (spM K m_everybody) := by
  obtain ⟨fd, Fd⟩ := Y.dfn 15 (d := d_everybody)
  exact cal3 (N := ["seats"]) Fd (Y.glo 36) sc_everybody (fun _ _ _ _ _ _ us hl => match us, hl with | [_], _ => rfl) (fun cdv A outer s H E hr =>
    (s_one (s_ret (e_sub (e_shl e_int (e_varF 0)) e_int))))
theorem sc_Labels_init : FnScope ["self", "seats"] ["self", "seats"] (defScope st_Labels_init) := ⟨rfl, rfl, rfl, by decide +kernel, rfl, by decide +kernel, by decide +kernel⟩
/-- Labels.__init__(*self, seats) -/
def b_Labels_init : MS :=
    (mSeq (mFput "Labels" "seats" (mVarF 1) (pName 0))
    (mSeq (mFput "Labels" "everybody" (mCallP m_everybody (mCons (mVarF 1) mNil)) (pName 0))
    (mSeq (mFput "Labels" "here" (mPlP (pFld "Labels" (pName 0) "everybody")) (pName 0))
    (mSeq (mFput "Labels" "variables" (mOp2 gMul (mLst (mCons (mPlP (pFld "Labels" (pName 0) "everybody")) mNil)) (mC (.int 6))) (pName 0))
    (mSeq (mFput "Labels" "stack" (mLst mNil) (pName 0))
    (mFput "Labels" "opened" (mLst mNil) (pName 0)))))))
def m_Labels_init : MF := mFun 2 2 ([] ++ ([] ++ ([] ++ ([] ++ ([] ++ []))))) b_Labels_init
theorem mak_Labels_init (Y : Yf fa fn tb cs w K mg) : Mak P w K mg base 2 "Labels" (He.ga K "Labels") (spM K m_Labels_init) := by
  obtain ⟨fd, Fd⟩ := Y.dfn 16 (d := d_Labels_init)
  exact mak3 (N := ["self", "seats"]) Fd (Y.mkr 37) (Y.glo 38) sc_Labels_init (fun _ _ _ _ _ _ us hl => match us, hl with | [_, _], _ => rfl) (fun cdv A outer s H E hr =>
    (s_cons (s_fput (cn := "Labels") (Y.cls 13) (Y.noat 14) (p_var 0) (e_varF 1))
    (s_cons (s_fput (cn := "Labels") (Y.cls 13) (Y.noat 15) (p_var 0) (e_callP (cal_everybody Y) hr (a_cons (e_varF 1) a_nil)))
    (s_cons (s_fput (cn := "Labels") (Y.cls 13) (Y.noat 16) (p_var 0) (e_plP (p_fld (cn := "Labels") (Y.cls 13) (Y.noat 15) (p_var 0))))
    (s_cons (s_fput (cn := "Labels") (Y.cls 13) (Y.noat 17) (p_var 0) (e_mul (e_lst (a_cons (e_plP (p_fld (cn := "Labels") (Y.cls 13) (Y.noat 15) (p_var 0))) a_nil)) e_int))
    (s_cons (s_fput (cn := "Labels") (Y.cls 13) (Y.noat 18) (p_var 0) (e_lst a_nil))
    (s_one (s_fput (cn := "Labels") (Y.cls 13) (Y.noat 19) (p_var 0) (e_lst a_nil)))))))))
theorem sc_within : FnScope ["label", "other"] ["label", "other"] (defScope st_within) := ⟨rfl, rfl, rfl, by decide +kernel, rfl, by decide +kernel, by decide +kernel⟩
/-- within(label, other) -/
def b_within : MS :=
    (mRet (mOp2 gEq (mOp2 gAnd (mVarF 0) (mVarF 1)) (mVarF 0)))
def m_within : MF := mFun 2 2 [] b_within
theorem cal_within (Y : Yf fa fn tb cs w K mg) : Cal P w K mg base 1 "within" (spM K m_within) := by
  obtain ⟨fd, Fd⟩ := Y.dfn 17 (d := d_within)
  exact cal3 (N := ["label", "other"]) Fd (Y.glo 39) sc_within (fun _ _ _ _ _ _ us hl => match us, hl with | [_, _], _ => rfl) (fun cdv A outer s H E hr =>
    (s_one (s_ret (e_cmp (c_eq hr.units) (e_band (e_varF 0) (e_varF 1)) (e_varF 0)))))
theorem sc_Labels_fault : FnScope ["self", "needed", "everywhere", "labels", "label"] ["self", "needed", "everywhere", "labels"] (defScope st_Labels_fault) := ⟨rfl, rfl, rfl, by decide +kernel, rfl, by decide +kernel, by decide +kernel⟩
/-- Labels.fault(*self, needed, everywhere, labels) -/
def b_Labels_fault : MS :=
    (mSeq (mIfS (mTNot (mTruth (mCallP m_within (mCons (mIf (mTruthP (pName 2)) (mPlP (pFld "Labels" (pName 0) "everybody")) (mVarF 1)) (mCons (mPlP (pFld "Labels" (pName 0) "here")) mNil))))) (mRet (mC (.str "place"))) mNx)
    (mSeq (mIfS (mTNot (mTruth (mOpn (g1 gAll) (mCons (mLc (miSeq (mVarF 3)) (mName 4) mYes (mCallP m_within (mCons (mVarF 1) (mCons (mVarP 4) mNil))) (([("label", 4)] : List (Str × Nat)).map (·.2))) mNil)))) (mRet (mC (.str "value"))) mNx)
    (mRet (mC .non))))
def m_Labels_fault : MF := mFun 4 5 (([] ++ []) ++ (([] ++ []) ++ [])) b_Labels_fault
theorem met_Labels_fault (Y : Yf fa fn tb cs w K mg) : Met P w K mg base 2 (He.ga K "Labels") "fault" (spM K m_Labels_fault) := by
  obtain ⟨fd, Fd⟩ := Y.dfn 18 (d := d_Labels_fault)
  exact met3 (N := ["self", "needed", "everywhere", "labels", "label"]) Fd (Y.cls 13) (Y.meth 40) sc_Labels_fault (fun _ _ _ _ _ _ us hl => match us, hl with | [_, _, _, _], _ => rfl) (fun cdv A outer s H E hr =>
    (s_cons (s_if (t_not (t_val (e_callP (cal_within Y) hr (a_cons (e_if (t_truthP (p_var 2)) (e_plP (p_fld (cn := "Labels") (Y.cls 13) (Y.noat 15) (p_var 0))) (e_varF 1)) (a_cons (e_plP (p_fld (cn := "Labels") (Y.cls 13) (Y.noat 16) (p_var 0))) a_nil))))) (s_one (s_ret e_str)) s_nil)
    (s_cons (s_if (t_not (t_val (e_blt (cr_all rfl) f_all (Y.free 8) rfl (a_cons (e_lc4 [("label", 4)] rfl sc_Labels_fault.nd (i_seq (e_varF 3)) (blkOk_by (N := ["self", "needed", "everywhere", "labels", "label"]) (sc := defScope st_Labels_fault) (by decide +kernel)) (fun _ _ _ _ _ => ⟨_, (g_name 4 sc_Labels_fault.nd)⟩) (by intro i h; simpa using h) (fun _ _ _ _ _ => ⟨_, ts_nil⟩) (fun _ _ _ _ _ => ⟨_, (e_callP (cal_within Y) hr (a_cons (e_varF 1) (a_cons (e_var 4) a_nil)))⟩)) a_nil)))) (s_one (s_ret e_str)) s_nil)
    (s_one (s_ret e_non)))))
theorem sc_seat_of : FnScope ["who", "me", "that", "seats"] ["who", "me", "that", "seats"] (defScope st_seat_of) := ⟨rfl, rfl, rfl, by decide +kernel, rfl, by decide +kernel, by decide +kernel⟩
/-- seat_of(who, me, that, seats) -/
def b_seat_of : MS :=
    (mSeq (mIfS (mTest (mOp2 gEq (mVarF 0) (mC (.str "that")))) (mRet (mVarF 2)) mNx)
    (mRet (mOp2 gMod (mOp2 gAdd (mVarF 1) (mVarF 0)) (mVarF 3))))
def m_seat_of : MF := mFun 4 4 (([] ++ []) ++ []) b_seat_of
theorem cal_seat_of (Y : Yf fa fn tb cs w K mg) : Cal P w K mg base 1 "seat_of" (spM K m_seat_of) := by
  obtain ⟨fd, Fd⟩ := Y.dfn 19 (d := d_seat_of)
  exact cal3 (N := ["who", "me", "that", "seats"]) Fd (Y.glo 41) sc_seat_of (fun _ _ _ _ _ _ us hl => match us, hl with | [_, _, _, _], _ => rfl) (fun cdv A outer s H E hr =>
    (s_cons (s_if (t_cmp (c_eq hr.units) (e_varF 0) e_str) (s_one (s_ret (e_varF 2))) s_nil)
    (s_one (s_ret (e_mod (e_add (e_varF 1) (e_varF 0)) (e_varF 3))))))
theorem sc_place_of : FnScope ["named", "me", "that", "seats"] ["named", "me", "that", "seats"] (defScope st_place_of) := ⟨rfl, rfl, rfl, by decide +kernel, rfl, by decide +kernel, by decide +kernel⟩
/-- place_of(named, me, that, seats) -/
def b_place_of : MS :=
    (mSeq (mIfS (mTest (mOp2 gEq (mLenP (pName 0)) (mC (.int 1)))) (mRet (mVarF 0)) mNx)
    (mRet (mTup (mCons (mPlP (pIdx (pName 0) (mC (.int 0)))) (mCons (mCallP m_seat_of (mCons (mPlP (pIdx (pName 0) (mC (.int 1)))) (mCons (mVarF 1) (mCons (mVarF 2) (mCons (mVarF 3) mNil))))) mNil)))))
def m_place_of : MF := mFun 4 4 (([] ++ []) ++ []) b_place_of
theorem cal_place_of (Y : Yf fa fn tb cs w K mg) : Cal P w K mg base 2 "place_of" (spM K m_place_of) := by
  obtain ⟨fd, Fd⟩ := Y.dfn 20 (d := d_place_of)
  exact cal3 (N := ["named", "me", "that", "seats"]) Fd (Y.glo 42) sc_place_of (fun _ _ _ _ _ _ us hl => match us, hl with | [_, _, _, _], _ => rfl) (fun cdv A outer s H E hr =>
    (s_cons (s_if (t_cmp (c_eq hr.units) (e_lenP (Y.free 3) (p_var 0)) e_int) (s_one (s_ret (e_varF 0))) s_nil)
    (s_one (s_ret (e_tup (a_cons (e_plP (p_idx (hu_of hr) (p_var 0) e_int)) (a_cons (e_callP (cal_seat_of Y) hr (a_cons (e_plP (p_idx (hu_of hr) (p_var 0) e_int)) (a_cons (e_varF 1) (a_cons (e_varF 2) (a_cons (e_varF 3) a_nil))))) a_nil)))))))
theorem sc_readers : FnScope ["place", "seats"] ["place", "seats"] (defScope st_readers) := ⟨rfl, rfl, rfl, by decide +kernel, rfl, by decide +kernel, by decide +kernel⟩
/-- readers(place, seats) -/
def b_readers : MS :=
    (mSeq (mIfS (mTest (mOp2 gEq (mPlP (pIdx (pName 0) (mC (.int 0)))) (mC (.str "deck")))) (mRet (mC (.int 0))) mNx)
    (mSeq (mIfS (mTOr (mTest (mOp2 gEq (mPlP (pIdx (pName 0) (mC (.int 0)))) (mC (.str "heap")))) (mTest (mOp2 gEq (mPlP (pIdx (pName 0) (mC (.int 0)))) (mC (.str "row"))))) (mRet (mCallP m_everybody (mCons (mVarF 1) mNil))) mNx)
    (mRet (mOp2 gShl (mC (.int 1)) (mPlP (pIdx (pName 0) (mC (.int 1))))))))
def m_readers : MF := mFun 2 2 (([] ++ []) ++ (([] ++ []) ++ [])) b_readers
theorem cal_readers (Y : Yf fa fn tb cs w K mg) : Cal P w K mg base 2 "readers" (spM K m_readers) := by
  obtain ⟨fd, Fd⟩ := Y.dfn 21 (d := d_readers)
  exact cal3 (N := ["place", "seats"]) Fd (Y.glo 43) sc_readers (fun _ _ _ _ _ _ us hl => match us, hl with | [_, _], _ => rfl) (fun cdv A outer s H E hr =>
    (s_cons (s_if (t_cmp (c_eq hr.units) (e_plP (p_idx (hu_of hr) (p_var 0) e_int)) e_str) (s_one (s_ret e_int)) s_nil)
    (s_cons (s_if (t_w (w_or (t_cmp (c_eq hr.units) (e_plP (p_idx (hu_of hr) (p_var 0) e_int)) e_str) (w_or1 (t_cmp (c_eq hr.units) (e_plP (p_idx (hu_of hr) (p_var 0) e_int)) e_str)))) (s_one (s_ret (e_callP (cal_everybody Y) hr (a_cons (e_varF 1) a_nil)))) s_nil)
    (s_one (s_ret (e_shl e_int (e_plP (p_idx (hu_of hr) (p_var 0) e_int))))))))
theorem sc_label_of_zone : FnScope ["zone", "that", "seats"] ["zone", "that", "seats"] (defScope st_label_of_zone) := ⟨rfl, rfl, rfl, by decide +kernel, rfl, by decide +kernel, by decide +kernel⟩
/-- label_of_zone(zone, that, seats) -/
def b_label_of_zone : MS :=
    (mRet (mCallP m_readers (mCons (mCallP m_place_of (mCons (mVarF 0) (mCons (mC (.int 0)) (mCons (mVarF 1) (mCons (mVarF 2) mNil))))) (mCons (mVarF 2) mNil))))
def m_label_of_zone : MF := mFun 3 3 [] b_label_of_zone
theorem cal_label_of_zone (Y : Yf fa fn tb cs w K mg) : Cal P w K mg base 3 "label_of_zone" (spM K m_label_of_zone) := by
  obtain ⟨fd, Fd⟩ := Y.dfn 22 (d := d_label_of_zone)
  exact cal3 (N := ["zone", "that", "seats"]) Fd (Y.glo 44) sc_label_of_zone (fun _ _ _ _ _ _ us hl => match us, hl with | [_, _, _], _ => rfl) (fun cdv A outer s H E hr =>
    (s_one (s_ret (e_callP (cal_readers Y) hr (a_cons (e_callP (cal_place_of Y) hr (a_cons (e_varF 0) (a_cons e_int (a_cons (e_varF 1) (a_cons (e_varF 2) a_nil))))) (a_cons (e_varF 2) a_nil))))))
theorem sc_Labels_zone : FnScope ["self", "name"] ["self", "name"] (defScope st_Labels_zone) := ⟨rfl, rfl, rfl, by decide +kernel, rfl, by decide +kernel, by decide +kernel⟩
/-- Labels.zone(*self, name) -/
def b_Labels_zone : MS :=
    (mRet (mCallP m_label_of_zone (mCons (mVarF 1) (mCons (mC .non) (mCons (mPlP (pFld "Labels" (pName 0) "seats")) mNil)))))
def m_Labels_zone : MF := mFun 2 2 [] b_Labels_zone
theorem met_Labels_zone (Y : Yf fa fn tb cs w K mg) : Met P w K mg base 4 (He.ga K "Labels") "zone" (spM K m_Labels_zone) := by
  obtain ⟨fd, Fd⟩ := Y.dfn 23 (d := d_Labels_zone)
  exact met3 (N := ["self", "name"]) Fd (Y.cls 13) (Y.meth 45) sc_Labels_zone (fun _ _ _ _ _ _ us hl => match us, hl with | [_, _], _ => rfl) (fun cdv A outer s H E hr =>
    (s_one (s_ret (e_callP (cal_label_of_zone Y) hr (a_cons (e_varF 1) (a_cons e_non (a_cons (e_plP (p_fld (cn := "Labels") (Y.cls 13) (Y.noat 14) (p_var 0))) a_nil)))))))
theorem sc_counter_readers : FnScope ["name", "seats"] ["name", "seats"] (defScope st_counter_readers) := ⟨rfl, rfl, rfl, by decide +kernel, rfl, by decide +kernel, by decide +kernel⟩
/-- counter_readers(name, seats) -/
def b_counter_readers : MS :=
    (mSeq (mIfS (mTest (mOp2 gEq (mPlP (pIdx (pName 0) (mC (.int 0)))) (mC (.str "secret")))) (mRet (mOp2 gShl (mC (.int 1)) (mPlP (pIdx (pName 0) (mC (.int 2)))))) mNx)
    (mRet (mCallP m_everybody (mCons (mVarF 1) mNil))))
def m_counter_readers : MF := mFun 2 2 (([] ++ []) ++ []) b_counter_readers
theorem cal_counter_readers (Y : Yf fa fn tb cs w K mg) : Cal P w K mg base 2 "counter_readers" (spM K m_counter_readers) := by
  obtain ⟨fd, Fd⟩ := Y.dfn 24 (d := d_counter_readers)
  exact cal3 (N := ["name", "seats"]) Fd (Y.glo 46) sc_counter_readers (fun _ _ _ _ _ _ us hl => match us, hl with | [_, _], _ => rfl) (fun cdv A outer s H E hr =>
    (s_cons (s_if (t_cmp (c_eq hr.units) (e_plP (p_idx (hu_of hr) (p_var 0) e_int)) e_str) (s_one (s_ret (e_shl e_int (e_plP (p_idx (hu_of hr) (p_var 0) e_int))))) s_nil)
    (s_one (s_ret (e_callP (cal_everybody Y) hr (a_cons (e_varF 1) a_nil))))))
theorem sc_name_of : FnScope ["named", "me", "that", "seats"] ["named", "me", "that", "seats"] (defScope st_name_of) := ⟨rfl, rfl, rfl, by decide +kernel, rfl, by decide +kernel, by decide +kernel⟩
/-- name_of(named, me, that, seats) -/
def b_name_of : MS :=
    (mSeq (mIfS (mTest (mOp2 gEq (mLenP (pName 0)) (mC (.int 2)))) (mRet (mVarF 0)) mNx)
    (mRet (mTup (mCons (mPlP (pIdx (pName 0) (mC (.int 0)))) (mCons (mPlP (pIdx (pName 0) (mC (.int 1)))) (mCons (mCallP m_seat_of (mCons (mPlP (pIdx (pName 0) (mC (.int 2)))) (mCons (mVarF 1) (mCons (mVarF 2) (mCons (mVarF 3) mNil))))) mNil))))))
def m_name_of : MF := mFun 4 4 (([] ++ []) ++ []) b_name_of
theorem cal_name_of (Y : Yf fa fn tb cs w K mg) : Cal P w K mg base 2 "name_of" (spM K m_name_of) := by
  obtain ⟨fd, Fd⟩ := Y.dfn 25 (d := d_name_of)
  exact cal3 (N := ["named", "me", "that", "seats"]) Fd (Y.glo 47) sc_name_of (fun _ _ _ _ _ _ us hl => match us, hl with | [_, _, _, _], _ => rfl) (fun cdv A outer s H E hr =>
    (s_cons (s_if (t_cmp (c_eq hr.units) (e_lenP (Y.free 3) (p_var 0)) e_int) (s_one (s_ret (e_varF 0))) s_nil)
    (s_one (s_ret (e_tup (a_cons (e_plP (p_idx (hu_of hr) (p_var 0) e_int)) (a_cons (e_plP (p_idx (hu_of hr) (p_var 0) e_int)) (a_cons (e_callP (cal_seat_of Y) hr (a_cons (e_plP (p_idx (hu_of hr) (p_var 0) e_int)) (a_cons (e_varF 1) (a_cons (e_varF 2) (a_cons (e_varF 3) a_nil))))) a_nil))))))))
theorem sc_label_of_counter : FnScope ["counter", "that", "seats"] ["counter", "that", "seats"] (defScope st_label_of_counter) := ⟨rfl, rfl, rfl, by decide +kernel, rfl, by decide +kernel, by decide +kernel⟩
/-- label_of_counter(counter, that, seats) -/
def b_label_of_counter : MS :=
    (mRet (mCallP m_counter_readers (mCons (mCallP m_name_of (mCons (mVarF 0) (mCons (mC (.int 0)) (mCons (mVarF 1) (mCons (mVarF 2) mNil))))) (mCons (mVarF 2) mNil))))
def m_label_of_counter : MF := mFun 3 3 [] b_label_of_counter
theorem cal_label_of_counter (Y : Yf fa fn tb cs w K mg) : Cal P w K mg base 3 "label_of_counter" (spM K m_label_of_counter) := by
  obtain ⟨fd, Fd⟩ := Y.dfn 26 (d := d_label_of_counter)
  exact cal3 (N := ["counter", "that", "seats"]) Fd (Y.glo 48) sc_label_of_counter (fun _ _ _ _ _ _ us hl => match us, hl with | [_, _, _], _ => rfl) (fun cdv A outer s H E hr =>
    (s_one (s_ret (e_callP (cal_counter_readers Y) hr (a_cons (e_callP (cal_name_of Y) hr (a_cons (e_varF 0) (a_cons e_int (a_cons (e_varF 1) (a_cons (e_varF 2) a_nil))))) (a_cons (e_varF 2) a_nil))))))
theorem sc_label_of : FnScope ["row", "label", "seat"] ["row"] (defScope st_label_of) := ⟨rfl, rfl, rfl, by decide +kernel, rfl, by decide +kernel, by decide +kernel⟩
/-- label_of(row) -/
def l_label_of_1 : MS :=
    (mAsg (mOp2 gOr (mVarF 1) (mOp2 gShl (mC (.int 1)) (mVarF 2))) (mName 1))
def b_label_of : MS :=
    (mSeq (mAsg (mC (.int 0)) (mName 1))
    (mSeq (mFor (miSeq (mVarF 0)) (mName 2) l_label_of_1)
    (mRet (mVarM 1))))
def m_label_of : MF := mFun 1 3 ([1] ++ (([2] ++ [1]) ++ [])) b_label_of
theorem cal_label_of (Y : Yf fa fn tb cs w K mg) : Cal P w K mg base 1 "label_of" (spM K m_label_of) := by
  obtain ⟨fd, Fd⟩ := Y.dfn 27 (d := d_label_of)
  exact cal3 (N := ["row", "label", "seat"]) Fd (Y.glo 49) sc_label_of (fun _ _ _ _ _ _ us hl => match us, hl with | [_], _ => rfl) (fun cdv A outer s H E hr =>
    (s_cons (s_set 1 sc_label_of.nd e_int)
    (s_cons (s_for PassesOwn.never rfl (i_seq (e_varF 0)) (g_name 2 sc_label_of.nd) (s_one (s_set 1 sc_label_of.nd (e_bor (e_varF 1) (e_shl e_int (e_varF 2))))))
    (s_one (s_ret (e_varM 1))))))
theorem sc_label_of_who : FnScope ["who", "that", "seats"] ["who", "that", "seats"] (defScope st_label_of_who) := ⟨rfl, rfl, rfl, by decide +kernel, rfl, by decide +kernel, by decide +kernel⟩
/-- label_of_who(who, that, seats) -/
def b_label_of_who : MS :=
    (mRet (mCallP m_label_of (mCons (mLst (mCons (mCallP m_seat_of (mCons (mVarF 0) (mCons (mC (.int 0)) (mCons (mVarF 1) (mCons (mVarF 2) mNil))))) mNil)) mNil)))
def m_label_of_who : MF := mFun 3 3 [] b_label_of_who
theorem cal_label_of_who (Y : Yf fa fn tb cs w K mg) : Cal P w K mg base 2 "label_of_who" (spM K m_label_of_who) := by
  obtain ⟨fd, Fd⟩ := Y.dfn 28 (d := d_label_of_who)
  exact cal3 (N := ["who", "that", "seats"]) Fd (Y.glo 50) sc_label_of_who (fun _ _ _ _ _ _ us hl => match us, hl with | [_, _, _], _ => rfl) (fun cdv A outer s H E hr =>
    (s_one (s_ret (e_callP (cal_label_of Y) hr (a_cons (e_lst (a_cons (e_callP (cal_seat_of Y) hr (a_cons (e_varF 0) (a_cons e_int (a_cons (e_varF 1) (a_cons (e_varF 2) a_nil))))) a_nil)) a_nil)))))
theorem sc_label_of_whos : FnScope ["to", "that", "seats", "who"] ["to", "that", "seats"] (defScope st_label_of_whos) := ⟨rfl, rfl, rfl, by decide +kernel, rfl, by decide +kernel, by decide +kernel⟩
/-- label_of_whos(to, that, seats) -/
def b_label_of_whos : MS :=
    (mRet (mCallP m_label_of (mCons (mLc (miSeq (mVarF 0)) (mName 3) mYes (mCallP m_seat_of (mCons (mVarP 3) (mCons (mC (.int 0)) (mCons (mVarF 1) (mCons (mVarF 2) mNil))))) (([("who", 3)] : List (Str × Nat)).map (·.2))) mNil)))
def m_label_of_whos : MF := mFun 3 4 [] b_label_of_whos
theorem cal_label_of_whos (Y : Yf fa fn tb cs w K mg) : Cal P w K mg base 2 "label_of_whos" (spM K m_label_of_whos) := by
  obtain ⟨fd, Fd⟩ := Y.dfn 29 (d := d_label_of_whos)
  exact cal3 (N := ["to", "that", "seats", "who"]) Fd (Y.glo 51) sc_label_of_whos (fun _ _ _ _ _ _ us hl => match us, hl with | [_, _, _], _ => rfl) (fun cdv A outer s H E hr =>
    (s_one (s_ret (e_callP (cal_label_of Y) hr (a_cons (e_lc4 [("who", 3)] rfl sc_label_of_whos.nd (i_seq (e_varF 0)) (blkOk_by (N := ["to", "that", "seats", "who"]) (sc := defScope st_label_of_whos) (by decide +kernel)) (fun _ _ _ _ _ => ⟨_, (g_name 3 sc_label_of_whos.nd)⟩) (by intro i h; simpa using h) (fun _ _ _ _ _ => ⟨_, ts_nil⟩) (fun _ _ _ _ _ => ⟨_, (e_callP (cal_seat_of Y) hr (a_cons (e_var 3) (a_cons e_int (a_cons (e_varF 1) (a_cons (e_varF 2) a_nil)))))⟩)) a_nil)))))
theorem sc_Labels_act : FnScope ["self", "instruction", "word", "labels", "to", "asked"] ["self", "instruction"] (defScope st_Labels_act) := ⟨rfl, rfl, rfl, by decide +kernel, rfl, by decide +kernel, by decide +kernel⟩
/-- Labels.act(*self, instruction) -/
def b_Labels_act : MS :=
    (mSeq (mAsg (mPlP (pIdx (pName 1) (mC (.int 0)))) (mName 2))
    (mSeq (mIfS (mTest (mOp2 gEq (mVarF 2) (mC (.str "count")))) (mRet (mMethR "Labels" "fault" m_Labels_fault 0 (mbVal (mCallP m_label_of_counter (mCons (mPlP (pIdx (pName 1) (mC (.int 1)))) (mCons (mC .non) (mCons (mPlP (pFld "Labels" (pName 0) "seats")) mNil)))) (mbVal (mC (.bl false)) (mbVal (mLst (mCons (mPop (pFld "Labels" (pName 0) "stack")) mNil)) mbNil))))) mNx)
    (mSeq (mIfS (mTest (mOp2 gEq (mVarF 2) (mC (.str "draw")))) (mRet (mMethR "Labels" "fault" m_Labels_fault 0 (mbVal (mC (.int 0)) (mbVal (mC (.bl true)) (mbVal (mLst mNil) mbNil))))) mNx)
    (mSeq (mIfS (mTest (mOp2 gEq (mVarF 2) (mC (.str "move")))) (mRet (mMethR "Labels" "fault" m_Labels_fault 0 (mbVal (mOp2 gOr (mMethR "Labels" "zone" m_Labels_zone 0 (mbVal (mPlP (pIdx (pName 1) (mC (.int 1)))) mbNil)) (mMethR "Labels" "zone" m_Labels_zone 0 (mbVal (mPlP (pIdx (pName 1) (mC (.int 2)))) mbNil))) (mbVal (mC (.bl true)) (mbVal (mLst (mCons (mPop (pFld "Labels" (pName 0) "stack")) mNil)) mbNil))))) mNx)
    (mSeq (mIfS (mTest (mOp2 gEq (mVarF 2) (mC (.str "swap")))) (mSeq (mAsg (mLst (mCons (mPop (pFld "Labels" (pName 0) "stack")) (mCons (mPop (pFld "Labels" (pName 0) "stack")) mNil))) (mName 3))
    (mRet (mMethR "Labels" "fault" m_Labels_fault 0 (mbVal (mOp2 gOr (mMethR "Labels" "zone" m_Labels_zone 0 (mbVal (mPlP (pIdx (pName 1) (mC (.int 1)))) mbNil)) (mMethR "Labels" "zone" m_Labels_zone 0 (mbVal (mPlP (pIdx (pName 1) (mC (.int 2)))) mbNil))) (mbVal (mC (.bl false)) (mbVal (mVarF 3) mbNil)))))) mNx)
    (mSeq (mIfS (mTest (mOp2 gEq (mVarF 2) (mC (.str "tell")))) (mRet (mMethR "Labels" "fault" m_Labels_fault 0 (mbVal (mCallP m_label_of_whos (mCons (mPlP (pIdx (pName 1) (mC (.int 1)))) (mCons (mC .non) (mCons (mPlP (pFld "Labels" (pName 0) "seats")) mNil)))) (mbVal (mC (.bl false)) (mbVal (mLst (mCons (mPop (pFld "Labels" (pName 0) "stack")) mNil)) mbNil))))) mNx)
    (mSeq (mIfS (mTest (mOp2 gEq (mVarF 2) (mC (.str "show")))) (mSeq (mAsg (mCallP m_label_of_whos (mCons (mPlP (pIdx (pName 1) (mC (.int 2)))) (mCons (mC .non) (mCons (mPlP (pFld "Labels" (pName 0) "seats")) mNil)))) (mName 4))
    (mSeq (mStore (mOp2 gAnd (mOp2 gOr (mPop (pFld "Labels" (pName 0) "stack")) (mVarF 4)) (mPlP (pFld "Labels" (pName 0) "here"))) (pFld "Labels" (pName 0) "variables") (mPlP (pIdx (pName 1) (mC (.int 1)))))
    (mRet (mMethR "Labels" "fault" m_Labels_fault 0 (mbVal (mVarF 4) (mbVal (mC (.bl false)) (mbVal (mLst mNil) mbNil))))))) mNx)
    (mSeq (mAsg (mCallP m_label_of_who (mCons (mPlP (pIdx (pName 1) (mC (.int 2)))) (mCons (mC .non) (mCons (mPlP (pFld "Labels" (pName 0) "seats")) mNil)))) (mName 5))
    (mSeq (mStore (mIf (mTruthP (pIdx (pName 1) (mC (.int 4)))) (mPlP (pFld "Labels" (pName 0) "everybody")) (mVarF 5)) (pFld "Labels" (pName 0) "variables") (mPlP (pIdx (pName 1) (mC (.int 1)))))
    (mRet (mMethR "Labels" "fault" m_Labels_fault 0 (mbVal (mC (.int 0)) (mbVal (mC (.bl true)) (mbVal (mLst mNil) mbNil))))))))))))))
def m_Labels_act : MF := mFun 2 6 ([2] ++ (([] ++ []) ++ (([] ++ []) ++ (([] ++ []) ++ ((([3] ++ []) ++ []) ++ (([] ++ []) ++ ((([4] ++ ([] ++ [])) ++ []) ++ ([5] ++ ([] ++ []))))))))) b_Labels_act
theorem met_Labels_act (Y : Yf fa fn tb cs w K mg) : Met P w K mg base 5 (He.ga K "Labels") "act" (spM K m_Labels_act) := by
  obtain ⟨fd, Fd⟩ := Y.dfn 30 (d := d_Labels_act)
  exact met3 (N := ["self", "instruction", "word", "labels", "to", "asked"]) Fd (Y.cls 13) (Y.meth 52) sc_Labels_act (fun _ _ _ _ _ _ us hl => match us, hl with | [_, _], _ => rfl) (fun cdv A outer s H E hr =>
    (s_cons (s_set 2 sc_Labels_act.nd (e_plP (p_idx (hu_of hr) (p_var 1) e_int)))
    (s_cons (s_if (t_cmp (c_eq hr.units) (e_varF 2) e_str) (s_one (s_ret (e_methR (cn := "Labels") (met_Labels_fault Y) hr 0 (b_val (e_callP (cal_label_of_counter Y) hr (a_cons (e_plP (p_idx (hu_of hr) (p_var 1) e_int)) (a_cons e_non (a_cons (e_plP (p_fld (cn := "Labels") (Y.cls 13) (Y.noat 14) (p_var 0))) a_nil)))) (b_val e_bl (b_val (e_lst (a_cons (e_pop (p_fld (cn := "Labels") (Y.cls 13) (Y.noat 18) (p_var 0))) a_nil)) b_nil)))))) s_nil)
    (s_cons (s_if (t_cmp (c_eq hr.units) (e_varF 2) e_str) (s_one (s_ret (e_methR (cn := "Labels") (met_Labels_fault Y) hr 0 (b_val e_int (b_val e_bl (b_val (e_lst a_nil) b_nil)))))) s_nil)
    (s_cons (s_if (t_cmp (c_eq hr.units) (e_varF 2) e_str) (s_one (s_ret (e_methR (cn := "Labels") (met_Labels_fault Y) hr 0 (b_val (e_bor (e_methR (cn := "Labels") (met_Labels_zone Y) hr 0 (b_val (e_plP (p_idx (hu_of hr) (p_var 1) e_int)) b_nil)) (e_methR (cn := "Labels") (met_Labels_zone Y) hr 0 (b_val (e_plP (p_idx (hu_of hr) (p_var 1) e_int)) b_nil))) (b_val e_bl (b_val (e_lst (a_cons (e_pop (p_fld (cn := "Labels") (Y.cls 13) (Y.noat 18) (p_var 0))) a_nil)) b_nil)))))) s_nil)
    (s_cons (s_if (t_cmp (c_eq hr.units) (e_varF 2) e_str) (s_cons (s_set 3 sc_Labels_act.nd (e_lst (a_cons (e_pop (p_fld (cn := "Labels") (Y.cls 13) (Y.noat 18) (p_var 0))) (a_cons (e_pop (p_fld (cn := "Labels") (Y.cls 13) (Y.noat 18) (p_var 0))) a_nil))))
    (s_one (s_ret (e_methR (cn := "Labels") (met_Labels_fault Y) hr 0 (b_val (e_bor (e_methR (cn := "Labels") (met_Labels_zone Y) hr 0 (b_val (e_plP (p_idx (hu_of hr) (p_var 1) e_int)) b_nil)) (e_methR (cn := "Labels") (met_Labels_zone Y) hr 0 (b_val (e_plP (p_idx (hu_of hr) (p_var 1) e_int)) b_nil))) (b_val e_bl (b_val (e_varF 3) b_nil))))))) s_nil)
    (s_cons (s_if (t_cmp (c_eq hr.units) (e_varF 2) e_str) (s_one (s_ret (e_methR (cn := "Labels") (met_Labels_fault Y) hr 0 (b_val (e_callP (cal_label_of_whos Y) hr (a_cons (e_plP (p_idx (hu_of hr) (p_var 1) e_int)) (a_cons e_non (a_cons (e_plP (p_fld (cn := "Labels") (Y.cls 13) (Y.noat 14) (p_var 0))) a_nil)))) (b_val e_bl (b_val (e_lst (a_cons (e_pop (p_fld (cn := "Labels") (Y.cls 13) (Y.noat 18) (p_var 0))) a_nil)) b_nil)))))) s_nil)
    (s_cons (s_if (t_cmp (c_eq hr.units) (e_varF 2) e_str) (s_cons (s_set 4 sc_Labels_act.nd (e_callP (cal_label_of_whos Y) hr (a_cons (e_plP (p_idx (hu_of hr) (p_var 1) e_int)) (a_cons e_non (a_cons (e_plP (p_fld (cn := "Labels") (Y.cls 13) (Y.noat 14) (p_var 0))) a_nil)))))
    (s_cons (s_store (hu_of hr) (e_band (e_bor (e_pop (p_fld (cn := "Labels") (Y.cls 13) (Y.noat 18) (p_var 0))) (e_varF 4)) (e_plP (p_fld (cn := "Labels") (Y.cls 13) (Y.noat 16) (p_var 0)))) (p_fld (cn := "Labels") (Y.cls 13) (Y.noat 17) (p_var 0)) (e_plP (p_idx (hu_of hr) (p_var 1) e_int)))
    (s_one (s_ret (e_methR (cn := "Labels") (met_Labels_fault Y) hr 0 (b_val (e_varF 4) (b_val e_bl (b_val (e_lst a_nil) b_nil)))))))) s_nil)
    (s_cons (s_set 5 sc_Labels_act.nd (e_callP (cal_label_of_who Y) hr (a_cons (e_plP (p_idx (hu_of hr) (p_var 1) e_int)) (a_cons e_non (a_cons (e_plP (p_fld (cn := "Labels") (Y.cls 13) (Y.noat 14) (p_var 0))) a_nil)))))
    (s_cons (s_store (hu_of hr) (e_if (t_truthP (p_idx (hu_of hr) (p_var 1) e_int)) (e_plP (p_fld (cn := "Labels") (Y.cls 13) (Y.noat 15) (p_var 0))) (e_varF 5)) (p_fld (cn := "Labels") (Y.cls 13) (Y.noat 17) (p_var 0)) (e_plP (p_idx (hu_of hr) (p_var 1) e_int)))
    (s_one (s_ret (e_methR (cn := "Labels") (met_Labels_fault Y) hr 0 (b_val e_int (b_val e_bl (b_val (e_lst a_nil) b_nil))))))))))))))))
theorem sc_Labels_push : FnScope ["self", "label"] ["self", "label"] (defScope st_Labels_push) := ⟨rfl, rfl, rfl, by decide +kernel, rfl, by decide +kernel, by decide +kernel⟩
/-- Labels.push(*self, label) -/
def b_Labels_push : MS :=
    (mDrop (mAppP (pFld "Labels" (pName 0) "stack") (mOp2 gAnd (mVarP 1) (mPlP (pFld "Labels" (pName 0) "here")))))
def m_Labels_push : MF := mFun 2 2 [] b_Labels_push
theorem met_Labels_push (Y : Yf fa fn tb cs w K mg) : Met P w K mg base 1 (He.ga K "Labels") "push" (spM K m_Labels_push) := by
  obtain ⟨fd, Fd⟩ := Y.dfn 31 (d := d_Labels_push)
  exact met3 (N := ["self", "label"]) Fd (Y.cls 13) (Y.meth 53) sc_Labels_push (fun _ _ _ _ _ _ us hl => match us, hl with | [_, _], _ => rfl) (fun cdv A outer s H E hr =>
    (s_one (s_expr (e_appP (p_fld (cn := "Labels") (Y.cls 13) (Y.noat 18) (p_var 0)) (e_band (e_var 1) (e_plP (p_fld (cn := "Labels") (Y.cls 13) (Y.noat 16) (p_var 0))))))))
theorem sc_Labels_read : FnScope ["self", "instruction", "word"] ["self", "instruction"] (defScope st_Labels_read) := ⟨rfl, rfl, rfl, by decide +kernel, rfl, by decide +kernel, by decide +kernel⟩
/-- Labels.read(*self, instruction) -/
def b_Labels_read : MS :=
    (mSeq (mAsg (mPlP (pIdx (pName 1) (mC (.int 0)))) (mName 2))
    (mIfS (mTest (mOp2 gEq (mVarF 2) (mC (.str "load")))) (mDrop (mMethR "Labels" "push" m_Labels_push 0 (mbVal (mPlP (pIdx (pFld "Labels" (pName 0) "variables") (mPlP (pIdx (pName 1) (mC (.int 1)))))) mbNil))) (mIfS (mTest (mOp2 gEq (mVarF 2) (mC (.str "counter")))) (mDrop (mMethR "Labels" "push" m_Labels_push 0 (mbVal (mCallP m_label_of_counter (mCons (mPlP (pIdx (pName 1) (mC (.int 1)))) (mCons (mC .non) (mCons (mPlP (pFld "Labels" (pName 0) "seats")) mNil)))) mbNil))) (mIfS (mTest (mOp2 gEq (mVarF 2) (mC (.str "tally")))) (mDrop (mMethR "Labels" "push" m_Labels_push 0 (mbVal (mMethR "Labels" "zone" m_Labels_zone 0 (mbVal (mPlP (pIdx (pName 1) (mC (.int 1)))) mbNil)) mbNil))) (mDrop (mMethR "Labels" "push" m_Labels_push 0 (mbVal (mPlP (pFld "Labels" (pName 0) "everybody")) mbNil)))))))
def m_Labels_read : MF := mFun 2 3 ([2] ++ ([] ++ ([] ++ ([] ++ [])))) b_Labels_read
theorem met_Labels_read (Y : Yf fa fn tb cs w K mg) : Met P w K mg base 5 (He.ga K "Labels") "read" (spM K m_Labels_read) := by
  obtain ⟨fd, Fd⟩ := Y.dfn 32 (d := d_Labels_read)
  exact met3 (N := ["self", "instruction", "word"]) Fd (Y.cls 13) (Y.meth 54) sc_Labels_read (fun _ _ _ _ _ _ us hl => match us, hl with | [_, _], _ => rfl) (fun cdv A outer s H E hr =>
    (s_cons (s_set 2 sc_Labels_read.nd (e_plP (p_idx (hu_of hr) (p_var 1) e_int)))
    (s_one (s_if (t_cmp (c_eq hr.units) (e_varF 2) e_str) (s_one (s_expr (e_methR (cn := "Labels") (met_Labels_push Y) hr 0 (b_val (e_plP (p_idx (hu_of hr) (p_fld (cn := "Labels") (Y.cls 13) (Y.noat 17) (p_var 0)) (e_plP (p_idx (hu_of hr) (p_var 1) e_int)))) b_nil)))) (s_one (s_if (t_cmp (c_eq hr.units) (e_varF 2) e_str) (s_one (s_expr (e_methR (cn := "Labels") (met_Labels_push Y) hr 0 (b_val (e_callP (cal_label_of_counter Y) hr (a_cons (e_plP (p_idx (hu_of hr) (p_var 1) e_int)) (a_cons e_non (a_cons (e_plP (p_fld (cn := "Labels") (Y.cls 13) (Y.noat 14) (p_var 0))) a_nil)))) b_nil)))) (s_one (s_if (t_cmp (c_eq hr.units) (e_varF 2) e_str) (s_one (s_expr (e_methR (cn := "Labels") (met_Labels_push Y) hr 0 (b_val (e_methR (cn := "Labels") (met_Labels_zone Y) hr 0 (b_val (e_plP (p_idx (hu_of hr) (p_var 1) e_int)) b_nil)) b_nil)))) (s_one (s_expr (e_methR (cn := "Labels") (met_Labels_push Y) hr 0 (b_val (e_plP (p_fld (cn := "Labels") (Y.cls 13) (Y.noat 15) (p_var 0))) b_nil))))))))))))
theorem sc_Labels_quiet : FnScope ["self", "instruction", "word", "other"] ["self", "instruction"] (defScope st_Labels_quiet) := ⟨rfl, rfl, rfl, by decide +kernel, rfl, by decide +kernel, by decide +kernel⟩
/-- Labels.quiet(*self, instruction) -/
def b_Labels_quiet : MS :=
    (mSeq (mAsg (mPlP (pIdx (pName 1) (mC (.int 0)))) (mName 2))
    (mIfS (mTest (mOp2 (gIn false) (mVarF 2) (mTup (mCons (mC (.str "push")) (mCons (mC (.str "load")) (mCons (mC (.str "counter")) (mCons (mC (.str "size")) (mCons (mC (.str "tally")) mNil)))))))) (mDrop (mMethR "Labels" "read" m_Labels_read 0 (mbVal (mVarF 1) mbNil))) (mIfS (mTest (mOp2 (gIn false) (mVarF 2) (mTup (mCons (mC (.str "kind")) (mCons (mC (.str "worth")) mNil))))) (mDrop (mMethR "Labels" "push" m_Labels_push 0 (mbVal (mOp2 gAnd (mPop (pFld "Labels" (pName 0) "stack")) (mMethR "Labels" "zone" m_Labels_zone 0 (mbVal (mPlP (pIdx (pName 1) (mC (.int 1)))) mbNil))) mbNil))) (mIfS (mTest (mOp2 (gIn false) (mVarF 2) (mC c_BINARY))) (mSeq (mAsg (mPop (pFld "Labels" (pName 0) "stack")) (mName 3))
    (mDrop (mMethR "Labels" "push" m_Labels_push 0 (mbVal (mOp2 gAnd (mPop (pFld "Labels" (pName 0) "stack")) (mVarF 3)) mbNil)))) (mIfS (mTest (mOp2 (gIn false) (mVarF 2) (mTup (mCons (mC (.str "not")) (mCons (mC (.str "div")) (mCons (mC (.str "mod")) mNil)))))) (mDrop (mMethR "Labels" "push" m_Labels_push 0 (mbVal (mPop (pFld "Labels" (pName 0) "stack")) mbNil))) (mIfS (mTest (mOp2 gEq (mVarF 2) (mC (.str "drop")))) (mDrop (mPop (pFld "Labels" (pName 0) "stack"))) (mIfS (mTest (mOp2 gEq (mVarF 2) (mC (.str "store")))) (mStore (mOp2 gAnd (mPop (pFld "Labels" (pName 0) "stack")) (mPlP (pFld "Labels" (pName 0) "here"))) (pFld "Labels" (pName 0) "variables") (mPlP (pIdx (pName 1) (mC (.int 1))))) (mIfS (mTest (mOp2 gEq (mVarF 2) (mC (.str "copy")))) (mStore (mOp2 gAnd (mPlP (pIdx (pFld "Labels" (pName 0) "stack") (mOp1 gNeg (mC (.int 1))))) (mPlP (pFld "Labels" (pName 0) "here"))) (pFld "Labels" (pName 0) "variables") (mPlP (pIdx (pName 1) (mC (.int 1))))) mNx))))))))
def m_Labels_quiet : MF := mFun 2 4 ([2] ++ ([] ++ ([] ++ (([3] ++ []) ++ ([] ++ ([] ++ ([] ++ ([] ++ [])))))))) b_Labels_quiet
theorem met_Labels_quiet (Y : Yf fa fn tb cs w K mg) : Met P w K mg base 6 (He.ga K "Labels") "quiet" (spM K m_Labels_quiet) := by
  obtain ⟨fd, Fd⟩ := Y.dfn 33 (d := d_Labels_quiet)
  exact met3 (N := ["self", "instruction", "word", "other"]) Fd (Y.cls 13) (Y.meth 55) sc_Labels_quiet (fun _ _ _ _ _ _ us hl => match us, hl with | [_, _], _ => rfl) (fun cdv A outer s H E hr =>
    (s_cons (s_set 2 sc_Labels_quiet.nd (e_plP (p_idx (hu_of hr) (p_var 1) e_int)))
    (s_one (s_if (t_cmp c_in (e_varF 2) (e_tup (a_cons e_str (a_cons e_str (a_cons e_str (a_cons e_str (a_cons e_str a_nil))))))) (s_one (s_expr (e_methR (cn := "Labels") (met_Labels_read Y) hr 0 (b_val (e_varF 1) b_nil)))) (s_one (s_if (t_cmp c_in (e_varF 2) (e_tup (a_cons e_str (a_cons e_str a_nil)))) (s_one (s_expr (e_methR (cn := "Labels") (met_Labels_push Y) hr 0 (b_val (e_band (e_pop (p_fld (cn := "Labels") (Y.cls 13) (Y.noat 18) (p_var 0))) (e_methR (cn := "Labels") (met_Labels_zone Y) hr 0 (b_val (e_plP (p_idx (hu_of hr) (p_var 1) e_int)) b_nil))) b_nil)))) (s_one (s_if (t_cmp c_in (e_varF 2) (e_con (Y.cn 0))) (s_cons (s_set 3 sc_Labels_quiet.nd (e_pop (p_fld (cn := "Labels") (Y.cls 13) (Y.noat 18) (p_var 0))))
    (s_one (s_expr (e_methR (cn := "Labels") (met_Labels_push Y) hr 0 (b_val (e_band (e_pop (p_fld (cn := "Labels") (Y.cls 13) (Y.noat 18) (p_var 0))) (e_varF 3)) b_nil))))) (s_one (s_if (t_cmp c_in (e_varF 2) (e_tup (a_cons e_str (a_cons e_str (a_cons e_str a_nil))))) (s_one (s_expr (e_methR (cn := "Labels") (met_Labels_push Y) hr 0 (b_val (e_pop (p_fld (cn := "Labels") (Y.cls 13) (Y.noat 18) (p_var 0))) b_nil)))) (s_one (s_if (t_cmp (c_eq hr.units) (e_varF 2) e_str) (s_one (s_expr (e_pop (p_fld (cn := "Labels") (Y.cls 13) (Y.noat 18) (p_var 0))))) (s_one (s_if (t_cmp (c_eq hr.units) (e_varF 2) e_str) (s_one (s_store (hu_of hr) (e_band (e_pop (p_fld (cn := "Labels") (Y.cls 13) (Y.noat 18) (p_var 0))) (e_plP (p_fld (cn := "Labels") (Y.cls 13) (Y.noat 16) (p_var 0)))) (p_fld (cn := "Labels") (Y.cls 13) (Y.noat 17) (p_var 0)) (e_plP (p_idx (hu_of hr) (p_var 1) e_int)))) (s_one (s_if (t_cmp (c_eq hr.units) (e_varF 2) e_str) (s_one (s_store (hu_of hr) (e_band (e_plP (p_idx (hu_of hr) (p_fld (cn := "Labels") (Y.cls 13) (Y.noat 18) (p_var 0)) (e_neg e_int))) (e_plP (p_fld (cn := "Labels") (Y.cls 13) (Y.noat 16) (p_var 0)))) (p_fld (cn := "Labels") (Y.cls 13) (Y.noat 17) (p_var 0)) (e_plP (p_idx (hu_of hr) (p_var 1) e_int)))) s_nil))))))))))))))))
theorem sc_Labels_state : FnScope ["self"] ["self"] (defScope st_Labels_state) := ⟨rfl, rfl, rfl, by decide +kernel, rfl, by decide +kernel, by decide +kernel⟩
/-- Labels.state(*self) -/
def b_Labels_state : MS :=
    (mRet (mTup (mCons (mPlP (pFld "Labels" (pName 0) "here")) (mCons (mSnap gTupleOf (pFld "Labels" (pName 0) "variables")) (mCons (mSnap gTupleOf (pFld "Labels" (pName 0) "stack")) mNil)))))
def m_Labels_state : MF := mFun 1 1 [] b_Labels_state
theorem met_Labels_state (Y : Yf fa fn tb cs w K mg) : Met P w K mg base 1 (He.ga K "Labels") "state" (spM K m_Labels_state) := by
  obtain ⟨fd, Fd⟩ := Y.dfn 34 (d := d_Labels_state)
  exact met3 (N := ["self"]) Fd (Y.cls 13) (Y.meth 56) sc_Labels_state (fun _ _ _ _ _ _ us hl => match us, hl with | [_], _ => rfl) (fun cdv A outer s H E hr =>
    (s_one (s_ret (e_tup (a_cons (e_plP (p_fld (cn := "Labels") (Y.cls 13) (Y.noat 16) (p_var 0))) (a_cons (e_snapT (Y.free 1) (p_fld (cn := "Labels") (Y.cls 13) (Y.noat 17) (p_var 0))) (a_cons (e_snapT (Y.free 1) (p_fld (cn := "Labels") (Y.cls 13) (Y.noat 18) (p_var 0))) a_nil)))))))
theorem sc_instruction_cost : FnScope ["instruction"] ["instruction"] (defScope st_instruction_cost) := ⟨rfl, rfl, rfl, by decide +kernel, rfl, by decide +kernel, by decide +kernel⟩
/-- instruction_cost(instruction) -/
def b_instruction_cost : MS :=
    (mSeq (mIfS (mTest (mOp2 gEq (mPlP (pIdx (pName 0) (mC (.int 0)))) (mC (.str "idle")))) (mRet (mPlP (pIdx (pName 0) (mC (.int 1))))) mNx)
    (mSeq (mIfS (mTest (mOp2 (gIn false) (mPlP (pIdx (pName 0) (mC (.int 0)))) (mTup (mCons (mC (.str "jump")) (mCons (mC (.str "join")) mNil))))) (mRet (mC (.int 0))) mNx)
    (mRet (mC (.int 1)))))
def m_instruction_cost : MF := mFun 1 1 (([] ++ []) ++ (([] ++ []) ++ [])) b_instruction_cost
theorem cal_instruction_cost (Y : Yf fa fn tb cs w K mg) : Cal P w K mg base 1 "instruction_cost" (spM K m_instruction_cost) := by
  obtain ⟨fd, Fd⟩ := Y.dfn 35 (d := d_instruction_cost)
  exact cal3 (N := ["instruction"]) Fd (Y.glo 57) sc_instruction_cost (fun _ _ _ _ _ _ us hl => match us, hl with | [_], _ => rfl) (fun cdv A outer s H E hr =>
    (s_cons (s_if (t_cmp (c_eq hr.units) (e_plP (p_idx (hu_of hr) (p_var 0) e_int)) e_str) (s_one (s_ret (e_plP (p_idx (hu_of hr) (p_var 0) e_int)))) s_nil)
    (s_cons (s_if (t_cmp c_in (e_plP (p_idx (hu_of hr) (p_var 0) e_int)) (e_tup (a_cons e_str (a_cons e_str a_nil)))) (s_one (s_ret e_int)) s_nil)
    (s_one (s_ret e_int)))))
theorem sc_part_costs : FnScope ["code", "total", "opened", "found", "place", "word", "start", "before", "first"] ["code"] (defScope st_part_costs) := ⟨rfl, rfl, rfl, by decide +kernel, rfl, by decide +kernel, by decide +kernel⟩
/-- part_costs(code) -/
def l_part_costs_1 : MS :=
    (mSeq (mAsg (mOp2 gAdd (mVarF 1) (mCallP m_instruction_cost (mCons (mPlP (pIdx (pName 0) (mVarP 4))) mNil))) (mName 1))
    (mSeq (mAsg (mPlP (pIdx (pIdx (pName 0) (mVarP 4)) (mC (.int 0)))) (mName 5))
    (mIfS (mTest (mOp2 gEq (mVarF 5) (mC (.str "unless")))) (mSeq mDeadS
    mDeadS) (mIfS (mTest (mOp2 gEq (mVarF 5) (mC (.str "jump")))) (mSeq mDeadS
    mDeadS) (mIfS (mTest (mOp2 gEq (mVarF 5) (mC (.str "join")))) (mSeq mDeadS
    (mSeq mDeadS
    mDeadS)) mNx)))))
def b_part_costs : MS :=
    (mSeq (mAsg (mC (.int 0)) (mName 1))
    (mSeq (mAsg (mLst mNil) (mName 2))
    (mSeq (mAsg mDct0 (mName 3))
    (mSeq (mFor (miRng1 (mLenP (pName 0))) (mName 4) l_part_costs_1)
    (mRet (mTup (mCons (mVarF 1) (mCons (mVarF 3) mNil))))))))
def m_part_costs : MF := mFun 1 9 ([1] ++ ([2] ++ ([3] ++ (([4] ++ ([1] ++ ([5] ++ (([] ++ []) ++ (([] ++ []) ++ (([] ++ ([] ++ [])) ++ [])))))) ++ [])))) b_part_costs
theorem cal_part_costs (Y : Yf fa fn tb cs w K mg) : Cal P w K mg base 2 "part_costs" (spM K m_part_costs) := by
  obtain ⟨fd, Fd⟩ := Y.dfn 36 (d := d_part_costs)
  exact cal3 (N := ["code", "total", "opened", "found", "place", "word", "start", "before", "first"]) Fd (Y.glo 58) sc_part_costs (fun _ _ _ _ _ _ us hl => match us, hl with | [_], _ => rfl) (fun cdv A outer s H E hr =>
    (s_cons (s_set 1 sc_part_costs.nd e_int)
    (s_cons (s_set 2 sc_part_costs.nd (e_lst a_nil))
    (s_cons (s_set 3 sc_part_costs.nd e_dct0)
    (s_cons (s_for PassesOwn.never rfl (i_rng1 (Y.free 0) (e_lenP (Y.free 3) (p_var 0))) (g_name 4 sc_part_costs.nd) (s_cons (s_set 1 sc_part_costs.nd (e_add (e_varF 1) (e_callP (cal_instruction_cost Y) hr (a_cons (e_plP (p_idx (hu_of hr) (p_var 0) (e_var 4))) a_nil))))
    (s_cons (s_set 5 sc_part_costs.nd (e_plP (p_idx (hu_of hr) (p_idx (hu_of hr) (p_var 0) (e_var 4)) e_int)))
    (s_one (s_if (t_cmp (c_eq hr.units) (e_varF 5) e_str) (s_cons s_dead
    (s_one s_dead)) (s_one (s_if (t_cmp (c_eq hr.units) (e_varF 5) e_str) (s_cons s_dead
    (s_one s_dead)) (s_one (s_if (t_cmp (c_eq hr.units) (e_varF 5) e_str) (s_cons s_dead
    (s_cons s_dead
    (s_one s_dead))) s_nil)))))))))
    (s_one (s_ret (e_tup (a_cons (e_varF 1) (a_cons (e_varF 3) a_nil))))))))))
theorem sc_follow : FnScope ["code", "seats", "labels", "costs", "found", "place", "word", "fault"] ["code", "seats"] (defScope st_follow) := ⟨rfl, rfl, rfl, by decide +kernel, rfl, by decide +kernel, by decide +kernel⟩
/-- follow(code, seats) -/
def l_follow_1 : MS :=
    (mSeq (mAsg (mPlP (pIdx (pIdx (pName 0) (mVarP 5)) (mC (.int 0)))) (mName 6))
    (mSeq (mIfS (mTest (mOp2 gEq (mVarF 6) (mC (.str "join")))) mDeadS mNx)
    (mSeq (mDrop (mAppT (pName 4) (mMethR "Labels" "state" m_Labels_state 2 mbNil)))
    (mSeq (mAsg (mC .non) (mName 7))
    (mSeq (mIfS (mTest (mOp2 gEq (mVarF 6) (mC (.str "unless")))) (mSeq mDeadS
    mDeadS) (mIfS (mTest (mOp2 gEq (mVarF 6) (mC (.str "jump")))) mDeadS (mIfS (mTest (mOp2 (gIn false) (mVarF 6) (mTup (mCons (mC (.str "count")) (mCons (mC (.str "draw")) (mCons (mC (.str "move")) (mCons (mC (.str "swap")) (mCons (mC (.str "tell")) (mCons (mC (.str "show")) (mCons (mC (.str "ask")) mNil)))))))))) (mAsg (mMethR "Labels" "act" m_Labels_act 2 (mbVal (mPlP (pIdx (pName 0) (mVarP 5))) mbNil)) (mName 7)) (mDrop (mMethR "Labels" "quiet" m_Labels_quiet 2 (mbVal (mPlP (pIdx (pName 0) (mVarP 5))) mbNil))))))
    (mIfS (mTest (mOp2 gIsNot (mVarF 7) (mC .non))) (mRet (mTup (mCons (mTup (mCons (mVarF 5) (mCons (mVarF 7) mNil))) (mCons (mVarF 4) mNil)))) mNx))))))
def b_follow : MS :=
    (mSeq (mAsg (mMake "Labels" m_Labels_init (mbVal (mVarF 1) mbNil)) (mName 2))
    (mSeq (mAsg (mItem (mCallP m_part_costs (mCons (mVarF 0) mNil)) (mC (.int 1))) (mName 3))
    (mSeq (mAsg (mLst mNil) (mName 4))
    (mSeq (mFor (miRng1 (mLenP (pName 0))) (mName 5) l_follow_1)
    (mRet (mTup (mCons (mC .non) (mCons (mOp2 gAdd (mVarF 4) (mLst (mCons (mMethR "Labels" "state" m_Labels_state 2 mbNil) mNil))) mNil))))))))
def m_follow : MF := mFun 2 8 ([2] ++ ([3] ++ ([4] ++ (([5] ++ ([6] ++ (([] ++ []) ++ ([] ++ ([7] ++ ((([] ++ []) ++ ([] ++ ([7] ++ []))) ++ ([] ++ []))))))) ++ [])))) b_follow
theorem cal_follow (Y : Yf fa fn tb cs w K mg) : Cal P w K mg base 7 "follow" (spM K m_follow) := by
  obtain ⟨fd, Fd⟩ := Y.dfn 37 (d := d_follow)
  exact cal3 (N := ["code", "seats", "labels", "costs", "found", "place", "word", "fault"]) Fd (Y.glo 59) sc_follow (fun _ _ _ _ _ _ us hl => match us, hl with | [_, _], _ => rfl) (fun cdv A outer s H E hr =>
    (s_cons (s_set 2 sc_follow.nd (e_make (mak_Labels_init Y) hr (b_val (e_varF 1) b_nil)))
    (s_cons (s_set 3 sc_follow.nd (e_item (hu_of hr) (e_callP (cal_part_costs Y) hr (a_cons (e_varF 0) a_nil)) e_int))
    (s_cons (s_set 4 sc_follow.nd (e_lst a_nil))
    (s_cons (s_for PassesOwn.never rfl (i_rng1 (Y.free 0) (e_lenP (Y.free 3) (p_var 0))) (g_name 5 sc_follow.nd) (s_cons (s_set 6 sc_follow.nd (e_plP (p_idx (hu_of hr) (p_idx (hu_of hr) (p_var 0) (e_var 5)) e_int)))
    (s_cons (s_if (t_cmp (c_eq hr.units) (e_varF 6) e_str) (s_one s_dead) s_nil)
    (s_cons (s_expr (e_appT (p_var 4) (e_methR0 (cn := "Labels") (met_Labels_state Y) hr 2)))
    (s_cons (s_set 7 sc_follow.nd e_non)
    (s_cons (s_if (t_cmp (c_eq hr.units) (e_varF 6) e_str) (s_cons s_dead
    (s_one s_dead)) (s_one (s_if (t_cmp (c_eq hr.units) (e_varF 6) e_str) (s_one s_dead) (s_one (s_if (t_cmp c_in (e_varF 6) (e_tup (a_cons e_str (a_cons e_str (a_cons e_str (a_cons e_str (a_cons e_str (a_cons e_str (a_cons e_str a_nil))))))))) (s_one (s_set 7 sc_follow.nd (e_methR (cn := "Labels") (met_Labels_act Y) hr 2 (b_val (e_plP (p_idx (hu_of hr) (p_var 0) (e_var 5))) b_nil)))) (s_one (s_expr (e_methR (cn := "Labels") (met_Labels_quiet Y) hr 2 (b_val (e_plP (p_idx (hu_of hr) (p_var 0) (e_var 5))) b_nil)))))))))
    (s_one (s_if (t_cmp c_isnot (e_varF 7) e_non) (s_one (s_ret (e_tup (a_cons (e_tup (a_cons (e_varF 5) (a_cons (e_varF 7) a_nil))) (a_cons (e_varF 4) a_nil))))) s_nil))))))))
    (s_one (s_ret (e_tup (a_cons e_non (a_cons (e_add (e_varF 4) (e_lst (a_cons (e_methR0 (cn := "Labels") (met_Labels_state Y) hr 2) a_nil))) a_nil))))))))))
theorem sc_verify : FnScope ["code", "seats"] ["code", "seats"] (defScope st_verify) := ⟨rfl, rfl, rfl, by decide +kernel, rfl, by decide +kernel, by decide +kernel⟩
/-- verify(code, seats) -/
def b_verify : MS :=
    (mRet (mItem (mCallP m_follow (mCons (mVarF 0) (mCons (mVarF 1) mNil))) (mC (.int 0))))
def m_verify : MF := mFun 2 2 [] b_verify
theorem cal_verify (Y : Yf fa fn tb cs w K mg) : Cal P w K mg base 8 "verify" (spM K m_verify) := by
  obtain ⟨fd, Fd⟩ := Y.dfn 38 (d := d_verify)
  exact cal3 (N := ["code", "seats"]) Fd (Y.glo 60) sc_verify (fun _ _ _ _ _ _ us hl => match us, hl with | [_, _], _ => rfl) (fun cdv A outer s H E hr =>
    (s_one (s_ret (e_item (hu_of hr) (e_callP (cal_follow Y) hr (a_cons (e_varF 0) (a_cons (e_varF 1) a_nil))) e_int))))
theorem sc_law : FnScope ["script", "state", "seats", "size", "low", "k", "secret", "to", "row", "kind", "code", "high", "due"] ["script"] (defScope st_law) := ⟨rfl, rfl, rfl, by decide +kernel, rfl, by decide +kernel, by decide +kernel⟩
/-- law(script) -/
def l_law_1 : MS :=
    (mDrop (mAppT (pName 4) (mItem (mLst (mCons (mTup (mCons (mC (.str "push")) (mCons (mCall m__law_draw (mbBor 1 (mbVal (mC (.int 9)) mbNil))) mNil))) (mCons (mTup (mCons (mC (.str "counter")) (mCons (mTup (mCons (mC (.str "open")) (mCons (mC (.int 0)) (mCons (mC (.int 0)) mNil)))) mNil))) (mCons (mTup (mCons (mC (.str "counter")) (mCons (mTup (mCons (mC (.str "common")) (mCons (mC (.int 1)) mNil))) mNil))) mNil)))) (mCall m__law_draw (mbBor 1 (mbVal (mC (.int 3)) mbNil))))))
def l_law_2 : MS :=
    (mSeq (mAsg (mLst mNil) (mName 4))
    (mSeq (mFor (miRng1 (mVarF 3)) (mName 5) l_law_1)
    (mSeq (mAsg (mCall m__law_draw (mbBor 1 (mbVal (mVarF 2) mbNil))) (mName 6))
    (mSeq (mAsg (mCall m__law_draw (mbBor 1 (mbVal (mVarF 2) mbNil))) (mName 7))
    (mSeq (mAsg (mLst (mCons (mTup (mCons (mC (.str "counter")) (mCons (mTup (mCons (mC (.str "secret")) (mCons (mCall m__law_draw (mbBor 1 (mbVal (mC (.int 2)) mbNil))) (mCons (mVarF 6) mNil)))) mNil))) (mCons (mTup (mCons (mC (.str "tell")) (mCons (mTup (mCons (mVarF 7) mNil)) mNil))) mNil))) (mName 8))
    (mSeq (mAsg (mCall m__law_draw (mbBor 1 (mbVal (mC (.int 3)) mbNil))) (mName 9))
    (mSeq (mIfS (mTest (mOp2 gEq (mVarF 9) (mC (.int 1)))) (mAsg (mOp2 gAdd (mSlice (mVarF 8) mNoPart (mPart (mC (.int 1)))) (mLst (mCons (mTup (mCons (mC (.str "add")) mNil)) (mCons (mTup (mCons (mC (.str "tell")) (mCons (mTup (mCons (mVarF 7) mNil)) mNil))) (mCons (mTup (mCons (mC (.str "push")) (mCons (mC (.int 0)) mNil))) mNil))))) (mName 8)) mNx)
    (mSeq (mIfS (mTest (mOp2 gEq (mVarF 9) (mC (.int 2)))) (mAsg (mLst (mCons (mTup (mCons (mC (.str "counter")) (mCons (mTup (mCons (mC (.str "open")) (mCons (mC (.int 2)) (mCons (mVarF 6) mNil)))) mNil))) (mCons (mTup (mCons (mC (.str "tell")) (mCons (mTup (mCons (mVarF 7) mNil)) mNil))) mNil))) (mName 8)) mNx)
    (mSeq (mAsg (mOpn (g1 gTupleOf) (mCons (mOp2 gAdd (mOp2 gAdd (mVarF 4) (mVarF 8)) (mOp2 gMul (mLst (mCons (mTup (mCons (mC (.str "drop")) mNil)) mNil)) (mVarF 3))) mNil)) (mName 10))
    (mSeq (mAsg (mOp2 gAdd (mVarF 3) (mC (.int 1))) (mName 11))
    (mSeq (mIfS (mTest (mOp2 gNe (mCallP m_is_code (mCons (mVarF 10) mNil)) (mOp2 gLe (mVarF 11) (mC (.int 60))))) (mRet (mC (.bl false))) mNx)
    (mIfS (mTest (mOp2 gLe (mVarF 11) (mC (.int 60)))) (mSeq (mAsg (mC .non) (mName 12))
    (mSeq (mIfS (mTAnd (mTest (mOp2 gLt (mVarF 9) (mC (.int 2)))) (mTest (mOp2 gNe (mVarF 6) (mVarF 7)))) (mAsg (mTup (mCons (mOp2 gAdd (mOp2 gAdd (mVarF 3) (mC (.int 1))) (mVarF 9)) (mCons (mC (.str "value")) mNil))) (mName 12)) mNx)
    (mIfS (mTOr (mTest (mOp2 gNe (mCallP m_verify (mCons (mVarF 10) (mCons (mVarF 2) mNil))) (mVarF 12))) (mTOr (mTest (mOp2 gNe (mOpn (g1 gMax1) (mCons (mCallP m_heights (mCons (mVarF 10) mNil)) mNil)) (mVarF 11))) (mTest (mOp2 gNe (mOpn (g1 gLen) (mCons (mCallP m_heights (mCons (mVarF 10) mNil)) mNil)) (mOp2 gAdd (mLenP (pName 10)) (mC (.int 1))))))) (mRet (mC (.bl false))) mNx))) mNx))))))))))))
def b_law : MS :=
    (mSeq (mAsg (mLst (mCons (mVarF 0) (mCons (mC (.int 0)) (mCons (mC (.int 0)) (mCons (mC (.int 1)) mNil))))) (mName 1))
    (mSeq (mAsg (mOp2 gAdd (mC (.int 2)) (mCall m__law_draw (mbBor 1 (mbVal (mC (.int 3)) mbNil)))) (mName 2))
    (mSeq (mFor (miSeq (mLst (mCons (mOp2 gAdd (mC (.int 1)) (mCall m__law_draw (mbBor 1 (mbVal (mC (.int 58)) mbNil)))) (mCons (mItem (mLst (mCons (mC (.int 57)) (mCons (mC (.int 58)) (mCons (mC (.int 59)) (mCons (mC (.int 60)) mNil))))) (mCall m__law_draw (mbBor 1 (mbVal (mC (.int 4)) mbNil)))) (mCons (mOp2 gAdd (mC (.int 16)) (mCall m__law_draw (mbBor 1 (mbVal (mC (.int 20)) mbNil)))) mNil))))) (mName 3) l_law_2)
    (mRet (mC (.bl true))))))
def m_law : MF := mFun 1 13 ([1] ++ ([2] ++ (([3] ++ ([4] ++ (([5] ++ []) ++ ([6] ++ ([7] ++ ([8] ++ ([9] ++ (([8] ++ []) ++ (([8] ++ []) ++ ([10] ++ ([11] ++ (([] ++ []) ++ (([12] ++ (([12] ++ []) ++ ([] ++ []))) ++ []))))))))))))) ++ []))) b_law
theorem fn_law (Y : Yf fa fn tb cs w K mg) : ∃ fd : FuncData, (∀ (s : Shared) (v : Value), BindsTo s fd ⟨[v], []⟩ [("script", v)]) ∧ ∀ base : Heap, FnOk P w K mg base CX0 9 (He.fAd K ("law", none)) fd ["script"] (spM K m_law) := by
  obtain ⟨fd, Fd⟩ := Y.dfn 39 (d := d_law)
  have bd := FunD.bindsA (ps := ["script"]) Fd (fun _ _ _ _ _ _ us hl => match us, hl with | [_], _ => rfl)
  exact ⟨fd, fun s v => bd s [v] rfl, fun base => fn3 (N := ["script", "state", "seats", "size", "low", "k", "secret", "to", "row", "kind", "code", "high", "due"]) Fd sc_law (fun cdv A outer s H E hr =>
    (s_cons (s_set 1 sc_law.nd (e_lst (a_cons (e_varF 0) (a_cons e_int (a_cons e_int (a_cons e_int a_nil))))))
    (s_cons (s_set 2 sc_law.nd (e_add e_int (e_call (cal__law_draw Y) hr (b_bor 1 (b_val e_int b_nil)))))
    (s_cons (s_for PassesOwn.never rfl (i_seq (e_lst (a_cons (e_add e_int (e_call (cal__law_draw Y) hr (b_bor 1 (b_val e_int b_nil)))) (a_cons (e_item (hu_of hr) (e_lst (a_cons e_int (a_cons e_int (a_cons e_int (a_cons e_int a_nil))))) (e_call (cal__law_draw Y) hr (b_bor 1 (b_val e_int b_nil)))) (a_cons (e_add e_int (e_call (cal__law_draw Y) hr (b_bor 1 (b_val e_int b_nil)))) a_nil))))) (g_name 3 sc_law.nd) (s_cons (s_set 4 sc_law.nd (e_lst a_nil))
    (s_cons (s_for PassesOwn.never rfl (i_rng1 (Y.free 0) (e_varF 3)) (g_name 5 sc_law.nd) (s_one (s_expr (e_appT (p_var 4) (e_item (hu_of hr) (e_lst (a_cons (e_tup (a_cons e_str (a_cons (e_call (cal__law_draw Y) hr (b_bor 1 (b_val e_int b_nil))) a_nil))) (a_cons (e_tup (a_cons e_str (a_cons (e_tup (a_cons e_str (a_cons e_int (a_cons e_int a_nil)))) a_nil))) (a_cons (e_tup (a_cons e_str (a_cons (e_tup (a_cons e_str (a_cons e_int a_nil))) a_nil))) a_nil)))) (e_call (cal__law_draw Y) hr (b_bor 1 (b_val e_int b_nil))))))))
    (s_cons (s_set 6 sc_law.nd (e_call (cal__law_draw Y) hr (b_bor 1 (b_val (e_varF 2) b_nil))))
    (s_cons (s_set 7 sc_law.nd (e_call (cal__law_draw Y) hr (b_bor 1 (b_val (e_varF 2) b_nil))))
    (s_cons (s_set 8 sc_law.nd (e_lst (a_cons (e_tup (a_cons e_str (a_cons (e_tup (a_cons e_str (a_cons (e_call (cal__law_draw Y) hr (b_bor 1 (b_val e_int b_nil))) (a_cons (e_varF 6) a_nil)))) a_nil))) (a_cons (e_tup (a_cons e_str (a_cons (e_tup (a_cons (e_varF 7) a_nil)) a_nil))) a_nil))))
    (s_cons (s_set 9 sc_law.nd (e_call (cal__law_draw Y) hr (b_bor 1 (b_val e_int b_nil))))
    (s_cons (s_if (t_cmp (c_eq hr.units) (e_varF 9) e_int) (s_one (s_set 8 sc_law.nd (e_add (e_slice (e_varF 8) o_none (o_some e_int)) (e_lst (a_cons (e_tup (a_cons e_str a_nil)) (a_cons (e_tup (a_cons e_str (a_cons (e_tup (a_cons (e_varF 7) a_nil)) a_nil))) (a_cons (e_tup (a_cons e_str (a_cons e_int a_nil))) a_nil))))))) s_nil)
    (s_cons (s_if (t_cmp (c_eq hr.units) (e_varF 9) e_int) (s_one (s_set 8 sc_law.nd (e_lst (a_cons (e_tup (a_cons e_str (a_cons (e_tup (a_cons e_str (a_cons e_int (a_cons (e_varF 6) a_nil)))) a_nil))) (a_cons (e_tup (a_cons e_str (a_cons (e_tup (a_cons (e_varF 7) a_nil)) a_nil))) a_nil))))) s_nil)
    (s_cons (s_set 10 sc_law.nd (e_bty call_tuple_of f_tupleOf (Y.free 1) rfl (a_cons (e_add (e_add (e_varF 4) (e_varF 8)) (e_mul (e_lst (a_cons (e_tup (a_cons e_str a_nil)) a_nil)) (e_varF 3))) a_nil)))
    (s_cons (s_set 11 sc_law.nd (e_add (e_varF 3) e_int))
    (s_cons (s_if (t_cmp (c_ne hr.units) (e_callP (cal_is_code Y) hr (a_cons (e_varF 10) a_nil)) (e_cmp c_le (e_varF 11) e_int)) (s_one (s_ret e_bl)) s_nil)
    (s_one (s_if (t_cmp c_le (e_varF 11) e_int) (s_cons (s_set 12 sc_law.nd e_non)
    (s_cons (s_if (t_w (w_and (t_cmp c_lt (e_varF 9) e_int) (w_and1 (t_cmp (c_ne hr.units) (e_varF 6) (e_varF 7))))) (s_one (s_set 12 sc_law.nd (e_tup (a_cons (e_add (e_add (e_varF 3) e_int) (e_varF 9)) (a_cons e_str a_nil))))) s_nil)
    (s_one (s_if (t_w (w_or (t_cmp (c_ne hr.units) (e_callP (cal_verify Y) hr (a_cons (e_varF 10) (a_cons (e_varF 2) a_nil))) (e_varF 12)) (w_or (t_cmp (c_ne hr.units) (e_blt (cr_max rfl) f_max1 (Y.free 2) rfl (a_cons (e_callP (cal_heights Y) hr (a_cons (e_varF 10) a_nil)) a_nil)) (e_varF 11)) (w_or1 (t_cmp (c_ne hr.units) (e_blt call_len f_len (Y.free 3) rfl (a_cons (e_callP (cal_heights Y) hr (a_cons (e_varF 10) a_nil)) a_nil)) (e_add (e_lenP (Y.free 3) (p_var 10)) e_int)))))) (s_one (s_ret e_bl)) s_nil)))) s_nil))))))))))))))
    (s_one (s_ret e_bl))))))⟩
end
/-! ### the head -/
abbrev R : PySem.W.OpenRow := PySem.W.OpenLaw.row PySem.Challenge.rw_handshidden_k69_high_stacks
abbrev hk : PySem.W.Hook := He.hookX 8 fa fn (tsOf tb) [] (exB cs tb)
def ob (s : PySem.W.SharedT) : He.AlX := He.obsX 8 fa fn (tsOf tb) [] (exB cs tb) (HandSHeadRun.getT s)
theorem ob_eq (s : PySem.W.SharedT) : ob s = hk.obs s.abs := He.obsX_eq (HandSHeadRun.getT_eq s)
def nm0 : List PySem.Str := ["everybody", "label_of", "within", "readers", "counter_readers", "is_within", "has_word", "is_zone", "is_counter", "is_whos", "fits", "is_instruction", "region", "opens_region", "are_regions", "height_behind", "heights_of", "is_code", "heights", "instruction_cost", "part_costs", "seat_of", "place_of", "name_of", "label_of_who", "label_of_whos", "label_of_zone", "label_of_counter", "follow", "verify"]
def nm1 : List PySem.Str := ["_law_draw", "Labels", "LIMIT", "MOST_CODE", "MOST_HEIGHT", "MOST_IDLE", "BINARY", "READS", "FORMS", "BOUNDS", "POPS", "PUSHES"]
def names : List PySem.Str := nm0 ++ nm1
theorem run (w : World) : HandSHeadRun.RunEq R (PySem.W.view R.prog [48]) hk ob 3000 names w :=
  PySem.W.byRow2 "special-get-raises" (P := fun w => HandSHeadRun.RunEq R (PySem.W.view R.prog [48]) hk ob 3000 names w) (fun w => by intro os; kernel_rfl) (fun w => by intro os; kernel_rfl) w
end Gk69
open PySem PySem.Spec PyProof.Rows L2 L3
namespace Gk69
def St (ns : List Int) (t : T) : Prop := ∃ a b c : Int, 0 ≤ a ∧ t = .lst [.fr (.rol (ns.map .int)), .fr (.int a), .fr (.int b), .fr (.int c)]
theorem draw_ok {ns : List Int} {st : T} (h : St ns st) {many : Int} (h0 : 0 < many) (h1 : many < 1000) : ∃ k st', m__law_draw [st, .fr (.int many)] = some (.fr (.int k), [st', .fr (.int many)]) ∧ 0 ≤ k ∧ k < many ∧ St ns st' := by
  obtain ⟨a, b, c, ha, rfl⟩ := h
  have h2 : many < 1073741824 := by omega
  by_cases hb : b ≤ 0
  · have ha' : ¬ a < 0 := by omega
    suffices ∃ x b' c' : Int, m__law_draw [.lst [.fr (.rol (ns.map .int)), .fr (.int a), .fr (.int b), .fr (.int c)], .fr (.int many)] = some (.fr (.int (x % many)), [.lst [.fr (.rol (ns.map .int)), .fr (.int (a + 1)), .fr (.int b'), .fr (.int c')], .fr (.int many)]) by
      obtain ⟨x, b', c', e⟩ := this
      exact ⟨_, _, e, Int.emod_nonneg _ (by omega), Int.emod_lt_of_pos _ h0, ⟨a + 1, _, _, by omega, rfl⟩⟩
    by_cases hp : a < (ns.length : Int)
    · obtain ⟨cell, e3, e5⟩ : ∃ cell, ns[a.toNat]? = some cell ∧ ∀ h, ns[a.toNat]'h = cell := ⟨ns[a.toNat]'(by omega), List.getElem?_eq_getElem (by omega), fun _ => rfl⟩
      by_cases hc : 0 ≤ cell
      · by_cases hc2 : cell < 1000000000000000000
        · exact ⟨_, _, _, by simp [m__law_draw, b__law_draw, mSeq, mIfS, mTest, mOp2, mOp1, mOpn, mPlP, mPl, pIdx, pFld, pName, Pl.nrm, Pl.get, Pl.set, T.get, T.put, T.put1, T.sub, T.stp, ixN, D.item, atI, mC, mVarP, mVarF, mVarM, mAsg, mName, mStore, T.store, mFput, T.fput, mAppP, mAppT, mPop, mCons, mNil, mTup, T.mkTup, T.allfr, mLst, mAnd, mOr, mNot, mIf, mTruth, mTAnd, mTOr, mTNot, mTruthP, D.truth, T.truth, mChain, T.frz, T.frzs, g1, g2, gI, gI0, gB0, gAdd, gMul, gIs, gIsNot, D.isNon, gLen, D.len, T.len, mLenP, gAbs, gInt, gTupleOf, gListOf, mSnap, T.snap, gIsi, D.asTy, D.tyName, mItem, T.item, mRet, mRetN, mDrop, mCallP, mCall, mbNil, mbVal, mbBor, agTake, agGive, mMethR, T.hasM, mMethP, methFin, mMake, makeFin, mgTup, mgCons, mgNil, mNx, mBk, mCt, mFun, Out.val, outs, T.asFr, kidx, bMul, bDiv, bPos, bPow, mSlice, mPart, mNoPart, gSlice, L3.cutD, HT.sIx, T.isObj, D.fld, mTab, mInTab, mTabGet, mDeadS, mDeadE, mNotE, gEq, gNe, D.eqB, hb, h0, h2, hp, e3, e5, hc, hc2, ha', ha] <;> first | exact ⟨rfl, rfl, rfl⟩ | rfl⟩
        · exact ⟨_, _, _, by simp [m__law_draw, b__law_draw, mSeq, mIfS, mTest, mOp2, mOp1, mOpn, mPlP, mPl, pIdx, pFld, pName, Pl.nrm, Pl.get, Pl.set, T.get, T.put, T.put1, T.sub, T.stp, ixN, D.item, atI, mC, mVarP, mVarF, mVarM, mAsg, mName, mStore, T.store, mFput, T.fput, mAppP, mAppT, mPop, mCons, mNil, mTup, T.mkTup, T.allfr, mLst, mAnd, mOr, mNot, mIf, mTruth, mTAnd, mTOr, mTNot, mTruthP, D.truth, T.truth, mChain, T.frz, T.frzs, g1, g2, gI, gI0, gB0, gAdd, gMul, gIs, gIsNot, D.isNon, gLen, D.len, T.len, mLenP, gAbs, gInt, gTupleOf, gListOf, mSnap, T.snap, gIsi, D.asTy, D.tyName, mItem, T.item, mRet, mRetN, mDrop, mCallP, mCall, mbNil, mbVal, mbBor, agTake, agGive, mMethR, T.hasM, mMethP, methFin, mMake, makeFin, mgTup, mgCons, mgNil, mNx, mBk, mCt, mFun, Out.val, outs, T.asFr, kidx, bMul, bDiv, bPos, bPow, mSlice, mPart, mNoPart, gSlice, L3.cutD, HT.sIx, T.isObj, D.fld, mTab, mInTab, mTabGet, mDeadS, mDeadE, mNotE, gEq, gNe, D.eqB, hb, h0, h2, hp, e3, e5, hc, hc2, ha', ha] <;> first | exact ⟨rfl, rfl, rfl⟩ | rfl⟩
      · exact ⟨_, _, _, by simp [m__law_draw, b__law_draw, mSeq, mIfS, mTest, mOp2, mOp1, mOpn, mPlP, mPl, pIdx, pFld, pName, Pl.nrm, Pl.get, Pl.set, T.get, T.put, T.put1, T.sub, T.stp, ixN, D.item, atI, mC, mVarP, mVarF, mVarM, mAsg, mName, mStore, T.store, mFput, T.fput, mAppP, mAppT, mPop, mCons, mNil, mTup, T.mkTup, T.allfr, mLst, mAnd, mOr, mNot, mIf, mTruth, mTAnd, mTOr, mTNot, mTruthP, D.truth, T.truth, mChain, T.frz, T.frzs, g1, g2, gI, gI0, gB0, gAdd, gMul, gIs, gIsNot, D.isNon, gLen, D.len, T.len, mLenP, gAbs, gInt, gTupleOf, gListOf, mSnap, T.snap, gIsi, D.asTy, D.tyName, mItem, T.item, mRet, mRetN, mDrop, mCallP, mCall, mbNil, mbVal, mbBor, agTake, agGive, mMethR, T.hasM, mMethP, methFin, mMake, makeFin, mgTup, mgCons, mgNil, mNx, mBk, mCt, mFun, Out.val, outs, T.asFr, kidx, bMul, bDiv, bPos, bPow, mSlice, mPart, mNoPart, gSlice, L3.cutD, HT.sIx, T.isObj, D.fld, mTab, mInTab, mTabGet, mDeadS, mDeadE, mNotE, gEq, gNe, D.eqB, hb, h0, h2, hp, e3, e5, hc, ha', ha] <;> first | exact ⟨rfl, rfl, rfl⟩ | rfl⟩
    · have hc : 0 ≤ a * 7919 + 13 := by omega
      by_cases hc2 : a * 7919 + 13 < 1000000000000000000
      · exact ⟨_, _, _, by simp [m__law_draw, b__law_draw, mSeq, mIfS, mTest, mOp2, mOp1, mOpn, mPlP, mPl, pIdx, pFld, pName, Pl.nrm, Pl.get, Pl.set, T.get, T.put, T.put1, T.sub, T.stp, ixN, D.item, atI, mC, mVarP, mVarF, mVarM, mAsg, mName, mStore, T.store, mFput, T.fput, mAppP, mAppT, mPop, mCons, mNil, mTup, T.mkTup, T.allfr, mLst, mAnd, mOr, mNot, mIf, mTruth, mTAnd, mTOr, mTNot, mTruthP, D.truth, T.truth, mChain, T.frz, T.frzs, g1, g2, gI, gI0, gB0, gAdd, gMul, gIs, gIsNot, D.isNon, gLen, D.len, T.len, mLenP, gAbs, gInt, gTupleOf, gListOf, mSnap, T.snap, gIsi, D.asTy, D.tyName, mItem, T.item, mRet, mRetN, mDrop, mCallP, mCall, mbNil, mbVal, mbBor, agTake, agGive, mMethR, T.hasM, mMethP, methFin, mMake, makeFin, mgTup, mgCons, mgNil, mNx, mBk, mCt, mFun, Out.val, outs, T.asFr, kidx, bMul, bDiv, bPos, bPow, mSlice, mPart, mNoPart, gSlice, L3.cutD, HT.sIx, T.isObj, D.fld, mTab, mInTab, mTabGet, mDeadS, mDeadE, mNotE, gEq, gNe, D.eqB, hb, h0, h2, hp, hc, hc2, ha', ha] <;> first | exact ⟨rfl, rfl, rfl⟩ | rfl⟩
      · exact ⟨_, _, _, by simp [m__law_draw, b__law_draw, mSeq, mIfS, mTest, mOp2, mOp1, mOpn, mPlP, mPl, pIdx, pFld, pName, Pl.nrm, Pl.get, Pl.set, T.get, T.put, T.put1, T.sub, T.stp, ixN, D.item, atI, mC, mVarP, mVarF, mVarM, mAsg, mName, mStore, T.store, mFput, T.fput, mAppP, mAppT, mPop, mCons, mNil, mTup, T.mkTup, T.allfr, mLst, mAnd, mOr, mNot, mIf, mTruth, mTAnd, mTOr, mTNot, mTruthP, D.truth, T.truth, mChain, T.frz, T.frzs, g1, g2, gI, gI0, gB0, gAdd, gMul, gIs, gIsNot, D.isNon, gLen, D.len, T.len, mLenP, gAbs, gInt, gTupleOf, gListOf, mSnap, T.snap, gIsi, D.asTy, D.tyName, mItem, T.item, mRet, mRetN, mDrop, mCallP, mCall, mbNil, mbVal, mbBor, agTake, agGive, mMethR, T.hasM, mMethP, methFin, mMake, makeFin, mgTup, mgCons, mgNil, mNx, mBk, mCt, mFun, Out.val, outs, T.asFr, kidx, bMul, bDiv, bPos, bPow, mSlice, mPart, mNoPart, gSlice, L3.cutD, HT.sIx, T.isObj, D.fld, mTab, mInTab, mTabGet, mDeadS, mDeadE, mNotE, gEq, gNe, D.eqB, hb, h0, h2, hp, hc, hc2, ha', ha] <;> first | exact ⟨rfl, rfl, rfl⟩ | rfl⟩
  · refine ⟨b % many, .lst [.fr (.rol (ns.map .int)), .fr (.int a), .fr (.int (b / many)), .fr (.int c)], ?_, Int.emod_nonneg _ (by omega), Int.emod_lt_of_pos _ h0, ⟨a, _, c, ha, rfl⟩⟩
    simp [m__law_draw, b__law_draw, mSeq, mIfS, mTest, mOp2, mOp1, mOpn, mPlP, mPl, pIdx, pFld, pName, Pl.nrm, Pl.get, Pl.set, T.get, T.put, T.put1, T.sub, T.stp, ixN, D.item, atI, mC, mVarP, mVarF, mVarM, mAsg, mName, mStore, T.store, mFput, T.fput, mAppP, mAppT, mPop, mCons, mNil, mTup, T.mkTup, T.allfr, mLst, mAnd, mOr, mNot, mIf, mTruth, mTAnd, mTOr, mTNot, mTruthP, D.truth, T.truth, mChain, T.frz, T.frzs, g1, g2, gI, gI0, gB0, gAdd, gMul, gIs, gIsNot, D.isNon, gLen, D.len, T.len, mLenP, gAbs, gInt, gTupleOf, gListOf, mSnap, T.snap, gIsi, D.asTy, D.tyName, mItem, T.item, mRet, mRetN, mDrop, mCallP, mCall, mbNil, mbVal, mbBor, agTake, agGive, mMethR, T.hasM, mMethP, methFin, mMake, makeFin, mgTup, mgCons, mgNil, mNx, mBk, mCt, mFun, Out.val, outs, T.asFr, kidx, bMul, bDiv, bPos, bPow, mSlice, mPart, mNoPart, gSlice, L3.cutD, HT.sIx, T.isObj, D.fld, mTab, mInTab, mTabGet, mDeadS, mDeadE, mNotE, gEq, gNe, D.eqB, hb, h0, h2]
end Gk69
open PySem PySem.Spec PyProof.Rows L2 L3
namespace Gk69
/-! ### the instructions that the law writes -/
def iPush (v : Int) : D := .tup [.str "push", .int v]
def iOpen0 : D := .tup [.str "counter", .tup [.str "open", .int 0, .int 0]]
def iComm : D := .tup [.str "counter", .tup [.str "common", .int 1]]
def iSec (k s : Int) : D := .tup [.str "counter", .tup [.str "secret", .int k, .int s]]
def iOpen2 (s : Int) : D := .tup [.str "counter", .tup [.str "open", .int 2, .int s]]
def iTell (t : Int) : D := .tup [.str "tell", .tup [.int t]]
def iAdd : D := .tup [.str "add"]
def iDrop : D := .tup [.str "drop"]
def n4 : List Int := [0, 1, 2, 3]
def lowI : List D := iOpen0 :: iComm :: [0, 1, 2, 3, 4, 5, 6, 7, 8].map iPush
def allI : List D := iAdd :: iDrop :: (lowI ++ (n4.map (iSec 0) ++ (n4.map (iSec 1) ++ (n4.map iOpen2 ++ n4.map iTell))))
def isT (o : Option (T × List T)) : Bool := match o with
  | some (.fr (.bl true), _) => true
  | _ => false
theorem isT_eq {o : Option (T × List T)} (h : isT o = true) : ∃ l, o = some (.fr (.bl true), l) := by
  unfold isT at h
  split at h
  · exact ⟨_, rfl⟩
  · cases h
theorem ins_all : allI.all (fun d => isT (m_is_instruction [.fr d])) = true := by kernel_rfl
/-- a word that opens or ends no part -/
def plainB (d : D) : Bool := match d with
  | .tup (.str w :: _) => decide (w ≠ "unless" ∧ w ≠ "jump" ∧ w ≠ "join" ∧ w ≠ "idle")
  | _ => false
theorem plain_all : allI.all plainB = true := by kernel_rfl
def Plain (d : D) : Prop := ∃ w r, d = .tup (.str w :: r) ∧ w ≠ "unless" ∧ w ≠ "jump" ∧ w ≠ "join" ∧ w ≠ "idle"
theorem plainB_ok {d : D} (h : plainB d = true) : Plain d := by
  unfold plainB at h
  split at h
  · exact ⟨_, _, rfl, of_decide_eq_true h⟩
  · cases h
theorem plain_of {d : D} (h : d ∈ allI) : Plain d := plainB_ok (List.all_eq_true.mp plain_all d h)
theorem ins_of {d : D} (h : d ∈ allI) : ∃ l, m_is_instruction [.fr d] = some (.fr (.bl true), l) := isT_eq (List.all_eq_true.mp ins_all d h)
/-! ### no parts -/
theorem regions {ds : List D} (hp : ∀ d ∈ ds, Plain d) (hl : ds.length < 90000) : ∃ l, m_are_regions [.fr (.tup ds)] = some (.fr (.bl true), l) := by
  obtain ⟨ρ', R, p, w, l, rfl⟩ := Runs.inv (g := mName 2) (body := l_are_regions_1) (ds := intsFrom 0 ds.length) (n := 0) (ρ := [some (.fr (.tup ds)), some (.lst []), none, none, none, none, none])
    (fun _ ρ => ∃ p w l, ρ = [some (.fr (.tup ds)), some (.lst []), p, w, l, none, none]) (fun i d ρ hd ⟨p, w, l, e⟩ => by
      subst e
      obtain ⟨hi, rfl⟩ := intsFrom_at hd
      obtain ⟨w, r, e, h1, h2, h3, h4⟩ := hp _ (List.getElem_mem hi)
      have e' : ds[i]? = some (.tup (.str w :: r)) := by rw [List.getElem?_eq_getElem hi, e]
      refine ⟨_, _, rfl, ?_, some (.fr (.int (0 + i))), some (.fr (.str w)), some (.fr (.int (ds.length - 1))), rfl⟩
      simp [l_are_regions_1, mSeq, mIfS, mTest, mOp2, mOp1, mOpn, mPlP, mPl, pIdx, pFld, pName, Pl.nrm, Pl.get, Pl.set, T.get, T.put, T.put1, T.sub, T.stp, ixN, D.item, atI, mC, mVarP, mVarF, mVarM, mAsg, mName, mStore, T.store, mFput, T.fput, mAppP, mAppT, mPop, mCons, mNil, mTup, T.mkTup, T.allfr, mLst, mAnd, mOr, mNot, mIf, mTruth, mTAnd, mTOr, mTNot, mTruthP, D.truth, T.truth, mChain, T.frz, T.frzs, g1, g2, gI, gI0, gB0, gAdd, gMul, gIs, gIsNot, D.isNon, gLen, D.len, T.len, mLenP, gAbs, gInt, gTupleOf, gListOf, mSnap, T.snap, gIsi, D.asTy, D.tyName, mItem, T.item, mRet, mRetN, mDrop, mCallP, mCall, mbNil, mbVal, mbBor, agTake, agGive, mMethR, T.hasM, mMethP, methFin, mMake, makeFin, mgTup, mgCons, mgNil, mNx, mBk, mCt, mFun, Out.val, outs, T.asFr, kidx, bMul, bDiv, bPos, bPow, mSlice, mPart, mNoPart, gSlice, L3.cutD, HT.sIx, T.isObj, D.fld, mTab, mInTab, mTabGet, mDeadS, mDeadE, mNotE, gNeg, gEq, gNe, D.eqB, e', e, h1, h2, h3, hi]) ⟨none, none, none, rfl⟩
  have hl1 : (ds.length : Int) < 100000 := by omega
  have hl2 : (-100000 : Int) < ds.length := by omega
  have e := R.loop
  simp [m_are_regions, b_are_regions, mSeq, mIfS, mTest, mOp2, mOp1, mOpn, mPlP, mPl, pIdx, pFld, pName, Pl.nrm, Pl.get, Pl.set, T.get, T.put, T.put1, T.sub, T.stp, ixN, D.item, atI, mC, mVarP, mVarF, mVarM, mAsg, mName, mStore, T.store, mFput, T.fput, mAppP, mAppT, mPop, mCons, mNil, mTup, T.mkTup, T.allfr, mLst, mAnd, mOr, mNot, mIf, mTruth, mTAnd, mTOr, mTNot, mTruthP, D.truth, T.truth, mChain, T.frz, T.frzs, g1, g2, gI, gI0, gB0, gAdd, gMul, gIs, gIsNot, D.isNon, gLen, D.len, T.len, mLenP, gAbs, gInt, gTupleOf, gListOf, mSnap, T.snap, gIsi, D.asTy, D.tyName, mItem, T.item, mRet, mRetN, mDrop, mCallP, mCall, mbNil, mbVal, mbBor, agTake, agGive, mMethR, T.hasM, mMethP, methFin, mMake, makeFin, mgTup, mgCons, mgNil, mNx, mBk, mCt, mFun, Out.val, outs, T.asFr, kidx, bMul, bDiv, bPos, bPow, mSlice, mPart, mNoPart, gSlice, L3.cutD, HT.sIx, T.isObj, D.fld, mTab, mInTab, mTabGet, mDeadS, mDeadE, mNotE, gNeg, gEq, gNe, D.eqB, mFor, miRng1, hl1, hl2, e]
end Gk69
open PySem PySem.Spec PyProof.Rows L2 L3
namespace Gk69
theorem cost_of' {d : D} (h : Plain d) : m_instruction_cost [.fr d] = some (.fr (.int 1), [.fr d]) := by
  obtain ⟨w, r, rfl, h1, h2, h3, h4⟩ := h
  have e : gIn false (.str w) (.tup [.str "jump", .str "join"]) = some (.fr (.bl false)) := by
    unfold gIn
    simp [D.items, D.flat, D.toV, inV, eqV, h2, h3, h2.symm, h3.symm]
  simp [m_instruction_cost, b_instruction_cost, mSeq, mIfS, mTest, mOp2, mOp1, mOpn, mPlP, mPl, pIdx, pFld, pName, Pl.nrm, Pl.get, Pl.set, T.get, T.put, T.put1, T.sub, T.stp, ixN, D.item, atI, mC, mVarP, mVarF, mVarM, mAsg, mName, mStore, T.store, mFput, T.fput, mAppP, mAppT, mPop, mCons, mNil, mTup, T.mkTup, T.allfr, mLst, mAnd, mOr, mNot, mIf, mTruth, mTAnd, mTOr, mTNot, mTruthP, D.truth, T.truth, mChain, T.frz, T.frzs, g1, g2, gI, gI0, gB0, gAdd, gMul, gIs, gIsNot, D.isNon, gLen, D.len, T.len, mLenP, gAbs, gInt, gTupleOf, gListOf, mSnap, T.snap, gIsi, D.asTy, D.tyName, mItem, T.item, mRet, mRetN, mDrop, mCallP, mCall, mbNil, mbVal, mbBor, agTake, agGive, mMethR, T.hasM, mMethP, methFin, mMake, makeFin, mgTup, mgCons, mgNil, mNx, mBk, mCt, mFun, Out.val, outs, T.asFr, kidx, bMul, bDiv, bPos, bPow, mSlice, mPart, mNoPart, gSlice, L3.cutD, HT.sIx, T.isObj, D.fld, mTab, mInTab, mTabGet, mDeadS, mDeadE, mNotE, gNeg, gEq, gNe, D.eqB, h1, h2, h3, h4, e]
/-! ### heights -/
def c60 : D := c_MOST_HEIGHT
theorem hb_up {w : Str} {r : List D} {h : Int} (hB : gIn false (.str w) c_BINARY = some (.fr (.bl false))) (hP : t_POPS.lookup w = none) (hU : gIn false (.str w) c_PUSHES = some (.fr (.bl true))) (h0 : 0 ≤ h) :
    m_height_behind [.fr (.tup (.str w :: r)), .fr (.int h)] = some (if h + 1 ≤ 60 then .fr (.int (h + 1)) else .fr .non, [.fr (.tup (.str w :: r)), .fr (.int h)]) := by
  have h0' : ¬ h < 0 := by omega
  by_cases z : h + 1 ≤ 60
  · simp [m_height_behind, b_height_behind, mSeq, mIfS, mTest, mOp2, mOp1, mOpn, mPlP, mPl, pIdx, pFld, pName, Pl.nrm, Pl.get, Pl.set, T.get, T.put, T.put1, T.sub, T.stp, ixN, D.item, atI, mC, mVarP, mVarF, mVarM, mAsg, mName, mStore, T.store, mFput, T.fput, mAppP, mAppT, mPop, mCons, mNil, mTup, T.mkTup, T.allfr, mLst, mAnd, mOr, mNot, mIf, mTruth, mTAnd, mTOr, mTNot, mTruthP, D.truth, T.truth, mChain, T.frz, T.frzs, g1, g2, gI, gI0, gB0, gAdd, gMul, gIs, gIsNot, D.isNon, gLen, D.len, T.len, mLenP, gAbs, gInt, gTupleOf, gListOf, mSnap, T.snap, gIsi, D.asTy, D.tyName, mItem, T.item, mRet, mRetN, mDrop, mCallP, mCall, mbNil, mbVal, mbBor, agTake, agGive, mMethR, T.hasM, mMethP, methFin, mMake, makeFin, mgTup, mgCons, mgNil, mNx, mBk, mCt, mFun, Out.val, outs, T.asFr, kidx, bMul, bDiv, bPos, bPow, mSlice, mPart, mNoPart, gSlice, L3.cutD, HT.sIx, T.isObj, D.fld, mTab, mInTab, mTabGet, mDeadS, mDeadE, mNotE, gNeg, gEq, gNe, D.eqB, hB, hP, hU, h0', z, c_MOST_HEIGHT]
  · simp [m_height_behind, b_height_behind, mSeq, mIfS, mTest, mOp2, mOp1, mOpn, mPlP, mPl, pIdx, pFld, pName, Pl.nrm, Pl.get, Pl.set, T.get, T.put, T.put1, T.sub, T.stp, ixN, D.item, atI, mC, mVarP, mVarF, mVarM, mAsg, mName, mStore, T.store, mFput, T.fput, mAppP, mAppT, mPop, mCons, mNil, mTup, T.mkTup, T.allfr, mLst, mAnd, mOr, mNot, mIf, mTruth, mTAnd, mTOr, mTNot, mTruthP, D.truth, T.truth, mChain, T.frz, T.frzs, g1, g2, gI, gI0, gB0, gAdd, gMul, gIs, gIsNot, D.isNon, gLen, D.len, T.len, mLenP, gAbs, gInt, gTupleOf, gListOf, mSnap, T.snap, gIsi, D.asTy, D.tyName, mItem, T.item, mRet, mRetN, mDrop, mCallP, mCall, mbNil, mbVal, mbBor, agTake, agGive, mMethR, T.hasM, mMethP, methFin, mMake, makeFin, mgTup, mgCons, mgNil, mNx, mBk, mCt, mFun, Out.val, outs, T.asFr, kidx, bMul, bDiv, bPos, bPow, mSlice, mPart, mNoPart, gSlice, L3.cutD, HT.sIx, T.isObj, D.fld, mTab, mInTab, mTabGet, mDeadS, mDeadE, mNotE, gNeg, gEq, gNe, D.eqB, hB, hP, hU, h0', z, c_MOST_HEIGHT]
theorem hb_down {w : Str} {r : List D} {h : Int} (hB : gIn false (.str w) c_BINARY = some (.fr (.bl false))) (hP : t_POPS.lookup w = some (.int 1)) (hU : gIn false (.str w) c_PUSHES = some (.fr (.bl false))) (h0 : 1 ≤ h) (h1 : h ≤ 60) :
    m_height_behind [.fr (.tup (.str w :: r)), .fr (.int h)] = some (.fr (.int (h - 1)), [.fr (.tup (.str w :: r)), .fr (.int h)]) := by
  have h0' : ¬ h - 1 < 0 := by omega
  have z : h - 1 ≤ 60 := by omega
  simp [m_height_behind, b_height_behind, mSeq, mIfS, mTest, mOp2, mOp1, mOpn, mPlP, mPl, pIdx, pFld, pName, Pl.nrm, Pl.get, Pl.set, T.get, T.put, T.put1, T.sub, T.stp, ixN, D.item, atI, mC, mVarP, mVarF, mVarM, mAsg, mName, mStore, T.store, mFput, T.fput, mAppP, mAppT, mPop, mCons, mNil, mTup, T.mkTup, T.allfr, mLst, mAnd, mOr, mNot, mIf, mTruth, mTAnd, mTOr, mTNot, mTruthP, D.truth, T.truth, mChain, T.frz, T.frzs, g1, g2, gI, gI0, gB0, gAdd, gMul, gIs, gIsNot, D.isNon, gLen, D.len, T.len, mLenP, gAbs, gInt, gTupleOf, gListOf, mSnap, T.snap, gIsi, D.asTy, D.tyName, mItem, T.item, mRet, mRetN, mDrop, mCallP, mCall, mbNil, mbVal, mbBor, agTake, agGive, mMethR, T.hasM, mMethP, methFin, mMake, makeFin, mgTup, mgCons, mgNil, mNx, mBk, mCt, mFun, Out.val, outs, T.asFr, kidx, bMul, bDiv, bPos, bPow, mSlice, mPart, mNoPart, gSlice, L3.cutD, HT.sIx, T.isObj, D.fld, mTab, mInTab, mTabGet, mDeadS, mDeadE, mNotE, gNeg, gEq, gNe, D.eqB, hB, hP, hU, h0', z, c_MOST_HEIGHT]
theorem hb_add {r : List D} {h : Int} (h0 : 2 ≤ h) (h1 : h ≤ 60) :
    m_height_behind [.fr (.tup (.str "add" :: r)), .fr (.int h)] = some (.fr (.int (h - 1)), [.fr (.tup (.str "add" :: r)), .fr (.int h)]) := by
  have hB : gIn false (.str "add") c_BINARY = some (.fr (.bl true)) := by kernel_rfl
  have hU : gIn false (.str "add") c_PUSHES = some (.fr (.bl true)) := by kernel_rfl
  have h0' : ¬ h - 2 < 0 := by omega
  have z : h - 2 + 1 ≤ 60 := by omega
  have z2 : h - 2 + 1 = h - 1 := by omega
  have z3 : h - 1 ≤ 60 := by omega
  simp [m_height_behind, b_height_behind, mSeq, mIfS, mTest, mOp2, mOp1, mOpn, mPlP, mPl, pIdx, pFld, pName, Pl.nrm, Pl.get, Pl.set, T.get, T.put, T.put1, T.sub, T.stp, ixN, D.item, atI, mC, mVarP, mVarF, mVarM, mAsg, mName, mStore, T.store, mFput, T.fput, mAppP, mAppT, mPop, mCons, mNil, mTup, T.mkTup, T.allfr, mLst, mAnd, mOr, mNot, mIf, mTruth, mTAnd, mTOr, mTNot, mTruthP, D.truth, T.truth, mChain, T.frz, T.frzs, g1, g2, gI, gI0, gB0, gAdd, gMul, gIs, gIsNot, D.isNon, gLen, D.len, T.len, mLenP, gAbs, gInt, gTupleOf, gListOf, mSnap, T.snap, gIsi, D.asTy, D.tyName, mItem, T.item, mRet, mRetN, mDrop, mCallP, mCall, mbNil, mbVal, mbBor, agTake, agGive, mMethR, T.hasM, mMethP, methFin, mMake, makeFin, mgTup, mgCons, mgNil, mNx, mBk, mCt, mFun, Out.val, outs, T.asFr, kidx, bMul, bDiv, bPos, bPow, mSlice, mPart, mNoPart, gSlice, L3.cutD, HT.sIx, T.isObj, D.fld, mTab, mInTab, mTabGet, mDeadS, mDeadE, mNotE, gNeg, gEq, gNe, D.eqB, hB, hU, h0', z, z2, z3, c_MOST_HEIGHT]

theorem heights_run {ds : List D} {f : Nat → Int} {n : Nat} (hn : n ≤ ds.length) (h0 : f 0 = 0) (hl : ds.length < 90000) (hs : ∀ i (hi : i < n), ∃ l, m_height_behind [.fr (ds[i]'(by omega)), .fr (.int (f i))] = some (.fr (.int (f (i + 1))), l)) (hp : ∀ d ∈ ds, Plain d) :
    ∃ ins ht, Runs (mName 3) l_heights_of_1 (ds.take n) [some (.fr (.tup ds)), some (.lst [.fr (.int 0)]), some (.lst []), none, none]
      [some (.fr (.tup ds)), some (.lst ((List.range n).map (fun i => T.fr (.int (f i))) ++ [.fr (.int (f n))])), some (.lst []), ins, ht] := by
  obtain ⟨ρ', R, pre, ins, ht, rfl, rfl⟩ := Runs.inv (g := mName 3) (body := l_heights_of_1) (ds := ds.take n) (n := 0) (ρ := [some (.fr (.tup ds)), some (.lst [.fr (.int 0)]), some (.lst []), none, none])
    (fun i ρ => ∃ pre ins ht, ρ = [some (.fr (.tup ds)), some (.lst (pre ++ [.fr (.int (f i))])), some (.lst []), ins, ht] ∧ pre = (List.range i).map (fun i => T.fr (.int (f i)))) (fun i d ρ hd ⟨pre, ins, ht, e, ep⟩ => by
      subst e
      rw [Nat.zero_add] at *
      have hi : i < n := by
        have := (List.getElem?_eq_some_iff.mp hd).1
        rw [List.length_take] at this
        omega
      have hd' : ds[i]'(by omega) = d := by
        rw [List.getElem?_take, if_pos hi, List.getElem?_eq_getElem (by omega)] at hd
        exact Option.some.inj hd
      obtain ⟨l, e1⟩ := hs i hi
      rw [hd'] at e1
      obtain ⟨w, r, rfl, h1, h2, h3, h4⟩ := hp d (by rw [← hd']; exact List.getElem_mem _)
      have hpl : pre.length < 90000 := by
        rw [ep]; simp; omega
      have hpl2 : pre.length + 1 < 1000000 := by omega
      refine ⟨_, _, rfl, ?_, pre ++ [.fr (.int (f i))], some (.fr (.tup (.str w :: r))), some (.fr (.int (f (i + 1)))), rfl, ?_⟩
      · simp [l_heights_of_1, mSeq, mIfS, mTest, mOp2, mOp1, mOpn, mPlP, mPl, pIdx, pFld, pName, Pl.nrm, Pl.get, Pl.set, T.get, T.put, T.put1, T.sub, T.stp, ixN_last, ixN_zero, ixN_one, D.item, atI, mC, mVarP, mVarF, mVarM, mAsg, mName, mStore, T.store, mFput, T.fput, mAppP, mAppT, mPop, mCons, mNil, mTup, T.mkTup, T.allfr, mLst, mAnd, mOr, mNot, mIf, mTruth, mTAnd, mTOr, mTNot, mTruthP, D.truth, T.truth, mChain, T.frz, T.frzs, g1, g2, gI, gI0, gB0, gAdd, gMul, gIs, gIsNot, D.isNon, gLen, D.len, T.len, mLenP, gAbs, gInt, gTupleOf, gListOf, mSnap, T.snap, gIsi, D.asTy, D.tyName, mItem, T.item, mRet, mRetN, mDrop, mCallP, mCall, mbNil, mbVal, mbBor, agTake, agGive, mMethR, T.hasM, mMethP, methFin, mMake, makeFin, mgTup, mgCons, mgNil, mNx, mBk, mCt, mFun, Out.val, outs, T.asFr, kidx, bMul, bDiv, bPos, bPow, mSlice, mPart, mNoPart, gSlice, L3.cutD, HT.sIx, T.isObj, D.fld, mTab, mInTab, mTabGet, mDeadS, mDeadE, mNotE, gNeg, gEq, gNe, D.eqB, e1, h1, h2, h3, hpl2]
      · rw [List.range_succ, List.map_append, ep] <;> rfl) ⟨[], none, none, by rw [h0]; rfl, rfl⟩
  refine ⟨ins, ht, ?_⟩
  have e : (ds.take n).length = n := by rw [List.length_take]; omega
  rw [Nat.zero_add, e] at R
  exact R
theorem heights_ok {ds : List D} {f : Nat → Int} (h0 : f 0 = 0) (hl : ds.length < 90000) (hs : ∀ i (hi : i < ds.length), ∃ l, m_height_behind [.fr (ds[i]'(by omega)), .fr (.int (f i))] = some (.fr (.int (f (i + 1))), l)) (hp : ∀ d ∈ ds, Plain d) :
    ∃ l, m_heights_of [.fr (.tup ds)] = some (.lst ((List.range ds.length).map (fun i => T.fr (.int (f i))) ++ [.fr (.int (f ds.length))]), l) := by
  obtain ⟨ins, ht, R⟩ := heights_run (n := ds.length) (Nat.le_refl _) h0 hl hs hp
  rw [List.take_length] at R
  have e := R.loop
  simp [m_heights_of, b_heights_of, mSeq, mIfS, mTest, mOp2, mOp1, mOpn, mPlP, mPl, pIdx, pFld, pName, Pl.nrm, Pl.get, Pl.set, T.get, T.put, T.put1, T.sub, T.stp, ixN, D.item, atI, mC, mVarP, mVarF, mVarM, mAsg, mName, mStore, T.store, mFput, T.fput, mAppP, mAppT, mPop, mCons, mNil, mTup, T.mkTup, T.allfr, mLst, mAnd, mOr, mNot, mIf, mTruth, mTAnd, mTOr, mTNot, mTruthP, D.truth, T.truth, mChain, T.frz, T.frzs, g1, g2, gI, gI0, gB0, gAdd, gMul, gIs, gIsNot, D.isNon, gLen, D.len, T.len, mLenP, gAbs, gInt, gTupleOf, gListOf, mSnap, T.snap, gIsi, D.asTy, D.tyName, mItem, T.item, mRet, mRetN, mDrop, mCallP, mCall, mbNil, mbVal, mbBor, agTake, agGive, mMethR, T.hasM, mMethP, methFin, mMake, makeFin, mgTup, mgCons, mgNil, mNx, mBk, mCt, mFun, Out.val, outs, T.asFr, kidx, bMul, bDiv, bPos, bPow, mSlice, mPart, mNoPart, gSlice, L3.cutD, HT.sIx, T.isObj, D.fld, mTab, mInTab, mTabGet, mDeadS, mDeadE, mNotE, gNeg, gEq, gNe, D.eqB, mFor, miSeq, D.items, e]
theorem heights_no {ds : List D} {f : Nat → Int} {n : Nat} (hn : n < ds.length) (h0 : f 0 = 0) (hl : ds.length < 90000) (hs : ∀ i (hi : i < n), ∃ l, m_height_behind [.fr (ds[i]'(by omega)), .fr (.int (f i))] = some (.fr (.int (f (i + 1))), l)) (hp : ∀ d ∈ ds, Plain d)
    (hx : ∃ l, m_height_behind [.fr (ds[n]'hn), .fr (.int (f n))] = some (.fr .non, l)) : ∃ l, m_heights_of [.fr (.tup ds)] = some (.fr .non, l) := by
  obtain ⟨ins, ht, R⟩ := heights_run (n := n) (by omega) h0 hl hs hp
  obtain ⟨l, e1⟩ := hx
  have es : ds = ds.take n ++ ds[n]'hn :: ds.drop (n + 1) := by
    rw [List.getElem_cons_drop]
    exact (List.take_append_drop n ds).symm
  have e : mLoop (mName 3) l_heights_of_1 ds [some (.fr (.tup ds)), some (.lst [.fr (.int 0)]), some (.lst []), none, none] = some (.ret (.fr .non), [some (.fr (.tup ds)), some (.lst ((List.range n).map (fun i => T.fr (.int (f i))) ++ [.fr (.int (f n))])), some (.lst []), some (.fr (ds[n]'hn)), some (.fr .non)]) := by
    conv => lhs; arg 3; rw [es]
    refine R.ret (ρ1 := [some (.fr (.tup ds)), some (.lst ((List.range n).map (fun i => T.fr (.int (f i))) ++ [.fr (.int (f n))])), some (.lst []), some (.fr (ds[n]'hn)), ht]) rfl ?_
    generalize (List.range n).map (fun i => T.fr (.int (f i))) = pre
    generalize hd : ds[n]'hn = d at e1 ⊢
    simp [l_heights_of_1, mSeq, mIfS, mTest, mOp2, mOp1, mOpn, mPlP, mPl, pIdx, pFld, pName, Pl.nrm, Pl.get, Pl.set, T.get, T.put, T.put1, T.sub, T.stp, ixN_last, ixN_zero, ixN_one, D.item, atI, mC, mVarP, mVarF, mVarM, mAsg, mName, mStore, T.store, mFput, T.fput, mAppP, mAppT, mPop, mCons, mNil, mTup, T.mkTup, T.allfr, mLst, mAnd, mOr, mNot, mIf, mTruth, mTAnd, mTOr, mTNot, mTruthP, D.truth, T.truth, mChain, T.frz, T.frzs, g1, g2, gI, gI0, gB0, gAdd, gMul, gIs, gIsNot, D.isNon, gLen, D.len, T.len, mLenP, gAbs, gInt, gTupleOf, gListOf, mSnap, T.snap, gIsi, D.asTy, D.tyName, mItem, T.item, mRet, mRetN, mDrop, mCallP, mCall, mbNil, mbVal, mbBor, agTake, agGive, mMethR, T.hasM, mMethP, methFin, mMake, makeFin, mgTup, mgCons, mgNil, mNx, mBk, mCt, mFun, Out.val, outs, T.asFr, kidx, bMul, bDiv, bPos, bPow, mSlice, mPart, mNoPart, gSlice, L3.cutD, HT.sIx, T.isObj, D.fld, mTab, mInTab, mTabGet, mDeadS, mDeadE, mNotE, gNeg, gEq, gNe, D.eqB, e1]
  simp [m_heights_of, b_heights_of, mSeq, mIfS, mTest, mOp2, mOp1, mOpn, mPlP, mPl, pIdx, pFld, pName, Pl.nrm, Pl.get, Pl.set, T.get, T.put, T.put1, T.sub, T.stp, ixN, D.item, atI, mC, mVarP, mVarF, mVarM, mAsg, mName, mStore, T.store, mFput, T.fput, mAppP, mAppT, mPop, mCons, mNil, mTup, T.mkTup, T.allfr, mLst, mAnd, mOr, mNot, mIf, mTruth, mTAnd, mTOr, mTNot, mTruthP, D.truth, T.truth, mChain, T.frz, T.frzs, g1, g2, gI, gI0, gB0, gAdd, gMul, gIs, gIsNot, D.isNon, gLen, D.len, T.len, mLenP, gAbs, gInt, gTupleOf, gListOf, mSnap, T.snap, gIsi, D.asTy, D.tyName, mItem, T.item, mRet, mRetN, mDrop, mCallP, mCall, mbNil, mbVal, mbBor, agTake, agGive, mMethR, T.hasM, mMethP, methFin, mMake, makeFin, mgTup, mgCons, mgNil, mNx, mBk, mCt, mFun, Out.val, outs, T.asFr, kidx, bMul, bDiv, bPos, bPow, mSlice, mPart, mNoPart, gSlice, L3.cutD, HT.sIx, T.isObj, D.fld, mTab, mInTab, mTabGet, mDeadS, mDeadE, mNotE, gNeg, gEq, gNe, D.eqB, mFor, miSeq, D.items, e]
end Gk69
open PySem PySem.Spec PyProof.Rows L2 L3
namespace Gk69
theorem lc_ins {ds : List D} (hd : ∀ d ∈ ds, d ∈ allI) (hl : ds.length < 20000) {x y : Option T} : lcLoop (mName 2) mYes (mCallP m_is_instruction (mCons (mVarP 2) mNil)) [2] ds [] [some (.fr (.tup ds)), x, none] = some (.lst (List.replicate ds.length (.fr (.bl true))), [some (.fr (.tup ds)), x, none]) := by
  have e := lc_run (g := mName 2) (me := mCallP m_is_instruction (mCons (mVarP 2) mNil)) (vs := [2]) (f := fun _ => .fr (.bl true)) (ρ := [some (.fr (.tup ds)), x, none]) rfl (ds := ds) (acc := []) (fun d h => by
    obtain ⟨l, e⟩ := ins_of (hd d h)
    refine ⟨_, [some (.fr (.tup ds)), x, some (.fr d)], rfl, ?_, rfl⟩
    simp [mCallP, mCons, mNil, mVarP, e]) (by simp; omega)
  rw [e]
  simp [List.map_const']
theorem code_yes {ds : List D} (hd : ∀ d ∈ ds, d ∈ allI) (hl : ds.length < 20000) {l : List T} {pre : List T} (hh : m_heights_of [.fr (.tup ds)] = some (.lst (pre ++ [.fr (.int 0)]), l)) (hz : ∃ dp, T.frzs pre = some dp) : ∃ l, m_is_code [.fr (.tup ds)] = some (.fr (.bl true), l) := by
  obtain ⟨l2, e2⟩ := regions (fun d h => plain_of (hd d h)) (by omega : ds.length < 90000)
  obtain ⟨dp, hz⟩ := hz
  have e3 := lc_ins hd hl (x := none) (y := none)
  have hl2 : ¬ (20000 : Int) < ds.length := by omega
  have hz2 : T.frzs (pre ++ [.fr (.int 0)]) = some (dp ++ [.int 0]) := frzs_append hz (by simp [T.frzs, T.frz])
  have hi : isiB "tuple" "tuple" = true ∧ isiAsk "tuple" = true := by decide
  simp [m_is_code, b_is_code, mSeq, mIfS, mTest, mOp2, mOp1, mOpn, mPlP, mPl, pIdx, pFld, pName, Pl.nrm, Pl.get, Pl.set, T.get, T.put, T.put1, T.sub, T.stp, ixN_last, ixN_zero, ixN_one, D.item, atI, mC, mVarP, mVarF, mVarM, mAsg, mName, mStore, T.store, mFput, T.fput, mAppP, mAppT, mPop, mCons, mNil, mTup, T.mkTup, T.allfr, mLst, mAnd, mOr, mNot, mIf, mTruth, mTAnd, mTOr, mTNot, mTruthP, D.truth, T.truth, mChain, T.frz, T.frzs, g1, g2, gI, gI0, gB0, gAdd, gMul, gIs, gIsNot, D.isNon, gLen, D.len, T.len, mLenP, gAbs, gInt, gTupleOf, gListOf, mSnap, T.snap, gIsi, D.asTy, D.tyName, mItem, T.item, mRet, mRetN, mDrop, mCallP, mCall, mbNil, mbVal, mbBor, agTake, agGive, mMethR, T.hasM, mMethP, methFin, mMake, makeFin, mgTup, mgCons, mgNil, mNx, mBk, mCt, mFun, Out.val, outs, T.asFr, kidx, bMul, bDiv, bPos, bPow, mSlice, mPart, mNoPart, gSlice, L3.cutD, HT.sIx, T.isObj, D.fld, mTab, mInTab, mTabGet, mDeadS, mDeadE, mNotE, gNeg, gEq, gNe, D.eqB, mLc, miSeq, D.items, D.litems, gAll, wipeE, e3, frzs_repl, asBls_repl, e2, hh, hz2, hl2, c_MOST_CODE, hi]
theorem code_no {ds : List D} (hd : ∀ d ∈ ds, d ∈ allI) (hl : ds.length < 20000) {l : List T} (hh : m_heights_of [.fr (.tup ds)] = some (.fr .non, l)) : ∃ l, m_is_code [.fr (.tup ds)] = some (.fr (.bl false), l) := by
  obtain ⟨l2, e2⟩ := regions (fun d h => plain_of (hd d h)) (by omega : ds.length < 90000)
  have e3 := lc_ins hd hl (x := none) (y := none)
  have hl2 : ¬ (20000 : Int) < ds.length := by omega
  have hi : isiB "tuple" "tuple" = true ∧ isiAsk "tuple" = true := by decide
  simp [m_is_code, b_is_code, mSeq, mIfS, mTest, mOp2, mOp1, mOpn, mPlP, mPl, pIdx, pFld, pName, Pl.nrm, Pl.get, Pl.set, T.get, T.put, T.put1, T.sub, T.stp, ixN_last, ixN_zero, ixN_one, D.item, atI, mC, mVarP, mVarF, mVarM, mAsg, mName, mStore, T.store, mFput, T.fput, mAppP, mAppT, mPop, mCons, mNil, mTup, T.mkTup, T.allfr, mLst, mAnd, mOr, mNot, mIf, mTruth, mTAnd, mTOr, mTNot, mTruthP, D.truth, T.truth, mChain, T.frz, T.frzs, g1, g2, gI, gI0, gB0, gAdd, gMul, gIs, gIsNot, D.isNon, gLen, D.len, T.len, mLenP, gAbs, gInt, gTupleOf, gListOf, mSnap, T.snap, gIsi, D.asTy, D.tyName, mItem, T.item, mRet, mRetN, mDrop, mCallP, mCall, mbNil, mbVal, mbBor, agTake, agGive, mMethR, T.hasM, mMethP, methFin, mMake, makeFin, mgTup, mgCons, mgNil, mNx, mBk, mCt, mFun, Out.val, outs, T.asFr, kidx, bMul, bDiv, bPos, bPow, mSlice, mPart, mNoPart, gSlice, L3.cutD, HT.sIx, T.isObj, D.fld, mTab, mInTab, mTabGet, mDeadS, mDeadE, mNotE, gNeg, gEq, gNe, D.eqB, mLc, miSeq, D.items, D.litems, gAll, wipeE, e3, frzs_repl, asBls_repl, e2, hh, hl2, c_MOST_CODE, hi]
/-! ### costs -/
theorem costs {ds : List D} (hp : ∀ d ∈ ds, Plain d) (hl : ds.length < 90000) : ∃ l, m_part_costs [.fr (.tup ds)] = some (.fr (.tup [.int ds.length, .dct [] []]), l) := by
  obtain ⟨ρ', R, p, w, rfl⟩ := Runs.inv (g := mName 4) (body := l_part_costs_1) (ds := intsFrom 0 ds.length) (n := 0) (ρ := [some (.fr (.tup ds)), some (.fr (.int 0)), some (.lst []), some (.dct [] []), none, none, none, none, none])
    (fun i ρ => ∃ p w, ρ = [some (.fr (.tup ds)), some (.fr (.int i)), some (.lst []), some (.dct [] []), p, w, none, none, none]) (fun i d ρ hd ⟨p, w, e⟩ => by
      subst e
      rw [Nat.zero_add]
      obtain ⟨hi, rfl⟩ := intsFrom_at hd
      have pl := hp _ (List.getElem_mem hi)
      have ec := cost_of' pl
      obtain ⟨w, r, e, h1, h2, h3, h4⟩ := pl
      have e' : ds[i]? = some (.tup (.str w :: r)) := by rw [List.getElem?_eq_getElem hi, e]
      rw [e] at ec
      refine ⟨_, _, rfl, ?_, some (.fr (.int (0 + i))), some (.fr (.str w)), rfl⟩
      simp [l_part_costs_1, mSeq, mIfS, mTest, mOp2, mOp1, mOpn, mPlP, mPl, pIdx, pFld, pName, Pl.nrm, Pl.get, Pl.set, T.get, T.put, T.put1, T.sub, T.stp, ixN, D.item, atI, mC, mVarP, mVarF, mVarM, mAsg, mName, mStore, T.store, mFput, T.fput, mAppP, mAppT, mPop, mCons, mNil, mTup, T.mkTup, T.allfr, mLst, mAnd, mOr, mNot, mIf, mTruth, mTAnd, mTOr, mTNot, mTruthP, D.truth, T.truth, mChain, T.frz, T.frzs, g1, g2, gI, gI0, gB0, gAdd, gMul, gIs, gIsNot, D.isNon, gLen, D.len, T.len, mLenP, gAbs, gInt, gTupleOf, gListOf, mSnap, T.snap, gIsi, D.asTy, D.tyName, mItem, T.item, mRet, mRetN, mDrop, mCallP, mCall, mbNil, mbVal, mbBor, agTake, agGive, mMethR, T.hasM, mMethP, methFin, mMake, makeFin, mgTup, mgCons, mgNil, mNx, mBk, mCt, mFun, Out.val, outs, T.asFr, kidx, bMul, bDiv, bPos, bPow, mSlice, mPart, mNoPart, gSlice, L3.cutD, HT.sIx, T.isObj, D.fld, mTab, mInTab, mTabGet, mDeadS, mDeadE, mNotE, gNeg, gEq, gNe, D.eqB, e', e, h1, h2, h3, hi, ec]) ⟨none, none, rfl⟩
  have hl1 : (ds.length : Int) < 100000 := by omega
  have hl2 : (-100000 : Int) < ds.length := by omega
  have e := R.loop
  rw [intsFrom_len] at e
  simp [m_part_costs, b_part_costs, mSeq, mIfS, mTest, mOp2, mOp1, mOpn, mPlP, mPl, pIdx, pFld, pName, Pl.nrm, Pl.get, Pl.set, T.get, T.put, T.put1, T.sub, T.stp, ixN, D.item, atI, mC, mVarP, mVarF, mVarM, mAsg, mName, mStore, T.store, mFput, T.fput, mAppP, mAppT, mPop, mCons, mNil, mTup, T.mkTup, T.allfr, mLst, mAnd, mOr, mNot, mIf, mTruth, mTAnd, mTOr, mTNot, mTruthP, D.truth, T.truth, mChain, T.frz, T.frzs, g1, g2, gI, gI0, gB0, gAdd, gMul, gIs, gIsNot, D.isNon, gLen, D.len, T.len, mLenP, gAbs, gInt, gTupleOf, gListOf, mSnap, T.snap, gIsi, D.asTy, D.tyName, mItem, T.item, mRet, mRetN, mDrop, mCallP, mCall, mbNil, mbVal, mbBor, agTake, agGive, mMethR, T.hasM, mMethP, methFin, mMake, makeFin, mgTup, mgCons, mgNil, mNx, mBk, mCt, mFun, Out.val, outs, T.asFr, kidx, bMul, bDiv, bPos, bPow, mSlice, mPart, mNoPart, gSlice, L3.cutD, HT.sIx, T.isObj, D.fld, mTab, mInTab, mTabGet, mDeadS, mDeadE, mNotE, gNeg, gEq, gNe, D.eqB, mFor, miRng1, mDct0, hl1, hl2, e]
end Gk69
open PySem PySem.Spec PyProof.Rows L2 L3
namespace Gk69
def LF : List Str := ["seats", "everybody", "here", "variables", "stack", "opened"]
def V6 (E : Int) : T := .lst [.fr (.int E), .fr (.int E), .fr (.int E), .fr (.int E), .fr (.int E), .fr (.int E)]
def LB (n E : Int) (S : List T) : T := .obj "Labels" LF [.fr (.int n), .fr (.int E), .fr (.int E), V6 E, .lst S, .lst []]
theorem k_stack : kidx ("stack" : Str) LF = some 4 := by decide
theorem k_seats : kidx ("seats" : Str) LF = some 0 := by decide
theorem k_every : kidx ("everybody" : Str) LF = some 1 := by decide
theorem k_here : kidx ("here" : Str) LF = some 2 := by decide
theorem k_vars : kidx ("variables" : Str) LF = some 3 := by decide
theorem k_push : kidx ("push" : Str) LF = none := by decide
theorem k_read : kidx ("read" : Str) LF = none := by decide
theorem k_quiet : kidx ("quiet" : Str) LF = none := by decide
theorem k_act : kidx ("act" : Str) LF = none := by decide
theorem k_fault : kidx ("fault" : Str) LF = none := by decide
theorem k_state : kidx ("state" : Str) LF = none := by decide
theorem push_ok {n E x : Int} {S : List T} (hS : S.length < 1000000) : m_Labels_push [LB n E S, .fr (.int x)] = some (.fr .non, [LB n E (S ++ [.fr (.int (Builtin.bitAnd x E))]), .fr (.int x)]) := by
  simp [m_Labels_push, b_Labels_push, LB, mSeq, mIfS, mTest, mOp2, mOp1, mOpn, mPlP, mPl, pIdx, pFld, pName, Pl.nrm, Pl.get, Pl.set, T.get, T.put, T.put1, T.sub, T.stp, ixN_last, ixN_zero, ixN_one, D.item, atI, mC, mVarP, mVarF, mVarM, mAsg, mName, mStore, T.store, mFput, T.fput, mAppP, mAppT, mPop, mCons, mNil, mTup, T.mkTup, T.allfr, mLst, mAnd, mOr, mNot, mIf, mTruth, mTAnd, mTOr, mTNot, mTruthP, D.truth, T.truth, mChain, T.frz, T.frzs, g1, g2, gI, gI0, gB0, gAdd, gMul, gIs, gIsNot, D.isNon, gLen, D.len, T.len, mLenP, gAbs, gInt, gTupleOf, gListOf, mSnap, T.snap, gIsi, D.asTy, D.tyName, mItem, T.item, mRet, mRetN, mDrop, mCallP, mCall, mbNil, mbVal, mbBor, agTake, agGive, mMethR, T.hasM, mMethP, methFin, mMake, makeFin, mgTup, mgCons, mgNil, mNx, mBk, mCt, mFun, Out.val, outs, T.asFr,  bMul, bDiv, bPos, bPow, mSlice, mPart, mNoPart, gSlice, L3.cutD, HT.sIx, T.isObj, D.fld, mTab, mInTab, mTabGet, mDeadS, mDeadE, mNotE, gNeg, gEq, gNe, D.eqB, k_stack, k_here, hS]
theorem allfr_fr : ∀ {S : List D}, T.allfr (S.map T.fr) = some S
  | [] => rfl
  | d :: S => by
    show (T.allfr (S.map T.fr)).map (d :: ·) = _
    rw [allfr_fr] <;> rfl
theorem state_ok {n E : Int} {S : List D} : m_Labels_state [LB n E (S.map .fr)] = some (.fr (.tup [.int E, .tup (List.replicate 6 (.int E)), .tup S]), [LB n E (S.map .fr)]) := by
  simp only [m_Labels_state, b_Labels_state, LB, V6]
  simp [mSeq, mIfS, mTest, mOp2, mOp1, mOpn, mPlP, mPl, pIdx, pFld, pName, Pl.nrm, Pl.get, Pl.set, T.get, T.put, T.put1, T.sub, T.stp, ixN_last, ixN_zero, ixN_one, D.item, atI, mC, mVarP, mVarF, mVarM, mAsg, mName, mStore, T.store, mFput, T.fput, mAppP, mAppT, mPop, mCons, mNil, mTup, T.mkTup, T.allfr, mLst, mAnd, mOr, mNot, mIf, mTruth, mTAnd, mTOr, mTNot, mTruthP, D.truth, T.truth, mChain, T.frz, T.frzs, g1, g2, gI, gI0, gB0, gAdd, gMul, gIs, gIsNot, D.isNon, gLen, D.len, T.len, mLenP, gAbs, gInt, gTupleOf, gListOf, mSnap, T.snap, gIsi, D.asTy, D.tyName, mItem, T.item, mRet, mRetN, mDrop, mCallP, mCall, mbNil, mbVal, mbBor, agTake, agGive, mMethR, T.hasM, mMethP, methFin, mMake, makeFin, mgTup, mgCons, mgNil, mNx, mBk, mCt, mFun, Out.val, outs, T.asFr,  bMul, bDiv, bPos, bPow, mSlice, mPart, mNoPart, gSlice, L3.cutD, HT.sIx, T.isObj, D.fld, mTab, mInTab, mTabGet, mDeadS, mDeadE, mNotE, gNeg, gEq, gNe, D.eqB, k_stack, k_here, k_vars, allfr_fr]
theorem init_ok {n : Int} (h : n = 2 ∨ n = 3 ∨ n = 4) : m_Labels_init [.obj "Labels" [] [], .fr (.int n)] = some (.fr .non, [LB n (2 ^ n.toNat - 1) [], .fr (.int n)]) := by
  rcases h with rfl | rfl | rfl <;> kernel_rfl
/-! ### read, quiet, act -/
theorem read_push {n E : Int} {S : List T} {r : List D} (hS : S.length < 1000000) (hE : Builtin.bitAnd E E = E) : m_Labels_read [LB n E S, .fr (.tup (.str "push" :: r))] = some (.fr .non, [LB n E (S ++ [.fr (.int E)]), .fr (.tup (.str "push" :: r))]) := by
  have e := push_ok (n := n) (E := E) (x := E) hS
  have h1 : ¬ (("push" : Str) = "load") := by decide
  have h2 : ¬ (("push" : Str) = "counter") := by decide
  have h3 : ¬ (("push" : Str) = "tally") := by decide
  unfold LB at e ⊢
  simp [m_Labels_read, b_Labels_read, mSeq, mIfS, mTest, mOp2, mOp1, mOpn, mPlP, mPl, pIdx, pFld, pName, Pl.nrm, Pl.get, Pl.set, T.get, T.put, T.put1, T.sub, T.stp, ixN_last, ixN_zero, ixN_one, D.item, atI, mC, mVarP, mVarF, mVarM, mAsg, mName, mStore, T.store, mFput, T.fput, mAppP, mAppT, mPop, mCons, mNil, mTup, T.mkTup, T.allfr, mLst, mAnd, mOr, mNot, mIf, mTruth, mTAnd, mTOr, mTNot, mTruthP, D.truth, T.truth, mChain, T.frz, T.frzs, g1, g2, gI, gI0, gB0, gAdd, gMul, gIs, gIsNot, D.isNon, gLen, D.len, T.len, mLenP, gAbs, gInt, gTupleOf, gListOf, mSnap, T.snap, gIsi, D.asTy, D.tyName, mItem, T.item, mRet, mRetN, mDrop, mCallP, mCall, mbNil, mbVal, mbBor, agTake, agGive, mMethR, T.hasM, mMethP, methFin, mMake, makeFin, mgTup, mgCons, mgNil, mNx, mBk, mCt, mFun, Out.val, outs, T.asFr,  bMul, bDiv, bPos, bPow, mSlice, mPart, mNoPart, gSlice, L3.cutD, HT.sIx, T.isObj, D.fld, mTab, mInTab, mTabGet, mDeadS, mDeadE, mNotE, gNeg, gEq, gNe, D.eqB, k_stack, k_here, k_every, k_push, h1, h2, h3, e, hE]
theorem read_counter {n E x : Int} {S : List T} {c : D} {l : List T} (hS : S.length < 1000000) (hx : m_label_of_counter [.fr c, .fr .non, .fr (.int n)] = some (.fr (.int x), l)) : m_Labels_read [LB n E S, .fr (.tup [.str "counter", c])] = some (.fr .non, [LB n E (S ++ [.fr (.int (Builtin.bitAnd x E))]), .fr (.tup [.str "counter", c])]) := by
  have e := push_ok (n := n) (E := E) (x := x) hS
  have h1 : ¬ (("counter" : Str) = "load") := by decide
  unfold LB at e ⊢
  simp [m_Labels_read, b_Labels_read, mSeq, mIfS, mTest, mOp2, mOp1, mOpn, mPlP, mPl, pIdx, pFld, pName, Pl.nrm, Pl.get, Pl.set, T.get, T.put, T.put1, T.sub, T.stp, ixN_last, ixN_zero, ixN_one, D.item, atI, mC, mVarP, mVarF, mVarM, mAsg, mName, mStore, T.store, mFput, T.fput, mAppP, mAppT, mPop, mCons, mNil, mTup, T.mkTup, T.allfr, mLst, mAnd, mOr, mNot, mIf, mTruth, mTAnd, mTOr, mTNot, mTruthP, D.truth, T.truth, mChain, T.frz, T.frzs, g1, g2, gI, gI0, gB0, gAdd, gMul, gIs, gIsNot, D.isNon, gLen, D.len, T.len, mLenP, gAbs, gInt, gTupleOf, gListOf, mSnap, T.snap, gIsi, D.asTy, D.tyName, mItem, T.item, mRet, mRetN, mDrop, mCallP, mCall, mbNil, mbVal, mbBor, agTake, agGive, mMethR, T.hasM, mMethP, methFin, mMake, makeFin, mgTup, mgCons, mgNil, mNx, mBk, mCt, mFun, Out.val, outs, T.asFr,  bMul, bDiv, bPos, bPow, mSlice, mPart, mNoPart, gSlice, L3.cutD, HT.sIx, T.isObj, D.fld, mTab, mInTab, mTabGet, mDeadS, mDeadE, mNotE, gNeg, gEq, gNe, D.eqB, k_stack, k_here, k_every, k_seats, k_push, h1, e, hx]
theorem in_reads (w : Str) : gIn false (.str w) (.tup [.str "push", .str "load", .str "counter", .str "size", .str "tally"]) = some (.fr (.bl (inV (.str w) [.str "push", .str "load", .str "counter", .str "size", .str "tally"]))) := by
  simp [gIn, D.items, D.flat, D.toV]
theorem quiet_read {n E : Int} {S S' : List T} {w : Str} {r : List D} (hw : gIn false (.str w) (.tup [.str "push", .str "load", .str "counter", .str "size", .str "tally"]) = some (.fr (.bl true)))
    (hr : m_Labels_read [LB n E S, .fr (.tup (.str w :: r))] = some (.fr .non, [LB n E S', .fr (.tup (.str w :: r))])) : m_Labels_quiet [LB n E S, .fr (.tup (.str w :: r))] = some (.fr .non, [LB n E S', .fr (.tup (.str w :: r))]) := by
  unfold LB at hr ⊢
  simp [m_Labels_quiet, b_Labels_quiet, mSeq, mIfS, mTest, mOp2, mOp1, mOpn, mPlP, mPl, pIdx, pFld, pName, Pl.nrm, Pl.get, Pl.set, T.get, T.put, T.put1, T.sub, T.stp, ixN_last, ixN_zero, ixN_one, D.item, atI, mC, mVarP, mVarF, mVarM, mAsg, mName, mStore, T.store, mFput, T.fput, mAppP, mAppT, mPop, mCons, mNil, mTup, T.mkTup, T.allfr, mLst, mAnd, mOr, mNot, mIf, mTruth, mTAnd, mTOr, mTNot, mTruthP, D.truth, T.truth, mChain, T.frz, T.frzs, g1, g2, gI, gI0, gB0, gAdd, gMul, gIs, gIsNot, D.isNon, gLen, D.len, T.len, mLenP, gAbs, gInt, gTupleOf, gListOf, mSnap, T.snap, gIsi, D.asTy, D.tyName, mItem, T.item, mRet, mRetN, mDrop, mCallP, mCall, mbNil, mbVal, mbBor, agTake, agGive, mMethR, T.hasM, mMethP, methFin, mMake, makeFin, mgTup, mgCons, mgNil, mNx, mBk, mCt, mFun, Out.val, outs, T.asFr,  bMul, bDiv, bPos, bPow, mSlice, mPart, mNoPart, gSlice, L3.cutD, HT.sIx, T.isObj, D.fld, mTab, mInTab, mTabGet, mDeadS, mDeadE, mNotE, gNeg, gEq, gNe, D.eqB, k_read, hw, hr]
theorem quiet_drop {n E : Int} {S : List T} {t : T} : m_Labels_quiet [LB n E (S ++ [t]), .fr iDrop] = some (.fr .non, [LB n E S, .fr iDrop]) := by
  have h1 : gIn false (.str "drop") (.tup [.str "push", .str "load", .str "counter", .str "size", .str "tally"]) = some (.fr (.bl false)) := by kernel_rfl
  have h2 : gIn false (.str "drop") (.tup [.str "kind", .str "worth"]) = some (.fr (.bl false)) := by kernel_rfl
  have h3 : gIn false (.str "drop") c_BINARY = some (.fr (.bl false)) := by kernel_rfl
  have h4 : gIn false (.str "drop") (.tup [.str "not", .str "div", .str "mod"]) = some (.fr (.bl false)) := by kernel_rfl
  unfold LB iDrop
  simp [m_Labels_quiet, b_Labels_quiet, mSeq, mIfS, mTest, mOp2, mOp1, mOpn, mPlP, mPl, pIdx, pFld, pName, Pl.nrm, Pl.get, Pl.set, T.get, T.put, T.put1, T.sub, T.stp, ixN_last, ixN_zero, ixN_one, D.item, atI, mC, mVarP, mVarF, mVarM, mAsg, mName, mStore, T.store, mFput, T.fput, mAppP, mAppT, mPop, mCons, mNil, mTup, T.mkTup, T.allfr, mLst, mAnd, mOr, mNot, mIf, mTruth, mTAnd, mTOr, mTNot, mTruthP, D.truth, T.truth, mChain, T.frz, T.frzs, g1, g2, gI, gI0, gB0, gAdd, gMul, gIs, gIsNot, D.isNon, gLen, D.len, T.len, mLenP, gAbs, gInt, gTupleOf, gListOf, mSnap, T.snap, gIsi, D.asTy, D.tyName, mItem, T.item, mRet, mRetN, mDrop, mCallP, mCall, mbNil, mbVal, mbBor, agTake, agGive, mMethR, T.hasM, mMethP, methFin, mMake, makeFin, mgTup, mgCons, mgNil, mNx, mBk, mCt, mFun, Out.val, outs, T.asFr,  bMul, bDiv, bPos, bPow, mSlice, mPart, mNoPart, gSlice, L3.cutD, HT.sIx, T.isObj, D.fld, mTab, mInTab, mTabGet, mDeadS, mDeadE, mNotE, gNeg, gEq, gNe, D.eqB, k_stack, h1, h2, h3, h4]
theorem quiet_add {n E a b : Int} {S : List T} (hS : S.length < 1000000) : m_Labels_quiet [LB n E (S ++ [.fr (.int a), .fr (.int b)]), .fr iAdd] = some (.fr .non, [LB n E (S ++ [.fr (.int (Builtin.bitAnd (Builtin.bitAnd a b) E))]), .fr iAdd]) := by
  have h1 : gIn false (.str "add") (.tup [.str "push", .str "load", .str "counter", .str "size", .str "tally"]) = some (.fr (.bl false)) := by kernel_rfl
  have h2 : gIn false (.str "add") (.tup [.str "kind", .str "worth"]) = some (.fr (.bl false)) := by kernel_rfl
  have h3 : gIn false (.str "add") c_BINARY = some (.fr (.bl true)) := by kernel_rfl
  have e := push_ok (n := n) (E := E) (x := Builtin.bitAnd a b) hS
  have e5 : S ++ [T.fr (.int a), .fr (.int b)] = (S ++ [T.fr (.int a)]) ++ [.fr (.int b)] := by simp
  rw [e5]
  generalize hq : S ++ [T.fr (.int a)] = S1
  unfold LB at e ⊢
  unfold iAdd
  simp [m_Labels_quiet, b_Labels_quiet, mSeq, mIfS, mTest, mOp2, mOp1, mOpn, mPlP, mPl, pIdx, pFld, pName, Pl.nrm, Pl.get, Pl.set, T.get, T.put, T.put1, T.sub, T.stp, ixN_last, ixN_zero, ixN_one, D.item, atI, mC, mVarP, mVarF, mVarM, mAsg, mName, mStore, T.store, mFput, T.fput, mAppP, mAppT, mPop, mCons, mNil, mTup, T.mkTup, T.allfr, mLst, mAnd, mOr, mNot, mIf, mTruth, mTAnd, mTOr, mTNot, mTruthP, D.truth, T.truth, mChain, T.frz, T.frzs, g1, g2, gI, gI0, gB0, gAdd, gMul, gIs, gIsNot, D.isNon, gLen, D.len, T.len, mLenP, gAbs, gInt, gTupleOf, gListOf, mSnap, T.snap, gIsi, D.asTy, D.tyName, mItem, T.item, mRet, mRetN, mDrop, mCallP, mCall, mbNil, mbVal, mbBor, agTake, agGive, mMethR, T.hasM, mMethP, methFin, mMake, makeFin, mgTup, mgCons, mgNil, mNx, mBk, mCt, mFun, Out.val, outs, T.asFr,  bMul, bDiv, bPos, bPow, mSlice, mPart, mNoPart, gSlice, L3.cutD, HT.sIx, T.isObj, D.fld, mTab, mInTab, mTabGet, mDeadS, mDeadE, mNotE, gNeg, gEq, gNe, D.eqB, k_stack, k_push, h1, h2, h3]
  subst hq
  simp [mSeq, mIfS, mTest, mOp2, mOp1, mOpn, mPlP, mPl, pIdx, pFld, pName, Pl.nrm, Pl.get, Pl.set, T.get, T.put, T.put1, T.sub, T.stp, ixN_last, ixN_zero, ixN_one, D.item, atI, mC, mVarP, mVarF, mVarM, mAsg, mName, mStore, T.store, mFput, T.fput, mAppP, mAppT, mPop, mCons, mNil, mTup, T.mkTup, T.allfr, mLst, mAnd, mOr, mNot, mIf, mTruth, mTAnd, mTOr, mTNot, mTruthP, D.truth, T.truth, mChain, T.frz, T.frzs, g1, g2, gI, gI0, gB0, gAdd, gMul, gIs, gIsNot, D.isNon, gLen, D.len, T.len, mLenP, gAbs, gInt, gTupleOf, gListOf, mSnap, T.snap, gIsi, D.asTy, D.tyName, mItem, T.item, mRet, mRetN, mDrop, mCallP, mCall, mbNil, mbVal, mbBor, agTake, agGive, mMethR, T.hasM, mMethP, methFin, mMake, makeFin, mgTup, mgCons, mgNil, mNx, mBk, mCt, mFun, Out.val, outs, T.asFr,  bMul, bDiv, bPos, bPow, mSlice, mPart, mNoPart, gSlice, L3.cutD, HT.sIx, T.isObj, D.fld, mTab, mInTab, mTabGet, mDeadS, mDeadE, mNotE, gNeg, gEq, gNe, D.eqB, k_stack, k_push, e]
end Gk69
open PySem PySem.Spec PyProof.Rows L2 L3
namespace Gk69
theorem within_ok {a b : Int} : m_within [.fr (.int a), .fr (.int b)] = some (.fr (.bl (decide (Builtin.bitAnd a b = a))), [.fr (.int a), .fr (.int b)]) := by
  simp [m_within, b_within, mSeq, mIfS, mTest, mOp2, mOp1, mOpn, mPlP, mPl, pIdx, pFld, pName, Pl.nrm, Pl.get, Pl.set, T.get, T.put, T.put1, T.sub, T.stp, ixN_last, ixN_zero, ixN_one, D.item, atI, mC, mVarP, mVarF, mVarM, mAsg, mName, mStore, T.store, mFput, T.fput, mAppP, mAppT, mPop, mCons, mNil, mTup, T.mkTup, T.allfr, mLst, mAnd, mOr, mNot, mIf, mTruth, mTAnd, mTOr, mTNot, mTruthP, D.truth, T.truth, mChain, T.frz, T.frzs, g1, g2, gI, gI0, gB0, gAdd, gMul, gIs, gIsNot, D.isNon, gLen, D.len, T.len, mLenP, gAbs, gInt, gTupleOf, gListOf, mSnap, T.snap, gIsi, D.asTy, D.tyName, mItem, T.item, mRet, mRetN, mDrop, mCallP, mCall, mbNil, mbVal, mbBor, agTake, agGive, mMethR, T.hasM, mMethP, methFin, mMake, makeFin, mgTup, mgCons, mgNil, mNx, mBk, mCt, mFun, Out.val, outs, T.asFr,  bMul, bDiv, bPos, bPow, mSlice, mPart, mNoPart, gSlice, L3.cutD, HT.sIx, T.isObj, D.fld, mTab, mInTab, mTabGet, mDeadS, mDeadE, mNotE, gNeg, gEq, gNe, D.eqB]
theorem fault_ok {n E a x : Int} {S : List T} (hE : Builtin.bitAnd a E = a) : m_Labels_fault [LB n E S, .fr (.int a), .fr (.bl false), .lst [.fr (.int x)]] = some (.fr (if Builtin.bitAnd a x = a then .non else .str "value"), [LB n E S, .fr (.int a), .fr (.bl false), .fr (.lst [.int x])]) := by
  by_cases z : Builtin.bitAnd a x = a
  · simp [m_Labels_fault, b_Labels_fault, LB, mSeq, mIfS, mTest, mOp2, mOp1, mOpn, mPlP, mPl, pIdx, pFld, pName, Pl.nrm, Pl.get, Pl.set, T.get, T.put, T.put1, T.sub, T.stp, ixN_last, ixN_zero, ixN_one, D.item, atI, mC, mVarP, mVarF, mVarM, mAsg, mName, mStore, T.store, mFput, T.fput, mAppP, mAppT, mPop, mCons, mNil, mTup, T.mkTup, T.allfr, mLst, mAnd, mOr, mNot, mIf, mTruth, mTAnd, mTOr, mTNot, mTruthP, D.truth, T.truth, mChain, T.frz, T.frzs, g1, g2, gI, gI0, gB0, gAdd, gMul, gIs, gIsNot, D.isNon, gLen, D.len, T.len, mLenP, gAbs, gInt, gTupleOf, gListOf, mSnap, T.snap, gIsi, D.asTy, D.tyName, mItem, T.item, mRet, mRetN, mDrop, mCallP, mCall, mbNil, mbVal, mbBor, agTake, agGive, mMethR, T.hasM, mMethP, methFin, mMake, makeFin, mgTup, mgCons, mgNil, mNx, mBk, mCt, mFun, Out.val, outs, T.asFr,  bMul, bDiv, bPos, bPow, mSlice, mPart, mNoPart, gSlice, L3.cutD, HT.sIx, T.isObj, D.fld, mTab, mInTab, mTabGet, mDeadS, mDeadE, mNotE, gNeg, gEq, gNe, D.eqB, k_here, within_ok, hE, mLc, miSeq, D.items, D.litems, gAll, wipeE, lcLoop, mYes, asBls, z]
  · simp [m_Labels_fault, b_Labels_fault, LB, mSeq, mIfS, mTest, mOp2, mOp1, mOpn, mPlP, mPl, pIdx, pFld, pName, Pl.nrm, Pl.get, Pl.set, T.get, T.put, T.put1, T.sub, T.stp, ixN_last, ixN_zero, ixN_one, D.item, atI, mC, mVarP, mVarF, mVarM, mAsg, mName, mStore, T.store, mFput, T.fput, mAppP, mAppT, mPop, mCons, mNil, mTup, T.mkTup, T.allfr, mLst, mAnd, mOr, mNot, mIf, mTruth, mTAnd, mTOr, mTNot, mTruthP, D.truth, T.truth, mChain, T.frz, T.frzs, g1, g2, gI, gI0, gB0, gAdd, gMul, gIs, gIsNot, D.isNon, gLen, D.len, T.len, mLenP, gAbs, gInt, gTupleOf, gListOf, mSnap, T.snap, gIsi, D.asTy, D.tyName, mItem, T.item, mRet, mRetN, mDrop, mCallP, mCall, mbNil, mbVal, mbBor, agTake, agGive, mMethR, T.hasM, mMethP, methFin, mMake, makeFin, mgTup, mgCons, mgNil, mNx, mBk, mCt, mFun, Out.val, outs, T.asFr,  bMul, bDiv, bPos, bPow, mSlice, mPart, mNoPart, gSlice, L3.cutD, HT.sIx, T.isObj, D.fld, mTab, mInTab, mTabGet, mDeadS, mDeadE, mNotE, gNeg, gEq, gNe, D.eqB, k_here, within_ok, hE, mLc, miSeq, D.items, D.litems, gAll, wipeE, lcLoop, mYes, asBls, z]
theorem act_tell {n E a x t : Int} {S : List T} {l : List T} (hx : m_label_of_whos [.fr (.tup [.int t]), .fr .non, .fr (.int n)] = some (.fr (.int a), l)) (hE : Builtin.bitAnd a E = a) :
    m_Labels_act [LB n E (S ++ [.fr (.int x)]), .fr (iTell t)] = some (.fr (if Builtin.bitAnd a x = a then .non else .str "value"), [LB n E S, .fr (iTell t)]) := by
  have e := fault_ok (n := n) (E := E) (a := a) (x := x) (S := S) hE
  have h1 : ¬ (("tell" : Str) = "count") := by decide
  have h2 : ¬ (("tell" : Str) = "draw") := by decide
  have h3 : ¬ (("tell" : Str) = "move") := by decide
  have h4 : ¬ (("tell" : Str) = "swap") := by decide
  unfold LB at e ⊢
  unfold iTell
  simp [m_Labels_act, b_Labels_act, mSeq, mIfS, mTest, mOp2, mOp1, mOpn, mPlP, mPl, pIdx, pFld, pName, Pl.nrm, Pl.get, Pl.set, T.get, T.put, T.put1, T.sub, T.stp, ixN_last, ixN_zero, ixN_one, D.item, atI, mC, mVarP, mVarF, mVarM, mAsg, mName, mStore, T.store, mFput, T.fput, mAppP, mAppT, mPop, mCons, mNil, mTup, T.mkTup, T.allfr, mLst, mAnd, mOr, mNot, mIf, mTruth, mTAnd, mTOr, mTNot, mTruthP, D.truth, T.truth, mChain, T.frz, T.frzs, g1, g2, gI, gI0, gB0, gAdd, gMul, gIs, gIsNot, D.isNon, gLen, D.len, T.len, mLenP, gAbs, gInt, gTupleOf, gListOf, mSnap, T.snap, gIsi, D.asTy, D.tyName, mItem, T.item, mRet, mRetN, mDrop, mCallP, mCall, mbNil, mbVal, mbBor, agTake, agGive, mMethR, T.hasM, mMethP, methFin, mMake, makeFin, mgTup, mgCons, mgNil, mNx, mBk, mCt, mFun, Out.val, outs, T.asFr,  bMul, bDiv, bPos, bPow, mSlice, mPart, mNoPart, gSlice, L3.cutD, HT.sIx, T.isObj, D.fld, mTab, mInTab, mTabGet, mDeadS, mDeadE, mNotE, gNeg, gEq, gNe, D.eqB, k_stack, k_seats, k_fault, h1, h2, h3, h4, hx, e]

/-! ### follow -/
def actB (w : Str) : Bool := inV (.str w) [.str "count", .str "draw", .str "move", .str "swap", .str "tell", .str "show", .str "ask"]
theorem actB_in (w : Str) : gIn false (.str w) (.tup [.str "count", .str "draw", .str "move", .str "swap", .str "tell", .str "show", .str "ask"]) = some (.fr (.bl (actB w))) := by
  simp [gIn, D.items, D.flat, D.toV, actB]
/-- one instruction: the labels' stack before, behind, what is wrong -/
def Step (n E : Int) (d : D) (S S' : List D) (o : D) : Prop := ∃ w r, d = .tup (.str w :: r) ∧ (if actB w = true then m_Labels_act [LB n E (S.map .fr), .fr d] = some (.fr o, [LB n E (S'.map .fr), .fr d]) else o = .non ∧ m_Labels_quiet [LB n E (S.map .fr), .fr d] = some (.fr .non, [LB n E (S'.map .fr), .fr d]))
def fol (ds : List D) (n E : Int) (S G : List D) (c p w f : Option T) : L3.Env := [some (.fr (.tup ds)), some (.fr (.int n)), some (LB n E (S.map .fr)), c, some (.lst (G.map .fr)), p, w, f]
theorem hasM_LB {n E : Int} {S : List T} {m : Str} (h : kidx m LF = none) : (LB n E S).hasM "Labels" m = true := by
  unfold LB
  simp [T.hasM, h]
def stD (E : Int) (S : List D) : D := .tup [.int E, .tup (List.replicate 6 (.int E)), .tup S]
theorem fol_step {ds : List D} {n E : Int} {S S' G : List D} {c w f : Option T} {i : Nat} {d : D} (hG : G.length < 900000) (hd : ds[i]? = some d) (hp : Plain d) (hs : Step n E d S S' .non) :
    ∃ w', l_follow_1 (fol ds n E S G c (some (.fr (.int i))) w f) = some (Out.nx, fol ds n E S' (G ++ [stD E S]) c (some (.fr (.int i))) w' (some (.fr .non))) := by
  obtain ⟨w1, r1, rfl, h1, h2, h3, h4⟩ := hp
  obtain ⟨w2, r2, e, hs⟩ := hs
  cases e
  have hi : i < ds.length := (List.getElem?_eq_some_iff.mp hd).1
  have hd' : ds[i] = D.tup (.str w1 :: r1) := (List.getElem?_eq_some_iff.mp hd).2
  have m1 := hasM_LB (n := n) (E := E) (S := S.map .fr) k_state
  have m2 := hasM_LB (n := n) (E := E) (S := S.map .fr) k_act
  have m3 := hasM_LB (n := n) (E := E) (S := S.map .fr) k_quiet
  have es : m_Labels_state [LB n E (S.map .fr)] = some (.fr (stD E S), [LB n E (S.map .fr)]) := state_ok
  have ea := actB_in w1
  have hG2 : G.length < 1000000 := by omega
  unfold fol
  generalize hL : LB n E (S.map .fr) = L at *
  generalize hL' : LB n E (S'.map .fr) = L' at *
  refine ⟨some (.fr (.str w1)), ?_⟩
  by_cases z : actB w1 = true
  · rw [if_pos z] at hs
    simp [l_follow_1, mSeq, mIfS, mTest, mOp2, mOp1, mOpn, mPlP, mPl, pIdx, pFld, pName, Pl.nrm, Pl.get, Pl.set, T.get, T.put, T.put1, T.sub, T.stp, ixN_last, ixN_zero, ixN_one, D.item, atI, mC, mVarP, mVarF, mVarM, mAsg, mName, mStore, T.store, mFput, T.fput, mAppP, mAppT, mPop, mCons, mNil, mTup, T.mkTup, T.allfr, mLst, mAnd, mOr, mNot, mIf, mTruth, mTAnd, mTOr, mTNot, mTruthP, D.truth, T.truth, mChain, T.frz, T.frzs, g1, g2, gI, gI0, gB0, gAdd, gMul, gIs, gIsNot, D.isNon, gLen, D.len, T.len, mLenP, gAbs, gInt, gTupleOf, gListOf, mSnap, T.snap, gIsi, D.asTy, D.tyName, mItem, T.item, mRet, mRetN, mDrop, mCallP, mCall, mbNil, mbVal, mbBor, agTake, agGive, mMethR,  mMethP, methFin, mMake, makeFin, mgTup, mgCons, mgNil, mNx, mBk, mCt, mFun, Out.val, outs, T.asFr,  bMul, bDiv, bPos, bPow, mSlice, mPart, mNoPart, gSlice, L3.cutD, HT.sIx, T.isObj, D.fld, mTab, mInTab, mTabGet, mDeadS, mDeadE, mNotE, gNeg, gEq, gNe, D.eqB, ixN_nat hi, hi, hd', h1, h2, h3, m1, m2, es, hs, ea, z, hG2]
  · rw [if_neg z] at hs
    obtain ⟨_, hs⟩ := hs
    have z' : actB w1 = false := by simpa using z
    simp [l_follow_1, mSeq, mIfS, mTest, mOp2, mOp1, mOpn, mPlP, mPl, pIdx, pFld, pName, Pl.nrm, Pl.get, Pl.set, T.get, T.put, T.put1, T.sub, T.stp, ixN_last, ixN_zero, ixN_one, D.item, atI, mC, mVarP, mVarF, mVarM, mAsg, mName, mStore, T.store, mFput, T.fput, mAppP, mAppT, mPop, mCons, mNil, mTup, T.mkTup, T.allfr, mLst, mAnd, mOr, mNot, mIf, mTruth, mTAnd, mTOr, mTNot, mTruthP, D.truth, T.truth, mChain, T.frz, T.frzs, g1, g2, gI, gI0, gB0, gAdd, gMul, gIs, gIsNot, D.isNon, gLen, D.len, T.len, mLenP, gAbs, gInt, gTupleOf, gListOf, mSnap, T.snap, gIsi, D.asTy, D.tyName, mItem, T.item, mRet, mRetN, mDrop, mCallP, mCall, mbNil, mbVal, mbBor, agTake, agGive, mMethR,  mMethP, methFin, mMake, makeFin, mgTup, mgCons, mgNil, mNx, mBk, mCt, mFun, Out.val, outs, T.asFr,  bMul, bDiv, bPos, bPow, mSlice, mPart, mNoPart, gSlice, L3.cutD, HT.sIx, T.isObj, D.fld, mTab, mInTab, mTabGet, mDeadS, mDeadE, mNotE, gNeg, gEq, gNe, D.eqB, ixN_nat hi, hi, hd', h1, h2, h3, m1, m3, es, hs, ea, z', hG2]
theorem fol_stop {ds : List D} {n E : Int} {S S' G : List D} {c w f : Option T} {i : Nat} {d : D} {x : Str} (hG : G.length < 900000) (hd : ds[i]? = some d) (hp : Plain d) (hs : Step n E d S S' (.str x)) :
    ∃ tl, l_follow_1 (fol ds n E S G c (some (.fr (.int i))) w f) = some (Out.ret (.fr (.tup [.tup [.int i, .str x], .lst (G ++ [stD E S])])), some (.fr (.tup ds)) :: some (.fr (.int n)) :: tl) := by
  obtain ⟨w1, r1, rfl, h1, h2, h3, h4⟩ := hp
  obtain ⟨w2, r2, e, hs⟩ := hs
  cases e
  have hi : i < ds.length := (List.getElem?_eq_some_iff.mp hd).1
  have hd' : ds[i] = D.tup (.str w1 :: r1) := (List.getElem?_eq_some_iff.mp hd).2
  have m1 := hasM_LB (n := n) (E := E) (S := S.map .fr) k_state
  have m2 := hasM_LB (n := n) (E := E) (S := S.map .fr) k_act
  have es : m_Labels_state [LB n E (S.map .fr)] = some (.fr (stD E S), [LB n E (S.map .fr)]) := state_ok
  have ea := actB_in w1
  have hG2 : G.length < 1000000 := by omega
  have hfz : T.frzs (G.map T.fr ++ [.fr (stD E S)]) = some (G ++ [stD E S]) := frzs_append (frzs_map (f := id) ▸ by simp) (by simp [T.frzs, T.frz])
  unfold fol
  generalize hL : LB n E (S.map .fr) = L at *
  generalize hL' : LB n E (S'.map .fr) = L' at *
  by_cases z : actB w1 = true
  · rw [if_pos z] at hs
    refine ⟨[some L', c, some (.fr (.lst (G ++ [stD E S]))), some (.fr (.int i)), some (.fr (.str w1)), some (.fr (.str x))], ?_⟩
    simp [l_follow_1, mSeq, mIfS, mTest, mOp2, mOp1, mOpn, mPlP, mPl, pIdx, pFld, pName, Pl.nrm, Pl.get, Pl.set, T.get, T.put, T.put1, T.sub, T.stp, ixN_last, ixN_zero, ixN_one, D.item, atI, mC, mVarP, mVarF, mVarM, mAsg, mName, mStore, T.store, mFput, T.fput, mAppP, mAppT, mPop, mCons, mNil, mTup, T.mkTup, T.allfr, mLst, mAnd, mOr, mNot, mIf, mTruth, mTAnd, mTOr, mTNot, mTruthP, D.truth, T.truth, mChain, T.frz, T.frzs, g1, g2, gI, gI0, gB0, gAdd, gMul, gIs, gIsNot, D.isNon, gLen, D.len, T.len, mLenP, gAbs, gInt, gTupleOf, gListOf, mSnap, T.snap, gIsi, D.asTy, D.tyName, mItem, T.item, mRet, mRetN, mDrop, mCallP, mCall, mbNil, mbVal, mbBor, agTake, agGive, mMethR,  mMethP, methFin, mMake, makeFin, mgTup, mgCons, mgNil, mNx, mBk, mCt, mFun, Out.val, outs, T.asFr,  bMul, bDiv, bPos, bPow, mSlice, mPart, mNoPart, gSlice, L3.cutD, HT.sIx, T.isObj, D.fld, mTab, mInTab, mTabGet, mDeadS, mDeadE, mNotE, gNeg, gEq, gNe, D.eqB, ixN_nat hi, hi, hd', h1, h2, h3, m1, m2, es, hs, ea, z, hG2, hfz]
  · rw [if_neg z] at hs
    cases hs.1
end Gk69
open PySem PySem.Spec PyProof.Rows L2 L3
namespace Gk69
theorem fol_run {ds : List D} {n E : Int} {S : Nat → List D} {c : Option T} {k : Nat} (hk : k ≤ ds.length) (hl : ds.length < 20000) (hp : ∀ d ∈ ds, Plain d) (hs : ∀ i (hi : i < k), Step n E (ds[i]'(by omega)) (S i) (S (i + 1)) .non) :
    ∃ G p w f, Runs (mName 5) l_follow_1 (intsFrom 0 k) (fol ds n E (S 0) [] c none none none) (fol ds n E (S k) G c p w f) ∧ G.length = k := by
  obtain ⟨ρ', R, G, p, w, f, rfl, hG⟩ := Runs.inv (g := mName 5) (body := l_follow_1) (ds := intsFrom 0 k) (n := 0) (ρ := fol ds n E (S 0) [] c none none none)
    (fun i ρ => ∃ G p w f, ρ = fol ds n E (S i) G c p w f ∧ G.length = i) (fun i d ρ hd ⟨G, p, w, f, e, hG⟩ => by
      subst e
      rw [Nat.zero_add] at *
      obtain ⟨hi, rfl⟩ := intsFrom_at hd
      obtain ⟨w', e⟩ := fol_step (ds := ds) (c := c) (w := w) (f := f) (G := G) (i := i) (by omega) (List.getElem?_eq_getElem (by omega)) (hp _ (List.getElem_mem (by omega))) (hs i hi)
      refine ⟨fol ds n E (S i) G c (some (.fr (.int i))) w f, _, ?_, e, _, _, _, _, rfl, by simp [hG]⟩
      rw [Int.zero_add]
      rfl) ⟨[], none, none, none, rfl, rfl⟩
  rw [Nat.zero_add, intsFrom_len] at *
  exact ⟨G, p, w, f, R, hG⟩
theorem verify_ok {ds : List D} {n E : Int} {S : Nat → List D} (hI : m_Labels_init [.obj "Labels" [] [], .fr (.int n)] = some (.fr .non, [LB n E [], .fr (.int n)])) (h0 : S 0 = []) (hl : ds.length < 20000) (hp : ∀ d ∈ ds, Plain d)
    (hs : ∀ i (hi : i < ds.length), Step n E ds[i] (S i) (S (i + 1)) .non) : ∃ l, m_verify [.fr (.tup ds), .fr (.int n)] = some (.fr .non, l) := by
  obtain ⟨G, p, w, f, R, hG⟩ := fol_run (c := some (.fr (.dct [] []))) (Nat.le_refl _) hl hp hs
  obtain ⟨l, ec⟩ := costs hp (by omega)
  have e := R.loop
  have hl1 : (ds.length : Int) < 100000 := by omega
  have hl2 : (-100000 : Int) < ds.length := by omega
  have m1 := hasM_LB (n := n) (E := E) (S := (S ds.length).map .fr) k_state
  have es : m_Labels_state [LB n E ((S ds.length).map .fr)] = some (.fr (stD E (S ds.length)), [LB n E ((S ds.length).map .fr)]) := state_ok
  have hz : T.frzs (G.map T.fr) = some G := by have := frzs_map (f := id) (l := G); simpa using this
  have hz2 : G.length + 1 ≤ 16777216 := by omega
  rw [h0] at e
  unfold fol at e
  simp only [List.map_nil] at e
  generalize hL : LB n E ((S ds.length).map .fr) = L at *
  simp [m_verify, b_verify, m_follow, b_follow, mSeq, mIfS, mTest, mOp2, mOp1, mOpn, mPlP, mPl, pIdx, pFld, pName, Pl.nrm, Pl.get, Pl.set, T.get, T.put, T.put1, T.sub, T.stp, ixN_last, ixN_zero, ixN_one, D.item, atI, mC, mVarP, mVarF, mVarM, mAsg, mName, mStore, T.store, mFput, T.fput, mAppP, mAppT, mPop, mCons, mNil, mTup, T.mkTup, T.allfr, mLst, mAnd, mOr, mNot, mIf, mTruth, mTAnd, mTOr, mTNot, mTruthP, D.truth, T.truth, mChain, T.frz, T.frzs, g1, g2, gI, gI0, gB0, gAdd, gMul, gIs, gIsNot, D.isNon, gLen, D.len, T.len, mLenP, gAbs, gInt, gTupleOf, gListOf, mSnap, T.snap, gIsi, D.asTy, D.tyName, mItem, T.item, mRet, mRetN, mDrop, mCallP, mCall, mbNil, mbVal, mbBor, agTake, agGive, mMethR,  mMethP, methFin, mMake, makeFin, mgTup, mgCons, mgNil, mNx, mBk, mCt, mFun, Out.val, outs, T.asFr,  bMul, bDiv, bPos, bPow, mSlice, mPart, mNoPart, gSlice, L3.cutD, HT.sIx, T.isObj, D.fld, mTab, mInTab, mTabGet, mDeadS, mDeadE, mNotE, gNeg, gEq, gNe, D.eqB, mFor, miRng1, hI, ec, hl1, hl2, e, m1, es, hz, hz2, ixN_nat]
theorem verify_bad {ds : List D} {n E : Int} {S : Nat → List D} {k : Nat} {x : Str} (hI : m_Labels_init [.obj "Labels" [] [], .fr (.int n)] = some (.fr .non, [LB n E [], .fr (.int n)])) (h0 : S 0 = []) (hl : ds.length < 20000) (hp : ∀ d ∈ ds, Plain d) (hk : k < ds.length)
    (hs : ∀ i (hi : i < k), Step n E (ds[i]'(by omega)) (S i) (S (i + 1)) .non) (hx : Step n E ds[k] (S k) (S (k + 1)) (.str x)) : ∃ l, m_verify [.fr (.tup ds), .fr (.int n)] = some (.fr (.tup [.int k, .str x]), l) := by
  obtain ⟨G, p, w, f, R, hG⟩ := fol_run (c := some (.fr (.dct [] []))) (by omega) hl hp hs
  obtain ⟨l, ec⟩ := costs hp (by omega)
  obtain ⟨tl, e2⟩ := fol_stop (c := some (.fr (.dct [] []))) (w := w) (f := f) (G := G) (i := k) (by omega) (List.getElem?_eq_getElem hk) (hp _ (List.getElem_mem hk)) hx
  have e : mLoop (mName 5) l_follow_1 (intsFrom 0 ds.length) (fol ds n E (S 0) [] (some (.fr (.dct [] []))) none none none) = some (.ret (.fr (.tup [.tup [.int k, .str x], .lst (G ++ [stD E (S k)])])), some (.fr (.tup ds)) :: some (.fr (.int n)) :: tl) := by
    have es : intsFrom 0 ds.length = intsFrom 0 k ++ D.int k :: intsFrom (k + 1) (ds.length - k - 1) := by
      have h1 : ds.length = k + (1 + (ds.length - k - 1)) := by omega
      conv => lhs; rw [h1]
      rw [intsFrom_split, Int.zero_add, Nat.add_comm 1]
      rfl
    rw [es]
    exact R.ret rfl e2
  have hl1 : (ds.length : Int) < 100000 := by omega
  have hl2 : (-100000 : Int) < ds.length := by omega
  rw [h0] at e
  unfold fol at e
  simp only [List.map_nil] at e
  simp [m_verify, b_verify, m_follow, b_follow, mSeq, mIfS, mTest, mOp2, mOp1, mOpn, mPlP, mPl, pIdx, pFld, pName, Pl.nrm, Pl.get, Pl.set, T.get, T.put, T.put1, T.sub, T.stp, ixN_last, ixN_zero, ixN_one, D.item, atI, mC, mVarP, mVarF, mVarM, mAsg, mName, mStore, T.store, mFput, T.fput, mAppP, mAppT, mPop, mCons, mNil, mTup, T.mkTup, T.allfr, mLst, mAnd, mOr, mNot, mIf, mTruth, mTAnd, mTOr, mTNot, mTruthP, D.truth, T.truth, mChain, T.frz, T.frzs, g1, g2, gI, gI0, gB0, gAdd, gMul, gIs, gIsNot, D.isNon, gLen, D.len, T.len, mLenP, gAbs, gInt, gTupleOf, gListOf, mSnap, T.snap, gIsi, D.asTy, D.tyName, mItem, T.item, mRet, mRetN, mDrop, mCallP, mCall, mbNil, mbVal, mbBor, agTake, agGive, mMethR,  mMethP, methFin, mMake, makeFin, mgTup, mgCons, mgNil, mNx, mBk, mCt, mFun, Out.val, outs, T.asFr,  bMul, bDiv, bPos, bPow, mSlice, mPart, mNoPart, gSlice, L3.cutD, HT.sIx, T.isObj, D.fld, mTab, mInTab, mTabGet, mDeadS, mDeadE, mNotE, gNeg, gEq, gNe, D.eqB, mFor, miRng1, hI, ec, hl1, hl2, e]
end Gk69
open PySem PySem.Spec PyProof.Rows L2 L3
namespace Gk69
def chkI (o : Option (T × List T)) (x : Int) : Bool := match o with
  | some (.fr (.int y), _) => decide (y = x)
  | _ => false
theorem chkI_eq {o : Option (T × List T)} {x : Int} (h : chkI o x = true) : ∃ l, o = some (.fr (.int x), l) := by
  unfold chkI at h
  split at h
  · rw [of_decide_eq_true h]; exact ⟨_, rfl⟩
  · cases h
def p2 (n : Int) : Int := 2 ^ n.toNat
def eE (n : Int) : Int := p2 n - 1
def lcD (d : D) : D := match d with
  | .tup [_, c] => c
  | _ => .non
def finB (n s t k : Int) : Bool :=
  decide (Builtin.bitAnd (eE n) (eE n) = eE n) && (decide (Builtin.bitAnd (p2 s) (eE n) = p2 s) && (decide (Builtin.bitAnd (p2 t) (eE n) = p2 t) && (decide (Builtin.bitAnd (Builtin.bitAnd (eE n) (p2 s)) (eE n) = p2 s) &&
  (decide (Builtin.bitAnd (p2 t) (p2 s) = p2 t) == decide (s = t)) && (chkI (m_label_of_counter [.fr (lcD iOpen0), .fr .non, .fr (.int n)]) (eE n) && (chkI (m_label_of_counter [.fr (lcD iComm), .fr .non, .fr (.int n)]) (eE n) &&
  (chkI (m_label_of_counter [.fr (lcD (iSec k s)), .fr .non, .fr (.int n)]) (p2 s) && (chkI (m_label_of_counter [.fr (lcD (iOpen2 s)), .fr .non, .fr (.int n)]) (eE n) && chkI (m_label_of_whos [.fr (.tup [.int t]), .fr .non, .fr (.int n)]) (p2 t))))))))
theorem fin_all : (([2, 3, 4] : List Int).all fun n => ([0, 1, 2, 3] : List Int).all fun s => ([0, 1, 2, 3] : List Int).all fun t => ([0, 1] : List Int).all fun k => !(decide (s < n) && decide (t < n)) || finB n s t k) = true := by kernel_rfl
structure Fin (n s t k : Int) : Prop where
  nn : n = 2 ∨ n = 3 ∨ n = 4
  ee : Builtin.bitAnd (eE n) (eE n) = eE n
  ae : Builtin.bitAnd (p2 s) (eE n) = p2 s
  be : Builtin.bitAnd (p2 t) (eE n) = p2 t
  eae : Builtin.bitAnd (Builtin.bitAnd (eE n) (p2 s)) (eE n) = p2 s
  ba : (Builtin.bitAnd (p2 t) (p2 s) = p2 t) ↔ s = t
  o0 : ∃ l, m_label_of_counter [.fr (lcD iOpen0), .fr .non, .fr (.int n)] = some (.fr (.int (eE n)), l)
  cm : ∃ l, m_label_of_counter [.fr (lcD iComm), .fr .non, .fr (.int n)] = some (.fr (.int (eE n)), l)
  sc : ∃ l, m_label_of_counter [.fr (lcD (iSec k s)), .fr .non, .fr (.int n)] = some (.fr (.int (p2 s)), l)
  o2 : ∃ l, m_label_of_counter [.fr (lcD (iOpen2 s)), .fr .non, .fr (.int n)] = some (.fr (.int (eE n)), l)
  wh : ∃ l, m_label_of_whos [.fr (.tup [.int t]), .fr .non, .fr (.int n)] = some (.fr (.int (p2 t)), l)
  ms : iSec k s ∈ allI
  mo : iOpen2 s ∈ allI
  mt : iTell t ∈ allI
theorem fin_of {n s t k : Int} (hn : 2 ≤ n) (hn4 : n ≤ 4) (hs : 0 ≤ s) (hsn : s < n) (ht : 0 ≤ t) (htn : t < n) (hk : 0 ≤ k) (hk2 : k < 2) : Fin n s t k := by
  have nn : n = 2 ∨ n = 3 ∨ n = 4 := by omega
  have s4 : s = 0 ∨ s = 1 ∨ s = 2 ∨ s = 3 := by omega
  have t4 : t = 0 ∨ t = 1 ∨ t = 2 ∨ t = 3 := by omega
  have k4 : k = 0 ∨ k = 1 := by omega
  have h := List.all_eq_true.mp (List.all_eq_true.mp (List.all_eq_true.mp (List.all_eq_true.mp fin_all n (by simpa using nn)) s (by simpa using s4)) t (by simpa using t4)) k (by simpa using k4)
  have h2 : finB n s t k = true := by simpa [hsn, htn] using h
  unfold finB at h2
  simp only [Bool.and_eq_true, decide_eq_true_eq] at h2
  obtain ⟨a1, a2, a3, ⟨a4, a5⟩, a6, a7, a8, a9, a10⟩ := h2
  refine ⟨nn, a1, a2, a3, a4, ?_, chkI_eq a6, chkI_eq a7, chkI_eq a8, chkI_eq a9, chkI_eq a10, ?_, ?_, ?_⟩
  · have := eq_of_beq a5
    by_cases z : s = t
    · simp [z] at this ⊢; exact this
    · simp [z] at this ⊢; exact this
  · rcases k4 with rfl | rfl
    · have : s ∈ n4 := by simpa [n4] using s4
      simp [allI, List.mem_map]; exact Or.inr (Or.inr (Or.inr (Or.inl ⟨s, this, rfl⟩)))
    · have : s ∈ n4 := by simpa [n4] using s4
      simp [allI, List.mem_map]; exact Or.inr (Or.inr (Or.inr (Or.inr (Or.inl ⟨s, this, rfl⟩))))
  · have : s ∈ n4 := by simpa [n4] using s4
    simp [allI, List.mem_map]; exact Or.inr (Or.inr (Or.inr (Or.inr (Or.inr (Or.inl ⟨s, this, rfl⟩)))))
  · have : t ∈ n4 := by simpa [n4] using t4
    simp [allI, List.mem_map]; exact Or.inr (Or.inr (Or.inr (Or.inr (Or.inr (Or.inr ⟨t, this, rfl⟩)))))
/-! ### steps of the labels -/
theorem map_snoc {S : List D} {d : D} : (S ++ [d]).map T.fr = S.map .fr ++ [.fr d] := by simp
theorem st_counter {n E x : Int} {S : List D} {c : D} (hS : S.length < 1000000) (hx : ∃ l, m_label_of_counter [.fr c, .fr .non, .fr (.int n)] = some (.fr (.int x), l)) (hE : Builtin.bitAnd x E = x) : Step n E (.tup [.str "counter", c]) S (S ++ [.int x]) .non := by
  obtain ⟨l, hx⟩ := hx
  refine ⟨"counter", [c], rfl, ?_⟩
  rw [if_neg (by decide)]
  refine ⟨rfl, ?_⟩
  rw [map_snoc]
  refine quiet_read (by kernel_rfl) ?_
  have := read_counter (E := E) (S := S.map .fr) (by simpa using hS) hx
  rw [hE] at this
  exact this
theorem st_push {n E v : Int} {S : List D} (hS : S.length < 1000000) (hE : Builtin.bitAnd E E = E) : Step n E (iPush v) S (S ++ [.int E]) .non := by
  refine ⟨"push", [.int v], rfl, ?_⟩
  rw [if_neg (by decide)]
  refine ⟨rfl, ?_⟩
  rw [map_snoc]
  exact quiet_read (by kernel_rfl) (read_push (by simpa using hS) hE)
theorem st_drop {n E : Int} {S : List D} {d : D} : Step n E iDrop (S ++ [d]) S .non := by
  refine ⟨"drop", [], rfl, ?_⟩
  rw [if_neg (by decide)]
  refine ⟨rfl, ?_⟩
  rw [map_snoc]
  exact quiet_drop
theorem st_add {n E a b y : Int} {S : List D} (hS : S.length < 1000000) (hy : Builtin.bitAnd (Builtin.bitAnd a b) E = y) : Step n E iAdd (S ++ [.int a, .int b]) (S ++ [.int y]) .non := by
  refine ⟨"add", [], rfl, ?_⟩
  rw [if_neg (by decide)]
  refine ⟨rfl, ?_⟩
  rw [map_snoc, List.map_append]
  have := quiet_add (n := n) (E := E) (a := a) (b := b) (S := S.map .fr) (by simpa using hS)
  rw [hy] at this
  exact this
theorem st_tell {n E a x t : Int} {S : List D} {o : D} (hx : ∃ l, m_label_of_whos [.fr (.tup [.int t]), .fr .non, .fr (.int n)] = some (.fr (.int a), l)) (hE : Builtin.bitAnd a E = a) (ho : o = if Builtin.bitAnd a x = a then .non else .str "value") : Step n E (iTell t) (S ++ [.int x]) S o := by
  obtain ⟨l, hx⟩ := hx
  refine ⟨"tell", [.tup [.int t]], rfl, ?_⟩
  rw [if_pos (by decide), map_snoc, ho]
  exact act_tell hx hE
theorem st_low {n s t k : Int} (F : Fin n s t k) {d : D} {S : List D} (hd : d ∈ lowI) (hS : S.length < 1000000) : Step n (eE n) d S (S ++ [.int (eE n)]) .non := by
  simp only [lowI, List.mem_cons, List.mem_map] at hd
  rcases hd with rfl | rfl | ⟨v, _, rfl⟩
  · exact st_counter hS F.o0 F.ee
  · exact st_counter hS F.cm F.ee
  · exact st_push hS F.ee
/-! ### heights of instructions -/
theorem h_up {d : D} (h : (∃ v, d = iPush v) ∨ ∃ c, d = .tup [.str "counter", c]) {x : Int} (h0 : 0 ≤ x) : ∃ l, m_height_behind [.fr d, .fr (.int x)] = some (if x + 1 ≤ 60 then .fr (.int (x + 1)) else .fr .non, l) := by
  rcases h with ⟨v, rfl⟩ | ⟨c, rfl⟩
  · exact ⟨_, hb_up (by kernel_rfl) (by kernel_rfl) (by kernel_rfl) h0⟩
  · exact ⟨_, hb_up (by kernel_rfl) (by kernel_rfl) (by kernel_rfl) h0⟩
theorem h_low {d : D} (h : d ∈ lowI) : (∃ v, d = iPush v) ∨ ∃ c, d = .tup [.str "counter", c] := by
  simp only [lowI, List.mem_cons, List.mem_map] at h
  rcases h with rfl | rfl | ⟨v, _, rfl⟩
  · exact .inr ⟨_, rfl⟩
  · exact .inr ⟨_, rfl⟩
  · exact .inl ⟨_, rfl⟩
theorem h_tell {t x : Int} (h0 : 1 ≤ x) (h1 : x ≤ 60) : ∃ l, m_height_behind [.fr (iTell t), .fr (.int x)] = some (.fr (.int (x - 1)), l) := ⟨_, hb_down (by kernel_rfl) (by kernel_rfl) (by kernel_rfl) h0 h1⟩
theorem h_drop {x : Int} (h0 : 1 ≤ x) (h1 : x ≤ 60) : ∃ l, m_height_behind [.fr iDrop, .fr (.int x)] = some (.fr (.int (x - 1)), l) := ⟨_, hb_down (by kernel_rfl) (by kernel_rfl) (by kernel_rfl) h0 h1⟩
theorem h_add {x : Int} (h0 : 2 ≤ x) (h1 : x ≤ 60) : ∃ l, m_height_behind [.fr iAdd, .fr (.int x)] = some (.fr (.int (x - 1)), l) := ⟨_, hb_add h0 h1⟩
end Gk69
open PySem PySem.Spec PyProof.Rows L2 L3
namespace Gk69
structure Good (ds : List D) (n high : Int) (due : D) : Prop where
  code : ∃ l, m_is_code [.fr (.tup ds)] = some (.fr (.bl true), l)
  ver : ∃ l, m_verify [.fr (.tup ds), .fr (.int n)] = some (.fr due, l)
  hts : ∃ hs l, m_heights [.fr (.tup ds)] = some (.lst (hs.map fun i => .fr (.int i)), l) ∧ maxI hs = high ∧ hs.length = ds.length + 1
theorem heights_get {ds : List D} {t : T} {l : List T} (h : m_heights_of [.fr (.tup ds)] = some (t, l)) : ∃ l, m_heights [.fr (.tup ds)] = some (t, l) := by
  simp [m_heights, b_heights, mSeq, mIfS, mTest, mOp2, mOp1, mOpn, mPlP, mPl, pIdx, pFld, pName, Pl.nrm, Pl.get, Pl.set, T.get, T.put, T.put1, T.sub, T.stp, ixN, D.item, atI, mC, mVarP, mVarF, mVarM, mAsg, mName, mStore, T.store, mFput, T.fput, mAppP, mAppT, mPop, mCons, mNil, mTup, T.mkTup, T.allfr, mLst, mAnd, mOr, mNot, mIf, mTruth, mTAnd, mTOr, mTNot, mTruthP, D.truth, T.truth, mChain, T.frz, T.frzs, g1, g2, gI, gI0, gB0, gAdd, gMul, gIs, gIsNot, D.isNon, gLen, D.len, T.len, mLenP, gAbs, gInt, gTupleOf, gListOf, mSnap, T.snap, gIsi, D.asTy, D.tyName, mItem, T.item, mRet, mRetN, mDrop, mCallP, mCall, mbNil, mbVal, mbBor, agTake, agGive, mMethR, T.hasM, mMethP, methFin, mMake, makeFin, mgTup, mgCons, mgNil, mNx, mBk, mCt, mFun, Out.val, outs, T.asFr, kidx, bMul, bDiv, bPos, bPow, mSlice, mPart, mNoPart, gSlice, L3.cutD, HT.sIx, T.isObj, D.fld, mTab, mInTab, mTabGet, mDeadS, mDeadE, mNotE, gNeg, gEq, gNe, D.eqB, h]
theorem good_of {ds : List D} {n : Int} {high : Int} {due : D} {f : Nat → Int} (hd : ∀ d ∈ ds, d ∈ allI) (hl : ds.length < 20000) (h0 : f 0 = 0) (he : f ds.length = 0)
    (hs : ∀ i (hi : i < ds.length), ∃ l, m_height_behind [.fr ds[i], .fr (.int (f i))] = some (.fr (.int (f (i + 1))), l)) (hm : ∃ i, i ≤ ds.length ∧ f i = high) (hx : ∀ i, i ≤ ds.length → f i ≤ high)
    (hv : ∃ l, m_verify [.fr (.tup ds), .fr (.int n)] = some (.fr due, l)) : Good ds n high due := by
  obtain ⟨l, e⟩ := heights_ok h0 (by omega) hs (fun d h => plain_of (hd d h))
  have e2 := e
  rw [he] at e2
  refine ⟨code_yes hd hl e2 ⟨_, frzs_map (f := fun i => D.int (f i))⟩, hv, ?_⟩
  have el : (List.range ds.length).map (fun i => T.fr (.int (f i))) ++ [.fr (.int (f ds.length))] = ((List.range (ds.length + 1)).map f).map fun i => T.fr (.int i) := by
    rw [List.range_succ, List.map_map, List.map_append] <;> rfl
  rw [el] at e
  obtain ⟨l2, e3⟩ := heights_get e
  refine ⟨_, l2, e3, maxI_eq ?_ fun a ha => ?_, by simp⟩
  · obtain ⟨i, hi, e⟩ := hm
    exact List.mem_map.mpr ⟨i, List.mem_range.mpr (by omega), e⟩
  · obtain ⟨i, hi, e⟩ := List.mem_map.mp ha
    rw [← e]
    exact hx i (by have := List.mem_range.mp hi; omega)
/-! ### a tell behind one label -/
def cA (low : List D) (c : D) (t : Int) : List D := low ++ ([c, iTell t] ++ List.replicate low.length iDrop)
theorem cA_len {low : List D} {c : D} {t : Int} : (cA low c t).length = 2 * low.length + 2 := by
  unfold cA; simp; omega
theorem cA_get {low : List D} {c : D} {t : Int} (hl : ∀ d ∈ low, d ∈ lowI) (i : Nat) (h : i < (cA low c t).length) : (i < low.length ∧ (cA low c t)[i] ∈ lowI) ∨ (i = low.length ∧ (cA low c t)[i] = c) ∨ (i = low.length + 1 ∧ (cA low c t)[i] = iTell t) ∨ (low.length + 2 ≤ i ∧ (cA low c t)[i] = iDrop) := by
  have e : ∀ x, (cA low c t)[i]? = some x → (cA low c t)[i] = x := fun x q => (List.getElem?_eq_some_iff.mp q).2
  have hL := cA_len (low := low) (c := c) (t := t)
  by_cases z : i < low.length
  · refine .inl ⟨z, ?_⟩
    rw [e low[i] (by unfold cA; rw [List.getElem?_append_left z, List.getElem?_eq_getElem z])]
    exact hl _ (List.getElem_mem z)
  · have er : (cA low c t)[i]? = ([c, iTell t] ++ List.replicate low.length iDrop)[i - low.length]? := by unfold cA; rw [List.getElem?_append_right (by omega)]
    by_cases z1 : i = low.length
    · exact .inr (.inl ⟨z1, e _ (by rw [er, z1]; simp)⟩)
    · by_cases z2 : i = low.length + 1
      · exact .inr (.inr (.inl ⟨z2, e _ (by rw [er, z2, show low.length + 1 - low.length = 1 by omega]; rfl)⟩))
      · refine .inr (.inr (.inr ⟨by omega, e _ ?_⟩))
        rw [er, List.getElem?_append_right (by simp; omega), List.getElem?_replicate, if_pos (by simp; omega)]
theorem cA_all {low : List D} {c : D} {t : Int} (hl : ∀ d ∈ low, d ∈ lowI) (hc : c ∈ allI) (ht : iTell t ∈ allI) : ∀ d ∈ cA low c t, d ∈ allI := by
  intro d h
  simp only [cA, List.mem_append, List.mem_cons, List.mem_replicate, List.not_mem_nil, or_false] at h
  rcases h with h | (rfl | rfl) | ⟨_, rfl⟩
  · simp only [allI, List.mem_cons, List.mem_append]
    exact .inr (.inr (.inl (hl d h)))
  · exact hc
  · exact ht
  · simp [allI]
def fA (m i : Nat) : Int := if i ≤ m + 1 then (i : Int) else 2 * m + 2 - i
def sA (E x : Int) (m i : Nat) : List D := if i ≤ m then List.replicate i (.int E) else if i = m + 1 then List.replicate m (.int E) ++ [.int x] else List.replicate (2 * m + 2 - i) (.int E)
theorem cA_hs {low : List D} {cc : D} {t : Int} (hl : ∀ d ∈ low, d ∈ lowI) (h60 : low.length + 1 ≤ 60) (i : Nat) (hi : i < (cA low (.tup [.str "counter", cc]) t).length) :
    ∃ l, m_height_behind [.fr (cA low (.tup [.str "counter", cc]) t)[i], .fr (.int (fA low.length i))] = some (.fr (.int (fA low.length (i + 1))), l) := by
  have hL := cA_len (low := low) (c := .tup [.str "counter", cc]) (t := t)
  rcases cA_get hl i hi with ⟨z, q⟩ | ⟨z, q⟩ | ⟨z, q⟩ | ⟨z, q⟩
  · obtain ⟨l, e⟩ := h_up (h_low q) (x := (i : Int)) (by omega)
    rw [if_pos (by omega)] at e
    refine ⟨l, ?_⟩
    unfold fA
    rw [if_pos (by omega), if_pos (by omega), e]
    push_cast
    rfl
  · obtain ⟨l, e⟩ := h_up (.inr ⟨cc, rfl⟩) (x := (i : Int)) (by omega)
    rw [if_pos (by omega)] at e
    refine ⟨l, ?_⟩
    unfold fA
    rw [q, if_pos (by omega), if_pos (by omega), e]
    push_cast
    rfl
  · obtain ⟨l, e⟩ := h_tell (t := t) (x := (i : Int)) (by omega) (by omega)
    refine ⟨l, ?_⟩
    unfold fA
    rw [q, if_pos (by omega), if_neg (by omega), e, show ((i : Int) - 1) = 2 * (low.length : Int) + 2 - ((i + 1 : Nat) : Int) by push_cast; omega]
  · obtain ⟨l, e⟩ := h_drop (x := 2 * (low.length : Int) + 2 - (i : Int)) (by omega) (by omega)
    refine ⟨l, ?_⟩
    unfold fA
    rw [q, if_neg (by omega), if_neg (by omega), e, show (2 * (low.length : Int) + 2 - (i : Int) - 1) = 2 * (low.length : Int) + 2 - ((i + 1 : Nat) : Int) by push_cast; omega]
theorem cA_st {n s t k x : Int} (F : Fin n s t k) {low : List D} {cc : D} (hl : ∀ d ∈ low, d ∈ lowI) (h60 : low.length ≤ 60) (hx : ∃ l, m_label_of_counter [.fr cc, .fr .non, .fr (.int n)] = some (.fr (.int x), l)) (hE : Builtin.bitAnd x (eE n) = x)
    (i : Nat) (hi : i < (cA low (.tup [.str "counter", cc]) t).length) : Step n (eE n) (cA low (.tup [.str "counter", cc]) t)[i] (sA (eE n) x low.length i) (sA (eE n) x low.length (i + 1)) (if i = low.length + 1 then (if Builtin.bitAnd (p2 t) x = p2 t then .non else .str "value") else .non) := by
  have hL := cA_len (low := low) (c := .tup [.str "counter", cc]) (t := t)
  rcases cA_get hl i hi with ⟨z, q⟩ | ⟨z, q⟩ | ⟨z, q⟩ | ⟨z, q⟩
  · rw [if_neg (by omega)]
    unfold sA
    rw [if_pos (by omega), if_pos (by omega), List.replicate_succ']
    exact st_low F q (by simp; omega)
  · rw [if_neg (by omega), q]
    unfold sA
    rw [if_pos (by omega), if_neg (by omega), if_pos (by omega), z]
    exact st_counter (by simp; omega) hx hE
  · rw [if_pos z, q]
    unfold sA
    rw [if_neg (by omega), if_pos z, if_neg (by omega), if_neg (by omega), show 2 * low.length + 2 - (i + 1) = low.length by omega]
    exact st_tell F.wh F.be rfl
  · rw [if_neg (by omega), q]
    unfold sA
    rw [if_neg (by omega), if_neg (by omega), if_neg (by omega), if_neg (by omega), show 2 * low.length + 2 - i = (2 * low.length + 2 - (i + 1)) + 1 by omega, List.replicate_succ']
    exact st_drop
theorem good_A {n s t k x : Int} (F : Fin n s t k) {low : List D} {cc : D} (hl : ∀ d ∈ low, d ∈ lowI) (h60 : low.length + 1 ≤ 60) (hc : .tup [.str "counter", cc] ∈ allI) (hx : ∃ l, m_label_of_counter [.fr cc, .fr .non, .fr (.int n)] = some (.fr (.int x), l)) (hE : Builtin.bitAnd x (eE n) = x) :
    Good (cA low (.tup [.str "counter", cc]) t) n (low.length + 1) (if Builtin.bitAnd (p2 t) x = p2 t then .non else .tup [.int (low.length + 1 : Nat), .str "value"]) := by
  have hL := cA_len (low := low) (c := .tup [.str "counter", cc]) (t := t)
  have ha := cA_all (low := low) hl hc F.mt
  have hI := init_ok F.nn
  have hst := cA_st F hl (by omega) hx hE
  refine good_of (f := fA low.length) ha (by omega) rfl ?_ (cA_hs hl h60) ⟨low.length + 1, by omega, ?_⟩ (fun i hi => ?_) ?_
  · rw [hL]; unfold fA; rw [if_neg (by omega)]; push_cast; omega
  · unfold fA; rw [if_pos (by omega)]; push_cast; rfl
  · unfold fA; split <;> omega
  · by_cases z : Builtin.bitAnd (p2 t) x = p2 t
    · rw [if_pos z]
      refine verify_ok (E := eE n) (S := sA (eE n) x low.length) hI rfl (by omega) (fun d h => plain_of (ha d h)) fun i hi => ?_
      have := hst i hi
      rw [if_pos z] at this
      split at this <;> exact this
    · rw [if_neg z]
      have hk : low.length + 1 < (cA low (.tup [.str "counter", cc]) t).length := by omega
      refine verify_bad (E := eE n) (S := sA (eE n) x low.length) (k := low.length + 1) hI rfl (by omega) (fun d h => plain_of (ha d h)) hk (fun i hi => ?_) ?_
      · have := hst i (by omega)
        rw [if_neg (by omega)] at this
        exact this
      · have := hst (low.length + 1) hk
        rw [if_pos rfl, if_neg z] at this
        exact this
end Gk69
open PySem PySem.Spec PyProof.Rows L2 L3
namespace Gk69
/-! ### .. the label added to the one below -/
def cB (low : List D) (c : D) (t : Int) : List D := low ++ ([c, iAdd, iTell t, iPush 0] ++ List.replicate low.length iDrop)
theorem cB_len {low : List D} {c : D} {t : Int} : (cB low c t).length = 2 * low.length + 4 := by
  unfold cB; simp; omega
theorem cB_get {low : List D} {c : D} {t : Int} (hl : ∀ d ∈ low, d ∈ lowI) (i : Nat) (h : i < (cB low c t).length) : (i < low.length ∧ (cB low c t)[i] ∈ lowI) ∨ (i = low.length ∧ (cB low c t)[i] = c) ∨ (i = low.length + 1 ∧ (cB low c t)[i] = iAdd) ∨ (i = low.length + 2 ∧ (cB low c t)[i] = iTell t) ∨
    (i = low.length + 3 ∧ (cB low c t)[i] = iPush 0) ∨ (low.length + 4 ≤ i ∧ (cB low c t)[i] = iDrop) := by
  have e : ∀ x, (cB low c t)[i]? = some x → (cB low c t)[i] = x := fun x q => (List.getElem?_eq_some_iff.mp q).2
  have hL := cB_len (low := low) (c := c) (t := t)
  by_cases z : i < low.length
  · refine .inl ⟨z, ?_⟩
    rw [e low[i] (by unfold cB; rw [List.getElem?_append_left z, List.getElem?_eq_getElem z])]
    exact hl _ (List.getElem_mem z)
  · have er : (cB low c t)[i]? = ([c, iAdd, iTell t, iPush 0] ++ List.replicate low.length iDrop)[i - low.length]? := by unfold cB; rw [List.getElem?_append_right (by omega)]
    by_cases z1 : i = low.length
    · exact .inr (.inl ⟨z1, e _ (by rw [er, z1]; simp)⟩)
    · by_cases z2 : i = low.length + 1
      · exact .inr (.inr (.inl ⟨z2, e _ (by rw [er, z2, show low.length + 1 - low.length = 1 by omega]; rfl)⟩))
      · by_cases z3 : i = low.length + 2
        · exact .inr (.inr (.inr (.inl ⟨z3, e _ (by rw [er, z3, show low.length + 2 - low.length = 2 by omega]; rfl)⟩)))
        · by_cases z4 : i = low.length + 3
          · exact .inr (.inr (.inr (.inr (.inl ⟨z4, e _ (by rw [er, z4, show low.length + 3 - low.length = 3 by omega]; rfl)⟩))))
          · refine .inr (.inr (.inr (.inr (.inr ⟨by omega, e _ ?_⟩))))
            rw [er, List.getElem?_append_right (by simp; omega), List.getElem?_replicate, if_pos (by simp; omega)]
theorem cB_all {low : List D} {c : D} {t : Int} (hl : ∀ d ∈ low, d ∈ lowI) (hc : c ∈ allI) (ht : iTell t ∈ allI) : ∀ d ∈ cB low c t, d ∈ allI := by
  intro d h
  simp only [cB, List.mem_append, List.mem_cons, List.mem_replicate, List.not_mem_nil, or_false] at h
  rcases h with h | (rfl | rfl | rfl | rfl) | ⟨_, rfl⟩
  · simp only [allI, List.mem_cons, List.mem_append]
    exact .inr (.inr (.inl (hl d h)))
  · exact hc
  · simp [allI]
  · exact ht
  · simp [allI, lowI]
  · simp [allI]
def fB (m i : Nat) : Int := if i ≤ m + 1 then (i : Int) else if i = m + 2 then m else if i = m + 3 then m - 1 else 2 * m + 4 - i
def sB (E x : Int) (m i : Nat) : List D := if i ≤ m then List.replicate i (.int E) else if i = m + 1 then List.replicate m (.int E) ++ [.int x] else if i = m + 2 then List.replicate (m - 1) (.int E) ++ [.int x] else if i = m + 3 then List.replicate (m - 1) (.int E) else List.replicate (2 * m + 4 - i) (.int E)
theorem cB_hs {low : List D} {cc : D} {t : Int} (hl : ∀ d ∈ low, d ∈ lowI) (h1 : 1 ≤ low.length) (h60 : low.length + 1 ≤ 60) (i : Nat) (hi : i < (cB low (.tup [.str "counter", cc]) t).length) :
    ∃ l, m_height_behind [.fr (cB low (.tup [.str "counter", cc]) t)[i], .fr (.int (fB low.length i))] = some (.fr (.int (fB low.length (i + 1))), l) := by
  have hL := cB_len (low := low) (c := .tup [.str "counter", cc]) (t := t)
  rcases cB_get hl i hi with ⟨z, q⟩ | ⟨z, q⟩ | ⟨z, q⟩ | ⟨z, q⟩ | ⟨z, q⟩ | ⟨z, q⟩
  · obtain ⟨l, e⟩ := h_up (h_low q) (x := (i : Int)) (by omega)
    rw [if_pos (by omega)] at e
    refine ⟨l, ?_⟩
    unfold fB
    rw [if_pos (by omega), if_pos (by omega), e]
    push_cast
    rfl
  · obtain ⟨l, e⟩ := h_up (.inr ⟨cc, rfl⟩) (x := (i : Int)) (by omega)
    rw [if_pos (by omega)] at e
    refine ⟨l, ?_⟩
    unfold fB
    rw [q, if_pos (by omega), if_pos (by omega), e]
    push_cast
    rfl
  · obtain ⟨l, e⟩ := h_add (x := (i : Int)) (by omega) (by omega)
    refine ⟨l, ?_⟩
    unfold fB
    rw [q, if_pos (by omega), if_neg (by omega), if_pos (by omega), e, show ((i : Int) - 1) = (low.length : Int) by omega]
  · obtain ⟨l, e⟩ := h_tell (t := t) (x := (low.length : Int)) (by omega) (by omega)
    refine ⟨l, ?_⟩
    unfold fB
    rw [q, if_neg (by omega), if_pos z, if_neg (by omega), if_neg (by omega), if_pos (by omega), e]
  · obtain ⟨l, e⟩ := h_up (d := iPush 0) (.inl ⟨0, rfl⟩) (x := (low.length : Int) - 1) (by omega)
    rw [if_pos (by omega)] at e
    refine ⟨l, ?_⟩
    unfold fB
    rw [q, if_neg (by omega), if_neg (by omega), if_pos z, if_neg (by omega), if_neg (by omega), if_neg (by omega), e, show (low.length : Int) - 1 + 1 = 2 * (low.length : Int) + 4 - ((i + 1 : Nat) : Int) by push_cast; omega]
  · obtain ⟨l, e⟩ := h_drop (x := 2 * (low.length : Int) + 4 - (i : Int)) (by omega) (by omega)
    refine ⟨l, ?_⟩
    unfold fB
    rw [q, if_neg (by omega), if_neg (by omega), if_neg (by omega), if_neg (by omega), if_neg (by omega), if_neg (by omega), e, show (2 * (low.length : Int) + 4 - (i : Int) - 1) = 2 * (low.length : Int) + 4 - ((i + 1 : Nat) : Int) by push_cast; omega]
theorem cB_st {n s t k : Int} (F : Fin n s t k) {low : List D} (hl : ∀ d ∈ low, d ∈ lowI) (h1 : 1 ≤ low.length) (h60 : low.length ≤ 60)
    (i : Nat) (hi : i < (cB low (iSec k s) t).length) : Step n (eE n) (cB low (iSec k s) t)[i] (sB (eE n) (p2 s) low.length i) (sB (eE n) (p2 s) low.length (i + 1)) (if i = low.length + 2 then (if Builtin.bitAnd (p2 t) (p2 s) = p2 t then .non else .str "value") else .non) := by
  have hL := cB_len (low := low) (c := iSec k s) (t := t)
  have h2 : low.length = (low.length - 1) + 1 := by omega
  rcases cB_get hl i hi with ⟨z, q⟩ | ⟨z, q⟩ | ⟨z, q⟩ | ⟨z, q⟩ | ⟨z, q⟩ | ⟨z, q⟩
  · rw [if_neg (by omega)]
    unfold sB
    rw [if_pos (by omega), if_pos (by omega), List.replicate_succ']
    exact st_low F q (by simp; omega)
  · rw [if_neg (by omega), q]
    unfold sB
    rw [if_pos (by omega), if_neg (by omega), if_pos (by omega), z]
    exact st_counter (by simp; omega) F.sc F.ae
  · rw [if_neg (by omega), q]
    unfold sB
    rw [if_neg (by omega), if_pos (by omega), if_neg (by omega), if_neg (by omega), if_pos (by omega)]
    have e : List.replicate low.length (D.int (eE n)) ++ [D.int (p2 s)] = List.replicate (low.length - 1) (D.int (eE n)) ++ [D.int (eE n), D.int (p2 s)] := by
      conv => lhs; rw [h2, List.replicate_succ']
      simp
    rw [e]
    exact st_add (by simp; omega) F.eae
  · rw [if_pos z, q]
    unfold sB
    rw [if_neg (by omega), if_neg (by omega), if_pos z, if_neg (by omega), if_neg (by omega), if_neg (by omega), if_pos (by omega)]
    exact st_tell F.wh F.be rfl
  · rw [if_neg (by omega), q]
    unfold sB
    rw [if_neg (by omega), if_neg (by omega), if_neg (by omega), if_pos z, if_neg (by omega), if_neg (by omega), if_neg (by omega), if_neg (by omega), show 2 * low.length + 4 - (i + 1) = (low.length - 1) + 1 by omega, List.replicate_succ']
    exact st_push (by simp; omega) F.ee
  · rw [if_neg (by omega), q]
    unfold sB
    rw [if_neg (by omega), if_neg (by omega), if_neg (by omega), if_neg (by omega), if_neg (by omega), if_neg (by omega), if_neg (by omega), if_neg (by omega), show 2 * low.length + 4 - i = (2 * low.length + 4 - (i + 1)) + 1 by omega, List.replicate_succ']
    exact st_drop
theorem good_B {n s t k : Int} (F : Fin n s t k) {low : List D} (hl : ∀ d ∈ low, d ∈ lowI) (h1 : 1 ≤ low.length) (h60 : low.length + 1 ≤ 60) :
    Good (cB low (iSec k s) t) n (low.length + 1) (if s = t then .non else .tup [.int (low.length + 2 : Nat), .str "value"]) := by
  have hL := cB_len (low := low) (c := iSec k s) (t := t)
  have ha := cB_all (low := low) hl F.ms F.mt
  have hI := init_ok F.nn
  have hst := cB_st F hl h1 (by omega)
  refine good_of (f := fB low.length) ha (by omega) rfl ?_ (cB_hs hl h1 h60) ⟨low.length + 1, by omega, ?_⟩ (fun i hi => ?_) ?_
  · rw [hL]; unfold fB; rw [if_neg (by omega), if_neg (by omega), if_neg (by omega)]; push_cast; omega
  · unfold fB; rw [if_pos (by omega)]; push_cast; rfl
  · unfold fB; split
    · omega
    · split
      · omega
      · split <;> omega
  · by_cases z : s = t
    · rw [if_pos z]
      refine verify_ok (E := eE n) (S := sB (eE n) (p2 s) low.length) hI rfl (by omega) (fun d h => plain_of (ha d h)) fun i hi => ?_
      have := hst i hi
      rw [if_pos (F.ba.mpr z)] at this
      split at this <;> exact this
    · rw [if_neg z]
      have hk : low.length + 2 < (cB low (iSec k s) t).length := by omega
      refine verify_bad (E := eE n) (S := sB (eE n) (p2 s) low.length) (k := low.length + 2) hI rfl (by omega) (fun d h => plain_of (ha d h)) hk (fun i hi => ?_) ?_
      · have := hst i (by omega)
        rw [if_neg (by omega)] at this
        exact this
      · have := hst (low.length + 2) hk
        rw [if_pos rfl, if_neg (fun y => z (F.ba.mp y))] at this
        exact this
/-! ### too high -/
theorem bad_of {low rest : List D} {cc : D} (hl : ∀ d ∈ low, d ∈ lowI) (h60 : low.length = 60) (ha : ∀ d ∈ low ++ .tup [.str "counter", cc] :: rest, d ∈ allI) (hr : rest.length < 1000) : ∃ l, m_is_code [.fr (.tup (low ++ .tup [.str "counter", cc] :: rest))] = some (.fr (.bl false), l) := by
  have hL : (low ++ .tup [.str "counter", cc] :: rest).length = 61 + rest.length := by simp; omega
  obtain ⟨l, e⟩ := heights_no (ds := low ++ .tup [.str "counter", cc] :: rest) (f := fun i => (i : Int)) (n := 60) (by omega) rfl (by omega) (fun i hi => by
    have e : (low ++ .tup [.str "counter", cc] :: rest)[i]'(by omega) = low[i] := List.getElem_append_left (by omega)
    rw [e]
    obtain ⟨l, e⟩ := h_up (h_low (hl low[i] (List.getElem_mem _))) (x := (i : Int)) (by omega)
    rw [if_pos (by omega)] at e
    exact ⟨l, by push_cast; exact e⟩) (fun d h => plain_of (ha d h)) (by
    have e : (low ++ .tup [.str "counter", cc] :: rest)[60]'(by omega) = .tup [.str "counter", cc] := by
      rw [List.getElem_append_right (by omega)]
      simp [h60]
    rw [e]
    obtain ⟨l, e⟩ := h_up (d := .tup [.str "counter", cc]) (.inr ⟨cc, rfl⟩) (x := (60 : Int)) (by omega)
    rw [if_neg (by omega)] at e
    exact ⟨l, e⟩)
  exact code_no ha (by omega) e
end Gk69
open PySem PySem.Spec PyProof.Rows L2 L3
namespace Gk69
theorem seq_nx {m1 m2 : MS} {ρ ρ1 : L3.Env} (h : m1 ρ = some (Out.nx, ρ1)) : mSeq m1 m2 ρ = m2 ρ1 := by
  unfold mSeq
  rw [h] <;> rfl
/-- a draw in a frame -/
theorem low_step {ns : List Int} {st : T} (h : St ns st) {a0 a2 a3 a5 a6 a7 a8 a9 a10 a11 a12 : Option T} {L : List D} (hL : L.length < 900000) :
    ∃ st' d, St ns st' ∧ d ∈ lowI ∧ l_law_1 [a0, some st, a2, a3, some (.lst (L.map .fr)), a5, a6, a7, a8, a9, a10, a11, a12] = some (Out.nx, [a0, some st', a2, a3, some (.lst ((L ++ [d]).map .fr)), a5, a6, a7, a8, a9, a10, a11, a12]) := by
  obtain ⟨v, st1, e1, v0, v1, h1⟩ := draw_ok h (many := 9) (by omega) (by omega)
  obtain ⟨j, st2, e2, j0, j1, h2⟩ := draw_ok h1 (many := 3) (by omega) (by omega)
  have hL2 : L.length < 1000000 := by omega
  have j3 : j = 0 ∨ j = 1 ∨ j = 2 := by omega
  have v9 : v = 0 ∨ v = 1 ∨ v = 2 ∨ v = 3 ∨ v = 4 ∨ v = 5 ∨ v = 6 ∨ v = 7 ∨ v = 8 := by omega
  rcases j3 with rfl | rfl | rfl
  · refine ⟨st2, iPush v, h2, ?_, ?_⟩
    · simp only [lowI, List.mem_cons, List.mem_map]
      exact .inr (.inr ⟨v, by simpa using v9, rfl⟩)
    · simp [l_law_1, mSeq, mIfS, mTest, mOp2, mOp1, mOpn, mPlP, mPl, pIdx, pFld, pName, Pl.nrm, Pl.get, Pl.set, T.get, T.put, T.put1, T.sub, T.stp, ixN, D.item, atI, mC, mVarP, mVarF, mVarM, mAsg, mName, mStore, T.store, mFput, T.fput, mAppP, mAppT, mPop, mCons, mNil, mTup, T.mkTup, T.allfr, mLst, mAnd, mOr, mNot, mIf, mTruth, mTAnd, mTOr, mTNot, mTruthP, D.truth, T.truth, mChain, T.frz, T.frzs, g1, g2, gI, gI0, gB0, gAdd, gMul, gIs, gIsNot, D.isNon, gLen, D.len, T.len, mLenP, gAbs, gInt, gTupleOf, gListOf, mSnap, T.snap, gIsi, D.asTy, D.tyName, mItem, T.item, mRet, mRetN, mDrop, mCallP, mCall, mbNil, mbVal, mbBor, agTake, agGive, mMethR, T.hasM, mMethP, methFin, mMake, makeFin, mgTup, mgCons, mgNil, mNx, mBk, mCt, mFun, Out.val, outs, T.asFr, kidx, bMul, bDiv, bPos, bPow, mSlice, mPart, mNoPart, gSlice, L3.cutD, HT.sIx, T.isObj, D.fld, mTab, mInTab, mTabGet, mDeadS, mDeadE, mNotE, gNeg, gEq, gNe, D.eqB, e1, e2, hL2, iPush]
  · refine ⟨st2, iOpen0, h2, by simp [lowI], ?_⟩
    simp [l_law_1, mSeq, mIfS, mTest, mOp2, mOp1, mOpn, mPlP, mPl, pIdx, pFld, pName, Pl.nrm, Pl.get, Pl.set, T.get, T.put, T.put1, T.sub, T.stp, ixN, D.item, atI, mC, mVarP, mVarF, mVarM, mAsg, mName, mStore, T.store, mFput, T.fput, mAppP, mAppT, mPop, mCons, mNil, mTup, T.mkTup, T.allfr, mLst, mAnd, mOr, mNot, mIf, mTruth, mTAnd, mTOr, mTNot, mTruthP, D.truth, T.truth, mChain, T.frz, T.frzs, g1, g2, gI, gI0, gB0, gAdd, gMul, gIs, gIsNot, D.isNon, gLen, D.len, T.len, mLenP, gAbs, gInt, gTupleOf, gListOf, mSnap, T.snap, gIsi, D.asTy, D.tyName, mItem, T.item, mRet, mRetN, mDrop, mCallP, mCall, mbNil, mbVal, mbBor, agTake, agGive, mMethR, T.hasM, mMethP, methFin, mMake, makeFin, mgTup, mgCons, mgNil, mNx, mBk, mCt, mFun, Out.val, outs, T.asFr, kidx, bMul, bDiv, bPos, bPow, mSlice, mPart, mNoPart, gSlice, L3.cutD, HT.sIx, T.isObj, D.fld, mTab, mInTab, mTabGet, mDeadS, mDeadE, mNotE, gNeg, gEq, gNe, D.eqB, e1, e2, hL2, iOpen0]
  · refine ⟨st2, iComm, h2, by simp [lowI], ?_⟩
    simp [l_law_1, mSeq, mIfS, mTest, mOp2, mOp1, mOpn, mPlP, mPl, pIdx, pFld, pName, Pl.nrm, Pl.get, Pl.set, T.get, T.put, T.put1, T.sub, T.stp, ixN, D.item, atI, mC, mVarP, mVarF, mVarM, mAsg, mName, mStore, T.store, mFput, T.fput, mAppP, mAppT, mPop, mCons, mNil, mTup, T.mkTup, T.allfr, mLst, mAnd, mOr, mNot, mIf, mTruth, mTAnd, mTOr, mTNot, mTruthP, D.truth, T.truth, mChain, T.frz, T.frzs, g1, g2, gI, gI0, gB0, gAdd, gMul, gIs, gIsNot, D.isNon, gLen, D.len, T.len, mLenP, gAbs, gInt, gTupleOf, gListOf, mSnap, T.snap, gIsi, D.asTy, D.tyName, mItem, T.item, mRet, mRetN, mDrop, mCallP, mCall, mbNil, mbVal, mbBor, agTake, agGive, mMethR, T.hasM, mMethP, methFin, mMake, makeFin, mgTup, mgCons, mgNil, mNx, mBk, mCt, mFun, Out.val, outs, T.asFr, kidx, bMul, bDiv, bPos, bPow, mSlice, mPart, mNoPart, gSlice, L3.cutD, HT.sIx, T.isObj, D.fld, mTab, mInTab, mTabGet, mDeadS, mDeadE, mNotE, gNeg, gEq, gNe, D.eqB, e1, e2, hL2, iComm]
theorem low_run {ns : List Int} {st : T} (h : St ns st) {a0 a2 a3 a5 a6 a7 a8 a9 a10 a11 a12 : Option T} {m : Nat} (hm : m < 90000) :
    ∃ (st' : T) (a5' : Option T) (L : List D), St ns st' ∧ (∀ d ∈ L, d ∈ lowI) ∧ L.length = m ∧ mLoop (mName 5) l_law_1 (intsFrom 0 m) [a0, some st, a2, a3, some (.lst []), a5, a6, a7, a8, a9, a10, a11, a12] = some (Out.nx, [a0, some st', a2, a3, some (.lst (L.map .fr)), a5', a6, a7, a8, a9, a10, a11, a12]) := by
  obtain ⟨ρ', R, st', a5', L, rfl, hs, hl, hn⟩ := Runs.inv (g := mName 5) (body := l_law_1) (ds := intsFrom 0 m) (n := 0) (ρ := [a0, some st, a2, a3, some (.lst []), a5, a6, a7, a8, a9, a10, a11, a12])
    (fun i ρ => ∃ (st' : T) (a5' : Option T) (L : List D), ρ = [a0, some st', a2, a3, some (.lst (L.map T.fr)), a5', a6, a7, a8, a9, a10, a11, a12] ∧ St ns st' ∧ (∀ d ∈ L, d ∈ lowI) ∧ L.length = i) (fun i d ρ hd ⟨st', a5', L, e, hs, hl, hn⟩ => by
      subst e
      rw [Nat.zero_add] at *
      obtain ⟨hi, rfl⟩ := intsFrom_at hd
      obtain ⟨st2, d, h2, hd2, e⟩ := low_step hs (a0 := a0) (a2 := a2) (a3 := a3) (a5 := some (.fr (.int (0 + i)))) (a6 := a6) (a7 := a7) (a8 := a8) (a9 := a9) (a10 := a10) (a11 := a11) (a12 := a12) (L := L) (by omega)
      exact ⟨_, _, rfl, e, st2, _, L ++ [d], rfl, h2, fun x hx => by
        rcases List.mem_append.mp hx with hx | hx
        · exact hl x hx
        · simp at hx; subst hx; exact hd2, by simp [hn]⟩) ⟨st, a5, [], rfl, h, by simp, rfl⟩
  rw [Nat.zero_add, intsFrom_len] at hn
  exact ⟨st', a5', L, hs, hl, hn, R.loop⟩
end Gk69
open PySem PySem.Spec PyProof.Rows L2 L3
namespace Gk69
def rowOf (q k s t : Int) : List D := if q = 1 then [iSec k s, iAdd, iTell t, iPush 0] else if q = 2 then [iOpen2 s, iTell t] else [iSec k s, iTell t]
def cOf (L : List D) (q k s t : Int) : List D := L ++ (rowOf q k s t ++ List.replicate L.length iDrop)
def dueOf (m q s t : Int) : D := if q < 2 ∧ s ≠ t then .tup [.int (m + 1 + q), .str "value"] else .non
theorem eqB_due {m q s t : Int} : D.eqB (dueOf m q s t) (dueOf m q s t) = some true := by
  unfold dueOf
  split
  · simp [D.eqB, D.toP, D.toPs, SeqAt.shaped, PyData.eqv, PyData.eqvAll]
    refine ⟨?_, ?_⟩
    · simp [PyData.canLay0, PyData.canLayAll0]
      decide +kernel
    · simp [PyData.depth, PyData.depthAll]
  · rfl
theorem good_all {n s t k q : Int} (F : Fin n s t k) {L : List D} (hl : ∀ d ∈ L, d ∈ lowI) (h1 : 1 ≤ L.length) (h60 : L.length + 1 ≤ 60) (hq : q = 0 ∨ q = 1 ∨ q = 2) : Good (cOf L q k s t) n (L.length + 1) (dueOf L.length q s t) := by
  rcases hq with rfl | rfl | rfl
  · have G := good_A F hl h60 F.ms F.sc F.ae
    have e : (if Builtin.bitAnd (p2 t) (p2 s) = p2 t then D.non else .tup [.int (L.length + 1 : Nat), .str "value"]) = dueOf L.length 0 s t := by
      unfold dueOf
      by_cases z : s = t
      · rw [if_pos (F.ba.mpr z), if_neg (by omega)]
      · rw [if_neg (fun y => z (F.ba.mp y)), if_pos ⟨by omega, z⟩, Int.add_zero]
        push_cast
        rfl
    rw [e] at G
    exact G
  · have G := good_B F hl h1 h60
    have e : (if s = t then D.non else .tup [.int (L.length + 2 : Nat), .str "value"]) = dueOf L.length 1 s t := by
      unfold dueOf
      by_cases z : s = t
      · rw [if_pos z, if_neg (by omega)]
      · rw [if_neg z, if_pos ⟨by omega, z⟩, show (L.length : Int) + 1 + 1 = ((L.length + 2 : Nat) : Int) by push_cast; omega]
    rw [e] at G
    exact G
  · have G := good_A F hl h60 F.mo F.o2 F.ee
    rw [if_pos F.be] at G
    have e : dueOf L.length 2 s t = .non := by unfold dueOf; rw [if_neg (by omega)]
    rw [e]
    exact G
theorem bad_all {n s t k q : Int} (F : Fin n s t k) {L : List D} (hl : ∀ d ∈ L, d ∈ lowI) (h60 : L.length = 60) (hq : q = 0 ∨ q = 1 ∨ q = 2) : ∃ l, m_is_code [.fr (.tup (cOf L q k s t))] = some (.fr (.bl false), l) := by
  rcases hq with rfl | rfl | rfl
  · exact bad_of (rest := iTell t :: List.replicate L.length iDrop) hl h60 (cA_all hl F.ms F.mt) (by simp; omega)
  · exact bad_of (rest := iAdd :: iTell t :: iPush 0 :: List.replicate L.length iDrop) hl h60 (cB_all hl F.ms F.mt) (by simp; omega)
  · exact bad_of (rest := iTell t :: List.replicate L.length iDrop) hl h60 (cA_all hl F.mo F.mt) (by simp; omega)
/-- a turn of the outer loop ends plainly -/
theorem turn {ns : List Int} {st : T} (h : St ns st) {n m : Int} (hn : 2 ≤ n) (hn4 : n ≤ 4) (hm : 1 ≤ m) (hm60 : m ≤ 60) {a0 a4 a5 a6 a7 a8 a9 a10 a11 a12 : Option T} :
    ∃ (st' : T) (b4 b5 b6 b7 b8 b9 b10 b11 b12 : Option T), St ns st' ∧ l_law_2 [a0, some st, some (.fr (.int n)), some (.fr (.int m)), a4, a5, a6, a7, a8, a9, a10, a11, a12] = some (Out.nx, [a0, some st', some (.fr (.int n)), some (.fr (.int m)), b4, b5, b6, b7, b8, b9, b10, b11, b12]) := by
  obtain ⟨st1, a5', L, h1, hl, hL, e1⟩ := low_run h (a0 := a0) (a2 := some (.fr (.int n))) (a3 := some (.fr (.int m))) (a5 := a5) (a6 := a6) (a7 := a7) (a8 := a8) (a9 := a9) (a10 := a10) (a11 := a11) (a12 := a12) (m := m.toNat) (by omega)
  obtain ⟨s, st2, e2, s0, s1, h2⟩ := draw_ok h1 (many := n) (by omega) (by omega)
  obtain ⟨t, st3, e3, t0, t1, h3⟩ := draw_ok h2 (many := n) (by omega) (by omega)
  obtain ⟨k, st4, e4, k0, k1, h4⟩ := draw_ok h3 (many := 2) (by omega) (by omega)
  obtain ⟨q, st5, e5, q0, q1, h5⟩ := draw_ok h4 (many := 3) (by omega) (by omega)
  have F := fin_of hn hn4 s0 s1 t0 t1 k0 k1
  have hmL : (L.length : Int) = m := by omega
  have hm1 : m < 100000 := by omega
  have hm2 : (-100000 : Int) < m := by omega
  have q3 : q = 0 ∨ q = 1 ∨ q = 2 := by omega
  -- the code
  have s9 : ∃ b4 b8, l_law_2 [a0, some st, some (.fr (.int n)), some (.fr (.int m)), a4, a5, a6, a7, a8, a9, a10, a11, a12] = (mSeq (mAsg (mOp2 gAdd (mVarF 3) (mC (.int 1))) (mName 11))
    (mSeq (mIfS (mTest (mOp2 gNe (mCallP m_is_code (mCons (mVarF 10) mNil)) (mOp2 gLe (mVarF 11) (mC (.int 60))))) (mRet (mC (.bl false))) mNx)
    (mIfS (mTest (mOp2 gLe (mVarF 11) (mC (.int 60)))) (mSeq (mAsg (mC .non) (mName 12))
    (mSeq (mIfS (mTAnd (mTest (mOp2 gLt (mVarF 9) (mC (.int 2)))) (mTest (mOp2 gNe (mVarF 6) (mVarF 7)))) (mAsg (mTup (mCons (mOp2 gAdd (mOp2 gAdd (mVarF 3) (mC (.int 1))) (mVarF 9)) (mCons (mC (.str "value")) mNil))) (mName 12)) mNx)
    (mIfS (mTOr (mTest (mOp2 gNe (mCallP m_verify (mCons (mVarF 10) (mCons (mVarF 2) mNil))) (mVarF 12))) (mTOr (mTest (mOp2 gNe (mOpn (g1 gMax1) (mCons (mCallP m_heights (mCons (mVarF 10) mNil)) mNil)) (mVarF 11))) (mTest (mOp2 gNe (mOpn (g1 gLen) (mCons (mCallP m_heights (mCons (mVarF 10) mNil)) mNil)) (mOp2 gAdd (mLenP (pName 10)) (mC (.int 1))))))) (mRet (mC (.bl false))) mNx))) mNx)))
      [a0, some st5, some (.fr (.int n)), some (.fr (.int m)), b4, a5', some (.fr (.int s)), some (.fr (.int t)), b8, some (.fr (.int q)), some (.fr (.tup (L ++ (rowOf q k s t ++ List.replicate L.length iDrop)))), a11, a12] := by
    refine ⟨some (.fr (.lst L)), some (.fr (.lst (rowOf q k s t))), ?_⟩
    unfold l_law_2
    refine (seq_nx (ρ1 := [a0, some st, some (.fr (.int n)), some (.fr (.int m)), some (.lst []), a5, a6, a7, a8, a9, a10, a11, a12]) rfl).trans ?_
    refine (seq_nx (ρ1 := [a0, some st1, some (.fr (.int n)), some (.fr (.int m)), some (.lst (L.map .fr)), a5', a6, a7, a8, a9, a10, a11, a12]) ?_).trans ?_
    · simp [mFor, miRng1, mVarF, T.frz, hm1, hm2, e1]
    refine (seq_nx (ρ1 := [a0, some st2, some (.fr (.int n)), some (.fr (.int m)), some (.lst (L.map .fr)), a5', some (.fr (.int s)), a7, a8, a9, a10, a11, a12]) ?_).trans ?_
    · simp [mSeq, mIfS, mTest, mOp2, mOp1, mOpn, mPlP, mPl, pIdx, pFld, pName, Pl.nrm, Pl.get, Pl.set, T.get, T.put, T.put1, T.sub, T.stp, ixN, D.item, atI, mC, mVarP, mVarF, mVarM, mAsg, mName, mStore, T.store, mFput, T.fput, mAppP, mAppT, mPop, mCons, mNil, mTup, T.mkTup, T.allfr, mLst, mAnd, mOr, mNot, mIf, mTruth, mTAnd, mTOr, mTNot, mTruthP, D.truth, T.truth, mChain, T.frz, T.frzs, g1, g2, gI, gI0, gB0, gAdd, gMul, gIs, gIsNot, D.isNon, gLen, D.len, T.len, mLenP, gAbs, gInt, gTupleOf, gListOf, mSnap, T.snap, gIsi, D.asTy, D.tyName, mItem, T.item, mRet, mRetN, mDrop, mCallP, mCall, mbNil, mbVal, mbBor, agTake, agGive, mMethR, T.hasM, mMethP, methFin, mMake, makeFin, mgTup, mgCons, mgNil, mNx, mBk, mCt, mFun, Out.val, outs, T.asFr, kidx, bMul, bDiv, bPos, bPow, mSlice, mPart, mNoPart, gSlice, L3.cutD, HT.sIx, T.isObj, D.fld, mTab, mInTab, mTabGet, mDeadS, mDeadE, mNotE, gNeg, gEq, gNe, D.eqB, e2]
    refine (seq_nx (ρ1 := [a0, some st3, some (.fr (.int n)), some (.fr (.int m)), some (.lst (L.map .fr)), a5', some (.fr (.int s)), some (.fr (.int t)), a8, a9, a10, a11, a12]) ?_).trans ?_
    · simp [mSeq, mIfS, mTest, mOp2, mOp1, mOpn, mPlP, mPl, pIdx, pFld, pName, Pl.nrm, Pl.get, Pl.set, T.get, T.put, T.put1, T.sub, T.stp, ixN, D.item, atI, mC, mVarP, mVarF, mVarM, mAsg, mName, mStore, T.store, mFput, T.fput, mAppP, mAppT, mPop, mCons, mNil, mTup, T.mkTup, T.allfr, mLst, mAnd, mOr, mNot, mIf, mTruth, mTAnd, mTOr, mTNot, mTruthP, D.truth, T.truth, mChain, T.frz, T.frzs, g1, g2, gI, gI0, gB0, gAdd, gMul, gIs, gIsNot, D.isNon, gLen, D.len, T.len, mLenP, gAbs, gInt, gTupleOf, gListOf, mSnap, T.snap, gIsi, D.asTy, D.tyName, mItem, T.item, mRet, mRetN, mDrop, mCallP, mCall, mbNil, mbVal, mbBor, agTake, agGive, mMethR, T.hasM, mMethP, methFin, mMake, makeFin, mgTup, mgCons, mgNil, mNx, mBk, mCt, mFun, Out.val, outs, T.asFr, kidx, bMul, bDiv, bPos, bPow, mSlice, mPart, mNoPart, gSlice, L3.cutD, HT.sIx, T.isObj, D.fld, mTab, mInTab, mTabGet, mDeadS, mDeadE, mNotE, gNeg, gEq, gNe, D.eqB, e3]
    refine (seq_nx (ρ1 := [a0, some st4, some (.fr (.int n)), some (.fr (.int m)), some (.lst (L.map .fr)), a5', some (.fr (.int s)), some (.fr (.int t)), some (.lst [.fr (iSec k s), .fr (iTell t)]), a9, a10, a11, a12]) ?_).trans ?_
    · simp [mSeq, mIfS, mTest, mOp2, mOp1, mOpn, mPlP, mPl, pIdx, pFld, pName, Pl.nrm, Pl.get, Pl.set, T.get, T.put, T.put1, T.sub, T.stp, ixN, D.item, atI, mC, mVarP, mVarF, mVarM, mAsg, mName, mStore, T.store, mFput, T.fput, mAppP, mAppT, mPop, mCons, mNil, mTup, T.mkTup, T.allfr, mLst, mAnd, mOr, mNot, mIf, mTruth, mTAnd, mTOr, mTNot, mTruthP, D.truth, T.truth, mChain, T.frz, T.frzs, g1, g2, gI, gI0, gB0, gAdd, gMul, gIs, gIsNot, D.isNon, gLen, D.len, T.len, mLenP, gAbs, gInt, gTupleOf, gListOf, mSnap, T.snap, gIsi, D.asTy, D.tyName, mItem, T.item, mRet, mRetN, mDrop, mCallP, mCall, mbNil, mbVal, mbBor, agTake, agGive, mMethR, T.hasM, mMethP, methFin, mMake, makeFin, mgTup, mgCons, mgNil, mNx, mBk, mCt, mFun, Out.val, outs, T.asFr, kidx, bMul, bDiv, bPos, bPow, mSlice, mPart, mNoPart, gSlice, L3.cutD, HT.sIx, T.isObj, D.fld, mTab, mInTab, mTabGet, mDeadS, mDeadE, mNotE, gNeg, gEq, gNe, D.eqB, e4, iSec, iTell]
    refine (seq_nx (ρ1 := [a0, some st5, some (.fr (.int n)), some (.fr (.int m)), some (.lst (L.map .fr)), a5', some (.fr (.int s)), some (.fr (.int t)), some (.lst [.fr (iSec k s), .fr (iTell t)]), some (.fr (.int q)), a10, a11, a12]) ?_).trans ?_
    · simp [mSeq, mIfS, mTest, mOp2, mOp1, mOpn, mPlP, mPl, pIdx, pFld, pName, Pl.nrm, Pl.get, Pl.set, T.get, T.put, T.put1, T.sub, T.stp, ixN, D.item, atI, mC, mVarP, mVarF, mVarM, mAsg, mName, mStore, T.store, mFput, T.fput, mAppP, mAppT, mPop, mCons, mNil, mTup, T.mkTup, T.allfr, mLst, mAnd, mOr, mNot, mIf, mTruth, mTAnd, mTOr, mTNot, mTruthP, D.truth, T.truth, mChain, T.frz, T.frzs, g1, g2, gI, gI0, gB0, gAdd, gMul, gIs, gIsNot, D.isNon, gLen, D.len, T.len, mLenP, gAbs, gInt, gTupleOf, gListOf, mSnap, T.snap, gIsi, D.asTy, D.tyName, mItem, T.item, mRet, mRetN, mDrop, mCallP, mCall, mbNil, mbVal, mbBor, agTake, agGive, mMethR, T.hasM, mMethP, methFin, mMake, makeFin, mgTup, mgCons, mgNil, mNx, mBk, mCt, mFun, Out.val, outs, T.asFr, kidx, bMul, bDiv, bPos, bPow, mSlice, mPart, mNoPart, gSlice, L3.cutD, HT.sIx, T.isObj, D.fld, mTab, mInTab, mTabGet, mDeadS, mDeadE, mNotE, gNeg, gEq, gNe, D.eqB, e5]
    refine (seq_nx (ρ1 := [a0, some st5, some (.fr (.int n)), some (.fr (.int m)), some (.lst (L.map .fr)), a5', some (.fr (.int s)), some (.fr (.int t)), some (.lst ((if q = 1 then rowOf 1 k s t else [iSec k s, iTell t]).map .fr)), some (.fr (.int q)), a10, a11, a12]) ?_).trans ?_
    · by_cases z : q = 1
      · subst z
        simp [mSeq, mIfS, mTest, mOp2, mOp1, mOpn, mPlP, mPl, pIdx, pFld, pName, Pl.nrm, Pl.get, Pl.set, T.get, T.put, T.put1, T.sub, T.stp, ixN, D.item, atI, mC, mVarP, mVarF, mVarM, mAsg, mName, mStore, T.store, mFput, T.fput, mAppP, mAppT, mPop, mCons, mNil, mTup, T.mkTup, T.allfr, mLst, mAnd, mOr, mNot, mIf, mTruth, mTAnd, mTOr, mTNot, mTruthP, D.truth, T.truth, mChain, T.frz, T.frzs, g1, g2, gI, gI0, gB0, gAdd, gMul, gIs, gIsNot, D.isNon, gLen, D.len, T.len, mLenP, gAbs, gInt, gTupleOf, gListOf, mSnap, T.snap, gIsi, D.asTy, D.tyName, mItem, T.item, mRet, mRetN, mDrop, mCallP, mCall, mbNil, mbVal, mbBor, agTake, agGive, mMethR, T.hasM, mMethP, methFin, mMake, makeFin, mgTup, mgCons, mgNil, mNx, mBk, mCt, mFun, Out.val, outs, T.asFr, kidx, bMul, bDiv, bPos, bPow, mSlice, mPart, mNoPart, gSlice, L3.cutD, HT.sIx, T.isObj, D.fld, mTab, mInTab, mTabGet, mDeadS, mDeadE, mNotE, gNeg, gEq, gNe, D.eqB, rowOf, iSec, iTell, iAdd, iPush]
      · simp [mSeq, mIfS, mTest, mOp2, mOp1, mOpn, mPlP, mPl, pIdx, pFld, pName, Pl.nrm, Pl.get, Pl.set, T.get, T.put, T.put1, T.sub, T.stp, ixN, D.item, atI, mC, mVarP, mVarF, mVarM, mAsg, mName, mStore, T.store, mFput, T.fput, mAppP, mAppT, mPop, mCons, mNil, mTup, T.mkTup, T.allfr, mLst, mAnd, mOr, mNot, mIf, mTruth, mTAnd, mTOr, mTNot, mTruthP, D.truth, T.truth, mChain, T.frz, T.frzs, g1, g2, gI, gI0, gB0, gAdd, gMul, gIs, gIsNot, D.isNon, gLen, D.len, T.len, mLenP, gAbs, gInt, gTupleOf, gListOf, mSnap, T.snap, gIsi, D.asTy, D.tyName, mItem, T.item, mRet, mRetN, mDrop, mCallP, mCall, mbNil, mbVal, mbBor, agTake, agGive, mMethR, T.hasM, mMethP, methFin, mMake, makeFin, mgTup, mgCons, mgNil, mNx, mBk, mCt, mFun, Out.val, outs, T.asFr, kidx, bMul, bDiv, bPos, bPow, mSlice, mPart, mNoPart, gSlice, L3.cutD, HT.sIx, T.isObj, D.fld, mTab, mInTab, mTabGet, mDeadS, mDeadE, mNotE, gNeg, gEq, gNe, D.eqB, rowOf, iSec, iTell, z]
    refine (seq_nx (ρ1 := [a0, some st5, some (.fr (.int n)), some (.fr (.int m)), some (.lst (L.map .fr)), a5', some (.fr (.int s)), some (.fr (.int t)), some (.lst ((rowOf q k s t).map .fr)), some (.fr (.int q)), a10, a11, a12]) ?_).trans ?_
    · by_cases z : q = 2
      · subst z
        simp [mSeq, mIfS, mTest, mOp2, mOp1, mOpn, mPlP, mPl, pIdx, pFld, pName, Pl.nrm, Pl.get, Pl.set, T.get, T.put, T.put1, T.sub, T.stp, ixN, D.item, atI, mC, mVarP, mVarF, mVarM, mAsg, mName, mStore, T.store, mFput, T.fput, mAppP, mAppT, mPop, mCons, mNil, mTup, T.mkTup, T.allfr, mLst, mAnd, mOr, mNot, mIf, mTruth, mTAnd, mTOr, mTNot, mTruthP, D.truth, T.truth, mChain, T.frz, T.frzs, g1, g2, gI, gI0, gB0, gAdd, gMul, gIs, gIsNot, D.isNon, gLen, D.len, T.len, mLenP, gAbs, gInt, gTupleOf, gListOf, mSnap, T.snap, gIsi, D.asTy, D.tyName, mItem, T.item, mRet, mRetN, mDrop, mCallP, mCall, mbNil, mbVal, mbBor, agTake, agGive, mMethR, T.hasM, mMethP, methFin, mMake, makeFin, mgTup, mgCons, mgNil, mNx, mBk, mCt, mFun, Out.val, outs, T.asFr, kidx, bMul, bDiv, bPos, bPow, mSlice, mPart, mNoPart, gSlice, L3.cutD, HT.sIx, T.isObj, D.fld, mTab, mInTab, mTabGet, mDeadS, mDeadE, mNotE, gNeg, gEq, gNe, D.eqB, rowOf, iOpen2, iTell]
      · by_cases z1 : q = 1
        · simp [mSeq, mIfS, mTest, mOp2, mOp1, mOpn, mPlP, mPl, pIdx, pFld, pName, Pl.nrm, Pl.get, Pl.set, T.get, T.put, T.put1, T.sub, T.stp, ixN, D.item, atI, mC, mVarP, mVarF, mVarM, mAsg, mName, mStore, T.store, mFput, T.fput, mAppP, mAppT, mPop, mCons, mNil, mTup, T.mkTup, T.allfr, mLst, mAnd, mOr, mNot, mIf, mTruth, mTAnd, mTOr, mTNot, mTruthP, D.truth, T.truth, mChain, T.frz, T.frzs, g1, g2, gI, gI0, gB0, gAdd, gMul, gIs, gIsNot, D.isNon, gLen, D.len, T.len, mLenP, gAbs, gInt, gTupleOf, gListOf, mSnap, T.snap, gIsi, D.asTy, D.tyName, mItem, T.item, mRet, mRetN, mDrop, mCallP, mCall, mbNil, mbVal, mbBor, agTake, agGive, mMethR, T.hasM, mMethP, methFin, mMake, makeFin, mgTup, mgCons, mgNil, mNx, mBk, mCt, mFun, Out.val, outs, T.asFr, kidx, bMul, bDiv, bPos, bPow, mSlice, mPart, mNoPart, gSlice, L3.cutD, HT.sIx, T.isObj, D.fld, mTab, mInTab, mTabGet, mDeadS, mDeadE, mNotE, gNeg, gEq, gNe, D.eqB, rowOf, iSec, iTell, z, z1]
        · simp [mSeq, mIfS, mTest, mOp2, mOp1, mOpn, mPlP, mPl, pIdx, pFld, pName, Pl.nrm, Pl.get, Pl.set, T.get, T.put, T.put1, T.sub, T.stp, ixN, D.item, atI, mC, mVarP, mVarF, mVarM, mAsg, mName, mStore, T.store, mFput, T.fput, mAppP, mAppT, mPop, mCons, mNil, mTup, T.mkTup, T.allfr, mLst, mAnd, mOr, mNot, mIf, mTruth, mTAnd, mTOr, mTNot, mTruthP, D.truth, T.truth, mChain, T.frz, T.frzs, g1, g2, gI, gI0, gB0, gAdd, gMul, gIs, gIsNot, D.isNon, gLen, D.len, T.len, mLenP, gAbs, gInt, gTupleOf, gListOf, mSnap, T.snap, gIsi, D.asTy, D.tyName, mItem, T.item, mRet, mRetN, mDrop, mCallP, mCall, mbNil, mbVal, mbBor, agTake, agGive, mMethR, T.hasM, mMethP, methFin, mMake, makeFin, mgTup, mgCons, mgNil, mNx, mBk, mCt, mFun, Out.val, outs, T.asFr, kidx, bMul, bDiv, bPos, bPow, mSlice, mPart, mNoPart, gSlice, L3.cutD, HT.sIx, T.isObj, D.fld, mTab, mInTab, mTabGet, mDeadS, mDeadE, mNotE, gNeg, gEq, gNe, D.eqB, rowOf, iSec, iTell, z, z1]
    refine (seq_nx (ρ1 := [a0, some st5, some (.fr (.int n)), some (.fr (.int m)), some (.fr (.lst L)), a5', some (.fr (.int s)), some (.fr (.int t)), some (.fr (.lst (rowOf q k s t))), some (.fr (.int q)), some (.fr (.tup (L ++ (rowOf q k s t ++ List.replicate L.length iDrop)))), a11, a12]) ?_).trans rfl
    have hr : (rowOf q k s t).length ≤ 4 := by unfold rowOf; split <;> (try split) <;> simp
    have f1 : T.frzs (L.map T.fr) = some L := by have := frzs_map (f := id) (l := L); simpa using this
    have f2 : T.frzs ((rowOf q k s t).map T.fr) = some (rowOf q k s t) := by have := frzs_map (f := id) (l := rowOf q k s t); simpa using this
    have f3 : T.frzs ((L ++ rowOf q k s t).map T.fr) = some (L ++ rowOf q k s t) := by have := frzs_map (f := id) (l := L ++ rowOf q k s t); simpa using this
    have f4 : ∀ l : List D, T.frzs (l.map T.fr) = some l := fun l => by have := frzs_map (f := id) (l := l); simpa using this
    have g1' : L.length + (rowOf q k s t).length ≤ 16777216 := by omega
    have g2' : L.length + (rowOf q k s t).length + L.length ≤ 16777216 := by omega
    have hmt : m.toNat = L.length := by omega
    simp only [List.map_append] at f3
    have f5 : T.frzs (L.map T.fr ++ ((rowOf q k s t).map T.fr ++ List.replicate L.length (.fr (.tup [.str "drop"])))) = some (L ++ (rowOf q k s t ++ List.replicate L.length iDrop)) := frzs_append f1 (frzs_append f2 frzs_repl)
    generalize rowOf q k s t = R at *
    simp [mSeq, mIfS, mTest, mOp2, mOp1, mOpn, mPlP, mPl, pIdx, pFld, pName, Pl.nrm, Pl.get, Pl.set, T.get, T.put, T.put1, T.sub, T.stp, ixN, D.item, atI, mC, mVarP, mVarF, mVarM, mAsg, mName, mStore, T.store, mFput, T.fput, mAppP, mAppT, mPop, mCons, mNil, mTup, T.mkTup, T.allfr, mLst, mAnd, mOr, mNot, mIf, mTruth, mTAnd, mTOr, mTNot, mTruthP, D.truth, T.truth, mChain, T.frz, T.frzs, g1, g2, gI, gI0, gB0, gAdd, gMul, gIs, gIsNot, D.isNon, gLen, D.len, T.len, mLenP, gAbs, gInt, gTupleOf, gListOf, mSnap, T.snap, gIsi, D.asTy, D.tyName, mItem, T.item, mRet, mRetN, mDrop, mCallP, mCall, mbNil, mbVal, mbBor, agTake, agGive, mMethR, T.hasM, mMethP, methFin, mMake, makeFin, mgTup, mgCons, mgNil, mNx, mBk, mCt, mFun, Out.val, outs, T.asFr, kidx, bMul, bDiv, bPos, bPow, mSlice, mPart, mNoPart, gSlice, L3.cutD, HT.sIx, T.isObj, D.fld, mTab, mInTab, mTabGet, mDeadS, mDeadE, mNotE, gNeg, gEq, gNe, D.eqB, f1, f2, f3, f4, g1', g2', hm1, hm2, hmt, frzs_repl, f5]
  obtain ⟨b4, b8, s9⟩ := s9
  rw [s9]
  have ec : L ++ (rowOf q k s t ++ List.replicate L.length iDrop) = cOf L q k s t := rfl
  rw [ec]
  by_cases z : m + 1 ≤ 60
  · obtain ⟨⟨l1, x1⟩, ⟨l2, x2⟩, hs, l3, x3, x4, x5⟩ := good_all F hl (by omega : 1 ≤ L.length) (by omega : L.length + 1 ≤ 60) q3
    rw [hmL] at x2 x4
    have z1 : T.frzs (hs.map fun i => T.fr (.int i)) = some (hs.map D.int) := frzs_map (f := D.int)
    have z2 : hs ≠ [] := by intro e; rw [e] at x5; simp at x5
    have z3 := eqB_due (m := m) (q := q) (s := s) (t := t)
    refine ⟨st5, b4, a5', some (.fr (.int s)), some (.fr (.int t)), b8, some (.fr (.int q)), some (.fr (.tup (cOf L q k s t))), some (.fr (.int (m + 1))), some (.fr (dueOf m q s t)), h5, ?_⟩
    by_cases y1 : q < 2
    · by_cases y2 : s = t
      · subst y2
        have e : dueOf m q s s = .non := by unfold dueOf; rw [if_neg (by omega)]
        rw [e] at x2 z3 ⊢
        simp [mSeq, mIfS, mTest, mOp2, mOp1, mOpn, mPlP, mPl, pIdx, pFld, pName, Pl.nrm, Pl.get, Pl.set, T.get, T.put, T.put1, T.sub, T.stp, ixN, D.item, atI, mC, mVarP, mVarF, mVarM, mAsg, mName, mStore, T.store, mFput, T.fput, mAppP, mAppT, mPop, mCons, mNil, mTup, T.mkTup, T.allfr, mLst, mAnd, mOr, mNot, mIf, mTruth, mTAnd, mTOr, mTNot, mTruthP, D.truth, T.truth, mChain, T.frz, T.frzs, g1, g2, gI, gI0, gB0, gAdd, gMul, gIs, gIsNot, D.isNon, gLen, D.len, T.len, mLenP, gAbs, gInt, gTupleOf, gListOf, mSnap, T.snap, gIsi, D.asTy, D.tyName, mItem, T.item, mRet, mRetN, mDrop, mCallP, mCall, mbNil, mbVal, mbBor, agTake, agGive, mMethR, T.hasM, mMethP, methFin, mMake, makeFin, mgTup, mgCons, mgNil, mNx, mBk, mCt, mFun, Out.val, outs, T.asFr, kidx, bMul, bDiv, bPos, bPow, mSlice, mPart, mNoPart, gSlice, L3.cutD, HT.sIx, T.isObj, D.fld, mTab, mInTab, mTabGet, mDeadS, mDeadE, mNotE, gNeg, gEq, gNe, eqB_int, eqB_bl, eqB_str, eqB_nn, x1, x2, x3, x4, x5, z, z1, z2, z3, y1, gMax1, D.litems, asInts_map, D.toP]
      · have e : dueOf m q s t = .tup [.int (m + 1 + q), .str "value"] := by unfold dueOf; rw [if_pos ⟨y1, y2⟩]
        rw [e] at x2 z3 ⊢
        simp [mSeq, mIfS, mTest, mOp2, mOp1, mOpn, mPlP, mPl, pIdx, pFld, pName, Pl.nrm, Pl.get, Pl.set, T.get, T.put, T.put1, T.sub, T.stp, ixN, D.item, atI, mC, mVarP, mVarF, mVarM, mAsg, mName, mStore, T.store, mFput, T.fput, mAppP, mAppT, mPop, mCons, mNil, mTup, T.mkTup, T.allfr, mLst, mAnd, mOr, mNot, mIf, mTruth, mTAnd, mTOr, mTNot, mTruthP, D.truth, T.truth, mChain, T.frz, T.frzs, g1, g2, gI, gI0, gB0, gAdd, gMul, gIs, gIsNot, D.isNon, gLen, D.len, T.len, mLenP, gAbs, gInt, gTupleOf, gListOf, mSnap, T.snap, gIsi, D.asTy, D.tyName, mItem, T.item, mRet, mRetN, mDrop, mCallP, mCall, mbNil, mbVal, mbBor, agTake, agGive, mMethR, T.hasM, mMethP, methFin, mMake, makeFin, mgTup, mgCons, mgNil, mNx, mBk, mCt, mFun, Out.val, outs, T.asFr, kidx, bMul, bDiv, bPos, bPow, mSlice, mPart, mNoPart, gSlice, L3.cutD, HT.sIx, T.isObj, D.fld, mTab, mInTab, mTabGet, mDeadS, mDeadE, mNotE, gNeg, gEq, gNe, eqB_int, eqB_bl, eqB_str, eqB_nn, x1, x2, x3, x4, x5, z, z1, z2, z3, y1, y2, gMax1, D.litems, asInts_map, D.toP]
    · have e : dueOf m q s t = .non := by unfold dueOf; rw [if_neg (by omega)]
      rw [e] at x2 z3 ⊢
      simp [mSeq, mIfS, mTest, mOp2, mOp1, mOpn, mPlP, mPl, pIdx, pFld, pName, Pl.nrm, Pl.get, Pl.set, T.get, T.put, T.put1, T.sub, T.stp, ixN, D.item, atI, mC, mVarP, mVarF, mVarM, mAsg, mName, mStore, T.store, mFput, T.fput, mAppP, mAppT, mPop, mCons, mNil, mTup, T.mkTup, T.allfr, mLst, mAnd, mOr, mNot, mIf, mTruth, mTAnd, mTOr, mTNot, mTruthP, D.truth, T.truth, mChain, T.frz, T.frzs, g1, g2, gI, gI0, gB0, gAdd, gMul, gIs, gIsNot, D.isNon, gLen, D.len, T.len, mLenP, gAbs, gInt, gTupleOf, gListOf, mSnap, T.snap, gIsi, D.asTy, D.tyName, mItem, T.item, mRet, mRetN, mDrop, mCallP, mCall, mbNil, mbVal, mbBor, agTake, agGive, mMethR, T.hasM, mMethP, methFin, mMake, makeFin, mgTup, mgCons, mgNil, mNx, mBk, mCt, mFun, Out.val, outs, T.asFr, kidx, bMul, bDiv, bPos, bPow, mSlice, mPart, mNoPart, gSlice, L3.cutD, HT.sIx, T.isObj, D.fld, mTab, mInTab, mTabGet, mDeadS, mDeadE, mNotE, gNeg, gEq, gNe, eqB_int, eqB_bl, eqB_str, eqB_nn, x1, x2, x3, x4, x5, z, z1, z2, z3, y1, gMax1, D.litems, asInts_map, D.toP]
  · obtain ⟨l1, x1⟩ := bad_all F hl (by omega : L.length = 60) q3
    refine ⟨st5, b4, a5', some (.fr (.int s)), some (.fr (.int t)), b8, some (.fr (.int q)), some (.fr (.tup (cOf L q k s t))), some (.fr (.int (m + 1))), a12, h5, ?_⟩
    simp [mSeq, mIfS, mTest, mOp2, mOp1, mOpn, mPlP, mPl, pIdx, pFld, pName, Pl.nrm, Pl.get, Pl.set, T.get, T.put, T.put1, T.sub, T.stp, ixN, D.item, atI, mC, mVarP, mVarF, mVarM, mAsg, mName, mStore, T.store, mFput, T.fput, mAppP, mAppT, mPop, mCons, mNil, mTup, T.mkTup, T.allfr, mLst, mAnd, mOr, mNot, mIf, mTruth, mTAnd, mTOr, mTNot, mTruthP, D.truth, T.truth, mChain, T.frz, T.frzs, g1, g2, gI, gI0, gB0, gAdd, gMul, gIs, gIsNot, D.isNon, gLen, D.len, T.len, mLenP, gAbs, gInt, gTupleOf, gListOf, mSnap, T.snap, gIsi, D.asTy, D.tyName, mItem, T.item, mRet, mRetN, mDrop, mCallP, mCall, mbNil, mbVal, mbBor, agTake, agGive, mMethR, T.hasM, mMethP, methFin, mMake, makeFin, mgTup, mgCons, mgNil, mNx, mBk, mCt, mFun, Out.val, outs, T.asFr, kidx, bMul, bDiv, bPos, bPow, mSlice, mPart, mNoPart, gSlice, L3.cutD, HT.sIx, T.isObj, D.fld, mTab, mInTab, mTabGet, mDeadS, mDeadE, mNotE, gNeg, gEq, gNe, eqB_int, eqB_bl, eqB_str, eqB_nn, x1, z]
end Gk69
open PySem PySem.Spec PyProof.Rows L2 L3
namespace Gk69
theorem law_ok (ns : List Int) : m_law [.fr (.rol (ns.map .int))] = some (.fr (.bl true), [.fr (.rol (ns.map .int))]) := by
  have h0 : St ns (.lst [.fr (.rol (ns.map .int)), .fr (.int 0), .fr (.int 0), .fr (.int 1)]) := ⟨0, 0, 1, by omega, rfl⟩
  obtain ⟨x0, st0, e0, u0, v0, g0⟩ := draw_ok h0 (many := 3) (by omega) (by omega)
  obtain ⟨x1, st1, e1, u1, v1, g1'⟩ := draw_ok g0 (many := 58) (by omega) (by omega)
  obtain ⟨x2, st2, e2, u2, v2, g2'⟩ := draw_ok g1' (many := 4) (by omega) (by omega)
  obtain ⟨x3, st3, e3, u3, v3, g3'⟩ := draw_ok g2' (many := 20) (by omega) (by omega)
  have x4 : x2 = 0 ∨ x2 = 1 ∨ x2 = 2 ∨ x2 = 3 := by omega
  obtain ⟨m2, em, hm1, hm2⟩ : ∃ m2 : Int, (ixN 4 x2).bind (fun j => [T.fr (D.int 57), T.fr (D.int 58), T.fr (D.int 59), T.fr (D.int 60)][j]?) = some (.fr (.int m2)) ∧ 1 ≤ m2 ∧ m2 ≤ 60 := by
    rcases x4 with rfl | rfl | rfl | rfl
    · exact ⟨57, rfl, by omega, by omega⟩
    · exact ⟨58, rfl, by omega, by omega⟩
    · exact ⟨59, rfl, by omega, by omega⟩
    · exact ⟨60, rfl, by omega, by omega⟩
  obtain ⟨st4, b4, b5, b6, b7, b8, b9, b10, b11, b12, g4, t1⟩ := turn g3' (n := 2 + x0) (m := 1 + x1) (by omega) (by omega) (by omega) (by omega) (a0 := some (.fr (.rol (ns.map .int)))) (a4 := none) (a5 := none) (a6 := none) (a7 := none) (a8 := none) (a9 := none) (a10 := none) (a11 := none) (a12 := none)
  obtain ⟨st5, c4, c5, c6, c7, c8, c9, c10, c11, c12, g5, t2⟩ := turn g4 (n := 2 + x0) (m := m2) (by omega) (by omega) hm1 hm2 (a0 := some (.fr (.rol (ns.map .int)))) (a4 := b4) (a5 := b5) (a6 := b6) (a7 := b7) (a8 := b8) (a9 := b9) (a10 := b10) (a11 := b11) (a12 := b12)
  obtain ⟨st6, d4, d5, d6, d7, d8, d9, d10, d11, d12, g6, t3⟩ := turn g5 (n := 2 + x0) (m := 16 + x3) (by omega) (by omega) (by omega) (by omega) (a0 := some (.fr (.rol (ns.map .int)))) (a4 := c4) (a5 := c5) (a6 := c6) (a7 := c7) (a8 := c8) (a9 := c9) (a10 := c10) (a11 := c11) (a12 := c12)
  have R : Runs (mName 3) l_law_2 [.int (1 + x1), .int m2, .int (16 + x3)] [some (.fr (.rol (ns.map .int))), some st3, some (.fr (.int (2 + x0))), none, none, none, none, none, none, none, none, none, none] _ :=
    .cons rfl t1 (.cons rfl t2 (.cons rfl t3 (.nil _)))
  have e := R.loop
  unfold m_law b_law mFun
  rw [if_pos (show [T.fr (D.rol (List.map D.int ns))].length = 1 from rfl)]
  have s1 : (mSeq (mAsg (mLst (mCons (mVarF 0) (mCons (mC (.int 0)) (mCons (mC (.int 0)) (mCons (mC (.int 1)) mNil))))) (mName 1))
    (mSeq (mAsg (mOp2 gAdd (mC (.int 2)) (mCall m__law_draw (mbBor 1 (mbVal (mC (.int 3)) mbNil)))) (mName 2))
    (mSeq (mFor (miSeq (mLst (mCons (mOp2 gAdd (mC (.int 1)) (mCall m__law_draw (mbBor 1 (mbVal (mC (.int 58)) mbNil)))) (mCons (mItem (mLst (mCons (mC (.int 57)) (mCons (mC (.int 58)) (mCons (mC (.int 59)) (mCons (mC (.int 60)) mNil))))) (mCall m__law_draw (mbBor 1 (mbVal (mC (.int 4)) mbNil)))) (mCons (mOp2 gAdd (mC (.int 16)) (mCall m__law_draw (mbBor 1 (mbVal (mC (.int 20)) mbNil)))) mNil))))) (mName 3) l_law_2)
    (mRet (mC (.bl true)))))) [some (.fr (.rol (ns.map .int))), none, none, none, none, none, none, none, none, none, none, none, none] = some (.ret (.fr (.bl true)), [some (.fr (.rol (ns.map .int))), some st6, some (.fr (.int (2 + x0))), some (.fr (.int (16 + x3))), d4, d5, d6, d7, d8, d9, d10, d11, d12]) := by
    refine (seq_nx (ρ1 := [some (.fr (.rol (ns.map .int))), some (.lst [.fr (.rol (ns.map .int)), .fr (.int 0), .fr (.int 0), .fr (.int 1)]), none, none, none, none, none, none, none, none, none, none, none]) ?_).trans ?_
    · simp [mSeq, mIfS, mTest, mOp2, mOp1, mOpn, mPlP, mPl, pIdx, pFld, pName, Pl.nrm, Pl.get, Pl.set, T.get, T.put, T.put1, T.sub, T.stp, ixN, D.item, atI, mC, mVarP, mVarF, mVarM, mAsg, mName, mStore, T.store, mFput, T.fput, mAppP, mAppT, mPop, mCons, mNil, mTup, T.mkTup, T.allfr, mLst, mAnd, mOr, mNot, mIf, mTruth, mTAnd, mTOr, mTNot, mTruthP, D.truth, T.truth, mChain, T.frz, T.frzs, g1, g2, gI, gI0, gB0, gAdd, gMul, gIs, gIsNot, D.isNon, gLen, D.len, T.len, mLenP, gAbs, gInt, gTupleOf, gListOf, mSnap, T.snap, gIsi, D.asTy, D.tyName, mItem, T.item, mRet, mRetN, mDrop, mCallP, mCall, mbNil, mbVal, mbBor, agTake, agGive, mMethR, T.hasM, mMethP, methFin, mMake, makeFin, mgTup, mgCons, mgNil, mNx, mBk, mCt, mFun, Out.val, outs, T.asFr, kidx, bMul, bDiv, bPos, bPow, mSlice, mPart, mNoPart, gSlice, L3.cutD, HT.sIx, T.isObj, D.fld, mTab, mInTab, mTabGet, mDeadS, mDeadE, mNotE, gNeg, gEq, gNe, D.eqB]
    refine (seq_nx (ρ1 := [some (.fr (.rol (ns.map .int))), some st0, some (.fr (.int (2 + x0))), none, none, none, none, none, none, none, none, none, none]) ?_).trans ?_
    · simp [mSeq, mIfS, mTest, mOp2, mOp1, mOpn, mPlP, mPl, pIdx, pFld, pName, Pl.nrm, Pl.get, Pl.set, T.get, T.put, T.put1, T.sub, T.stp, ixN, D.item, atI, mC, mVarP, mVarF, mVarM, mAsg, mName, mStore, T.store, mFput, T.fput, mAppP, mAppT, mPop, mCons, mNil, mTup, T.mkTup, T.allfr, mLst, mAnd, mOr, mNot, mIf, mTruth, mTAnd, mTOr, mTNot, mTruthP, D.truth, T.truth, mChain, T.frz, T.frzs, g1, g2, gI, gI0, gB0, gAdd, gMul, gIs, gIsNot, D.isNon, gLen, D.len, T.len, mLenP, gAbs, gInt, gTupleOf, gListOf, mSnap, T.snap, gIsi, D.asTy, D.tyName, mItem, T.item, mRet, mRetN, mDrop, mCallP, mCall, mbNil, mbVal, mbBor, agTake, agGive, mMethR, T.hasM, mMethP, methFin, mMake, makeFin, mgTup, mgCons, mgNil, mNx, mBk, mCt, mFun, Out.val, outs, T.asFr, kidx, bMul, bDiv, bPos, bPow, mSlice, mPart, mNoPart, gSlice, L3.cutD, HT.sIx, T.isObj, D.fld, mTab, mInTab, mTabGet, mDeadS, mDeadE, mNotE, gNeg, gEq, gNe, D.eqB, e0]
    refine (seq_nx (ρ1 := [some (.fr (.rol (ns.map .int))), some st6, some (.fr (.int (2 + x0))), some (.fr (.int (16 + x3))), d4, d5, d6, d7, d8, d9, d10, d11, d12]) ?_).trans rfl
    rcases x4 with rfl | rfl | rfl | rfl <;> (have em' := em; simp [ixN] at em'; subst em'; simp [mSeq, mIfS, mTest, mOp2, mOp1, mOpn, mPlP, mPl, pIdx, pFld, pName, Pl.nrm, Pl.get, Pl.set, T.get, T.put, T.put1, T.sub, T.stp, ixN, D.item, atI, mC, mVarP, mVarF, mVarM, mAsg, mName, mStore, T.store, mFput, T.fput, mAppP, mAppT, mPop, mCons, mNil, mTup, T.mkTup, T.allfr, mLst, mAnd, mOr, mNot, mIf, mTruth, mTAnd, mTOr, mTNot, mTruthP, D.truth, T.truth, mChain, T.frz, T.frzs, g1, g2, gI, gI0, gB0, gAdd, gMul, gIs, gIsNot, D.isNon, gLen, D.len, T.len, mLenP, gAbs, gInt, gTupleOf, gListOf, mSnap, T.snap, gIsi, D.asTy, D.tyName, mItem, T.item, mRet, mRetN, mDrop, mCallP, mCall, mbNil, mbVal, mbBor, agTake, agGive, mMethR, T.hasM, mMethP, methFin, mMake, makeFin, mgTup, mgCons, mgNil, mNx, mBk, mCt, mFun, Out.val, outs, T.asFr, kidx, bMul, bDiv, bPos, bPow, mSlice, mPart, mNoPart, gSlice, L3.cutD, HT.sIx, T.isObj, D.fld, mTab, mInTab, mTabGet, mDeadS, mDeadE, mNotE, gNeg, gEq, gNe, D.eqB, mFor, miSeq, D.items, e1, e2, e3]; exact e)
  show ((mSeq _ _) [some (.fr (.rol (ns.map .int))), none, none, none, none, none, none, none, none, none, none, none, none]).bind _ = _
  rw [s1]
  rfl
end Gk69
namespace L3
open PySem PySem.Spec PyProof.Rows L2
theorem reps_intl {K : PySem.W.Frag} {F : Hp} : ∀ {ns : List Int}, RepDs K F (ns.map D.int) (ns.map V.int)
  | [] => rfl
  | n :: ns => ⟨.int n, ns.map V.int, rfl, rfl, reps_intl⟩
/-- the law's promise, by its mirror -/
theorem law_sp {K : PySem.W.Frag} {H : Hp} {a : Addr} {ns : List Int} {mf : MF} {l : List T} {E : XK} (e : mf [.fr (.rol (ns.map .int))] = some (.fr (.bl true), l)) (h : SqL K H a (ns.map V.int)) : spM K mf [.ref a] H (fun v _ => v = .bl true) E :=
  ⟨H, [], [], [.fr (.rol (ns.map .int))], _, _, ⟨Same.refl _, fun _ => by simp, fun _ z => by simp at z⟩, fun _ z => by simp at z,
    ⟨.ref a, [], [], [], rfl, rfl, ⟨rfl, a, ns.map V.int, rfl, h, reps_intl⟩, rfl, rfl⟩, e, fun v F' H' Sv S' _ _ _ r _ => r.2⟩
end L3
open PySem PySem.W PySem.Calls PyProof.Rows
theorem PySem.Challenge.cw_handshidden_k69_high_stacks_holds : PySem.Challenge.rw_handshidden_k69_high_stacks.Holds := by
  w_on; o_law
  refine HandSHeadRun.head_any (r := OpenLaw.row PySem.Challenge.rw_handshidden_k69_high_stacks) (q := view (OpenLaw.row PySem.Challenge.rw_handshidden_k69_high_stacks).prog [48]) (H := Gk69.hk) (ob := Gk69.ob) (M := 3000) (loose := Gk69.names) (d := HandSHeadRun.topDef (OpenLaw.row PySem.Challenge.rw_handshidden_k69_high_stacks).prog 48) (kwd := []) Gk69.ob_eq
    (by kernel_rfl) (fun s => by kernel_rfl) Gk69.run (by kernel_rfl) (by kernel_rfl) (by kernel_rfl) (by rfl) (by first | assumption | decide +kernel) (by decide +kernel) ⟨rfl, rfl, rfl, rfl, rfl, by decide +kernel⟩ ?hw ?hc
  case hw => w_witness2
  case hc =>
    refine L2.walk_ofE (l := PySem.Challenge.rw_handshidden_k69_high_stacks) (n := 63) (k := 9) (x := "script") (CX := L2.CX0) rfl (by decide) (by kernel_rfl) ⟨rfl, by decide, by decide⟩ ?F (fun _ _ _ _ z => z)
    intro w mg fa h Y G hmg0
    obtain ⟨K, KX, c⟩ := Y
    have hmg : mg ("law" : PySem.Str) = some (.ref fa) := by
      have e : (HandSHeadRun.topDef (OpenLaw.row PySem.Challenge.rw_handshidden_k69_high_stacks).prog 48).name = ("law" : PySem.Str) := by kernel_rfl
      rw [← e]
      exact hmg0
    have y : L3.Yf Gk69.fa Gk69.fn Gk69.tb Gk69.cs w K mg := L3.Yf.of KX G c
    obtain ⟨fd, hb, hF⟩ := Gk69.fn_law (P := (PySem.Challenge.rw_handshidden_k69_high_stacks).prog) y
    have ef : He.fAd K ("law", none) = fa := by
      have e1 := y.glo 20
      rw [hmg] at e1
      exact (Value.ref.inj (Option.some.inj e1)).symm
    rw [ef] at hF
    exact ⟨K, fd, L3.spM K Gk69.m_law, KX, hb, fun H a ns hl _ hS => L3.law_sp (Gk69.law_ok ns) hS, fun base _ _ => hF base⟩
