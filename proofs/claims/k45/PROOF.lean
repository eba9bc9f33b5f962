import PyProof.Rows.All
import HandS.ForMost
import HandS.Wide
import HandS.Style
import HandS.IsInst
import HandS.TupAny
import HandS.Deep
import HandS.ForExc
import HandS.Conv
import HandS.SortInts
import PyProof.ReprRoads
import HandS.DictComp
import HandS.WordsDict
import HandS.ExcInit
import KE.KExcSuper
import HandS.RaiseMore
import HandS.ExcIs
import HandS.ExcField
import KE.KExcIs
import KE.SortData
import HandS.TupLe
import HandS.RevTup
import HandS.Rev
import HandS.Iter
import KE.LtSeq
import HandS.Dict
import PySem.Challenge.RW_siftyard_k45_whole_colours_by_rounds
set_option Elab.async false
set_option linter.all false
set_option maxRecDepth 100000
set_option maxHeartbeats 4000000
namespace Z
open PySem L2

/-! ### data, and data with marks of what is owned -/
inductive D where
  | non | bl (b : Bool) | int (i : Int) | str (s : Str) | lst (l : List D) | tup (l : List D) | dic (ks : List Key) (l : List D)
inductive T where
  | sh (d : D) | ol (l : List T) | ot (l : List T) | od (ks : List Key) (l : List T)
mutual
def T.d : T → D
  | .sh d => d
  | .ol l => .lst (dl l)
  | .ot l => .tup (dl l)
  | .od ks l => .dic ks (dl l)
def dl : List T → List D
  | [] => []
  | t :: l => t.d :: dl l
end
mutual
def Rp (S : Hp) : D → V → Prop
  | .non, v => v = .non
  | .bl b, v => v = .bl b
  | .int i, v => v = .int i
  | .str s, v => v = .str s
  | .lst l, v => ∃ a vs, v = .ref a ∧ S a = some (.lst vs) ∧ Rpl S l vs
  | .tup l, v => ∃ a vs, v = .ref a ∧ S a = some (.tup vs) ∧ Rpl S l vs
  | .dic ks l, v => ∃ a vs, v = .ref a ∧ S a = some (.dK (ks.zip vs)) ∧ ks.length = l.length ∧ Rpl S l vs
def Rpl (S : Hp) : List D → List V → Prop
  | [], vs => vs = []
  | d :: l, vs => ∃ v r, vs = v :: r ∧ Rp S d v ∧ Rpl S l r
end
mutual
def Rt (S H : Hp) : T → V → List Addr → Prop
  | .sh d, v, as => as = [] ∧ Rp S d v
  | .ol l, v, as => ∃ a vs bs, v = .ref a ∧ as = a :: bs ∧ H a = some (.lst vs) ∧ Rtl S H l vs bs
  | .ot l, v, as => ∃ a vs bs, v = .ref a ∧ as = a :: bs ∧ H a = some (.tup vs) ∧ Rtl S H l vs bs
  | .od ks l, v, as => ∃ a vs bs, v = .ref a ∧ as = a :: bs ∧ H a = some (.dK (ks.zip vs)) ∧ ks.length = l.length ∧ Rtl S H l vs bs
def Rtl (S H : Hp) : List T → List V → List Addr → Prop
  | [], vs, as => vs = [] ∧ as = []
  | t :: l, vs, as => ∃ v r b c, vs = v :: r ∧ as = b ++ c ∧ Rt S H t v b ∧ Rtl S H l r c
end
mutual
theorem Rp.mono {S S' : Hp} (e : Same S S') : ∀ {d : D} {v : V}, Rp S d v → Rp S' d v
  | .non, _, h => h
  | .bl _, _, h => h
  | .int _, _, h => h
  | .str _, _, h => h
  | .lst _, _, ⟨a, vs, h1, h2, h3⟩ => ⟨a, vs, h1, e _ _ h2, Rpl.mono e h3⟩
  | .tup _, _, ⟨a, vs, h1, h2, h3⟩ => ⟨a, vs, h1, e _ _ h2, Rpl.mono e h3⟩
  | .dic _ _, _, ⟨a, vs, h1, h2, h4, h3⟩ => ⟨a, vs, h1, e _ _ h2, h4, Rpl.mono e h3⟩
theorem Rpl.mono {S S' : Hp} (e : Same S S') : ∀ {d : List D} {v : List V}, Rpl S d v → Rpl S' d v
  | [], _, h => h
  | _ :: _, _, ⟨v, r, h1, h2, h3⟩ => ⟨v, r, h1, Rp.mono e h2, Rpl.mono e h3⟩
end
mutual
theorem Rt.mono {S S' H H' : Hp} (e : Same S S') : ∀ {t : T} {v : V} {as : List Addr}, (∀ a ∈ as, H' a = H a) → Rt S H t v as → Rt S' H' t v as
  | .sh _, _, _, _, ⟨h1, h2⟩ => ⟨h1, h2.mono e⟩
  | .ol l, _, _, k, ⟨a, vs, bs, h1, h2, h3, h4⟩ => by
    subst h2
    exact ⟨a, vs, bs, h1, rfl, (k a (by simp)).trans h3, Rtl.mono e (fun b hb => k b (by simp [hb])) h4⟩
  | .ot l, _, _, k, ⟨a, vs, bs, h1, h2, h3, h4⟩ => by
    subst h2
    exact ⟨a, vs, bs, h1, rfl, (k a (by simp)).trans h3, Rtl.mono e (fun b hb => k b (by simp [hb])) h4⟩
  | .od ks l, _, _, k, ⟨a, vs, bs, h1, h2, h3, h5, h4⟩ => by
    subst h2
    exact ⟨a, vs, bs, h1, rfl, (k a (by simp)).trans h3, h5, Rtl.mono e (fun b hb => k b (by simp [hb])) h4⟩
theorem Rtl.mono {S S' H H' : Hp} (e : Same S S') : ∀ {t : List T} {v : List V} {as : List Addr}, (∀ a ∈ as, H' a = H a) → Rtl S H t v as → Rtl S' H' t v as
  | [], _, _, _, h => h
  | _ :: _, _, _, k, ⟨v, r, b, c, h1, h2, h3, h4⟩ => by
    subst h2
    exact ⟨v, r, b, c, h1, rfl, Rt.mono e (fun a ha => k a (by simp [ha])) h3, Rtl.mono e (fun a ha => k a (by simp [ha])) h4⟩
end
mutual
theorem Rt.toRp {S H S' : Hp} (e : Same S S') : ∀ {t : T} {v : V} {as : List Addr}, (∀ a ∈ as, ∀ o, H a = some o → S' a = some o) → Rt S H t v as → Rp S' t.d v
  | .sh _, _, _, _, ⟨h1, h2⟩ => h2.mono e
  | .ol l, _, _, k, ⟨a, vs, bs, h1, h2, h3, h4⟩ => by
    subst h2
    exact ⟨a, vs, h1, k a (by simp) _ h3, Rtl.toRpl e (fun b hb => k b (by simp [hb])) h4⟩
  | .ot l, _, _, k, ⟨a, vs, bs, h1, h2, h3, h4⟩ => by
    subst h2
    exact ⟨a, vs, h1, k a (by simp) _ h3, Rtl.toRpl e (fun b hb => k b (by simp [hb])) h4⟩
  | .od ks l, _, _, k, ⟨a, vs, bs, h1, h2, h3, h5, h4⟩ => by
    subst h2
    have hl : ∀ l : List T, (dl l).length = l.length := by
      intro l
      induction l with
      | nil => rfl
      | cons t l ih => simp only [dl, List.length_cons, ih]
    exact ⟨a, vs, h1, k a (by simp) _ h3, h5.trans (hl l).symm, Rtl.toRpl e (fun b hb => k b (by simp [hb])) h4⟩
theorem Rtl.toRpl {S H S' : Hp} (e : Same S S') : ∀ {t : List T} {v : List V} {as : List Addr}, (∀ a ∈ as, ∀ o, H a = some o → S' a = some o) → Rtl S H t v as → Rpl S' (dl t) v
  | [], _, _, _, h => h.1
  | _ :: _, _, _, k, ⟨v, r, b, c, h1, h2, h3, h4⟩ => by
    subst h2
    exact ⟨v, r, h1, Rt.toRp e (fun a ha => k a (by simp [ha])) h3, Rtl.toRpl e (fun a ha => k a (by simp [ha])) h4⟩
end
mutual
theorem Rt.there {S H : Hp} : ∀ {t : T} {v : V} {as : List Addr}, Rt S H t v as → ∀ a ∈ as, H a ≠ none
  | .sh _, _, _, ⟨h1, h2⟩, a, ha => by subst h1; cases ha
  | .ol l, _, _, ⟨a, vs, bs, h1, h2, h3, h4⟩, b, hb => by
    subst h2
    rcases List.mem_cons.mp hb with rfl | hb
    · rw [h3]; simp
    · exact Rtl.there h4 b hb
  | .ot l, _, _, ⟨a, vs, bs, h1, h2, h3, h4⟩, b, hb => by
    subst h2
    rcases List.mem_cons.mp hb with rfl | hb
    · rw [h3]; simp
    · exact Rtl.there h4 b hb
  | .od ks l, _, _, ⟨a, vs, bs, h1, h2, h3, h5, h4⟩, b, hb => by
    subst h2
    rcases List.mem_cons.mp hb with rfl | hb
    · rw [h3]; simp
    · exact Rtl.there h4 b hb
theorem Rtl.there {S H : Hp} : ∀ {t : List T} {v : List V} {as : List Addr}, Rtl S H t v as → ∀ a ∈ as, H a ≠ none
  | [], _, _, h, a, ha => by rw [h.2] at ha; cases ha
  | _ :: _, _, _, ⟨v, r, b, c, h1, h2, h3, h4⟩, a, ha => by
    subst h2
    rcases List.mem_append.mp ha with ha | ha
    · exact Rt.there h3 a ha
    · exact Rtl.there h4 a ha
end
theorem dl_eq : ∀ l : List T, dl l = l.map T.d
  | [] => rfl
  | t :: l => by simp only [dl, dl_eq l, List.map_cons]
theorem Rpl.len {S : Hp} : ∀ {l : List D} {vs : List V}, Rpl S l vs → vs.length = l.length
  | [], _, h => by rw [h]; rfl
  | _ :: _, _, ⟨v, r, h1, h2, h3⟩ => by subst h1; simp only [List.length_cons, Rpl.len h3]
theorem Rtl.len {S H : Hp} : ∀ {l : List T} {vs : List V} {as : List Addr}, Rtl S H l vs as → vs.length = l.length
  | [], _, _, h => by rw [h.1]; rfl
  | _ :: _, _, _, ⟨v, r, _, _, h1, _, h2, h3⟩ => by subst h1; simp only [List.length_cons, Rtl.len h3]
theorem Rpl.get {S : Hp} : ∀ {l : List D} {vs : List V} {i : Nat} {d : D}, Rpl S l vs → l[i]? = some d → ∃ v, vs[i]? = some v ∧ Rp S d v
  | [], _, _, _, _, e => by simp at e
  | _ :: _, _, 0, d, ⟨v, r, h1, h2, h3⟩, e => by subst h1; simp at e; subst e; exact ⟨v, rfl, h2⟩
  | _ :: _, _, i + 1, d, ⟨v, r, h1, h2, h3⟩, e => by subst h1; simp at e; simpa using Rpl.get h3 e
theorem Rpl.append {S : Hp} : ∀ {l m : List D} {vs ws : List V}, Rpl S l vs → Rpl S m ws → Rpl S (l ++ m) (vs ++ ws)
  | [], _, _, _, h, k => by rw [show _ = [] from h]; exact k
  | _ :: _, _, _, _, ⟨v, r, h1, h2, h3⟩, k => by subst h1; exact ⟨v, _, rfl, h2, Rpl.append h3 k⟩
theorem Rpl.take {S : Hp} : ∀ {l : List D} {vs : List V} (n : Nat), Rpl S l vs → Rpl S (l.take n) (vs.take n)
  | [], _, n, h => by rw [show _ = [] from h]; simp [Rpl]
  | _ :: _, _, 0, h => by simp [Rpl]
  | _ :: _, _, n + 1, ⟨v, r, h1, h2, h3⟩ => by subst h1; exact ⟨v, _, rfl, h2, Rpl.take n h3⟩
theorem Rpl.drop {S : Hp} : ∀ {l : List D} {vs : List V} (n : Nat), Rpl S l vs → Rpl S (l.drop n) (vs.drop n)
  | [], _, n, h => by rw [show _ = [] from h]; simp [Rpl]
  | _ :: _, _, 0, h => h
  | _ :: _, _, n + 1, ⟨v, r, h1, h2, h3⟩ => by subst h1; exact Rpl.drop n h3
theorem Rpl.rev {S : Hp} : ∀ {l : List D} {vs : List V}, Rpl S l vs → Rpl S l.reverse vs.reverse
  | [], _, h => by rw [show _ = [] from h]; rfl
  | _ :: _, _, ⟨v, r, h1, h2, h3⟩ => by
    subst h1
    rw [List.reverse_cons, List.reverse_cons]
    exact Rpl.append (Rpl.rev h3) ⟨v, [], rfl, h2, rfl⟩
/-- a tree with all its marks gone, as shared data -/
theorem Rpl.toRtl {S H : Hp} : ∀ {l : List D} {vs : List V}, Rpl S l vs → Rtl S H (l.map T.sh) vs []
  | [], _, h => ⟨h, rfl⟩
  | _ :: _, _, ⟨v, r, h1, h2, h3⟩ => ⟨v, r, [], [], h1, rfl, ⟨rfl, h2⟩, Rpl.toRtl h3⟩
theorem Rtl.append {S H : Hp} : ∀ {l m : List T} {vs ws : List V} {as bs : List Addr}, Rtl S H l vs as → Rtl S H m ws bs → Rtl S H (l ++ m) (vs ++ ws) (as ++ bs)
  | [], _, _, _, _, _, ⟨h1, h2⟩, k => by subst h1 h2; exact k
  | _ :: _, _, _, _, _, _, ⟨v, r, b, c, h1, h2, h3, h4⟩, k => by
    subst h1 h2
    exact ⟨v, _, b, c ++ _, rfl, List.append_assoc .., h3, Rtl.append h4 k⟩
/-- the i-th of a row, and another in its place -/
theorem Rtl.at {S H : Hp} : ∀ {l : List T} {vs : List V} {as : List Addr} {i : Nat} {t : T}, Rtl S H l vs as → l[i]? = some t →
    ∃ v b c d, vs[i]? = some v ∧ as = b ++ c ++ d ∧ Rt S H t v c ∧ ∀ S' H' t' v' c', Same S S' → (∀ a ∈ b ++ d, H' a = H a) → Rt S' H' t' v' c' → Rtl S' H' (l.set i t') (vs.set i v') (b ++ c' ++ d)
  | [], _, _, _, _, _, e => by simp at e
  | u :: l, _, _, 0, t, ⟨v, r, b, c, h1, h2, h3, h4⟩, e => by
    subst h1 h2
    simp at e
    subst e
    refine ⟨v, [], b, c, rfl, rfl, h3, fun S' H' t' v' c' es k q => ?_⟩
    exact ⟨v', r, c', c, rfl, rfl, q, h4.mono es (fun a ha => k a (by simp [ha]))⟩
  | u :: l, _, _, i + 1, t, ⟨v, r, b, c, h1, h2, h3, h4⟩, e => by
    subst h1 h2
    simp at e
    obtain ⟨w, b1, c1, d1, e1, e2, e3, k⟩ := Rtl.at h4 e
    subst e2
    refine ⟨w, b ++ b1, c1, d1, by simpa using e1, by simp [List.append_assoc], e3, fun S' H' t' v' c' es k' q => ?_⟩
    refine ⟨v, r.set i v', b, b1 ++ c' ++ d1, rfl, by simp [List.append_assoc], h3.mono es (fun a ha => k' a (by simp [ha])), ?_⟩
    exact k S' H' t' v' c' es (fun a ha => k' a (by simp at ha ⊢; rcases ha with h | h <;> simp [h])) q

/-! ### the names of a def -/
abbrev Env := List (Option T)
def Re (S H : Hp) : Env → St → List Addr → Prop
  | [], σ, as => σ = [] ∧ as = []
  | none :: ρ, σ, as => ∃ o r, σ = o :: r ∧ Re S H ρ r as
  | some t :: ρ, σ, as => ∃ v r b c, σ = some v :: r ∧ as = b ++ c ∧ Rt S H t v b ∧ Re S H ρ r c
theorem Re.mono {S S' H H' : Hp} (e : Same S S') : ∀ {ρ : Env} {σ : St} {as : List Addr}, (∀ a ∈ as, H' a = H a) → Re S H ρ σ as → Re S' H' ρ σ as
  | [], _, _, _, h => h
  | none :: _, _, _, k, ⟨o, r, h1, h2⟩ => ⟨o, r, h1, Re.mono e k h2⟩
  | some _ :: _, _, _, k, ⟨v, r, b, c, h1, h2, h3, h4⟩ => by
    subst h2
    exact ⟨v, r, b, c, h1, rfl, h3.mono e (fun a ha => k a (by simp [ha])), Re.mono e (fun a ha => k a (by simp [ha])) h4⟩
theorem Re.there {S H : Hp} : ∀ {ρ : Env} {σ : St} {as : List Addr}, Re S H ρ σ as → ∀ a ∈ as, H a ≠ none
  | [], _, _, h, a, ha => by rw [h.2] at ha; cases ha
  | none :: _, _, _, ⟨o, r, h1, h2⟩, a, ha => Re.there h2 a ha
  | some _ :: _, _, _, ⟨v, r, b, c, h1, h2, h3, h4⟩, a, ha => by
    subst h2
    rcases List.mem_append.mp ha with ha | ha
    · exact h3.there a ha
    · exact Re.there h4 a ha
theorem Re.len {S H : Hp} : ∀ {ρ : Env} {σ : St} {as : List Addr}, Re S H ρ σ as → σ.length = ρ.length
  | [], _, _, h => by rw [h.1]; rfl
  | none :: _, _, _, ⟨o, r, h1, h2⟩ => by subst h1; simp only [List.length_cons, Re.len h2]
  | some _ :: _, _, _, ⟨v, r, b, c, h1, h2, h3, h4⟩ => by subst h1; simp only [List.length_cons, Re.len h4]
/-- the i-th name's value (if it has one), and another in its place, or none -/
theorem Re.at {S H : Hp} : ∀ {ρ : Env} {σ : St} {as : List Addr} {i : Nat} {t : T}, Re S H ρ σ as → ρ[i]? = some (some t) →
    ∃ v b c d, σ[i]? = some (some v) ∧ as = b ++ c ++ d ∧ Rt S H t v c ∧ (∀ S' H' t' v' c', Same S S' → (∀ a ∈ b ++ d, H' a = H a) → Rt S' H' t' v' c' → Re S' H' (ρ.set i (some t')) (σ.set i (some v')) (b ++ c' ++ d)) ∧
      (∀ S' H' o, Same S S' → (∀ a ∈ b ++ d, H' a = H a) → Re S' H' (ρ.set i none) (σ.set i o) (b ++ d))
  | [], _, _, _, _, _, e => by simp at e
  | none :: _, _, _, 0, _, _, e => by simp at e
  | some _ :: _, _, _, 0, t, ⟨v, r, b, c, h1, h2, h3, h4⟩, e => by
    subst h1 h2
    simp at e
    subst e
    refine ⟨v, [], b, c, rfl, rfl, h3, fun S' H' t' v' c' es k q => ?_, fun S' H' o es k => ?_⟩
    · exact ⟨v', r, c', c, rfl, rfl, q, h4.mono es (fun a ha => k a (by simp [ha]))⟩
    · exact ⟨o, r, rfl, h4.mono es (fun a ha => k a (by simpa using ha))⟩
  | none :: _, _, _, i + 1, t, ⟨o, r, h1, h2⟩, e => by
    subst h1
    simp at e
    obtain ⟨w, b1, c1, d1, e1, e2, e3, k, k2⟩ := Re.at h2 e
    refine ⟨w, b1, c1, d1, by simpa using e1, e2, e3, fun S' H' t' v' c' es k' q => ⟨o, _, rfl, k S' H' t' v' c' es k' q⟩, fun S' H' o' es k' => ⟨o, _, rfl, k2 S' H' o' es k'⟩⟩
  | some _ :: _, _, _, i + 1, t, ⟨v, r, b, c, h1, h2, h3, h4⟩, e => by
    subst h1 h2
    simp at e
    obtain ⟨w, b1, c1, d1, e1, e2, e3, k, k2⟩ := Re.at h4 e
    subst e2
    refine ⟨w, b ++ b1, c1, d1, by simpa using e1, by simp [List.append_assoc], e3, fun S' H' t' v' c' es k' q => ?_, fun S' H' o' es k' => ?_⟩
    · refine ⟨v, _, b, b1 ++ c' ++ d1, rfl, by simp [List.append_assoc], h3.mono es (fun a ha => k' a (by simp [ha])), ?_⟩
      exact k S' H' t' v' c' es (fun a ha => k' a (by simp at ha ⊢; rcases ha with h | h <;> simp [h])) q
    · refine ⟨v, _, b, b1 ++ d1, rfl, by simp [List.append_assoc], h3.mono es (fun a ha => k' a (by simp [ha])), ?_⟩
      exact k2 S' H' o' es (fun a ha => k' a (by simp at ha ⊢; rcases ha with h | h <;> simp [h]))
/-- a name without a (known) value gets one -/
theorem Re.put {S H : Hp} : ∀ {ρ : Env} {σ : St} {as : List Addr} {i : Nat}, Re S H ρ σ as → ρ[i]? = some none →
    ∃ b d, as = b ++ d ∧ ∀ S' H' t' v' c', Same S S' → (∀ a ∈ as, H' a = H a) → Rt S' H' t' v' c' → Re S' H' (ρ.set i (some t')) (σ.set i (some v')) (b ++ c' ++ d)
  | [], _, _, _, _, e => by simp at e
  | none :: _, _, _, 0, ⟨o, r, h1, h2⟩, e => by
    subst h1
    exact ⟨[], _, rfl, fun S' H' t' v' c' es k q => ⟨v', r, c', _, rfl, rfl, q, h2.mono es k⟩⟩
  | some _ :: _, _, _, 0, _, e => by simp at e
  | none :: _, _, _, i + 1, ⟨o, r, h1, h2⟩, e => by
    subst h1
    simp at e
    obtain ⟨b, d, e2, k⟩ := Re.put h2 e
    exact ⟨b, d, e2, fun S' H' t' v' c' es k' q => ⟨o, _, rfl, k S' H' t' v' c' es k' q⟩⟩
  | some _ :: _, _, _, i + 1, ⟨v, r, b, c, h1, h2, h3, h4⟩, e => by
    subst h1 h2
    simp at e
    obtain ⟨b1, d1, e2, k⟩ := Re.put h4 e
    subst e2
    refine ⟨b ++ b1, d1, by simp [List.append_assoc], fun S' H' t' v' c' es k' q => ?_⟩
    refine ⟨v, _, b, b1 ++ c' ++ d1, rfl, by simp [List.append_assoc], h3.mono es (fun a ha => k' a (by simp [ha])), ?_⟩
    exact k S' H' t' v' c' es (fun a ha => k' a (by simp at ha ⊢; rcases ha with h | h <;> simp [h])) q

structure G (W S0 S H : Hp) (ρ : Env) (σ : St) (tm : List T) (vm : List V) (as bs : List Addr) : Prop where
  s0 : Same S0 S
  sh : Same S H
  wh : Same W H
  nw : ∀ a, W a ≠ none → S a ≠ none → S0 a ≠ none
  re : Re S H ρ σ as
  rt : Rtl S H tm vm bs
  nd : (as ++ bs).Nodup
  fs : ∀ a ∈ as ++ bs, S a = none
  fw : ∀ a ∈ as ++ bs, W a = none
def GX (W S0 : Hp) (ρ : Env) (σ : St) (tm : List T) (vm : List V) (H : Hp) : Prop := ∃ S as bs, G W S0 S H ρ σ tm vm as bs
end Z

namespace Z
open PySem L2
variable {W S0 S H H' : Hp} {ρ : Env} {σ : St} {t u : T} {ts us tm : List T} {v w : V} {vs ws vm : List V} {as bs : List Addr} {i : Nat} {d : D}
theorem same_at {a : Addr} (e : Same H H') (h : H a ≠ none) : H' a = H a := by
  cases q : H a with
  | none => exact absurd q h
  | some o => exact e a o q
theorem same_new {p : Addr} {o : HO} (h : H p = none) : Same H (upd H p o) := fun b x e => by rw [upd_ne (ne_of_none e h)]; exact e
theorem Rtl.split : ∀ {ts tm : List T} {vs vm : List V} {as : List Addr}, vs.length = ts.length → Rtl S H (ts ++ tm) (vs ++ vm) as → ∃ b c, as = b ++ c ∧ Rtl S H ts vs b ∧ Rtl S H tm vm c
  | [], _, [], _, _, _, h => ⟨[], _, rfl, ⟨rfl, rfl⟩, h⟩
  | [], _, _ :: _, _, _, e, _ => by simp at e
  | _ :: _, _, [], _, _, e, _ => by simp at e
  | t :: ts, tm, v :: vs, vm, as, e, ⟨w, r, b, c, h1, h2, h3, h4⟩ => by
    simp only [List.cons_append, List.cons.injEq] at h1
    obtain ⟨rfl, rfl⟩ := h1
    obtain ⟨b1, c1, rfl, h5, h6⟩ := Rtl.split (by simpa using e) h4
    exact ⟨b ++ b1, c1, by rw [h2, List.append_assoc], ⟨v, vs, b, b1, rfl, rfl, h3, h5⟩, h6⟩
theorem GX.ext (e : Same H H') (g : GX W S0 ρ σ tm vm H) : GX W S0 ρ σ tm vm H' := by
  obtain ⟨S, as, bs, g⟩ := g
  refine ⟨S, as, bs, g.s0, fun a o h => e a o (g.sh a o h), fun a o h => e a o (g.wh a o h), g.nw, g.re.mono (fun _ _ h => h) fun a ha => same_at e (g.re.there a ha), g.rt.mono (fun _ _ h => h) fun a ha => same_at e (g.rt.there a ha), g.nd, g.fs, g.fw⟩
/-- what the names hold, as data that can be read -/
def RV (H : Hp) (ρ : Env) (σ : St) : Prop := ∀ (i : Nat) t, ρ[i]? = some (some t) → ∃ v, σ[i]? = some (some v) ∧ Rp H t.d v
theorem GX.rv (g : GX W S0 ρ σ tm vm H) : RV H ρ σ := fun i t e => by
  obtain ⟨S, as, bs, g⟩ := g
  obtain ⟨v, b, c, d, e1, e2, e3, _⟩ := g.re.at e
  exact ⟨v, e1, e3.toRp g.sh fun a _ o h => h⟩
theorem RV.ext (e : Same H H') (g : RV H ρ σ) : RV H' ρ σ := fun i t h => let ⟨v, h1, h2⟩ := g i t h; ⟨v, h1, h2.mono e⟩
/-- a new list or tuple of the last temporaries -/
theorem G.new {p : Addr} {o : HO} (g : G W S0 S H ρ σ (ts ++ tm) (vs ++ vm) as bs) (e : vs.length = ts.length) (hp : H p = none) (hn : ∀ H' b, H' p = some o → Rtl S H' ts vs b → Rt S H' t (.ref p) (p :: b)) : GX W S0 ρ σ (t :: tm) (.ref p :: vm) (upd H p o) := by
  obtain ⟨b, c, rfl, h1, h2⟩ := g.rt.split e
  have en : Same H (upd H p o) := same_new hp
  have hw : W p = none := by
    cases q : W p with
    | none => rfl
    | some x => have := g.wh p x q; rw [hp] at this; cases this
  have hs : S p = none := by
    cases q : S p with
    | none => rfl
    | some x => have := g.sh p x q; rw [hp] at this; cases this
  have n1 : p ∉ as := fun h => g.re.there p h hp
  have n2 : p ∉ b := fun h => h1.there p h hp
  have n3 : p ∉ c := fun h => h2.there p h hp
  refine ⟨S, as, (p :: b) ++ c, g.s0, fun a o h => en a o (g.sh a o h), fun a o h => en a o (g.wh a o h), g.nw, g.re.mono (fun _ _ h => h) fun a ha => same_at en (g.re.there a ha), ?_, ?_, ?_, ?_⟩
  · exact ⟨.ref p, vm, p :: b, c, rfl, rfl, hn _ _ upd_same (h1.mono (fun _ _ h => h) fun a ha => same_at en (h1.there a ha)), h2.mono (fun _ _ h => h) fun a ha => same_at en (h2.there a ha)⟩
  · have := g.nd
    grind
  · have := g.fs
    grind
  · have := g.fw
    grind
theorem GX.newL {p : Addr} (g : GX W S0 ρ σ (ts ++ tm) (vs ++ vm) H) (e : vs.length = ts.length) (hp : H p = none) : GX W S0 ρ σ (.ol ts :: tm) (.ref p :: vm) (upd H p (.lst vs)) := by
  obtain ⟨S, as, bs, g⟩ := g
  exact g.new (o := .lst vs) e hp fun H' b h1 h2 => ⟨p, vs, b, rfl, rfl, h1, h2⟩
theorem GX.newT {p : Addr} (g : GX W S0 ρ σ (ts ++ tm) (vs ++ vm) H) (e : vs.length = ts.length) (hp : H p = none) : GX W S0 ρ σ (.ot ts :: tm) (.ref p :: vm) (upd H p (.tup vs)) := by
  obtain ⟨S, as, bs, g⟩ := g
  exact g.new (o := .tup vs) e hp fun H' b h1 h2 => ⟨p, vs, b, rfl, rfl, h1, h2⟩
theorem GX.newD {p : Addr} {ks : List Key} (g : GX W S0 ρ σ (ts ++ tm) (vs ++ vm) H) (e : vs.length = ts.length) (ek : ks.length = ts.length) (hp : H p = none) : GX W S0 ρ σ (.od ks ts :: tm) (.ref p :: vm) (upd H p (.dK (ks.zip vs))) := by
  obtain ⟨S, as, bs, g⟩ := g
  exact g.new (o := .dK (ks.zip vs)) e hp fun H' b h1 h2 => ⟨p, vs, b, rfl, rfl, h1, ek, h2⟩
theorem GX.len (g : GX W S0 ρ σ tm vm H) : vm.length = tm.length := let ⟨_, _, _, g⟩ := g; g.rt.len
theorem GX.lenE (g : GX W S0 ρ σ tm vm H) : σ.length = ρ.length := let ⟨_, _, _, g⟩ := g; g.re.len
theorem GX.pop (g : GX W S0 ρ σ (ts ++ tm) (vs ++ vm) H) (e : vs.length = ts.length) : GX W S0 ρ σ tm vm H := by
  obtain ⟨S, as, bs, g⟩ := g
  obtain ⟨b, c, rfl, h1, h2⟩ := g.rt.split e
  exact ⟨S, as, c, g.s0, g.sh, g.wh, g.nw, g.re, h2, by have := g.nd; grind, by have := g.fs; grind, by have := g.fw; grind⟩
theorem GX.pop1 (g : GX W S0 ρ σ (t :: tm) (v :: vm) H) : GX W S0 ρ σ tm vm H := GX.pop (ts := [t]) (vs := [v]) g rfl
/-- temporaries in another order -/
theorem GX.rot (g : GX W S0 ρ σ (ts ++ t :: tm) (vs ++ v :: vm) H) (e : vs.length = ts.length) : GX W S0 ρ σ (t :: (ts ++ tm)) (v :: (vs ++ vm)) H := by
  obtain ⟨S, as, bs, g⟩ := g
  obtain ⟨b, c, rfl, h1, h2⟩ := g.rt.split e
  obtain ⟨v', r, b1, c1, h3, rfl, h4, h5⟩ := h2
  simp only [List.cons.injEq] at h3
  obtain ⟨rfl, rfl⟩ := h3
  refine ⟨S, as, b1 ++ (b ++ c1), g.s0, g.sh, g.wh, g.nw, g.re, ⟨v, _, b1, _, rfl, rfl, h4, h1.append h5⟩, ?_, ?_, ?_⟩
  · have := g.nd; grind
  · have := g.fs; grind
  · have := g.fw; grind
theorem GX.unrot (g : GX W S0 ρ σ (t :: (ts ++ tm)) (v :: (vs ++ vm)) H) (e : vs.length = ts.length) : GX W S0 ρ σ (ts ++ t :: tm) (vs ++ v :: vm) H := by
  obtain ⟨S, as, bs, g⟩ := g
  obtain ⟨v', r, b1, c1, h3, rfl, h4, h5⟩ := g.rt
  simp only [List.cons.injEq] at h3
  obtain ⟨rfl, rfl⟩ := h3
  obtain ⟨b, c, rfl, h1, h2⟩ := h5.split e
  refine ⟨S, as, b ++ (b1 ++ c), g.s0, g.sh, g.wh, g.nw, g.re, h1.append ⟨v, _, b1, _, rfl, rfl, h4, h2⟩, ?_, ?_, ?_⟩
  · have := g.nd; grind
  · have := g.fs; grind
  · have := g.fw; grind
/-- shared data -/
theorem G.pushS (g : G W S0 S H ρ σ tm vm as bs) (h : Rp S d v) : GX W S0 ρ σ (.sh d :: tm) (v :: vm) H :=
  ⟨S, as, bs, g.s0, g.sh, g.wh, g.nw, g.re, ⟨v, vm, [], bs, rfl, rfl, ⟨rfl, h⟩, g.rt⟩, g.nd, g.fs, g.fw⟩
def D.scal : D → Bool
  | .lst _ | .tup _ | .dic _ _ => false
  | _ => true
theorem Rp.scal {S S' : Hp} (h : Rp S d v) (e : d.scal = true) : Rp S' d v := by
  cases d <;> first | exact h | (simp [D.scal] at e)
theorem GX.pushC (g : GX W S0 ρ σ tm vm H) (e : d.scal = true) (h : Rp S d v) : GX W S0 ρ σ (.sh d :: tm) (v :: vm) H := by
  obtain ⟨S, as, bs, g⟩ := g
  exact g.pushS (h.scal e)
/-- S with what stands at as -/
def more (S H : Hp) (as : List Addr) : Hp := fun a => if a ∈ as then H a else S a
theorem more_in {a : Addr} (h : a ∈ as) : more S H as a = H a := if_pos h
theorem more_out {a : Addr} (h : a ∉ as) : more S H as a = S a := if_neg h
theorem more_same (h : ∀ a ∈ as, S a = none) : Same S (more S H as) := fun a o e => by
  by_cases q : a ∈ as
  · rw [h a q] at e; cases e
  · rw [more_out q]; exact e
theorem more_sub (h : Same S H) : Same (more S H as) H := fun a o e => by
  by_cases q : a ∈ as
  · rw [more_in q] at e; exact e
  · rw [more_out q] at e; exact h a o e
/-- the last temporary is frozen -/
theorem GX.frz (g : GX W S0 ρ σ (t :: tm) (v :: vm) H) : GX W S0 ρ σ (.sh t.d :: tm) (v :: vm) H := by
  obtain ⟨S, as, bs, g⟩ := g
  obtain ⟨v', r, b, c, h3, rfl, h4, h5⟩ := g.rt
  simp only [List.cons.injEq] at h3
  obtain ⟨rfl, rfl⟩ := h3
  have nd := g.nd
  have fs := g.fs
  have fw := g.fw
  have e1 : Same S (more S H b) := more_same (by grind)
  refine ⟨more S H b, as, c, fun a o h => e1 a o (g.s0 a o h), more_sub g.sh, g.wh, ?_, g.re.mono e1 fun _ _ => rfl, ⟨v, vm, [], c, rfl, rfl, ⟨rfl, ?_⟩, h5.mono e1 fun _ _ => rfl⟩, by grind, ?_, by grind⟩
  · intro a hw hm
    by_cases q : a ∈ b
    · exact absurd (fw a (by grind)) hw
    · rw [more_out q] at hm; exact g.nw a hw hm
  · exact h4.toRp e1 fun a ha o h => by rw [more_in ha]; exact h
  · intro a ha
    have q : a ∉ b := by grind
    rw [more_out q]; exact fs a (by grind)
theorem set_self {α : Type} : ∀ {l : List α} {i : Nat} {x : α}, l[i]? = some x → l.set i x = l
  | [], _, _, h => by simp at h
  | a :: l, 0, x, h => by simp at h; simp [h]
  | a :: l, i + 1, x, h => by simp at h; simp [set_self h]
/-- a name's value is taken -/
theorem GX.take (g : GX W S0 ρ σ tm vm H) (e : ρ[i]? = some (some t)) : ∃ v, σ[i]? = some (some v) ∧ GX W S0 (ρ.set i none) σ (t :: tm) (v :: vm) H := by
  obtain ⟨S, as, bs, g⟩ := g
  obtain ⟨v, b, c, d, e1, rfl, e3, _, k⟩ := g.re.at e
  have nd := g.nd
  have fs := g.fs
  have fw := g.fw
  refine ⟨v, e1, S, b ++ d, c ++ bs, g.s0, g.sh, g.wh, g.nw, ?_, ⟨v, vm, c, bs, rfl, rfl, e3, g.rt⟩, by grind, by grind, by grind⟩
  have := k S H (some v) (fun _ _ h => h) (fun _ _ => rfl)
  rw [set_self e1] at this
  exact this
/-- .. and put there -/
theorem GX.put (g : GX W S0 ρ σ (t :: tm) (v :: vm) H) (hi : i < ρ.length) : GX W S0 (ρ.set i (some t)) (σ.set i (some v)) tm vm H := by
  obtain ⟨S, as, bs, g⟩ := g
  obtain ⟨v', r, c, c2, h3, rfl, h4, h5⟩ := g.rt
  simp only [List.cons.injEq] at h3
  obtain ⟨rfl, rfl⟩ := h3
  have nd := g.nd
  have fs := g.fs
  have fw := g.fw
  cases e : ρ[i]? with
  | none => rw [List.getElem?_eq_none_iff] at e; omega
  | some o =>
    cases o with
    | none =>
      obtain ⟨b, d, rfl, k⟩ := g.re.put e
      exact ⟨S, b ++ c ++ d, c2, g.s0, g.sh, g.wh, g.nw, k S H t v c (fun _ _ h => h) (fun _ _ => rfl) h4, h5, by grind, by grind, by grind⟩
    | some t0 =>
      obtain ⟨v0, b, c0, d, e1, rfl, e3, k, _⟩ := g.re.at e
      exact ⟨S, b ++ c ++ d, c2, g.s0, g.sh, g.wh, g.nw, k S H t v c (fun _ _ h => h) (fun _ _ => rfl) h4, h5, by grind, by grind, by grind⟩
theorem GX.back (g : GX W S0 ρ σ (t :: tm) (v :: vm) H) (e : σ[i]? = some (some v)) : GX W S0 (ρ.set i (some t)) σ tm vm H := by
  have hi : i < ρ.length := by rw [← g.lenE]; exact (List.getElem?_eq_some_iff.mp e).1
  have := g.put hi
  rw [set_self e] at this
  exact this
theorem GX.forget (g : GX W S0 ρ σ tm vm H) (i : Nat) : GX W S0 (ρ.set i none) σ tm vm H := by
  cases e : ρ[i]? with
  | none => rw [List.set_eq_of_length_le (by rw [List.getElem?_eq_none_iff] at e; exact e)]; exact g
  | some o =>
    cases o with
    | none => rw [set_self e]; exact g
    | some t => obtain ⟨v, _, g'⟩ := g.take e; exact g'.pop1
/-- a name is read: what it holds is frozen -/
theorem GX.read (g : GX W S0 ρ σ tm vm H) (e : ρ[i]? = some (some t)) : ∃ v, σ[i]? = some (some v) ∧ GX W S0 (ρ.set i (some (.sh t.d))) σ (.sh t.d :: tm) (v :: vm) H := by
  obtain ⟨v, e1, g1⟩ := g.take e
  obtain ⟨S, as, bs, g2⟩ := g1.frz
  obtain ⟨v', r, c, c2, h3, rfl, ⟨h4, h4'⟩, h5⟩ := g2.rt
  simp only [List.cons.injEq] at h3
  obtain ⟨rfl, rfl⟩ := h3
  subst h4
  have g3 : GX W S0 (ρ.set i none) σ (.sh t.d :: .sh t.d :: tm) (v :: v :: vm) H := g2.pushS h4'
  refine ⟨v, e1, ?_⟩
  have := g3.back e1
  rw [List.set_set] at this
  exact this
/-- an owned list or dict (the last temporary) and the others change -/
theorem G.mut {a : Addr} {o : HO} {ts' : List T} {tm' : List T} {vm' : List V} {xs xs' : List V} {b c : List Addr} (g : G W S0 S H ρ σ tm0 vm0 as (a :: b ++ c)) (hb : Rtl S H ts xs b) (hc : Rtl S H tm vm c)
    (hr : ∀ S H b c, Rtl S H ts xs b → Rtl S H tm vm c → ∃ b' c', Rtl S H ts' xs' b' ∧ Rtl S H tm' vm' c' ∧ ((b ++ c).Nodup → (b' ++ c').Nodup) ∧ ∀ x ∈ b' ++ c', x ∈ b ++ c)
    (hn : ∀ H' b, H' a = some o → Rtl S H' ts' xs' b → Rt S H' t (.ref a) (a :: b)) (ha : H a ≠ none) : GX W S0 ρ σ (t :: tm') (.ref a :: vm') (upd H a o) := by
  have nd := g.nd
  have fs := g.fs
  have fw := g.fw
  have n1 : a ∉ as := by grind
  have n2 : a ∉ b ++ c := by grind
  have hk : ∀ x, x ≠ a → (upd H a o) x = H x := fun x h => upd_ne h
  have hb2 : Rtl S (upd H a o) ts xs b := hb.mono (fun _ _ h => h) fun x hx => hk x (by grind)
  have hc2 : Rtl S (upd H a o) tm vm c := hc.mono (fun _ _ h => h) fun x hx => hk x (by grind)
  obtain ⟨b', c', q1, q2, q3, q4⟩ := hr S _ b c hb2 hc2
  refine ⟨S, as, (a :: b') ++ c', g.s0, fun x y h => ?_, fun x y h => ?_, g.nw, g.re.mono (fun _ _ h => h) fun x hx => hk x (by grind), ⟨.ref a, vm', a :: b', c', rfl, rfl, hn _ _ upd_same q1, q2⟩, ?_, ?_, ?_⟩
  · rw [hk x (by rintro rfl; rw [fs x (by grind)] at h; cases h)]; exact g.sh x y h
  · rw [hk x (by rintro rfl; rw [fw x (by grind)] at h; cases h)]; exact g.wh x y h
  · have h1 : (b ++ c).Nodup := by grind
    have h2 := q3 h1
    grind
  · grind
  · grind
theorem GX.mutL (g : GX W S0 ρ σ (.ol ts :: tm) (v :: vm) H) : ∃ a xs, v = .ref a ∧ H a = some (.lst xs) ∧ xs.length = ts.length ∧
    ∀ ts' tm' xs' vm', (∀ S H b c, Rtl S H ts xs b → Rtl S H tm vm c → ∃ b' c', Rtl S H ts' xs' b' ∧ Rtl S H tm' vm' c' ∧ ((b ++ c).Nodup → (b' ++ c').Nodup) ∧ ∀ x ∈ b' ++ c', x ∈ b ++ c) →
      GX W S0 ρ σ (.ol ts' :: tm') (v :: vm') (upd H a (.lst xs')) := by
  obtain ⟨S, as, bs, g⟩ := g
  obtain ⟨v', r, c1, c2, h3, rfl, ⟨a, xs, b, rfl, rfl, h4, h5⟩, h6⟩ := g.rt
  simp only [List.cons.injEq] at h3
  obtain ⟨rfl, rfl⟩ := h3
  refine ⟨a, xs, rfl, h4, h5.len, fun ts' tm' xs' vm' hr => ?_⟩
  exact g.mut h5 h6 hr (fun H' b q1 q2 => ⟨a, xs', b, rfl, rfl, q1, q2⟩) (by rw [h4]; simp)
theorem GX.mutD {ks : List Key} (g : GX W S0 ρ σ (.od ks ts :: tm) (v :: vm) H) : ∃ a xs, v = .ref a ∧ H a = some (.dK (ks.zip xs)) ∧ ks.length = ts.length ∧ xs.length = ts.length ∧
    ∀ ks' ts' tm' xs' vm', ks'.length = ts'.length → (∀ S H b c, Rtl S H ts xs b → Rtl S H tm vm c → ∃ b' c', Rtl S H ts' xs' b' ∧ Rtl S H tm' vm' c' ∧ ((b ++ c).Nodup → (b' ++ c').Nodup) ∧ ∀ x ∈ b' ++ c', x ∈ b ++ c) →
      GX W S0 ρ σ (.od ks' ts' :: tm') (v :: vm') (upd H a (.dK (ks'.zip xs'))) := by
  obtain ⟨S, as, bs, g⟩ := g
  obtain ⟨v', r, c1, c2, h3, rfl, ⟨a, xs, b, rfl, rfl, h4, h7, h5⟩, h6⟩ := g.rt
  simp only [List.cons.injEq] at h3
  obtain ⟨rfl, rfl⟩ := h3
  refine ⟨a, xs, rfl, h4, h7, h5.len, fun ks' ts' tm' xs' vm' hk hr => ?_⟩
  exact g.mut h5 h6 hr (fun H' b q1 q2 => ⟨a, xs', b, rfl, rfl, q1, hk, q2⟩) (by rw [h4]; simp)
/-- all but what stands at as -/
def less (H : Hp) (as : List Addr) : Hp := fun a => if a ∈ as then none else H a
theorem less_in {a : Addr} (h : a ∈ as) : less H as a = none := if_pos h
theorem less_out {a : Addr} (h : a ∉ as) : less H as a = H a := if_neg h
/-- a call: what the callee sees, and what comes back -/
theorem GX.call (g : GX W S0 ρ σ (ts ++ tm) (vs ++ vm) H) (e : vs.length = ts.length) : ∃ W' S', GX W' S' [] [] ts vs H ∧
    (∀ us ws H', us.length = ws.length → GX W' S' [] [] us ws H' → GX W S0 ρ σ (us ++ tm) (ws ++ vm) H') := by
  obtain ⟨S, as, bs, g⟩ := g
  obtain ⟨b, c, rfl, h1, h2⟩ := g.rt.split e
  have nd := g.nd
  have fs := g.fs
  have fw := g.fw
  refine ⟨less H b, S, ⟨S, [], b, fun _ _ h => h, g.sh, fun a o h => ?_, fun a h1 h2 => h2, ⟨rfl, rfl⟩, h1, by grind, by grind, fun a ha => less_in (by simpa using ha)⟩, fun us ws H' hl g' => ?_⟩
  · by_cases q : a ∈ b
    · rw [less_in q] at h; cases h
    · rw [less_out q] at h; exact h
  obtain ⟨S', as', b', g'⟩ := g'
  have ea : as' = [] := g'.re.2
  subst ea
  have nd' := g'.nd
  have fs' := g'.fs
  have fw' := g'.fw
  have keep : ∀ a, a ∉ b → H a ≠ none → H' a = H a := fun a h h' => by
    have : less H b a ≠ none := by rw [less_out h]; exact h'
    rw [same_at g'.wh this, less_out h]
  have ka : ∀ a ∈ as, H' a = H a := fun a ha => keep a (by grind) (g.re.there a ha)
  have kc : ∀ a ∈ c, H' a = H a := fun a ha => keep a (by grind) (h2.there a ha)
  have nS : ∀ a, a ∉ b → H a ≠ none → S a = none → S' a = none := fun a h h' hs => by
    cases q : S' a with
    | none => rfl
    | some o => exact absurd hs (g'.nw a (by rw [less_out h]; exact h') (by rw [q]; simp))
  have nb : ∀ a ∈ b', ∀ x, (x ∈ as ∨ x ∈ c) → a ≠ x := fun a ha x hx e => by
    subst e
    have h0 := fw' a (by simpa using ha)
    have h3 : a ∉ b := by grind
    rw [less_out h3] at h0
    rcases hx with h | h
    · exact g.re.there a h h0
    · exact h2.there a h h0
  refine ⟨S', as, b' ++ c, fun a o h => g'.s0 a o (g.s0 a o h), g'.sh, fun a o h => ?_, fun a hw hs => ?_, g.re.mono g'.s0 ka, g'.rt.append (h2.mono g'.s0 kc), ?_, ?_, ?_⟩
  · have hb : a ∉ b := fun q => by rw [fw a (by grind)] at h; cases h
    rw [keep a hb (by rw [g.wh a o h]; simp)]; exact g.wh a o h
  · have hb : a ∉ b := fun q => hw (fw a (by grind))
    have hh : H a ≠ none := by
      cases q : W a with
      | none => exact absurd q hw
      | some o => rw [g.wh a o q]; simp
    exact g.nw a hw (g'.nw a (by rw [less_out hb]; exact hh) hs)
  · grind
  · intro a ha
    rcases List.mem_append.mp ha with h | h
    · exact nS a (by grind) (g.re.there a h) (fs a (by grind))
    · rcases List.mem_append.mp h with h | h
      · exact fs' a (by simpa using h)
      · exact nS a (by grind) (h2.there a h) (fs a (by grind))
  · intro a ha
    rcases List.mem_append.mp ha with h | h
    · exact fw a (by grind)
    · rcases List.mem_append.mp h with h | h
      · have h0 := fw' a (by simpa using h)
        by_cases hb : a ∈ b
        · exact fw a (by grind)
        · rw [less_out hb] at h0
          cases q : W a with
          | none => rfl
          | some o => rw [g.wh a o q] at h0; cases h0
      · exact fw a (by grind)
end Z

namespace Z
noncomputable section
open PySem L2

/-! ### readings that change nothing: values of expressions, of tests, of arguments -/
abbrev PM := Env → Option D
abbrev TM := Env → Option Bool
abbrev AM := Env → Option (List D)
def SP (te : TE) (m : PM) : Prop := ∀ ρ σ H, RV H ρ σ → ∀ d, m ρ = some d → ∀ Q : VK, (∀ v H', Same H H' → Rp H' d v → Q v H') → te σ H Q
def SPT (tt : TT) (m : TM) : Prop := ∀ ρ σ H, RV H ρ σ → ∀ b, m ρ = some b → ∀ Q : Bool → Hp → Prop, (∀ H', Same H H' → Q b H') → tt σ H Q
def SPA (ta : TA) (m : AM) : Prop := ∀ ρ σ H, RV H ρ σ → ∀ ds, m ρ = some ds → ∀ Q : List V → Hp → Prop, (∀ vs H', Same H H' → Rpl H' ds vs → Q vs H') → ta σ H Q
def OpS (r : R2) (o : D → D → Option D) : Prop := ∀ H dx dy x y d, Rp H dx x → Rp H dy y → o dx dy = some d → ∀ Q : VK, (∀ v H', Same H H' → Rp H' d v → Q v H') → r x y H Q
def UnS (r : V → Hp → VK → Prop) (o : D → Option D) : Prop := ∀ H dx x d, Rp H dx x → o dx = some d → ∀ Q : VK, (∀ v H', Same H H' → Rp H' d v → Q v H') → r x H Q
def CallS (r : List V → Hp → VK → Prop) (o : List D → Option D) : Prop := ∀ H ds vs d, Rpl H ds vs → o ds = some d → ∀ Q : VK, (∀ v H', Same H H' → Rp H' d v → Q v H') → r vs H Q
theorem some_bind {α β : Type} {o : Option α} {f : α → Option β} {b : β} (h : o.bind f = some b) : ∃ a, o = some a ∧ f a = some b := Option.bind_eq_some_iff.mp h

def pV (i : Nat) : PM := fun ρ => match ρ[i]? with
  | some (some t) => some t.d
  | _ => none
theorem pV_some {i : Nat} {ρ : Env} {d : D} (h : pV i ρ = some d) : ∃ t, ρ[i]? = some (some t) ∧ t.d = d := by
  unfold pV at h
  split at h
  · rename_i t e
    exact ⟨t, e, Option.some.inj h⟩
  · cases h
theorem sp_var {i : Nat} : SP (tVar i) (pV i) := fun ρ σ H g d h Q q => by
  obtain ⟨t, e, rfl⟩ := pV_some h
  obtain ⟨v, e1, e2⟩ := g i t e
  exact ⟨v, e1, q v H (fun _ _ h => h) e2⟩
def pC (d : D) : PM := fun _ => some d
theorem sp_int {i : Int} : SP (tC (.int i)) (pC (.int i)) := fun ρ σ H g d h Q q => by cases h; exact q _ H (fun _ _ h => h) rfl
theorem sp_bl {i : Bool} : SP (tC (.bl i)) (pC (.bl i)) := fun ρ σ H g d h Q q => by cases h; exact q _ H (fun _ _ h => h) rfl
theorem sp_str {i : Str} : SP (tC (.str i)) (pC (.str i)) := fun ρ σ H g d h Q q => by cases h; exact q _ H (fun _ _ h => h) rfl
theorem sp_non : SP (tC .non) (pC .non) := fun ρ σ H g d h Q q => by cases h; exact q _ H (fun _ _ h => h) rfl
def pOp (o : D → D → Option D) (a b : PM) : PM := fun ρ => (a ρ).bind fun x => (b ρ).bind fun y => o x y
theorem sp_op {r : R2} {o : D → D → Option D} {ta tb : TE} {a b : PM} (hr : OpS r o) (ha : SP ta a) (hb : SP tb b) : SP (tOp r ta tb) (pOp o a b) := fun ρ σ H g d h Q q => by
  obtain ⟨x, h1, h⟩ := some_bind h
  obtain ⟨y, h2, h⟩ := some_bind h
  refine ha ρ σ H g x h1 _ fun v H1 e1 r1 => hb ρ σ H1 (g.ext e1) y h2 _ fun w H2 e2 r2 => hr H2 x y v w d (r1.mono e2) r2 h Q fun z H3 e3 r3 => q z H3 (e1.trans (e2.trans e3)) r3
def pUn (o : D → Option D) (a : PM) : PM := fun ρ => (a ρ).bind o
theorem sp_un {r : V → Hp → VK → Prop} {o : D → Option D} {ta : TE} {a : PM} (hr : UnS r o) (ha : SP ta a) : SP (tUn r ta) (pUn o a) := fun ρ σ H g d h Q q => by
  obtain ⟨x, h1, h⟩ := some_bind h
  refine ha ρ σ H g x h1 _ fun v H1 e1 r1 => hr H1 x v d r1 h Q fun z H3 e3 r3 => q z H3 (e1.trans e3) r3
def pIf (t : TM) (a b : PM) : PM := fun ρ => (t ρ).bind fun c => if c = true then a ρ else b ρ
theorem sp_if {tt : TT} {t : TM} {ta tb : TE} {a b : PM} (ht : SPT tt t) (ha : SP ta a) (hb : SP tb b) : SP (tIf tt ta tb) (pIf t a b) := fun ρ σ H g d h Q q => by
  obtain ⟨c, h1, h⟩ := some_bind h
  refine ht ρ σ H g c h1 _ fun H1 e1 => ?_
  cases c with
  | true => exact ha ρ σ H1 (g.ext e1) d h Q fun v H2 e2 r => q v H2 (e1.trans e2) r
  | false => exact hb ρ σ H1 (g.ext e1) d h Q fun v H2 e2 r => q v H2 (e1.trans e2) r
def D.tru : D → Option Bool
  | .bl b => some b
  | _ => none
def pB (a : PM) : TM := fun ρ => (a ρ).bind D.tru
theorem tru_bl {d : D} {b : Bool} (h : d.tru = some b) : d = .bl b := by
  cases d <;> first | (cases h; rfl) | cases h
theorem sp_b {ta : TE} {a : PM} (ha : SP ta a) : SPT (tB ta) (pB a) := fun ρ σ H g d h Q q => by
  obtain ⟨x, h1, h⟩ := some_bind h
  cases tru_bl h
  exact ha ρ σ H g _ h1 _ fun v H1 e1 r1 => ⟨_, r1, q H1 e1⟩
theorem sp_test {ta : TE} {a : PM} (ha : SP ta a) : SPT (tTest ta) (pB a) := fun ρ σ H g d h Q q => by
  obtain ⟨x, h1, h⟩ := some_bind h
  cases tru_bl h
  exact ha ρ σ H g _ h1 _ fun v H1 e1 r1 => ⟨_, r1, q H1 e1⟩
def qAnd (a b : TM) : TM := fun ρ => (a ρ).bind fun c => if c = true then b ρ else some false
def qOr (a b : TM) : TM := fun ρ => (a ρ).bind fun c => if c = true then some true else b ρ
def qNot (a : TM) : TM := fun ρ => (a ρ).map (!·)
theorem st_and {ta tb : TT} {a b : TM} (ha : SPT ta a) (hb : SPT tb b) : SPT (tAnd ta tb) (qAnd a b) := fun ρ σ H g d h Q q => by
  obtain ⟨c, h1, h⟩ := some_bind h
  refine ha ρ σ H g c h1 _ fun H1 e1 => ?_
  cases c with
  | true => exact hb ρ σ H1 (g.ext e1) d h Q fun H2 e2 => q H2 (e1.trans e2)
  | false => cases h; exact q H1 e1
theorem st_or {ta tb : TT} {a b : TM} (ha : SPT ta a) (hb : SPT tb b) : SPT (tOr ta tb) (qOr a b) := fun ρ σ H g d h Q q => by
  obtain ⟨c, h1, h⟩ := some_bind h
  refine ha ρ σ H g c h1 _ fun H1 e1 => ?_
  cases c with
  | false => exact hb ρ σ H1 (g.ext e1) d h Q fun H2 e2 => q H2 (e1.trans e2)
  | true => cases h; exact q H1 e1
theorem st_not {ta : TT} {a : TM} (ha : SPT ta a) : SPT (tNot ta) (qNot a) := fun ρ σ H g d h Q q => by
  obtain ⟨c, h1, rfl⟩ := Option.map_eq_some_iff.mp h
  exact ha ρ σ H g c h1 _ fun H1 e1 => q H1 e1
def pAndV (a b : PM) : PM := fun ρ => (a ρ).bind fun x => x.tru.bind fun c => if c = true then b ρ else some (.bl false)
def pOrV (a b : PM) : PM := fun ρ => (a ρ).bind fun x => x.tru.bind fun c => if c = true then some (.bl true) else b ρ
def pNotV (a : PM) : PM := fun ρ => (a ρ).bind fun x => x.tru.bind fun c => some (.bl (!c))
theorem sp_andV {ta tb : TE} {a b : PM} (ha : SP ta a) (hb : SP tb b) : SP (tAndV ta tb) (pAndV a b) := fun ρ σ H g d h Q q => by
  obtain ⟨x, h1, h⟩ := some_bind h
  obtain ⟨c, h2, h⟩ := some_bind h
  cases tru_bl h2
  refine ha ρ σ H g _ h1 _ fun v H1 e1 r1 => ⟨c, r1, ?_⟩
  cases c with
  | true => exact hb ρ σ H1 (g.ext e1) d h Q fun w H2 e2 r2 => q w H2 (e1.trans e2) r2
  | false => cases h; exact q _ H1 e1 rfl
theorem sp_orV {ta tb : TE} {a b : PM} (ha : SP ta a) (hb : SP tb b) : SP (tOrV ta tb) (pOrV a b) := fun ρ σ H g d h Q q => by
  obtain ⟨x, h1, h⟩ := some_bind h
  obtain ⟨c, h2, h⟩ := some_bind h
  cases tru_bl h2
  refine ha ρ σ H g _ h1 _ fun v H1 e1 r1 => ⟨c, r1, ?_⟩
  cases c with
  | false => exact hb ρ σ H1 (g.ext e1) d h Q fun w H2 e2 r2 => q w H2 (e1.trans e2) r2
  | true => cases h; exact q _ H1 e1 rfl
theorem sp_notV {ta : TE} {a : PM} (ha : SP ta a) : SP (tNotV ta) (pNotV a) := fun ρ σ H g d h Q q => by
  obtain ⟨x, h1, h⟩ := some_bind h
  obtain ⟨c, h2, h⟩ := some_bind h
  cases tru_bl h2
  cases h
  exact ha ρ σ H g _ h1 _ fun v H1 e1 r1 => ⟨c, r1, q _ H1 e1 rfl⟩
def pChain (o o' : D → D → Option D) (a b c : PM) : PM := fun ρ => (a ρ).bind fun x => (b ρ).bind fun y => (o x y).bind fun z => z.tru.bind fun k => if k = true then (c ρ).bind fun w => o' y w else some (.bl false)
theorem sp_chain {r r' : R2} {o o' : D → D → Option D} {ta tb tc : TE} {a b c : PM} (hr : OpS r o) (hr' : OpS r' o') (ha : SP ta a) (hb : SP tb b) (hc : SP tc c) : SP (tChain r r' ta tb tc) (pChain o o' a b c) := fun ρ σ H g d h Q q => by
  obtain ⟨x, h1, ha1⟩ := some_bind h
  obtain ⟨y, h2, ha2⟩ := some_bind ha1
  obtain ⟨z, h3, ha3⟩ := some_bind ha2
  obtain ⟨k, h4, ha4⟩ := some_bind ha3
  clear h ha1 ha2 ha3
  cases tru_bl h4
  refine ha ρ σ H g x h1 _ fun v H1 e1 r1 => hb ρ σ H1 (g.ext e1) y h2 _ fun w H2 e2 r2 => hr H2 x y v w _ (r1.mono e2) r2 h3 _ fun z H3 e3 r3 => ⟨k, r3, ?_⟩
  cases k with
  | false => cases ha4; exact q _ H3 (e1.trans (e2.trans e3)) rfl
  | true =>
    rw [if_pos rfl] at ha4
    obtain ⟨w', h5, h6⟩ := some_bind ha4
    exact hc ρ σ H3 (g.ext (e1.trans (e2.trans e3))) w' h5 _ fun u H4 e4 r4 => hr' H4 y w' w u d (r2.mono (e3.trans e4)) r4 h6 Q fun z H5 e5 r5 => q z H5 (e1.trans (e2.trans (e3.trans (e4.trans e5)))) r5
def aNil : AM := fun _ => some []
def aCons (a : PM) (b : AM) : AM := fun ρ => (a ρ).bind fun x => (b ρ).bind fun y => some (x :: y)
theorem sa_nil : SPA tNil aNil := fun ρ σ H g d h Q q => by cases h; exact q [] H (fun _ _ h => h) rfl
theorem sa_cons {ta : TE} {tb : TA} {a : PM} {b : AM} (ha : SP ta a) (hb : SPA tb b) : SPA (tCons ta tb) (aCons a b) := fun ρ σ H g d h Q q => by
  obtain ⟨x, h1, h⟩ := some_bind h
  obtain ⟨y, h2, h⟩ := some_bind h
  cases h
  exact ha ρ σ H g x h1 _ fun v H1 e1 r1 => hb ρ σ H1 (g.ext e1) y h2 _ fun w H2 e2 r2 => q _ H2 (e1.trans e2) ⟨v, w, rfl, r1.mono e2, r2⟩
def pCB (o : List D → Option D) (a : AM) : PM := fun ρ => (a ρ).bind o
theorem sp_cb {r : List V → Hp → VK → Prop} {o : List D → Option D} {ta : TA} {a : AM} (hr : CallS r o) (ha : SPA ta a) : SP (tCB r ta) (pCB o a) := fun ρ σ H g d h Q q => by
  obtain ⟨x, h1, h⟩ := some_bind h
  exact ha ρ σ H g x h1 _ fun v H1 e1 r1 => hr H1 x v d r1 h Q fun w H2 e2 r2 => q w H2 (e1.trans e2) r2
def lim : Nat := 1000000
/-- an int that a machine word holds -/
def InR (j : Int) : Prop := -4611686018427387904 ≤ j ∧ j < 4611686018427387904
noncomputable instance (j : Int) : Decidable (InR j) := Classical.propDecidable _
theorem InR.out {j : Int} (h : InR j) : -(2 ^ 62) ≤ j ∧ j < 2 ^ 62 := by
  unfold InR at h
  have e : (2 : Int) ^ 62 = 4611686018427387904 := by decide
  rw [e]; exact h
theorem InR.of {j : Int} (h0 : -1000000000 ≤ j) (h1 : j ≤ 1000000000) : InR j := by unfold InR; omega
theorem lim_le {n : Nat} (h : n ≤ lim) : n ≤ sizeLine := Nat.le_trans h (by decide)
theorem lim_lt {n : Nat} (h : n < lim) : n < sizeLine := Nat.lt_of_lt_of_le h (by decide)
def pLst (a : AM) : PM := fun ρ => (a ρ).bind fun l => if l.length ≤ lim then some (.lst l) else none
def pTup (a : AM) : PM := fun ρ => (a ρ).bind fun l => if l.length ≤ lim then some (.tup l) else none
theorem ite_some {c : Prop} [Decidable c] {α : Type} {o : Option α} {a : α} (h : (if c then o else none) = some a) : c ∧ o = some a := by
  by_cases k : c
  · rw [if_pos k] at h; exact ⟨k, h⟩
  · rw [if_neg k] at h; cases h
theorem sp_lst {ta : TA} {a : AM} (ha : SPA ta a) : SP (tLst ta) (pLst a) := fun ρ σ H g d h Q q => by
  obtain ⟨x, h1, h⟩ := some_bind h
  obtain ⟨hz, h⟩ := ite_some h
  cases h
  refine ha ρ σ H g x h1 _ fun v H1 e1 r1 => ⟨lim_le (by rw [r1.len]; exact hz), fun p hp => ?_⟩
  exact q _ _ (e1.trans (same_new hp)) ⟨p, v, rfl, upd_same, r1.mono (same_new hp)⟩
theorem sp_tup {ta : TA} {a : AM} (ha : SPA ta a) : SP (tTup ta) (pTup a) := fun ρ σ H g d h Q q => by
  obtain ⟨x, h1, h⟩ := some_bind h
  obtain ⟨hz, h⟩ := ite_some h
  cases h
  refine ha ρ σ H g x h1 _ fun v H1 e1 r1 => ⟨lim_le (by rw [r1.len]; exact hz), fun p hp => ?_⟩
  exact q _ _ (e1.trans (same_new hp)) ⟨p, v, rfl, upd_same, r1.mono (same_new hp)⟩

/-! ### operators by data -/
def rOr (r r' : R2) : R2 := fun x y H Q => r x y H Q ∨ r' x y H Q
def oOr (o o' : D → D → Option D) : D → D → Option D := fun x y => match o x y with
  | some d => some d
  | none => o' x y
theorem os_or {r r' : R2} {o o' : D → D → Option D} (h : OpS r o) (h' : OpS r' o') : OpS (rOr r r') (oOr o o') := fun H dx dy x y d hx hy e Q q => by
  unfold oOr at e
  split at e
  · rename_i z ez
    cases e
    exact .inl (h H dx dy x y _ hx hy ez Q q)
  · exact .inr (h' H dx dy x y _ hx hy e Q q)
def oI (C : Int → Int → Prop) [∀ i j, Decidable (C i j)] (g : Int → Int → D) : D → D → Option D
  | .int i, .int j => if C i j then some (g i j) else none
  | _, _ => none
theorem os_I {C C' : Int → Int → Prop} [∀ i j, Decidable (C i j)] {g : Int → Int → D} {gv : Int → Int → V} (hc : ∀ i j, C i j → C' i j) (hg : ∀ i j H, Rp H (g i j) (gv i j)) : OpS (rI C' gv) (oI C g) := fun H dx dy x y d hx hy e Q q => by
  cases dx <;> cases dy <;> first | (cases e; done) | skip
  obtain ⟨hz, e⟩ := ite_some e
  cases e
  cases hx
  cases hy
  exact ⟨_, _, rfl, rfl, hc _ _ hz, q _ H (fun _ _ h => h) (hg _ _ H)⟩
def oI0 (g : Int → Int → D) : D → D → Option D
  | .int i, .int j => some (g i j)
  | _, _ => none
theorem os_I0 {g : Int → Int → D} {gv : Int → Int → V} (hg : ∀ i j H, Rp H (g i j) (gv i j)) : OpS (rI0 gv) (oI0 g) := fun H dx dy x y d hx hy e Q q => by
  cases dx <;> cases dy <;> first | (cases e; done) | skip
  cases e
  cases hx
  cases hy
  exact ⟨_, _, rfl, rfl, q _ H (fun _ _ h => h) (hg _ _ H)⟩
/-- lists put together -/
def oCat : D → D → Option D
  | .lst l, .lst m => if l.length + m.length ≤ lim then some (.lst (l ++ m)) else none
  | _, _ => none
theorem os_cat : OpS rCat oCat := fun H dx dy x y d hx hy e Q q => by
  cases dx <;> cases dy <;> first | (cases e; done) | skip
  obtain ⟨hz, e⟩ := ite_some e
  cases e
  obtain ⟨a, vs, rfl, h1, h2⟩ := hx
  obtain ⟨b, ws, rfl, h3, h4⟩ := hy
  refine ⟨a, b, vs, ws, rfl, rfl, h1, h3, lim_le (by rw [h2.len, h4.len]; exact hz), fun p hp => ?_⟩
  exact q _ _ (same_new hp) ⟨p, _, rfl, upd_same, (h2.append h4).mono (same_new hp)⟩
def rAddS : R2 := fun x y H Q => ∃ i j, x = .str i ∧ y = .str j ∧ i.length + j.length ≤ sizeLine ∧ Q (.str (i ++ j)) H
def oAddS : D → D → Option D
  | .str i, .str j => if i.length + j.length ≤ lim then some (.str (i ++ j)) else none
  | _, _ => none
theorem os_addS : OpS rAddS oAddS := fun H dx dy x y d hx hy e Q q => by
  cases dx <;> cases dy <;> first | (cases e; done) | skip
  obtain ⟨hz, e⟩ := ite_some e
  cases e
  cases hx
  cases hy
  exact ⟨_, _, rfl, rfl, lim_le hz, q _ H (fun _ _ h => h) rfl⟩
/-- a list some times over -/
def oRep : D → D → Option D
  | .lst l, .int k => if l.length * k.toNat ≤ lim ∧ -(2 ^ 62) < k ∧ k < 2 ^ 62 then some (.lst ((List.replicate k.toNat l).flatten)) else none
  | _, _ => none
section
variable {X : Cx}
def rUAdd : R2 := rOr (rI0 fun i j => .int (i + j)) (rOr rCat rAddS)
theorem u_add : OpR X (binaryOp .Add) rUAdd := op_add.or (op_cat.or op_add_str)
def oAdd : D → D → Option D := oOr (oI0 fun i j => .int (i + j)) (oOr oCat oAddS)
theorem os_add : OpS rUAdd oAdd := os_or (os_I0 fun _ _ _ => rfl) (os_or os_cat os_addS)
def rUSub : R2 := rI0 fun i j => .int (i - j)
def oSub : D → D → Option D := oI0 fun i j => .int (i - j)
theorem u_sub : OpR X (binaryOp .Sub) rUSub := op_sub
theorem os_sub : OpS rUSub oSub := os_I0 fun _ _ _ => rfl
def smallM (i j : Int) : Prop := (-(2 ^ 64) < i ∧ i < 2 ^ 64) ∨ (-(2 ^ 64) < j ∧ j < 2 ^ 64) ∨ i.natAbs.log2 + j.natAbs.log2 < 1000000
noncomputable instance (i j : Int) : Decidable (smallM i j) := Classical.propDecidable _
def rMulI : R2 := rOr (rI CMul fun i j => .int (i * j)) (rI CMulW fun i j => .int (i * j))
theorem os_mulI : OpS rMulI (oI smallM fun i j => .int (i * j)) := fun H dx dy x y d hx hy e Q q => by
  cases dx <;> cases dy <;> first | (cases e; done) | skip
  obtain ⟨hz, e⟩ := ite_some e
  cases e
  cases hx
  cases hy
  rcases hz with h | h | h
  · exact .inl ⟨_, _, rfl, rfl, .inl h, q _ H (fun _ _ h => h) rfl⟩
  · exact .inl ⟨_, _, rfl, rfl, .inr h, q _ H (fun _ _ h => h) rfl⟩
  · exact .inr ⟨_, _, rfl, rfl, h, q _ H (fun _ _ h => h) rfl⟩
def rUDiv : R2 := rI CDivW fun i j => .int (i / j)
def smallD (i j : Int) : Prop := 0 < j ∧ j.natAbs.log2 < 9000
noncomputable instance (i j : Int) : Decidable (smallD i j) := Classical.propDecidable _
def oDiv : D → D → Option D := oI smallD fun i j => .int (i / j)
theorem u_div : OpR X (binaryOp .FloorDiv) rUDiv := op_fdivW
theorem os_div : OpS rUDiv oDiv := os_I (fun _ _ h => h) fun _ _ _ => rfl
def rUMod : R2 := rI (fun _ j => 0 < j) fun i j => .int (i % j)
def oMod : D → D → Option D := oI (fun _ j => 0 < j) fun i j => .int (i % j)
theorem u_mod : OpR X (binaryOp .Mod) rUMod := op_mod
theorem os_mod : OpS rUMod oMod := os_I (fun _ _ h => h) fun _ _ _ => rfl
def rUPow : R2 := rI CPow fun i j => .int (i ^ j.toNat)
def smallP (i j : Int) : Prop := 0 ≤ j ∧ j ≤ 1000000 ∧ i.natAbs < 2 ^ 64
noncomputable instance (i j : Int) : Decidable (smallP i j) := Classical.propDecidable _
def oPow : D → D → Option D := oI smallP fun i j => .int (i ^ j.toNat)
theorem u_pow : OpR X (binaryOp .Pow) rUPow := op_pow
theorem os_pow : OpS rUPow oPow := os_I (fun _ _ h => h) fun _ _ _ => rfl
def rULt : R2 := rI0 fun i j => .bl (decide (i < j))
def oLt : D → D → Option D := oI0 fun i j => .bl (decide (i < j))
theorem u_lt : OpR X (compareOp .Lt) rULt := op_lt
theorem os_lt : OpS rULt oLt := os_I0 fun _ _ _ => rfl
def rULe : R2 := rI0 fun i j => .bl (decide (i ≤ j))
def oLe : D → D → Option D := oI0 fun i j => .bl (decide (i ≤ j))
theorem u_le : OpR X (compareOp .LtE) rULe := op_le
theorem os_le : OpS rULe oLe := os_I0 fun _ _ _ => rfl
def rUGt : R2 := rI0 fun i j => .bl (decide (j < i))
def oGt : D → D → Option D := oI0 fun i j => .bl (decide (j < i))
theorem u_gt : OpR X (compareOp .Gt) rUGt := op_gt
theorem os_gt : OpS rUGt oGt := os_I0 fun _ _ _ => rfl
def rUGe : R2 := rI0 fun i j => .bl (decide (j ≤ i))
def oGe : D → D → Option D := oI0 fun i j => .bl (decide (j ≤ i))
theorem u_ge : OpR X (compareOp .GtE) rUGe := op_ge
theorem os_ge : OpS rUGe oGe := os_I0 fun _ _ _ => rfl
end

/-! ### == of data -/
mutual
def D.py : D → PyData
  | .non => .none
  | .bl b => .bool b
  | .int i => .int i
  | .str s => .str s
  | .lst l => .list (pyl l)
  | .tup l => .tuple (pyl l)
  | .dic _ _ => .dict []
def pyl : List D → List PyData
  | [] => []
  | d :: l => d.py :: pyl l
end
/- no dict within, and not deeper than n -/
mutual
def D.dat : Nat → D → Bool
  | _, .non => true
  | _, .bl _ => true
  | _, .int _ => true
  | _, .str s => PyData.strOk s
  | n + 1, .lst l => datl n l
  | n + 1, .tup l => datl n l
  | _, _ => false
def datl : Nat → List D → Bool
  | _, [] => true
  | n, d :: l => d.dat n && datl n l
end
mutual
theorem Rp.dp {K : PySem.W.Frag} {H : Hp} : ∀ {d : D} {v : V} {n : Nat}, d.dat n = true → Rp H d v → Dp K H v d.py
  | .non, _, _, _, h => by cases h; exact .non
  | .bl _, _, _, _, h => by cases h; exact .bl _
  | .int _, _, _, _, h => by cases h; exact .int _
  | .str _, _, _, _, h => by cases h; exact .str _
  | .lst l, _, n + 1, k, ⟨a, vs, h1, h2, h3⟩ => by subst h1; exact .lst (.of h2) (Rpl.dp (by simpa [D.dat] using k) h3)
  | .tup l, _, n + 1, k, ⟨a, vs, h1, h2, h3⟩ => by subst h1; exact .tup (.of h2) (Rpl.dp (by simpa [D.dat] using k) h3)
  | .lst l, _, 0, k, _ => by simp [D.dat] at k
  | .tup l, _, 0, k, _ => by simp [D.dat] at k
  | .dic _ _, _, _, k, _ => by simp [D.dat] at k
theorem Rpl.dp {K : PySem.W.Frag} {H : Hp} : ∀ {l : List D} {vs : List V} {n : Nat}, datl n l = true → Rpl H l vs → DpAll K H vs (pyl l)
  | [], _, _, _, h => by rw [show _ = [] from h]; exact .nil
  | d :: l, _, n, k, ⟨v, r, h1, h2, h3⟩ => by
    subst h1
    simp only [datl, Bool.and_eq_true] at k
    exact .cons (Rp.dp k.1 h2) (Rpl.dp k.2 h3)
end
mutual
theorem dat_lay : ∀ {d : D} {n : Nat}, d.dat n = true → d.py.canLay0 = true ∧ d.py.depth ≤ n
  | .non, _, _ => ⟨rfl, Nat.zero_le _⟩
  | .bl _, _, _ => ⟨rfl, Nat.zero_le _⟩
  | .int _, _, _ => ⟨rfl, Nat.zero_le _⟩
  | .str s, n, k => ⟨by simpa [D.py, PyData.canLay0, D.dat] using k, Nat.zero_le _⟩
  | .lst l, n + 1, k => by
    have := datl_lay (n := n) (l := l) (by simpa [D.dat] using k)
    simp only [D.py, PyData.canLay0, PyData.depth]
    exact ⟨this.1, by omega⟩
  | .tup l, n + 1, k => by
    have := datl_lay (n := n) (l := l) (by simpa [D.dat] using k)
    simp only [D.py, PyData.canLay0, PyData.depth]
    exact ⟨this.1, by omega⟩
  | .lst l, 0, k => by simp [D.dat] at k
  | .tup l, 0, k => by simp [D.dat] at k
  | .dic _ _, _, k => by simp [D.dat] at k
theorem datl_lay : ∀ {l : List D} {n : Nat}, datl n l = true → PyData.canLayAll0 (pyl l) = true ∧ PyData.depthAll (pyl l) ≤ n
  | [], _, _ => ⟨rfl, Nat.zero_le _⟩
  | d :: l, n, k => by
    simp only [datl, Bool.and_eq_true] at k
    have h1 := dat_lay k.1
    have h2 := datl_lay k.2
    simp only [pyl, PyData.canLayAll0, PyData.depthAll, h1.1, h2.1, Bool.and_self, true_and]
    omega
end
theorem dat_shaped {d : D} (h : d.dat 60 = true) : SeqAt.shaped d.py = true := by
  have := dat_lay h
  unfold SeqAt.shaped
  rw [this.1, decide_eq_true (by omega)]
  rfl
def oEq : D → D → Option D := fun x y => if x.dat 60 = true ∧ y.dat 60 = true then some (.bl (PyData.eqv x.py y.py)) else none
def oNe : D → D → Option D := fun x y => if x.dat 60 = true ∧ y.dat 60 = true then some (.bl (!PyData.eqv x.py y.py)) else none
theorem os_eq {K : PySem.W.Frag} : OpS (rEqD K) oEq := fun H dx dy x y d hx hy e Q q => by
  obtain ⟨⟨k1, k2⟩, e⟩ := ite_some e
  cases e
  exact ⟨_, _, hx.dp k1, hy.dp k2, dat_shaped k1, dat_shaped k2, q _ H (fun _ _ h => h) rfl⟩
theorem os_ne {K : PySem.W.Frag} : OpS (rNeD K) oNe := fun H dx dy x y d hx hy e Q q => by
  obtain ⟨⟨k1, k2⟩, e⟩ := ite_some e
  cases e
  exact ⟨_, _, hx.dp k1, hy.dp k2, dat_shaped k1, dat_shaped k2, q _ H (fun _ _ h => h) rfl⟩
/-! ### items -/
theorem atI_map {α β : Type} {f : α → β} {xs : List α} {i : Int} : atI (xs.map f) i = (atI xs i).map f := by
  unfold atI
  rw [List.length_map]
  cases ixN xs.length i with
  | none => rfl
  | some j => simp
theorem Rpl.atI {S : Hp} {l : List D} {vs : List V} {i : Int} {d : D} (h : Rpl S l vs) (e : L2.atI l i = some d) : ∃ v, L2.atI vs i = some v ∧ Rp S d v := by
  unfold L2.atI at e ⊢
  rw [h.len]
  obtain ⟨j, h1, h2⟩ := some_bind e
  obtain ⟨v, h3, h4⟩ := h.get h2
  exact ⟨v, by rw [h1]; exact h3, h4⟩
def oIx : D → D → Option D
  | .lst l, .int i => atI l i
  | .tup l, .int i => atI l i
  | .str z, .int i => if z.length ≤ lim then (atI z.cps.toList i).map fun c => .str ⟨#[c]⟩ else none
  | _, _ => none
theorem os_ix {K : PySem.W.Frag} : OpS (rIx K) oIx := fun H dx dy x y d hx hy e Q q => by
  cases dx <;> cases dy <;> first | (cases e; done) | skip
  · obtain ⟨hz, e⟩ := ite_some e
    obtain ⟨c, e1, rfl⟩ := Option.map_eq_some_iff.mp e
    cases hx
    cases hy
    exact .inr (.inr ⟨_, _, c, rfl, rfl, lim_le hz, e1, q _ H (fun _ _ h => h) rfl⟩)
  · obtain ⟨a, vs, rfl, h1, h2⟩ := hx
    cases hy
    obtain ⟨v, e1, e2⟩ := h2.atI e
    exact .inl ⟨a, vs, _, v, rfl, rfl, .of h1, e1, q _ H (fun _ _ h => h) e2⟩
  · obtain ⟨a, vs, rfl, h1, h2⟩ := hx
    cases hy
    obtain ⟨v, e1, e2⟩ := h2.atI e
    exact .inr (.inl ⟨a, vs, _, v, rfl, rfl, .of h1, e1, q _ H (fun _ _ h => h) e2⟩)
def cutD {α : Type} (xs : List α) (lo hi : Option Int) : List α := (xs.drop (HT.sIx xs.length 0 lo)).take (HT.sIx xs.length xs.length hi - HT.sIx xs.length 0 lo)
theorem Rpl.cut {S : Hp} {l : List D} {vs : List V} {lo hi : Option Int} (h : Rpl S l vs) : Rpl S (cutD l lo hi) (cutV vs lo hi) := by
  unfold cutD cutV
  rw [h.len]
  exact (h.drop _).take _
/-! ### built-in calls by data -/
def o1 (f : D → Option D) : List D → Option D
  | [d] => f d
  | _ => none
def o2 (f : D → D → Option D) : List D → Option D
  | [d, e] => f d e
  | _ => none
def oLen : D → Option D
  | .lst l => some (.int l.length)
  | .tup l => some (.int l.length)
  | .str z => if z.length ≤ lim then some (.int z.length) else none
  | _ => none
def rLenU (K : PySem.W.Frag) : List V → Hp → VK → Prop := fun xs H Q => ∃ x n, xs = [x] ∧ LenV K x H n ∧ Q (.int n) H
theorem rpl1 {H : Hp} {d : D} {vs : List V} (h : Rpl H [d] vs) : ∃ v, vs = [v] ∧ Rp H d v := by
  obtain ⟨v, r, rfl, h1, h2⟩ := h
  rw [show r = [] from h2]
  exact ⟨v, rfl, h1⟩
theorem rpl2 {H : Hp} {d e : D} {vs : List V} (h : Rpl H [d, e] vs) : ∃ v w, vs = [v, w] ∧ Rp H d v ∧ Rp H e w := by
  obtain ⟨v, r, rfl, h1, h2⟩ := h
  obtain ⟨w, rfl, h3⟩ := rpl1 h2
  exact ⟨v, w, rfl, h1, h3⟩
theorem o1_some {f : D → Option D} {ds : List D} {d : D} (h : o1 f ds = some d) : ∃ x, ds = [x] ∧ f x = some d := by
  match ds, h with
  | [x], h => exact ⟨x, rfl, h⟩
theorem o2_some {f : D → D → Option D} {ds : List D} {d : D} (h : o2 f ds = some d) : ∃ x y, ds = [x, y] ∧ f x y = some d := by
  match ds, h with
  | [x, y], h => exact ⟨x, y, rfl, h⟩
theorem cs_len {K : PySem.W.Frag} : CallS (rLenU K) (o1 oLen) := fun H ds vs d h e Q q => by
  obtain ⟨x, rfl, e⟩ := o1_some e
  obtain ⟨v, rfl, hv⟩ := rpl1 h
  clear h
  cases x <;> first | (cases e; done) | skip
  · obtain ⟨hz, e⟩ := ite_some e
    cases e
    cases hv
    exact ⟨_, _, rfl, ⟨lim_le hz, rfl⟩, q _ H (fun _ _ h => h) rfl⟩
  · cases e
    obtain ⟨a, ws, rfl, h1, h2⟩ := hv
    exact ⟨_, _, rfl, .inl ⟨ws, .of h1, rfl⟩, q _ H (fun _ _ h => h) (by rw [h2.len]; rfl)⟩
  · cases e
    obtain ⟨a, ws, rfl, h1, h2⟩ := hv
    exact ⟨_, _, rfl, .inr ⟨ws, .of h1, rfl⟩, q _ H (fun _ _ h => h) (by rw [h2.len]; rfl)⟩
def rInt : List V → Hp → VK → Prop := fun xs H Q => (∃ i, xs = [.int i] ∧ Q (.int i) H) ∨ ∃ k, xs = [.bl k] ∧ Q (.int (if k then 1 else 0)) H
def oInt : D → Option D
  | .int i => some (.int i)
  | .bl k => some (.int (if k then 1 else 0))
  | _ => none
theorem cs_int : CallS rInt (o1 oInt) := fun H ds vs d h e Q q => by
  obtain ⟨x, rfl, e⟩ := o1_some e
  obtain ⟨v, rfl, hv⟩ := rpl1 h
  clear h
  cases x <;> first | (cases e; done) | skip
  · cases e
    cases hv
    exact .inr ⟨_, rfl, q _ H (fun _ _ h => h) rfl⟩
  · cases e
    cases hv
    exact .inl ⟨_, rfl, q _ H (fun _ _ h => h) rfl⟩
def rAbs : List V → Hp → VK → Prop := fun xs H Q => ∃ i, xs = [.int i] ∧ Q (.int (if i < 0 then -i else i)) H
def oAbs : D → Option D
  | .int i => some (.int (if i < 0 then -i else i))
  | _ => none
theorem cs_abs : CallS rAbs (o1 oAbs) := fun H ds vs d h e Q q => by
  obtain ⟨x, rfl, e⟩ := o1_some e
  obtain ⟨v, rfl, hv⟩ := rpl1 h
  clear h
  cases x <;> first | (cases e; done) | skip
  cases e
  cases hv
  exact ⟨_, rfl, q _ H (fun _ _ h => h) rfl⟩
def rMaxU : List V → Hp → VK → Prop := fun xs H Q => ∃ i j, xs = [.int i, .int j] ∧ Q (.int (if j > i then j else i)) H
def rMinU : List V → Hp → VK → Prop := fun xs H Q => ∃ i j, xs = [.int i, .int j] ∧ Q (.int (if j < i then j else i)) H
theorem cs_max2 : CallS rMaxU (o2 (oI0 fun i j => .int (if j > i then j else i))) := fun H ds vs d h e Q q => by
  obtain ⟨x, y, rfl, e⟩ := o2_some e
  obtain ⟨v, w, rfl, hv, hw⟩ := rpl2 h
  clear h
  cases x <;> cases y <;> first | (cases e; done) | skip
  cases e
  cases hv
  cases hw
  exact ⟨_, _, rfl, q _ H (fun _ _ h => h) rfl⟩
theorem cs_min2 : CallS rMinU (o2 (oI0 fun i j => .int (if j < i then j else i))) := fun H ds vs d h e Q q => by
  obtain ⟨x, y, rfl, e⟩ := o2_some e
  obtain ⟨v, w, rfl, hv, hw⟩ := rpl2 h
  clear h
  cases x <;> cases y <;> first | (cases e; done) | skip
  cases e
  cases hv
  cases hw
  exact ⟨_, _, rfl, q _ H (fun _ _ h => h) rfl⟩
/-- all, any of lists of boolsOf -/
def boolsOf : List D → Option (List Bool)
  | [] => some []
  | .bl b :: l => (boolsOf l).map (b :: ·)
  | _ :: _ => none
theorem boolsOf_rp {H : Hp} : ∀ {l : List D} {bs : List Bool} {vs : List V}, boolsOf l = some bs → Rpl H l vs → vs = bs.map V.bl
  | [], bs, vs, e, h => by cases e; exact h
  | d :: l, bs, vs, e, ⟨v, r, h1, h2, h3⟩ => by
    cases d <;> first | (cases e; done) | skip
    obtain ⟨bs', e1, rfl⟩ := Option.map_eq_some_iff.mp e
    subst h1
    rw [boolsOf_rp e1 h3, show v = V.bl _ from h2]
    rfl
def oAll : D → Option D
  | .lst l => (boolsOf l).map fun bs => .bl (bs.all id)
  | _ => none
def oAny : D → Option D
  | .lst l => (boolsOf l).map fun bs => .bl (bs.any id)
  | _ => none
theorem cs_all {K : PySem.W.Frag} : CallS (rAll K) (o1 oAll) := fun H ds vs d h e Q q => by
  obtain ⟨x, rfl, e⟩ := o1_some e
  obtain ⟨v, rfl, hv⟩ := rpl1 h
  clear h
  cases x <;> first | (cases e; done) | skip
  obtain ⟨bs, e1, rfl⟩ := Option.map_eq_some_iff.mp e
  obtain ⟨a, ws, rfl, h1, h2⟩ := hv
  exact ⟨a, bs, rfl, .of (by rw [← boolsOf_rp e1 h2]; exact h1), q _ H (fun _ _ h => h) rfl⟩
theorem cs_any {K : PySem.W.Frag} : CallS (rAny K) (o1 oAny) := fun H ds vs d h e Q q => by
  obtain ⟨x, rfl, e⟩ := o1_some e
  obtain ⟨v, rfl, hv⟩ := rpl1 h
  clear h
  cases x <;> first | (cases e; done) | skip
  obtain ⟨bs, e1, rfl⟩ := Option.map_eq_some_iff.mp e
  obtain ⟨a, ws, rfl, h1, h2⟩ := hv
  exact ⟨a, bs, rfl, .of (by rw [← boolsOf_rp e1 h2]; exact h1), q _ H (fun _ _ h => h) rfl⟩
def intsOf : List D → Option (List Int)
  | [] => some []
  | .int b :: l => (intsOf l).map (b :: ·)
  | _ :: _ => none
theorem intsOf_rp {H : Hp} : ∀ {l : List D} {bs : List Int} {vs : List V}, intsOf l = some bs → Rpl H l vs → vs = bs.map V.int
  | [], bs, vs, e, h => by cases e; exact h
  | d :: l, bs, vs, e, ⟨v, r, h1, h2, h3⟩ => by
    cases d <;> first | (cases e; done) | skip
    obtain ⟨bs', e1, rfl⟩ := Option.map_eq_some_iff.mp e
    subst h1
    rw [intsOf_rp e1 h3, show v = V.int _ from h2]
    rfl
def oSum : D → Option D
  | .lst l => (intsOf l).map fun bs => .int bs.sum
  | _ => none
theorem cs_sum {K : PySem.W.Frag} : CallS (rSum K) (o1 oSum) := fun H ds vs d h e Q q => by
  obtain ⟨x, rfl, e⟩ := o1_some e
  obtain ⟨v, rfl, hv⟩ := rpl1 h
  clear h
  cases x <;> first | (cases e; done) | skip
  obtain ⟨bs, e1, rfl⟩ := Option.map_eq_some_iff.mp e
  obtain ⟨a, ws, rfl, h1, h2⟩ := hv
  exact ⟨a, bs, rfl, .of (by rw [← intsOf_rp e1 h2]; exact h1), q _ H (fun _ _ h => h) rfl⟩
/-! ### isinstance -/
inductive Ty where
  | int | bool | str | list | tuple
  deriving DecidableEq
def Ty.name : Ty → String
  | .int => "int"
  | .bool => "bool"
  | .str => "str"
  | .list => "list"
  | .tuple => "tuple"
inductive Kd where
  | non | bl | int | str | lst | tup | dic
def D.kd : D → Kd
  | .non => .non
  | .bl _ => .bl
  | .int _ => .int
  | .str _ => .str
  | .lst _ => .lst
  | .tup _ => .tup
  | .dic _ _ => .dic
def Kd.name : Kd → String
  | .non => "NoneType"
  | .bl => "bool"
  | .int => "int"
  | .str => "str"
  | .lst => "list"
  | .tup => "tuple"
  | .dic => "dict"
def Kd.isi : Ty → Kd → Bool
  | .int, .int => true
  | .int, .bl => true
  | .bool, .bl => true
  | .str, .str => true
  | .list, .lst => true
  | .tuple, .tup => true
  | _, _ => false
theorem kd_isi (t : Ty) (k : Kd) : kitB k.name t.name = some (k.isi t) := by
  cases k <;> cases t <;> decide +kernel
def D.isi (t : Ty) (d : D) : Bool := d.kd.isi t
def pIsi (t : Ty) (a : PM) : PM := fun ρ => (a ρ).map fun d => .bl (d.isi t)
theorem isi_kit {K : PySem.W.Frag} {H : Hp} {d : D} {v : V} (h : Rp H d v) (t : Ty) : ∃ u, TyX K H v u ∧ PySem.W.kitOne K u (.type t.name) = some (d.isi t) := by
  refine ⟨.type d.kd.name, ?_, kit_ty (kd_isi t d.kd)⟩
  cases d with
  | non => cases h; exact .base .non
  | bl b => cases h; exact .base (.bl _)
  | int b => cases h; exact .base (.int _)
  | str b => cases h; exact .base (.str _)
  | lst l => obtain ⟨a, vs, rfl, h1, _⟩ := h; exact .base (.lst h1)
  | tup l => obtain ⟨a, vs, rfl, h1, _⟩ := h; exact .base (.tup h1)
  | dic ks l => obtain ⟨a, vs, rfl, h1, _⟩ := h; exact .base (.dK h1)
theorem sp_isi {K : PySem.W.Frag} {ta : TE} {a : PM} (t : Ty) {n : String} (hn : n = t.name) (ha : SP ta a) : SP (tCB (rIsi K) (tCons ta (tCons (tC (.ty n)) tNil))) (pIsi t a) := fun ρ σ H g d h Q q => by
  obtain ⟨x, h1, rfl⟩ := Option.map_eq_some_iff.mp h
  subst hn
  refine ha ρ σ H g x h1 _ fun v H1 e1 r1 => ?_
  obtain ⟨u, k1, k2⟩ := isi_kit (K := K) r1 t
  exact ⟨v, _, u, _, _, rfl, .ty _, k1, k2, q _ H1 e1 rfl⟩
end
end Z

namespace Z
noncomputable section
open PySem L2
/-! ### readings that change what the names hold: expressions, arguments, tests -/
structure Exn where
  cls : Str
  fs : List (Str × D)
abbrev CT := Str → Option Addr
def XOk (ct : CT) (x : Exn) (c : Value) (d : Option Addr) (H : Hp) : Prop := ∃ C, ct x.cls = some C ∧ c = .ref C ∧ (∀ q ∈ x.fs, q.2.scal = true) ∧
  ((x.fs = [] ∧ d = none) ∨ ∃ a vs, d = some a ∧ H a = some (.xd ((x.fs.map (·.1)).zip vs)) ∧ Rpl H (x.fs.map (·.2)) vs)
abbrev XW := Value → Option Addr → St → Hp → Prop
inductive Out (α : Type) where
  | bad | ok (a : α) (ρ : Env) | ex (x : Exn) (ρ : Env)
def Out.P {α : Type} (Φ : α → Env → Prop) (Ψ : Exn → Env → Prop) : Out α → Prop
  | .bad => False
  | .ok a ρ => Φ a ρ
  | .ex x ρ => Ψ x ρ
def Out.bnd {α β : Type} (o : Out α) (f : α → Env → Out β) : Out β := match o with
  | .bad => .bad
  | .ok a ρ => f a ρ
  | .ex x ρ => .ex x ρ
theorem Out.P_bnd {α β : Type} {o : Out α} {f : α → Env → Out β} {Φ : β → Env → Prop} {Ψ : Exn → Env → Prop} : (o.bnd f).P Φ Ψ ↔ o.P (fun a ρ => (f a ρ).P Φ Ψ) Ψ := by
  cases o <;> exact Iff.rfl
theorem Out.P.mono {α : Type} {o : Out α} {Φ Φ' : α → Env → Prop} {Ψ Ψ' : Exn → Env → Prop} (h : o.P Φ Ψ) (h1 : ∀ a ρ, Φ a ρ → Φ' a ρ) (h2 : ∀ a ρ, Ψ a ρ → Ψ' a ρ) : o.P Φ' Ψ' := by
  cases o with
  | bad => exact h
  | ok a ρ => exact h1 _ _ h
  | ex x ρ => exact h2 _ _ h
abbrev EM := Env → Out T
abbrev EMs := Env → Out (List T)
abbrev EMb := Env → Out Bool
/-- what is wanted of an exception -/
def XE (ct : CT) (Wx : XW) (W S0 : Hp) (σ : St) (tm : List T) (vm : List V) : Exn → Env → Prop := fun x ρ' => ∀ c d H', GX W S0 ρ' σ tm vm H' → XOk ct x c d H' → Wx c d σ H'
def SE (ct : CT) (Wx : XW) (te : TE) (m : EM) : Prop := ∀ W S0 ρ σ tm vm H (Q : VK), GX W S0 ρ σ tm vm H → (m ρ).P (fun t ρ' => ∀ v H', GX W S0 ρ' σ (t :: tm) (v :: vm) H' → Q v H') (XE ct Wx W S0 σ tm vm) → te σ H Q
def SEA (ct : CT) (Wx : XW) (ta : TA) (m : EMs) : Prop := ∀ W S0 ρ σ tm vm H (Q : List V → Hp → Prop), GX W S0 ρ σ tm vm H → (m ρ).P (fun ts ρ' => ∀ vs H', vs.length = ts.length → GX W S0 ρ' σ (ts ++ tm) (vs ++ vm) H' → Q vs H') (XE ct Wx W S0 σ tm vm) → ta σ H Q
def SET (ct : CT) (Wx : XW) (tt : TT) (m : EMb) : Prop := ∀ W S0 ρ σ tm vm H (Q : Bool → Hp → Prop), GX W S0 ρ σ tm vm H → (m ρ).P (fun b ρ' => ∀ H', GX W S0 ρ' σ tm vm H' → Q b H') (XE ct Wx W S0 σ tm vm) → tt σ H Q
def OpE (r : R2) (o : T → T → Option T) : Prop := ∀ W S0 ρ σ tm vm H t u v w z (Q : VK), GX W S0 ρ σ (u :: t :: tm) (w :: v :: vm) H → o t u = some z → (∀ x H', GX W S0 ρ σ (z :: tm) (x :: vm) H' → Q x H') → r v w H Q
def CallE (r : List V → Hp → VK → Prop) (o : List T → Option T) : Prop := ∀ W S0 ρ σ tm vm H ts vs z (Q : VK), GX W S0 ρ σ (ts ++ tm) (vs ++ vm) H → vs.length = ts.length → o ts = some z → (∀ x H', GX W S0 ρ σ (z :: tm) (x :: vm) H' → Q x H') → r vs H Q
variable {ct : CT} {Wx : XW} {W S0 S H H' : Hp} {ρ : Env} {σ : St} {t u : T} {ts us tm : List T} {v w : V} {vs ws vm : List V} {as bs : List Addr} {i : Nat} {d : D}
theorem XE.pop (g : XE ct Wx W S0 σ tm vm x ρ) (h : vs.length = ts.length) : XE ct Wx W S0 σ (ts ++ tm) (vs ++ vm) x ρ := fun c d H' q k => g c d H' (q.pop h) k
theorem GX.tmp (g : GX W S0 ρ σ (t :: tm) (v :: vm) H) : Rp H t.d v := by
  obtain ⟨S, as, bs, g⟩ := g
  obtain ⟨v', r, b, c, h3, rfl, h4, h5⟩ := g.rt
  simp only [List.cons.injEq] at h3
  obtain ⟨rfl, rfl⟩ := h3
  exact h4.toRp g.sh fun _ _ _ h => h
theorem GX.tmps (g : GX W S0 ρ σ (ts ++ tm) (vs ++ vm) H) (e : vs.length = ts.length) : Rpl H (dl ts) vs := by
  obtain ⟨S, as, bs, g⟩ := g
  obtain ⟨b, c, rfl, h1, h2⟩ := g.rt.split e
  exact h1.toRpl g.sh fun _ _ _ h => h

def eP (p : PM) : EM := fun ρ => match p ρ with
  | some d => if d.scal = true then .ok (.sh d) ρ else .bad
  | none => .bad
theorem se_p {te : TE} {p : PM} (h : SP te p) : SE ct Wx te (eP p) := fun W S0 ρ σ tm vm H Q g k => by
  unfold eP at k
  split at k
  · rename_i d e
    by_cases hs : d.scal = true
    · rw [if_pos hs] at k
      exact h ρ σ H g.rv d e Q fun v H' e1 r => k v H' ((g.ext e1).pushC hs r)
    · rw [if_neg hs] at k; exact k.elim
  · exact k.elim
def eV (i : Nat) : EM := fun ρ => match ρ[i]? with
  | some (some (.sh d)) => .ok (.sh d) ρ
  | some (some t) => .ok (.sh t.d) (ρ.set i (some (.sh t.d)))
  | _ => .bad
theorem se_var {i : Nat} : SE ct Wx (tVar i) (eV i) := fun W S0 ρ σ tm vm H Q g k => by
  unfold eV at k
  split at k
  · rename_i d e
    obtain ⟨v, e1, g1⟩ := g.read e
    rw [show T.d (.sh d) = d from rfl, set_self e] at g1
    exact ⟨v, e1, k v H g1⟩
  · rename_i t _ e
    obtain ⟨v, e1, g1⟩ := g.read e
    exact ⟨v, e1, k v H g1⟩
  · exact k.elim
/-- a name's value moved out of it -/
def eM (i : Nat) : EM := fun ρ => match ρ[i]? with
  | some (some t) => .ok t (ρ.set i none)
  | _ => .bad
theorem se_mv {i : Nat} : SE ct Wx (tVar i) (eM i) := fun W S0 ρ σ tm vm H Q g k => by
  unfold eM at k
  split at k
  · rename_i t e
    obtain ⟨v, e1, g1⟩ := g.take e
    exact ⟨v, e1, k v H g1⟩
  · exact k.elim
def eNil : EMs := fun ρ => .ok [] ρ
def eCons (a : EM) (b : EMs) : EMs := fun ρ => (a ρ).bnd fun t ρ => (b ρ).bnd fun ts ρ => .ok (t :: ts) ρ
theorem sea_nil : SEA ct Wx tNil eNil := fun W S0 ρ σ tm vm H Q g k => k [] H rfl g
theorem sea_cons {ta : TE} {tr : TA} {a : EM} {b : EMs} (ha : SE ct Wx ta a) (hb : SEA ct Wx tr b) : SEA ct Wx (tCons ta tr) (eCons a b) := fun W S0 ρ σ tm vm H Q g k => by
  refine ha W S0 ρ σ tm vm H _ g ((Out.P_bnd.mp k).mono (fun t ρ1 k1 v H1 g1 => ?_) fun _ _ h => h)
  refine hb W S0 ρ1 σ (t :: tm) (v :: vm) H1 _ g1 ((Out.P_bnd.mp k1).mono (fun ts ρ2 k2 vs H2 e2 g2 => ?_) fun _ _ h => XE.pop (ts := [t]) (vs := [v]) h rfl)
  exact k2 (v :: vs) H2 (by simp [e2]) (g2.rot e2)
def eLst (a : EMs) : EM := fun ρ => (a ρ).bnd fun ts ρ => if ts.length ≤ lim then .ok (.ol ts) ρ else .bad
def eTup (a : EMs) : EM := fun ρ => (a ρ).bnd fun ts ρ => if ts.length ≤ lim then .ok (.ot ts) ρ else .bad
theorem P_ite {α : Type} {c : Prop} [Decidable c] {o : Out α} {Φ : α → Env → Prop} {Ψ : Exn → Env → Prop} (h : (if c then o else .bad).P Φ Ψ) : c ∧ o.P Φ Ψ := by
  by_cases k : c
  · rw [if_pos k] at h; exact ⟨k, h⟩
  · rw [if_neg k] at h; exact h.elim
theorem se_lst {ta : TA} {a : EMs} (ha : SEA ct Wx ta a) : SE ct Wx (tLst ta) (eLst a) := fun W S0 ρ σ tm vm H Q g k => by
  refine ha W S0 ρ σ tm vm H _ g ((Out.P_bnd.mp k).mono (fun ts ρ1 k1 vs H1 e1 g1 => ?_) fun _ _ h => h)
  obtain ⟨hz, k1⟩ := P_ite k1
  exact ⟨lim_le (by omega), fun p hp => k1 _ _ (g1.newL e1 hp)⟩
theorem se_tup {ta : TA} {a : EMs} (ha : SEA ct Wx ta a) : SE ct Wx (tTup ta) (eTup a) := fun W S0 ρ σ tm vm H Q g k => by
  refine ha W S0 ρ σ tm vm H _ g ((Out.P_bnd.mp k).mono (fun ts ρ1 k1 vs H1 e1 g1 => ?_) fun _ _ h => h)
  obtain ⟨hz, k1⟩ := P_ite k1
  exact ⟨lim_le (by omega), fun p hp => k1 _ _ (g1.newT e1 hp)⟩
def optO {α : Type} (o : Option α) (ρ : Env) : Out α := match o with
  | some a => .ok a ρ
  | none => .bad
theorem P_opt {α : Type} {o : Option α} {Φ : α → Env → Prop} {Ψ : Exn → Env → Prop} (h : (optO o ρ).P Φ Ψ) : ∃ a, o = some a ∧ Φ a ρ := by
  cases o with
  | none => exact h.elim
  | some a => exact ⟨a, rfl, h⟩
def eOp (o : T → T → Option T) (a b : EM) : EM := fun ρ => (a ρ).bnd fun t ρ => (b ρ).bnd fun u ρ => optO (o t u) ρ
theorem se_op {r : R2} {o : T → T → Option T} {ta tb : TE} {a b : EM} (hr : OpE r o) (ha : SE ct Wx ta a) (hb : SE ct Wx tb b) : SE ct Wx (tOp r ta tb) (eOp o a b) := fun W S0 ρ σ tm vm H Q g k => by
  refine ha W S0 ρ σ tm vm H _ g ((Out.P_bnd.mp k).mono (fun t ρ1 k1 v H1 g1 => ?_) fun _ _ h => h)
  refine hb W S0 ρ1 σ (t :: tm) (v :: vm) H1 _ g1 ((Out.P_bnd.mp k1).mono (fun u ρ2 k2 w H2 g2 => ?_) fun _ _ h => XE.pop (ts := [t]) (vs := [v]) h rfl)
  obtain ⟨z, e, k2⟩ := P_opt k2
  exact hr W S0 ρ2 σ tm vm H2 t u v w z Q g2 e k2
def eCB (o : List T → Option T) (a : EMs) : EM := fun ρ => (a ρ).bnd fun ts ρ => optO (o ts) ρ
theorem se_cb {r : List V → Hp → VK → Prop} {o : List T → Option T} {ta : TA} {a : EMs} (hr : CallE r o) (ha : SEA ct Wx ta a) : SE ct Wx (tCB r ta) (eCB o a) := fun W S0 ρ σ tm vm H Q g k => by
  refine ha W S0 ρ σ tm vm H _ g ((Out.P_bnd.mp k).mono (fun ts ρ1 k1 vs H1 e1 g1 => ?_) fun _ _ h => h)
  obtain ⟨z, e, k2⟩ := P_opt k1
  exact hr W S0 ρ1 σ tm vm H1 ts vs z Q g1 e1 e k2
def scalO (o : Option D) : Option T := o.bind fun d => if d.scal = true then some (.sh d) else none
def oS (o : D → D → Option D) : T → T → Option T := fun t u => scalO (o t.d u.d)
theorem scalO_some {o : Option D} {z : T} (h : scalO o = some z) : ∃ d, o = some d ∧ d.scal = true ∧ z = .sh d := by
  obtain ⟨d, e, h⟩ := some_bind h
  obtain ⟨k, h⟩ := ite_some h
  exact ⟨d, e, k, (Option.some.inj h).symm⟩
theorem oe_s {r : R2} {o : D → D → Option D} (h : OpS r o) : OpE r (oS o) := fun W S0 ρ σ tm vm H t u v w z Q g e k => by
  obtain ⟨d, e1, e2, rfl⟩ := scalO_some e
  refine h H t.d u.d v w d g.pop1.tmp g.tmp |> fun _ => ?_
  exact h H t.d u.d v w d (GX.tmp (g.pop1)) g.tmp e1 Q fun x H' es r => k x H' ((g.pop1.pop1.ext es).pushC e2 r)
def cS (o : List D → Option D) : List T → Option T := fun ts => scalO (o (dl ts))
theorem ce_s {r : List V → Hp → VK → Prop} {o : List D → Option D} (h : CallS r o) : CallE r (cS o) := fun W S0 ρ σ tm vm H ts vs z Q g e0 e k => by
  obtain ⟨d, e1, e2, rfl⟩ := scalO_some e
  exact h H _ vs d (g.tmps e0) e1 Q fun x H' es r => k x H' (((g.pop e0).ext es).pushC e2 r)

/-! ### lists taken apart -/
def T.els : T → Option (List T)
  | .sh (.lst l) => some (l.map .sh)
  | .ol l => some l
  | _ => none
def T.elsT : T → Option (List T)
  | .sh (.tup l) => some (l.map .sh)
  | .ot l => some l
  | _ => none
theorem GX.els (g : GX W S0 ρ σ (t :: tm) (v :: vm) H) (e : t.els = some ts) : ∃ a xs, v = .ref a ∧ H a = some (.lst xs) ∧ xs.length = ts.length ∧ GX W S0 ρ σ (ts ++ tm) (xs ++ vm) H := by
  obtain ⟨S, as, bs, g⟩ := g
  obtain ⟨v', r, b, c, h3, rfl, h4, h5⟩ := g.rt
  simp only [List.cons.injEq] at h3
  obtain ⟨rfl, rfl⟩ := h3
  have nd := g.nd
  have fs := g.fs
  have fw := g.fw
  unfold T.els at e
  split at e
  · cases e
    obtain ⟨rfl, a, xs, rfl, h6, h7⟩ := h4
    refine ⟨a, xs, rfl, g.sh _ _ h6, by simp [h7.len], S, as, c, g.s0, g.sh, g.wh, g.nw, g.re, (h7.toRtl (H := H)).append h5, by grind, by grind, by grind⟩
  · cases e
    obtain ⟨a, xs, b', rfl, rfl, h6, h7⟩ := h4
    refine ⟨a, xs, rfl, h6, h7.len, S, as, b' ++ c, g.s0, g.sh, g.wh, g.nw, g.re, h7.append h5, by grind, by grind, by grind⟩
  · cases e
theorem GX.elsT (g : GX W S0 ρ σ (t :: tm) (v :: vm) H) (e : t.elsT = some ts) : ∃ a xs, v = .ref a ∧ H a = some (.tup xs) ∧ xs.length = ts.length ∧ GX W S0 ρ σ (ts ++ tm) (xs ++ vm) H := by
  obtain ⟨S, as, bs, g⟩ := g
  obtain ⟨v', r, b, c, h3, rfl, h4, h5⟩ := g.rt
  simp only [List.cons.injEq] at h3
  obtain ⟨rfl, rfl⟩ := h3
  have nd := g.nd
  have fs := g.fs
  have fw := g.fw
  unfold T.elsT at e
  split at e
  · cases e
    obtain ⟨rfl, a, xs, rfl, h6, h7⟩ := h4
    refine ⟨a, xs, rfl, g.sh _ _ h6, by simp [h7.len], S, as, c, g.s0, g.sh, g.wh, g.nw, g.re, (h7.toRtl (H := H)).append h5, by grind, by grind, by grind⟩
  · cases e
    obtain ⟨a, xs, b', rfl, rfl, h6, h7⟩ := h4
    refine ⟨a, xs, rfl, h6, h7.len, S, as, b' ++ c, g.s0, g.sh, g.wh, g.nw, g.re, h7.append h5, by grind, by grind, by grind⟩
  · cases e
/-- temporaries left out, or in another order -/
theorem GX.sub (g : GX W S0 ρ σ (ts ++ tm) (vs ++ vm) H) (e : vs.length = ts.length) (h : ∀ S H b, Rtl S H ts vs b → ∃ b', Rtl S H us ws b' ∧ (b.Nodup → b'.Nodup) ∧ ∀ x ∈ b', x ∈ b) : GX W S0 ρ σ (us ++ tm) (ws ++ vm) H := by
  obtain ⟨S, as, bs, g⟩ := g
  obtain ⟨b, c, rfl, h1, h2⟩ := g.rt.split e
  obtain ⟨b', q1, q2, q3⟩ := h S H b h1
  have nd := g.nd
  have fs := g.fs
  have fw := g.fw
  have n1 : b.Nodup := by grind
  have n2 := q2 n1
  refine ⟨S, as, b' ++ c, g.s0, g.sh, g.wh, g.nw, g.re, q1.append h2, by grind, by grind, by grind⟩
theorem Rtl.take {S H : Hp} : ∀ {ts : List T} {vs : List V} {b : List Addr} (n : Nat), Rtl S H ts vs b → ∃ b', Rtl S H (ts.take n) (vs.take n) b' ∧ (b.Nodup → b'.Nodup) ∧ ∀ x ∈ b', x ∈ b
  | [], _, _, n, ⟨h1, h2⟩ => by subst h1 h2; exact ⟨[], by simp [Rtl], fun h => h, fun _ h => h⟩
  | _ :: _, _, _, 0, _ => ⟨[], by simp [Rtl], fun _ => .nil, fun _ h => nomatch h⟩
  | t :: ts, _, _, n + 1, ⟨v, r, b, c, h1, h2, h3, h4⟩ => by
    subst h1 h2
    obtain ⟨b', q1, q2, q3⟩ := Rtl.take n h4
    exact ⟨b ++ b', ⟨v, _, b, b', rfl, rfl, h3, q1⟩, by grind, by grind⟩
theorem Rtl.drop {S H : Hp} : ∀ {ts : List T} {vs : List V} {b : List Addr} (n : Nat), Rtl S H ts vs b → ∃ b', Rtl S H (ts.drop n) (vs.drop n) b' ∧ (b.Nodup → b'.Nodup) ∧ ∀ x ∈ b', x ∈ b
  | [], _, _, n, ⟨h1, h2⟩ => by subst h1 h2; exact ⟨[], by simp [Rtl], fun h => h, fun _ h => h⟩
  | _ :: _, _, b, 0, h => ⟨b, h, fun h => h, fun _ h => h⟩
  | t :: ts, _, _, n + 1, ⟨v, r, b, c, h1, h2, h3, h4⟩ => by
    subst h1 h2
    obtain ⟨b', q1, q2, q3⟩ := Rtl.drop n h4
    exact ⟨b', q1, by grind, by grind⟩
theorem Rtl.cut {S H : Hp} {ts : List T} {vs : List V} {b : List Addr} {lo hi : Option Int} (h : Rtl S H ts vs b) : ∃ b', Rtl S H (cutD ts lo hi) (cutV vs lo hi) b' ∧ (b.Nodup → b'.Nodup) ∧ ∀ x ∈ b', x ∈ b := by
  unfold cutD cutV
  rw [h.len]
  obtain ⟨b1, q1, q2, q3⟩ := h.drop (HT.sIx ts.length 0 lo)
  obtain ⟨b2, q4, q5, q6⟩ := q1.take (HT.sIx ts.length ts.length hi - HT.sIx ts.length 0 lo)
  exact ⟨b2, q4, fun h => q5 (q2 h), fun x hx => q3 x (q6 x hx)⟩
def catT (t u : T) : Option T := t.els.bind fun a => u.els.bind fun b => if a.length + b.length ≤ lim then some (.ol (a ++ b)) else none
theorem oe_cat : OpE rCat catT := fun W S0 ρ σ tm vm H t u v w z Q g e k => by
  obtain ⟨ts, e1, e⟩ := some_bind e
  obtain ⟨us, e2, e⟩ := some_bind e
  obtain ⟨hz, e⟩ := ite_some e
  cases e
  obtain ⟨b, ys, rfl, h3, h4, g1⟩ := g.els e2
  have g2 := g1.rot h4
  obtain ⟨a, xs, rfl, h1, h2, g3⟩ := g2.els e1
  refine ⟨a, b, xs, ys, rfl, rfl, h1, h3, lim_le (by omega), fun p hp => k _ _ ?_⟩
  rw [← List.append_assoc, ← List.append_assoc] at g3
  exact g3.newL (by simp [h2, h4]) hp
def eAddT (t u : T) : Option T := match oS oAdd t u with
  | some z => some z
  | none => catT t u
theorem oe_or {r r' : R2} {o o' : T → T → Option T} (h : OpE r o) (h' : OpE r' o') : OpE (rOr r r') (fun t u => match o t u with | some z => some z | none => o' t u) := fun W S0 ρ σ tm vm H t u v w z Q g e k => by
  simp only at e
  split at e
  · rename_i z' ez
    cases e
    exact .inl (h W S0 ρ σ tm vm H t u v w _ Q g ez k)
  · exact .inr (h' W S0 ρ σ tm vm H t u v w _ Q g e k)
theorem oe_add : OpE rUAdd eAddT := fun W S0 ρ σ tm vm H t u v w z Q g e k => by
  unfold eAddT at e
  split at e
  · rename_i z' ez
    cases e
    exact oe_s os_add W S0 ρ σ tm vm H t u v w _ Q g ez k
  · exact .inr (.inl (oe_cat W S0 ρ σ tm vm H t u v w _ Q g e k))

/-! ### places: what stands there is looked at and stays as it is -/
def SV (te : TE) (m : Env → Option T) : Prop := ∀ W S0 S ρ σ tm vm H as bs, G W S0 S H ρ σ tm vm as bs → ∀ t, m ρ = some t → ∀ Q : VK, (∀ v H', Same H H' → (∃ cs, (∀ a ∈ cs, a ∈ as) ∧ Rt S H' t v cs) → Q v H') → te σ H Q
def vV (i : Nat) : Env → Option T := fun ρ => match ρ[i]? with
  | some (some t) => some t
  | _ => none
theorem sv_var {i : Nat} : SV (tVar i) (vV i) := fun W S0 S ρ σ tm vm H as bs g t h Q q => by
  unfold vV at h
  split at h
  · rename_i t' e
    cases h
    obtain ⟨v, b, c, d, e1, rfl, e3, _⟩ := g.re.at e
    exact ⟨v, e1, q v H (fun _ _ h => h) ⟨c, by grind, e3⟩⟩
  · cases h
def T.kids : T → Option (List T)
  | .sh (.lst l) => some (l.map .sh)
  | .sh (.tup l) => some (l.map .sh)
  | .ol l => some l
  | .ot l => some l
  | _ => none
theorem Rtl.atI {S H : Hp} {l : List T} {vs : List V} {as : List Addr} {i : Int} {t : T} (h : Rtl S H l vs as) (e : L2.atI l i = some t) : ∃ v c, L2.atI vs i = some v ∧ Rt S H t v c ∧ (∀ a ∈ c, a ∈ as) ∧ (as.Nodup → c.Nodup) := by
  unfold L2.atI at e ⊢
  rw [h.len]
  obtain ⟨j, h1, h2⟩ := some_bind e
  obtain ⟨v, b, c, d, h3, rfl, h4, _⟩ := h.at h2
  exact ⟨v, c, by rw [h1]; exact h3, h4, by grind, by grind⟩
theorem Rt.kid {S H : Hp} {K : PySem.W.Frag} {t u : T} {v : V} {as : List Addr} {l : List T} {i : Int} (e : Same S H) (h : Rt S H t v as) (hk : t.kids = some l) (hi : L2.atI l i = some u) {Q : VK} (q : ∀ w, (∃ cs, (∀ a ∈ cs, a ∈ as) ∧ (as.Nodup → cs.Nodup) ∧ Rt S H u w cs) → Q w H) : rIx K v (.int i) H Q := by
  unfold T.kids at hk
  split at hk
  · cases hk
    obtain ⟨rfl, a, vs, rfl, h1, h2⟩ := h
    obtain ⟨w, c, k1, k2, k3, k4⟩ := (h2.toRtl (H := H)).atI hi
    exact .inl ⟨a, vs, i, w, rfl, rfl, .of (e _ _ h1), k1, q w ⟨c, k3, k4, k2⟩⟩
  · cases hk
    obtain ⟨rfl, a, vs, rfl, h1, h2⟩ := h
    obtain ⟨w, c, k1, k2, k3, k4⟩ := (h2.toRtl (H := H)).atI hi
    exact .inr (.inl ⟨a, vs, i, w, rfl, rfl, .of (e _ _ h1), k1, q w ⟨c, k3, k4, k2⟩⟩)
  · cases hk
    obtain ⟨a, vs, b, rfl, rfl, h1, h2⟩ := h
    obtain ⟨w, c, k1, k2, k3, k4⟩ := h2.atI hi
    exact .inl ⟨a, vs, i, w, rfl, rfl, .of h1, k1, q w ⟨c, fun x hx => List.mem_cons_of_mem _ (k3 x hx), fun n => k4 (List.nodup_cons.mp n).2, k2⟩⟩
  · cases hk
    obtain ⟨a, vs, b, rfl, rfl, h1, h2⟩ := h
    obtain ⟨w, c, k1, k2, k3, k4⟩ := h2.atI hi
    exact .inr (.inl ⟨a, vs, i, w, rfl, rfl, .of h1, k1, q w ⟨c, fun x hx => List.mem_cons_of_mem _ (k3 x hx), fun n => k4 (List.nodup_cons.mp n).2, k2⟩⟩)
  · cases hk
def D.intO : D → Option Int
  | .int i => some i
  | _ => none
theorem intO_int {d : D} {i : Int} (h : d.intO = some i) : d = .int i := by
  cases d <;> first | (cases h; rfl) | cases h
def vIx (a : Env → Option T) (p : PM) : Env → Option T := fun ρ => (a ρ).bind fun t => (p ρ).bind fun d => d.intO.bind fun i => t.kids.bind fun l => atI l i
theorem sv_ix {K : PySem.W.Frag} {ta tb : TE} {a : Env → Option T} {p : PM} (ha : SV ta a) (hb : SP tb p) : SV (tOp (rIx K) ta tb) (vIx a p) := fun W S0 S ρ σ tm vm H as bs g t h Q q => by
  obtain ⟨t0, h1, ha1⟩ := some_bind h
  obtain ⟨d, h2, ha2⟩ := some_bind ha1
  obtain ⟨i, h3, ha3⟩ := some_bind ha2
  obtain ⟨l, h4, h5⟩ := some_bind ha3
  clear h ha1 ha2 ha3
  cases intO_int h3
  refine ha W S0 S ρ σ tm vm H as bs g t0 h1 _ fun v H1 e1 ⟨cs, c1, c2⟩ => ?_
  have rv : RV H1 ρ σ := (GX.rv ⟨S, as, bs, g⟩).ext e1
  refine hb ρ σ H1 rv _ h2 _ fun w H2 e2 r2 => ?_
  cases r2
  have c3 : Rt S H2 t0 v cs := c2.mono (fun _ _ h => h) fun a ha => same_at e2 (c2.there a ha)
  exact c3.kid (fun a o h => e2 a o (e1 a o (g.sh a o h))) h4 h5 fun w ⟨ds, d1, _, d2⟩ => q w H2 (e1.trans e2) ⟨ds, fun a ha => c1 a (d1 a ha), d2⟩
theorem SV.p {te : TE} {m : Env → Option T} (h : SV te m) : ∀ W S0 ρ σ tm vm H, GX W S0 ρ σ tm vm H → ∀ t, m ρ = some t → ∀ Q : VK, (∀ v H', Same H H' → Rp H' t.d v → Q v H') → te σ H Q := fun W S0 ρ σ tm vm H ⟨S, as, bs, g⟩ t e Q q =>
  h W S0 S ρ σ tm vm H as bs g t e Q fun v H' es ⟨cs, c1, c2⟩ => q v H' es (c2.toRp (fun a o h => es a o (g.sh a o h)) fun _ _ _ h => h)
/-- what stands at a place, shared -/
def eGet (a : Env → Option T) : EM := fun ρ => match a ρ with
  | some (.sh d) => .ok (.sh d) ρ
  | _ => .bad
theorem se_get {te : TE} {m : Env → Option T} (h : SV te m) : SE ct Wx te (eGet m) := fun W S0 ρ σ tm vm H Q g k => by
  unfold eGet at k
  split at k
  · rename_i d e
    obtain ⟨S, as, bs, g⟩ := g
    refine h W S0 S ρ σ tm vm H as bs g _ e Q fun v H' es ⟨cs, c1, ⟨c2, c3⟩⟩ => k v H' ?_
    obtain ⟨S', as', bs', g'⟩ := (GX.ext es ⟨S, as, bs, g⟩)
    have g2 : G W S0 S H' ρ σ tm vm as bs := ⟨g.s0, fun a o h => es a o (g.sh a o h), fun a o h => es a o (g.wh a o h), g.nw, g.re.mono (fun _ _ h => h) fun a ha => same_at es (g.re.there a ha), g.rt.mono (fun _ _ h => h) fun a ha => same_at es (g.rt.there a ha), g.nd, g.fs, g.fw⟩
    exact g2.pushS c3
  · exact k.elim
theorem G.ext (g : G W S0 S H ρ σ tm vm as bs) (es : Same H H') : G W S0 S H' ρ σ tm vm as bs := ⟨g.s0, fun a o h => es a o (g.sh a o h), fun a o h => es a o (g.wh a o h), g.nw, g.re.mono (fun _ _ h => h) fun a ha => same_at es (g.re.there a ha), g.rt.mono (fun _ _ h => h) fun a ha => same_at es (g.rt.there a ha), g.nd, g.fs, g.fw⟩
/-- the shared items of a list at a place -/
def shsL : List T → Option (List D)
  | [] => some []
  | .sh d :: l => (shsL l).map (d :: ·)
  | _ :: _ => none
theorem Rtl.shs {S H : Hp} : ∀ {l : List T} {vs : List V} {as : List Addr} {ds : List D}, Rtl S H l vs as → shsL l = some ds → Rpl S ds vs
  | [], _, _, _, h, e => by cases e; exact h.1
  | t :: l, _, _, _, ⟨v, r, b, c, h1, h2, h3, h4⟩, e => by
    cases t <;> first | (cases e; done) | skip
    obtain ⟨ds', e1, rfl⟩ := Option.map_eq_some_iff.mp e
    subst h1
    exact ⟨v, r, rfl, h3.2, h4.shs e1⟩
def T.shs : T → Option (List D)
  | .sh (.lst l) => some l
  | .ol l => shsL l
  | _ => none
def T.shsT : T → Option (List D)
  | .sh (.tup l) => some l
  | .ot l => shsL l
  | _ => none
theorem Rt.shs {S H : Hp} {t : T} {v : V} {as : List Addr} {ds : List D} (e : Same S H) (h : Rt S H t v as) (k : t.shs = some ds) : ∃ a xs, v = .ref a ∧ H a = some (.lst xs) ∧ Rpl S ds xs := by
  unfold T.shs at k
  split at k
  · cases k
    obtain ⟨rfl, a, xs, rfl, h1, h2⟩ := h
    exact ⟨a, xs, rfl, e _ _ h1, h2⟩
  · obtain ⟨a, xs, b, rfl, rfl, h1, h2⟩ := h
    exact ⟨a, xs, rfl, h1, h2.shs k⟩
  · cases k
theorem Rt.shsT {S H : Hp} {t : T} {v : V} {as : List Addr} {ds : List D} (e : Same S H) (h : Rt S H t v as) (k : t.shsT = some ds) : ∃ a xs, v = .ref a ∧ H a = some (.tup xs) ∧ Rpl S ds xs := by
  unfold T.shsT at k
  split at k
  · cases k
    obtain ⟨rfl, a, xs, rfl, h1, h2⟩ := h
    exact ⟨a, xs, rfl, e _ _ h1, h2⟩
  · obtain ⟨a, xs, b, rfl, rfl, h1, h2⟩ := h
    exact ⟨a, xs, rfl, h1, h2.shs k⟩
  · cases k
/-- shared data as temporaries -/
theorem G.pushSs (g : G W S0 S H ρ σ tm vm as bs) {ds : List D} {xs : List V} (h : Rpl S ds xs) : GX W S0 ρ σ (ds.map .sh ++ tm) (xs ++ vm) H :=
  ⟨S, as, bs, g.s0, g.sh, g.wh, g.nw, g.re, (h.toRtl (H := H)).append g.rt, g.nd, g.fs, g.fw⟩
/-! ### parts of a slice -/
def SPO (to : TO) (m : Env → Option (Option Int)) : Prop := ∀ ρ σ H, RV H ρ σ → ∀ o, m ρ = some o → ∀ Q : Option Int → Hp → Prop, (∀ H', Same H H' → Q o H') → to σ H Q
def oNo : Env → Option (Option Int) := fun _ => some none
def oYes (p : PM) : Env → Option (Option Int) := fun ρ => (p ρ).bind fun d => d.intO.map some
theorem spo_no : SPO tNoPart oNo := fun ρ σ H g o e Q q => by cases e; exact q H fun _ _ h => h
theorem spo_yes {te : TE} {p : PM} (h : SP te p) : SPO (tPart te) (oYes p) := fun ρ σ H g o e Q q => by
  obtain ⟨d, e1, e⟩ := some_bind e
  obtain ⟨i, e2, rfl⟩ := Option.map_eq_some_iff.mp e
  cases intO_int e2
  exact h ρ σ H g _ e1 _ fun v H1 es r => ⟨i, r, q H1 es⟩
/-- p[lo:hi] of a list at a place -/
def eSl (a : Env → Option T) (lo hi : Env → Option (Option Int)) : EM := fun ρ => optO ((a ρ).bind fun t => t.shs.bind fun ds => (lo ρ).bind fun l => (hi ρ).bind fun h => some (.ol ((cutD ds l h).map .sh))) ρ
theorem se_sl {K : PySem.W.Frag} {ta : TE} {tl th : TO} {a : Env → Option T} {lo hi : Env → Option (Option Int)} (ha : SV ta a) (hl : SPO tl lo) (hh : SPO th hi) : SE ct Wx (tSl (rSlL K) ta tl th) (eSl a lo hi) := fun W S0 ρ σ tm vm H Q g k => by
  obtain ⟨z, e, k⟩ := P_opt k
  obtain ⟨t, e1, e⟩ := some_bind e
  obtain ⟨ds, e2, e⟩ := some_bind e
  obtain ⟨l, e3, e⟩ := some_bind e
  obtain ⟨h, e4, e⟩ := some_bind e
  cases e
  obtain ⟨S, as, bs, g⟩ := g
  refine ha W S0 S ρ σ tm vm H as bs g t e1 _ fun v H1 s1 ⟨cs, c1, c2⟩ => ?_
  have g1 := g.ext s1
  obtain ⟨p, xs, rfl, h1, h2⟩ := c2.shs g1.sh e2
  refine hl ρ σ H1 (GX.rv ⟨S, as, bs, g1⟩) l e3 _ fun H2 s2 => hh ρ σ H2 (GX.rv ⟨S, as, bs, g1.ext s2⟩) h e4 _ fun H3 s3 => ?_
  refine ⟨p, xs, rfl, .of (s3 _ _ (s2 _ _ h1)), fun q hq => k _ _ ?_⟩
  exact (((g1.ext s2).ext s3).pushSs h2.cut).newL (by simp [h2.cut.len]) hq
/-- .. of a list that the expression makes -/
def eSlE (a : EM) (lo hi : Env → Option (Option Int)) : EM := fun ρ => (a ρ).bnd fun t ρ => optO (t.els.bind fun ds => (lo ρ).bind fun l => (hi ρ).bind fun h => some (.ol (cutD ds l h))) ρ
theorem se_slE {K : PySem.W.Frag} {ta : TE} {tl th : TO} {a : EM} {lo hi : Env → Option (Option Int)} (ha : SE ct Wx ta a) (hl : SPO tl lo) (hh : SPO th hi) : SE ct Wx (tSl (rSlL K) ta tl th) (eSlE a lo hi) := fun W S0 ρ σ tm vm H Q g k => by
  refine ha W S0 ρ σ tm vm H _ g ((Out.P_bnd.mp k).mono (fun t ρ1 k1 v H1 g1 => ?_) fun _ _ h => h)
  obtain ⟨z, e, k⟩ := P_opt k1
  obtain ⟨ts, e2, e⟩ := some_bind e
  obtain ⟨l, e3, e⟩ := some_bind e
  obtain ⟨h, e4, e⟩ := some_bind e
  cases e
  refine hl ρ1 σ H1 g1.rv l e3 _ fun H2 s2 => hh ρ1 σ H2 (g1.ext s2).rv h e4 _ fun H3 s3 => ?_
  obtain ⟨p, xs, rfl, h1, h2, g2⟩ := ((g1.ext s2).ext s3).els e2
  refine ⟨p, xs, rfl, .of h1, fun q hq => k _ _ ?_⟩
  have g3 := g2.sub (us := cutD ts l h) (ws := cutV xs l h) h2 fun S H b hb => hb.cut
  exact g3.newL (by unfold cutD cutV; simp [h2]) hq
/-- list(p), p a list or tuple at a place; list(e) -/
def rListU (K : PySem.W.Frag) : List V → Hp → VK → Prop := fun xs H Q => ∃ p ys, xs = [.ref p] ∧ (SqL K H p ys ∨ SqT K H p ys) ∧ ∀ l, H l = none → Q (.ref l) (upd H l (.lst ys))
def T.elsU (t : T) : Option (List T) := match t.els with
  | some l => some l
  | none => t.elsT
def T.shsU (t : T) : Option (List D) := match t.shs with
  | some l => some l
  | none => t.shsT
theorem Rt.shsU {S H : Hp} {K : PySem.W.Frag} {t : T} {v : V} {as : List Addr} {ds : List D} (e : Same S H) (h : Rt S H t v as) (k : t.shsU = some ds) : ∃ a xs, v = .ref a ∧ (SqL K H a xs ∨ SqT K H a xs) ∧ Rpl S ds xs := by
  unfold T.shsU at k
  split at k
  · rename_i l e1
    cases k
    obtain ⟨a, xs, h1, h2, h3⟩ := h.shs e e1
    exact ⟨a, xs, h1, .inl (.of h2), h3⟩
  · obtain ⟨a, xs, h1, h2, h3⟩ := h.shsT e k
    exact ⟨a, xs, h1, .inr (.of h2), h3⟩
def eList (a : Env → Option T) : EM := fun ρ => optO ((a ρ).bind fun t => t.shsU.bind fun ds => some (.ol (ds.map .sh))) ρ
theorem se_list {K : PySem.W.Frag} {ta : TE} {a : Env → Option T} (ha : SV ta a) : SE ct Wx (tCB (rListU K) (tCons ta tNil)) (eList a) := fun W S0 ρ σ tm vm H Q g k => by
  obtain ⟨z, e, k⟩ := P_opt k
  obtain ⟨t, e1, e⟩ := some_bind e
  obtain ⟨ds, e2, e⟩ := some_bind e
  cases e
  obtain ⟨S, as, bs, g⟩ := g
  refine ha W S0 S ρ σ tm vm H as bs g t e1 _ fun v H1 s1 ⟨cs, c1, c2⟩ => ?_
  have g1 := g.ext s1
  obtain ⟨p, xs, rfl, h1, h2⟩ := c2.shsU (K := K) g1.sh e2
  exact ⟨p, xs, rfl, h1, fun q hq => k _ _ ((g1.pushSs h2).newL (by simp [h2.len]) hq)⟩
theorem GX.elsU {K : PySem.W.Frag} (g : GX W S0 ρ σ (t :: tm) (v :: vm) H) (e : t.elsU = some ts) : ∃ a xs, v = .ref a ∧ (SqL K H a xs ∨ SqT K H a xs) ∧ xs.length = ts.length ∧ GX W S0 ρ σ (ts ++ tm) (xs ++ vm) H := by
  unfold T.elsU at e
  split at e
  · rename_i l e1
    cases e
    obtain ⟨a, xs, h1, h2, h3⟩ := g.els e1
    exact ⟨a, xs, h1, .inl (.of h2), h3⟩
  · obtain ⟨a, xs, h1, h2, h3⟩ := g.elsT e
    exact ⟨a, xs, h1, .inr (.of h2), h3⟩
def listT : List T → Option T
  | [t] => t.elsU.map .ol
  | _ => none
theorem ce_list {K : PySem.W.Frag} : CallE (rListU K) listT := fun W S0 ρ σ tm vm H ts vs z Q g e0 e k => by
  match ts, vs, e0, e, g with
  | [t], [v], _, e, g =>
    obtain ⟨us, e1, rfl⟩ := Option.map_eq_some_iff.mp e
    obtain ⟨a, xs, rfl, h1, h2, g1⟩ := GX.elsU (K := K) g e1
    exact ⟨a, xs, rfl, h1, fun q hq => k _ _ (g1.newL h2 hq)⟩
def rTupU (K : PySem.W.Frag) : List V → Hp → VK → Prop := fun xs H Q => ∃ p ys, xs = [.ref p] ∧ ((SqL K H p ys ∧ ∀ l, H l = none → Q (.ref l) (upd H l (.tup ys))) ∨ (SqT K H p ys ∧ Q (.ref p) H))
def tupT : List T → Option T
  | [t] => match t.els with
    | some l => some (.ot l)
    | none => match t.elsT with
      | some _ => some t
      | none => none
  | _ => none
theorem ce_tup {K : PySem.W.Frag} : CallE (rTupU K) tupT := fun W S0 ρ σ tm vm H ts vs z Q g e0 e k => by
  match ts, vs, e0, e, g with
  | [t], [v], _, e, g =>
    unfold tupT at e
    simp only at e
    split at e
    · rename_i l e1
      cases e
      obtain ⟨a, xs, rfl, h1, h2, g1⟩ := g.els e1
      exact ⟨a, xs, rfl, .inl ⟨.of h1, fun q hq => k _ _ (g1.newT h2 hq)⟩⟩
    · split at e
      · rename_i l e1
        cases e
        obtain ⟨a, xs, rfl, h1, h2, g1⟩ := g.elsT e1
        exact ⟨a, xs, rfl, .inr ⟨.of h1, k _ _ g⟩⟩
      · cases e
/-! ### tests and choices -/
def eB (a : EM) : EMb := fun ρ => (a ρ).bnd fun t ρ => optO (t.d.tru) ρ
theorem set_b {te : TE} {a : EM} (ha : SE ct Wx te a) : SET ct Wx (tB te) (eB a) := fun W S0 ρ σ tm vm H Q g k => by
  refine ha W S0 ρ σ tm vm H _ g ((Out.P_bnd.mp k).mono (fun t ρ1 k1 v H1 g1 => ?_) fun _ _ h => h)
  obtain ⟨b, e, k⟩ := P_opt k1
  have := g1.tmp
  rw [tru_bl e] at this
  exact ⟨b, this, k H1 g1.pop1⟩
theorem set_test {te : TE} {a : EM} (ha : SE ct Wx te a) : SET ct Wx (tTest te) (eB a) := fun W S0 ρ σ tm vm H Q g k => by
  refine ha W S0 ρ σ tm vm H _ g ((Out.P_bnd.mp k).mono (fun t ρ1 k1 v H1 g1 => ?_) fun _ _ h => h)
  obtain ⟨b, e, k⟩ := P_opt k1
  have := g1.tmp
  rw [tru_bl e] at this
  exact ⟨b, this, k H1 g1.pop1⟩
def eT (t : TM) : EMb := fun ρ => optO (t ρ) ρ
theorem set_p {tt : TT} {t : TM} (h : SPT tt t) : SET ct Wx tt (eT t) := fun W S0 ρ σ tm vm H Q g k => by
  obtain ⟨b, e, k⟩ := P_opt k
  exact h ρ σ H g.rv b e Q fun H' es => k H' (g.ext es)
def eAnd (a b : EMb) : EMb := fun ρ => (a ρ).bnd fun c ρ => if c = true then b ρ else .ok false ρ
def eOr (a b : EMb) : EMb := fun ρ => (a ρ).bnd fun c ρ => if c = true then .ok true ρ else b ρ
def eNot (a : EMb) : EMb := fun ρ => (a ρ).bnd fun c ρ => .ok (!c) ρ
theorem set_and {ta tb : TT} {a b : EMb} (ha : SET ct Wx ta a) (hb : SET ct Wx tb b) : SET ct Wx (tAnd ta tb) (eAnd a b) := fun W S0 ρ σ tm vm H Q g k => by
  refine ha W S0 ρ σ tm vm H _ g ((Out.P_bnd.mp k).mono (fun c ρ1 k1 H1 g1 => ?_) fun _ _ h => h)
  cases c with
  | true => exact hb W S0 ρ1 σ tm vm H1 Q g1 k1
  | false => exact k1 H1 g1
theorem set_or {ta tb : TT} {a b : EMb} (ha : SET ct Wx ta a) (hb : SET ct Wx tb b) : SET ct Wx (tOr ta tb) (eOr a b) := fun W S0 ρ σ tm vm H Q g k => by
  refine ha W S0 ρ σ tm vm H _ g ((Out.P_bnd.mp k).mono (fun c ρ1 k1 H1 g1 => ?_) fun _ _ h => h)
  cases c with
  | false => exact hb W S0 ρ1 σ tm vm H1 Q g1 k1
  | true => exact k1 H1 g1
theorem set_not {ta : TT} {a : EMb} (ha : SET ct Wx ta a) : SET ct Wx (tNot ta) (eNot a) := fun W S0 ρ σ tm vm H Q g k => by
  refine ha W S0 ρ σ tm vm H _ g ((Out.P_bnd.mp k).mono (fun c ρ1 k1 H1 g1 => k1 H1 g1) fun _ _ h => h)
def eAndV (a b : EM) : EM := fun ρ => (a ρ).bnd fun t ρ => match t.d.tru with
  | some true => b ρ
  | some false => .ok (.sh (.bl false)) ρ
  | none => .bad
def eOrV (a b : EM) : EM := fun ρ => (a ρ).bnd fun t ρ => match t.d.tru with
  | some false => b ρ
  | some true => .ok (.sh (.bl true)) ρ
  | none => .bad
theorem se_andV {ta tb : TE} {a b : EM} (ha : SE ct Wx ta a) (hb : SE ct Wx tb b) : SE ct Wx (tAndV ta tb) (eAndV a b) := fun W S0 ρ σ tm vm H Q g k => by
  refine ha W S0 ρ σ tm vm H _ g ((Out.P_bnd.mp k).mono (fun t ρ1 k1 v H1 g1 => ?_) fun _ _ h => h)
  have q := g1.tmp
  split at k1
  · rename_i e
    rw [tru_bl e] at q
    exact ⟨true, q, hb W S0 ρ1 σ tm vm H1 Q g1.pop1 k1⟩
  · rename_i e
    rw [tru_bl e] at q
    exact ⟨false, q, k1 _ H1 (g1.pop1.pushC (S := H1) rfl rfl)⟩
  · exact k1.elim
theorem se_orV {ta tb : TE} {a b : EM} (ha : SE ct Wx ta a) (hb : SE ct Wx tb b) : SE ct Wx (tOrV ta tb) (eOrV a b) := fun W S0 ρ σ tm vm H Q g k => by
  refine ha W S0 ρ σ tm vm H _ g ((Out.P_bnd.mp k).mono (fun t ρ1 k1 v H1 g1 => ?_) fun _ _ h => h)
  have q := g1.tmp
  split at k1
  · rename_i e
    rw [tru_bl e] at q
    exact ⟨false, q, hb W S0 ρ1 σ tm vm H1 Q g1.pop1 k1⟩
  · rename_i e
    rw [tru_bl e] at q
    exact ⟨true, q, k1 _ H1 (g1.pop1.pushC (S := H1) rfl rfl)⟩
  · exact k1.elim
def eNotV (a : EM) : EM := fun ρ => (a ρ).bnd fun t ρ => optO (t.d.tru.map fun c => .sh (.bl (!c))) ρ
theorem se_notV {ta : TE} {a : EM} (ha : SE ct Wx ta a) : SE ct Wx (tNotV ta) (eNotV a) := fun W S0 ρ σ tm vm H Q g k => by
  refine ha W S0 ρ σ tm vm H _ g ((Out.P_bnd.mp k).mono (fun t ρ1 k1 v H1 g1 => ?_) fun _ _ h => h)
  obtain ⟨z, e, k1⟩ := P_opt k1
  obtain ⟨c, e1, rfl⟩ := Option.map_eq_some_iff.mp e
  have q := g1.tmp
  rw [tru_bl e1] at q
  exact ⟨c, q, k1 _ H1 (g1.pop1.pushC (S := H1) rfl rfl)⟩
def eIf (c : EMb) (a b : EM) : EM := fun ρ => (c ρ).bnd fun k ρ => if k = true then a ρ else b ρ
theorem se_if {tc : TT} {ta tb : TE} {c : EMb} {a b : EM} (hc : SET ct Wx tc c) (ha : SE ct Wx ta a) (hb : SE ct Wx tb b) : SE ct Wx (tIf tc ta tb) (eIf c a b) := fun W S0 ρ σ tm vm H Q g k => by
  refine hc W S0 ρ σ tm vm H _ g ((Out.P_bnd.mp k).mono (fun k ρ1 k1 H1 g1 => ?_) fun _ _ h => h)
  cases k with
  | true => exact ha W S0 ρ1 σ tm vm H1 Q g1 k1
  | false => exact hb W S0 ρ1 σ tm vm H1 Q g1 k1
/-- an item of what an expression makes, at a reckoned place -/
def ixT (t u : T) : Option T := t.kids.bind fun l => u.d.intO.bind fun i => atI l i
theorem oe_ix {K : PySem.W.Frag} : OpE (rIx K) ixT := fun W S0 ρ σ tm vm H t u v w z Q g e k => by
  obtain ⟨l, e1, e⟩ := some_bind e
  obtain ⟨i, e2, e⟩ := some_bind e
  have q := g.tmp
  rw [intO_int e2] at q
  cases q
  obtain ⟨S, as, bs, g⟩ := g.pop1
  obtain ⟨v', r, b, c, h3, rfl, h4, h5⟩ := g.rt
  simp only [List.cons.injEq] at h3
  obtain ⟨rfl, rfl⟩ := h3
  have nd := g.nd
  have fs := g.fs
  have fw := g.fw
  refine h4.kid g.sh e1 e fun x ⟨b', k3, k2, k1⟩ => k x H ?_
  exact ⟨S, as, b' ++ c, g.s0, g.sh, g.wh, g.nw, g.re, ⟨x, vm, b', c, rfl, rfl, k1, h5⟩, by grind, by grind, by grind⟩
end
end Z

namespace Z
noncomputable section
open PySem L2
variable {ct : CT} {Wx : XW} {W S0 S H H' : Hp} {ρ : Env} {σ : St} {t u : T} {ts us tm : List T} {v w : V} {vs ws vm : List V} {as bs : List Addr} {i : Nat} {d : D}
/-! ### defs by what they make of data -/
inductive FOut where
  | bad | ok (t : T) (ts : List T) | ex (x : Exn)
def FOut.P (Φ : T → List T → Prop) (Ψ : Exn → Prop) : FOut → Prop
  | .bad => False
  | .ok t ts => Φ t ts
  | .ex x => Ψ x
abbrev FM := List T → FOut
/-- a def's promise -/
def spM (ct : CT) (n : Nat) (F : FM) : Sp := fun vs H Q E => vs.length = n ∧ ∃ ts W S, GX W S [] [] ts vs H ∧
  (F ts).P (fun t ts' => ts'.length = n ∧ ∀ v H', GX W S [] [] (t :: ts') (v :: vs) H' → Q v H') (fun x => ∀ c d H', GX W S [] [] [] [] H' → XOk ct x c d H' → E c d H')
def T.fz (t : T) : T := .sh t.d
theorem GX.frzs : ∀ {ts tm : List T} {vs vm : List V}, vs.length = ts.length → GX W S0 ρ σ (ts ++ tm) (vs ++ vm) H → GX W S0 ρ σ (ts.map T.fz ++ tm) (vs ++ vm) H
  | [], _, [], _, _, g => g
  | t :: ts, tm, v :: vs, vm, e, g => by
    have g1 : GX W S0 ρ σ (t.fz :: (ts ++ tm)) (v :: (vs ++ vm)) H := g.frz
    have g2 := GX.unrot g1 (by simpa using e)
    have g3 := GX.frzs (ts := ts) (vs := vs) (tm := t.fz :: tm) (vm := v :: vm) (by simpa using e) g2
    have g4 := GX.rot g3 (by simpa using e)
    exact g4
theorem GX.nil_call {ts : List T} {vs : List V} (g : GX W S0 ρ σ (ts ++ tm) (vs ++ vm) H) (e : vs.length = ts.length) {F : FM} {n : Nat} {Q : VK} {E : XK} (hn : ts.length = n)
    (k : (F ts).P (fun t ts' => ts'.length = n ∧ ∀ v H', GX W S0 ρ σ (t :: (ts' ++ tm)) (v :: (vs ++ vm)) H' → Q v H') (fun x => ∀ c d H', GX W S0 ρ σ tm vm H' → XOk ct x c d H' → E c d H')) : spM ct n F vs H Q E := by
  obtain ⟨W', S', g1, back⟩ := g.call e
  refine ⟨e.trans hn, ts, W', S', g1, ?_⟩
  generalize ho : F ts = o
  rw [ho] at k
  cases o with
  | bad => exact k
  | ok t ts' => exact ⟨k.1, fun v H' g2 => k.2 v H' (back (t :: ts') (v :: vs) H' (by simp [k.1, e, hn]) g2)⟩
  | ex x => exact fun c d H' g2 hx => k c d H' (back [] [] H' rfl g2) hx
/-- a call, all arguments handed over as they are read -/
def eCall (n : Nat) (F : FM) (a : EMs) : EM := fun ρ => (a ρ).bnd fun ts ρ => if ts.length = n then match F (ts.map T.fz) with
  | .ok t ts' => if ts'.length = n then .ok t ρ else .bad
  | .ex x => .ex x ρ
  | .bad => .bad else .bad
theorem se_call {n : Nat} {F : FM} {ta : TA} {a : EMs} (ha : SEA ct Wx ta a) : SE ct Wx (tCallS (spM ct n F) (WE Wx) ta) (eCall n F a) := fun W S0 ρ σ tm vm H Q g k => by
  refine ha W S0 ρ σ tm vm H _ g ((Out.P_bnd.mp k).mono (fun ts ρ1 k1 vs H1 e1 g1 => ?_) fun _ _ h => h)
  obtain ⟨hn, k1⟩ := P_ite k1
  refine (g1.frzs e1).nil_call (by simp [e1]) (by simpa using hn) ?_
  generalize F (ts.map T.fz) = o at k1 ⊢
  cases o with
  | bad => exact k1
  | ok t ts' =>
    obtain ⟨hl, k1⟩ := P_ite k1
    refine ⟨hl, fun v H' g2 => k1 v H' ?_⟩
    have g3 : GX W S0 ρ1 σ (ts' ++ t :: tm) (vs ++ v :: vm) H' := GX.unrot g2 (by omega)
    exact g3.pop (by omega)
  | ex x => exact fun c d H' g2 hx => k1 c d H' g2 hx
/-- the same where no exception is let out (in a comprehension) -/
theorem se_call0 {n : Nat} {F : FM} {ta : TA} {a : EMs} (ha : SEA ct (fun _ _ _ _ => False) ta a) : SE ct (fun _ _ _ _ => False) (tCall (spM ct n F) [] E0 ta) (eCall n F a) := fun W S0 ρ σ tm vm H Q g k => by
  have h := se_call (n := n) (F := F) ha W S0 ρ σ tm vm H Q g k
  unfold tCall
  unfold tCallS at h
  simpa using h
/-- .. with a name's value first, that the def may change -/
def eCallI (n i : Nat) (F : FM) (a : EMs) : EM := fun ρ => match ρ[i]? with
  | some (some _) => (a ρ).bnd fun ts ρ => match ρ[i]? with
    | some (some t0) => if ts.length + 1 = n then match F (t0 :: ts.map T.fz) with
      | .ok t (t1 :: ts') => if ts'.length + 1 = n then .ok t (ρ.set i (some t1)) else .bad
      | .ex x => .ex x (ρ.set i none)
      | _ => .bad else .bad
    | _ => .bad
  | _ => .bad
theorem se_callI {n i : Nat} {F : FM} {ta : TA} {a : EMs} (ha : SEA ct Wx ta a) : SE ct Wx (tCallS (spM ct n F) (WE Wx) (tCons (tVar i) ta)) (eCallI n i F a) := fun W S0 ρ σ tm vm H Q g k => by
  unfold eCallI at k
  split at k
  case h_2 => exact k.elim
  rename_i t00 e00
  obtain ⟨v0, hv0, _⟩ := g.take e00
  refine ⟨v0, hv0, ?_⟩
  refine ha W S0 ρ σ tm vm H _ g ((Out.P_bnd.mp k).mono (fun ts ρ1 k1 vs H1 e1 g1 => ?_) fun _ _ h => h)
  split at k1
  case h_2 => exact k1.elim
  rename_i t0 e0
  obtain ⟨hn, k1⟩ := P_ite k1
  obtain ⟨v1, hv1, g2⟩ := g1.take e0
  rw [hv0] at hv1
  cases hv1
  have g3 : GX W S0 (ρ1.set i none) σ (t0 :: (ts.map T.fz ++ tm)) (v0 :: (vs ++ vm)) H1 := by
    have h1 := GX.unrot g2 e1
    have h2 := GX.frzs e1 h1
    exact GX.rot h2 (by simpa using e1)
  refine GX.nil_call (ts := t0 :: ts.map T.fz) (vs := v0 :: vs) g3 (by simp [e1]) (by simpa using hn) ?_
  generalize F (t0 :: ts.map T.fz) = o at k1 ⊢
  cases o with
  | bad => exact k1
  | ok t ts' =>
    cases ts' with
    | nil => exact k1.elim
    | cons t1 ts' =>
      obtain ⟨hl, k1⟩ := P_ite k1
      refine ⟨by simpa using hl, fun v H' g4 => k1 v H' ?_⟩
      have g5 : GX W S0 (ρ1.set i none) σ (t :: t1 :: (ts' ++ tm)) (v :: v0 :: (vs ++ vm)) H' := g4
      have g7 : GX W S0 (ρ1.set i none) σ (t1 :: t :: (ts' ++ tm)) (v0 :: v :: (vs ++ vm)) H' := GX.rot (ts := [t]) (vs := [v]) g5 rfl
      have g8 := g7.back hv0
      rw [List.set_set] at g8
      have g9 : GX W S0 (ρ1.set i (some t1)) σ (ts' ++ t :: tm) (vs ++ v :: vm) H' := GX.unrot g8 (by omega)
      exact g9.pop (by omega)
  | ex x => exact fun c d H' g4 hx => k1 c d H' g4 hx
theorem se_callI0 {n i : Nat} {F : FM} {ta : TA} {a : EMs} (ha : SEA ct (fun _ _ _ _ => False) ta a) : SE ct (fun _ _ _ _ => False) (tCall (spM ct n F) [] E0 (tCons (tVar i) ta)) (eCallI n i F a) := fun W S0 ρ σ tm vm H Q g k => by
  have h := se_callI (n := n) (F := F) ha W S0 ρ σ tm vm H Q g k
  unfold tCall
  unfold tCallS at h
  simpa using h
/-- a call whose answer is read only: arguments are read where they stand -/
def pCall (n : Nat) (F : FM) (a : AM) : PM := fun ρ => (a ρ).bind fun ds => if ds.length = n then match F (ds.map T.sh) with
  | .ok t ts' => if ts'.length = n then some t.d else none
  | _ => none else none
theorem Rpl.gx {S : Hp} {ds : List D} {vs : List V} (h : Rpl S ds vs) : GX S S [] [] (ds.map T.sh) vs S :=
  ⟨S, [], [], fun _ _ h => h, fun _ _ h => h, fun _ _ h => h, fun _ _ h => h, ⟨rfl, rfl⟩, h.toRtl, .nil, by simp, by simp⟩
theorem sp_callG {n : Nat} {F : FM} {E : St → XK} {ta : TA} {a : AM} (ha : SPA ta a) : SP (tCallS (spM ct n F) E ta) (pCall n F a) := fun ρ σ H g d h Q q => by
  obtain ⟨ds, h1, h2⟩ := some_bind h
  obtain ⟨hn, h3⟩ := ite_some h2
  refine ha ρ σ H g ds h1 _ fun vs H1 e1 r1 => ⟨by rw [r1.len]; exact hn, ds.map T.sh, H1, H1, r1.gx, ?_⟩
  generalize hF : F (ds.map T.sh) = o at h3 ⊢
  cases o with
  | bad => cases h3
  | ex x => cases h3
  | ok t ts' =>
    obtain ⟨hl, h4⟩ := ite_some h3
    cases h4
    refine ⟨hl, fun v H' g2 => ?_⟩
    have e2 : Same H1 H' := by obtain ⟨_, _, _, g3⟩ := g2; exact g3.wh
    exact q v H' (e1.trans e2) g2.tmp
theorem sp_call0 {n : Nat} {F : FM} {ta : TA} {a : AM} (ha : SPA ta a) : SP (tCall (spM ct n F) [] E0 ta) (pCall n F a) := fun ρ σ H g d h Q q => by
  have h := sp_callG (ct := ct) (n := n) (F := F) (E := fun _ => E0) ha ρ σ H g d h Q q
  unfold tCall
  unfold tCallS at h
  simpa using h
end
end Z

namespace Z
noncomputable section
open PySem L2
variable {ct : CT} {Wx : XW} {W S0 S H H' : Hp} {ρ : Env} {σ σ0 : St} {t u : T} {ts us tm : List T} {v w : V} {vs ws vm : List V} {as bs : List Addr} {i : Nat} {d : D} {pin : List Nat} {D0 : Ends}
/-! ### statements -/
inductive SOut where
  | bad | nx (ρ : Env) | rt (t : T) (ρ : Env) | bk (ρ : Env) | ct (ρ : Env) | ex (x : Exn) (ρ : Env)
abbrev SM := Env → SOut
def Pin (pin : List Nat) (σ σ' : St) : Prop := ∀ i ∈ pin, σ'[i]? = σ[i]?
theorem Pin.refl : Pin pin σ σ := fun _ _ => rfl
theorem Pin.set {o : Option V} (h : Pin pin σ0 σ) (hi : i ∉ pin) : Pin pin σ0 (σ.set i o) := fun j hj => by
  rw [List.getElem?_set_ne (fun e => hi (by rw [e]; exact hj))]; exact h j hj
/-- what is wanted behind a statement -/
def SK (ct : CT) (Wx : XW) (W S0 : Hp) (pin : List Nat) (σ0 : St) (D : Ends) : SOut → Prop
  | .bad => False
  | .nx ρ => ∀ σ H, GX W S0 ρ σ [] [] H → Pin pin σ0 σ → D.nx σ H
  | .rt t ρ => ∀ v σ H, GX W S0 ρ σ [t] [v] H → Pin pin σ0 σ → D.rt v H
  | .bk ρ => ∀ σ H, GX W S0 ρ σ [] [] H → Pin pin σ0 σ → D.bk σ H
  | .ct ρ => ∀ σ H, GX W S0 ρ σ [] [] H → Pin pin σ0 σ → D.ct σ H
  | .ex x ρ => ∀ c d σ H, GX W S0 ρ σ [] [] H → Pin pin σ0 σ → XOk ct x c d H → Wx c d σ H
def SS (ct : CT) (Wx : XW) (pin : List Nat) (s : TS) (m : SM) : Prop := ∀ W S0 σ0 ρ σ H (D : Ends), GX W S0 ρ σ [] [] H → Pin pin σ0 σ → SK ct Wx W S0 pin σ0 D (m ρ) → s D σ H
def Out.st {α : Type} (o : Out α) (f : α → Env → SOut) : SOut := match o with
  | .bad => .bad
  | .ok a ρ => f a ρ
  | .ex x ρ => .ex x ρ
theorem SK.st {α : Type} {o : Out α} {f : α → Env → SOut} (p : Pin pin σ0 σ) (h : SK ct Wx W S0 pin σ0 D0 (o.st f)) : o.P (fun a ρ => SK ct Wx W S0 pin σ0 D0 (f a ρ)) (XE ct Wx W S0 σ [] []) := by
  cases o with
  | bad => exact h
  | ok a ρ => exact h
  | ex x ρ => exact fun c d H' g k => h c d σ H' g p k
def mSeq (a b : SM) : SM := fun ρ => match a ρ with
  | .nx ρ => b ρ
  | r => r
def mNil : SM := fun ρ => .nx ρ
theorem ss_nil : SS ct Wx pin tNext mNil := fun W S0 σ0 ρ σ H D g p k => k σ H g p
theorem ss_seq {s u : TS} {a b : SM} (ha : SS ct Wx pin s a) (hb : SS ct Wx pin u b) : SS ct Wx pin (tSeq s u) (mSeq a b) := fun W S0 σ0 ρ σ H D g p k => by
  refine ha W S0 σ0 ρ σ H { D with nx := u D } g p ?_
  unfold mSeq at k
  generalize a ρ = o at k ⊢
  cases o with
  | nx ρ' => exact fun σ' H' g' p' => hb W S0 σ0 ρ' σ' H' D g' p' k
  | _ => exact k
theorem GX.putA (g : GX W S0 ρ σ (t :: tm) (v :: vm) H) (i : Nat) : GX W S0 (ρ.set i (some t)) (σ.set i (some v)) tm vm H := by
  by_cases hi : i < ρ.length
  · exact g.put hi
  · rw [List.set_eq_of_length_le (by omega), List.set_eq_of_length_le (by rw [g.lenE]; omega)]; exact g.pop1
def mSet (i : Nat) (e : EM) : SM := fun ρ => (e ρ).st fun t ρ => .nx (ρ.set i (some t))
theorem ss_set {i : Nat} {te : TE} {e : EM} (he : SE ct Wx te e) (hi : i ∉ pin) : SS ct Wx pin (tAsg te (gName i)) (mSet i e) := fun W S0 σ0 ρ σ H D g p k => by
  refine he W S0 ρ σ [] [] H _ g ((SK.st p k).mono (fun t ρ1 k1 v H1 g1 => ?_) fun _ _ h => h)
  exact k1 _ _ (g1.putA i) (p.set hi)
def mDrop (e : EM) : SM := fun ρ => (e ρ).st fun _ ρ => .nx ρ
theorem ss_drop {te : TE} {e : EM} (he : SE ct Wx te e) : SS ct Wx pin (tDrop te) (mDrop e) := fun W S0 σ0 ρ σ H D g p k => by
  refine he W S0 ρ σ [] [] H _ g ((SK.st p k).mono (fun t ρ1 k1 v H1 g1 => ?_) fun _ _ h => h)
  exact k1 _ _ g1.pop1 p
def mRet (e : EM) : SM := fun ρ => (e ρ).st fun t ρ => .rt t ρ
theorem ss_ret {te : TE} {e : EM} (he : SE ct Wx te e) : SS ct Wx pin (tRet te) (mRet e) := fun W S0 σ0 ρ σ H D g p k => by
  refine he W S0 ρ σ [] [] H _ g ((SK.st p k).mono (fun t ρ1 k1 v H1 g1 => ?_) fun _ _ h => h)
  exact k1 v σ H1 g1 p
def mRetN : SM := fun ρ => .rt (.sh .non) ρ
theorem ss_retN : SS ct Wx pin tRetN mRetN := fun W S0 σ0 ρ σ H D g p k => k .non σ H (g.pushC (S := H) rfl rfl) p
def mBk : SM := fun ρ => .bk ρ
def mCt : SM := fun ρ => .ct ρ
theorem ss_bk : SS ct Wx pin tBreak mBk := fun W S0 σ0 ρ σ H D g p k => k σ H g p
theorem ss_ct : SS ct Wx pin tCont mCt := fun W S0 σ0 ρ σ H D g p k => k σ H g p
def mIf (c : EMb) (a b : SM) : SM := fun ρ => (c ρ).st fun k ρ => if k = true then a ρ else b ρ
theorem ss_if {tc : TT} {s u : TS} {c : EMb} {a b : SM} (hc : SET ct Wx tc c) (ha : SS ct Wx pin s a) (hb : SS ct Wx pin u b) : SS ct Wx pin (tIfS tc s u) (mIf c a b) := fun W S0 σ0 ρ σ H D g p k => by
  refine hc W S0 ρ σ [] [] H _ g ((SK.st p k).mono (fun c ρ1 k1 H1 g1 => ?_) fun _ _ h => h)
  cases c with
  | true => exact ha W S0 σ0 ρ1 σ H1 D g1 p k1
  | false => exact hb W S0 σ0 ρ1 σ H1 D g1 p k1
/-- a, b = e1, e2 -/
def mPar (i j : Nat) (a : EMs) : SM := fun ρ => (a ρ).st fun ts ρ => match ts with
  | [t, u] => .nx ((ρ.set i (some t)).set j (some u))
  | _ => .bad
theorem ss_par {i j : Nat} {ta : TA} {a : EMs} (ha : SEA ct Wx ta a) (hi : i ∉ pin) (hj : j ∉ pin) : SS ct Wx pin (tPar i j ta) (mPar i j a) := fun W S0 σ0 ρ σ H D g p k => by
  refine ha W S0 ρ σ [] [] H _ g ((SK.st p k).mono (fun ts ρ1 k1 vs H1 e1 g1 => ?_) fun _ _ h => h)
  match ts, vs, e1, k1, g1 with
  | [t, u], [v, w], _, k1, g1 => exact ⟨v, w, rfl, k1 _ _ ((g1.putA i).putA j) ((p.set hi).set hj)⟩
def mPar3 (i j l : Nat) (a : EMs) : SM := fun ρ => (a ρ).st fun ts ρ => match ts with
  | [t, u, w] => .nx (((ρ.set i (some t)).set j (some u)).set l (some w))
  | _ => .bad
theorem ss_par3 {i j l : Nat} {ta : TA} {a : EMs} (ha : SEA ct Wx ta a) (hi : i ∉ pin) (hj : j ∉ pin) (hl : l ∉ pin) : SS ct Wx pin (tPar3 i j l ta) (mPar3 i j l a) := fun W S0 σ0 ρ σ H D g p k => by
  refine ha W S0 ρ σ [] [] H _ g ((SK.st p k).mono (fun ts ρ1 k1 vs H1 e1 g1 => ?_) fun _ _ h => h)
  match ts, vs, e1, k1, g1 with
  | [t, u, z], [v, w, y], _, k1, g1 => exact ⟨v, w, y, rfl, k1 _ _ (((g1.putA i).putA j).putA l) (((p.set hi).set hj).set hl)⟩

/-! ### targets -/
theorem wipe_get {σ : St} {i : Nat} : ∀ {vs : List Nat}, i ∉ vs → (wipe σ vs)[i]? = σ[i]?
  | [], _ => rfl
  | v :: vs, h => by
    unfold wipe
    rw [List.getElem?_set_ne (fun e => h (by simp [e])), wipe_get (fun k => h (by simp [k]))]
theorem wipe_in {σ : St} {i : Nat} : ∀ {vs : List Nat}, i ∈ vs → i < σ.length → (wipe σ vs)[i]? = some none
  | v :: vs, h, hl => by
    unfold wipe
    by_cases e : v = i
    · subst e
      rw [List.getElem?_set_self (by rw [wipe_length]; exact hl)]
    · rw [List.getElem?_set_ne e]
      exact wipe_in (by rcases List.mem_cons.mp h with h | h; exact absurd h.symm e; exact h) hl
theorem wipe_set {σ : St} {i : Nat} {o : Option V} {vs : List Nat} (h : i ∈ vs) : wipe (σ.set i o) vs = wipe σ vs := by
  apply List.ext_getElem?
  intro j
  by_cases hj : j ∈ vs
  · by_cases hl : j < σ.length
    · rw [wipe_in hj (by simpa using hl), wipe_in hj hl]
    · rw [List.getElem?_eq_none (by rw [wipe_length, List.length_set]; omega), List.getElem?_eq_none (by rw [wipe_length]; omega)]
  · rw [wipe_get hj, wipe_get hj, List.getElem?_set_ne (fun e => hj (by rw [← e]; exact h))]
abbrev BM := T → Env → Option Env
def SG (slots : List Nat) (g : TG) (b : BM) : Prop := ∀ W S0 ρ σ tm vm H t v ρ', GX W S0 ρ σ (t :: tm) (v :: vm) H → b t ρ = some ρ' → ∀ Q : St → Hp → Prop, (∀ σ', GX W S0 ρ' σ' tm vm H → wipe σ' slots = wipe σ slots → Q σ' H) → g v σ H Q
def bName (i : Nat) : BM := fun t ρ => some (ρ.set i (some t))
theorem sg_name {i : Nat} : SG [i] (gName i) (bName i) := fun W S0 ρ σ tm vm H t v ρ' g e Q q => by
  cases e
  exact q _ (g.putA i) (wipe_set (by simp))
def gNames : List Nat → TGs
  | [] => gNil
  | i :: is => gCons (gName i) (gNames is)
def bNames : List Nat → List T → Env → Option Env
  | [], [], ρ => some ρ
  | i :: is, t :: ts, ρ => bNames is ts (ρ.set i (some t))
  | _, _, _ => none
theorem sg_names {slots : List Nat} : ∀ {is : List Nat} {ts : List T} {vs : List V} {ρ ρ' : Env} {σ : St}, (∀ i ∈ is, i ∈ slots) → vs.length = ts.length → GX W S0 ρ σ (ts ++ tm) (vs ++ vm) H → bNames is ts ρ = some ρ' → ∀ Q : St → Hp → Prop, (∀ σ', GX W S0 ρ' σ' tm vm H → wipe σ' slots = wipe σ slots → Q σ' H) → gNames is vs σ H Q
  | [], [], [], ρ, ρ', σ, _, _, g, e, Q, q => by cases e; exact ⟨rfl, q σ g rfl⟩
  | i :: is, t :: ts, v :: vs, ρ, ρ', σ, hs, hl, g, e, Q, q => by
    refine ⟨v, vs, rfl, ?_⟩
    exact sg_names (ρ := ρ.set i (some t)) (σ := σ.set i (some v)) (fun j hj => hs j (by simp [hj])) (by simpa using hl) (GX.putA (tm := ts ++ tm) (vm := vs ++ vm) g i) e Q fun σ' g' k => q σ' g' (k.trans (wipe_set (hs i (by simp))))
  | [], _ :: _, _, _, _, _, _, _, _, e, _, _ => by cases e
  | _ :: _, [], _, _, _, _, _, _, _, e, _, _ => by cases e
  | _, _ :: _, [], _, _, _, _, hl, _, _, _, _ => by simp at hl
  | _, [], _ :: _, _, _, _, _, hl, _, _, _, _ => by simp at hl
def bTup (is : List Nat) : BM := fun t ρ => t.elsT.bind fun ts => bNames is ts ρ
theorem bNames_len : ∀ {is : List Nat} {ts : List T} {ρ ρ' : Env}, bNames is ts ρ = some ρ' → ts.length = is.length
  | [], [], _, _, _ => rfl
  | i :: is, t :: ts, ρ, ρ', e => by
    have := bNames_len (is := is) (ts := ts) (ρ := ρ.set i (some t)) (ρ' := ρ') e
    simp only [List.length_cons]
    omega
  | [], _ :: _, _, _, e => by cases e
  | _ :: _, [], _, _, e => by cases e
theorem sg_tup {K : PySem.W.Frag} {is : List Nat} {n : Nat} (hn : n = is.length) : SG is (gTup K n (gNames is)) (bTup is) := fun W S0 ρ σ tm vm H t v ρ' g e Q q => by
  obtain ⟨ts, e1, e2⟩ := some_bind e
  obtain ⟨a, xs, rfl, h1, h2, g1⟩ := g.elsT e1
  exact ⟨a, xs, rfl, .of h1, by rw [h2, bNames_len e2, hn], sg_names (fun _ h => h) h2 g1 e2 Q q⟩
def mUnp (b : BM) (e : EM) : SM := fun ρ => (e ρ).st fun t ρ => match b t ρ with
  | some ρ => .nx ρ
  | none => .bad
theorem Pin.wipe {slots : List Nat} {σ' : St} (h : Pin pin σ0 σ) (e : L2.wipe σ' slots = L2.wipe σ slots) (hs : ∀ i ∈ slots, i ∉ pin) : Pin pin σ0 σ' := fun j hj => by
  have hn : j ∉ slots := fun k => hs j k hj
  have := congrArg (fun l => l[j]?) e
  simp only [wipe_get hn] at this
  rw [this]; exact h j hj
theorem ss_unp {slots : List Nat} {te : TE} {e : EM} {g : TG} {b : BM} (he : SE ct Wx te e) (hg : SG slots g b) (hs : ∀ i ∈ slots, i ∉ pin) : SS ct Wx pin (tAsg te g) (mUnp b e) := fun W S0 σ0 ρ σ H D gx p k => by
  refine he W S0 ρ σ [] [] H _ gx ((SK.st p k).mono (fun t ρ1 k1 v H1 g1 => ?_) fun _ _ h => h)
  split at k1
  · rename_i ρ' e1
    exact hg W S0 ρ1 σ [] [] H1 t v ρ' g1 e1 _ fun σ' g2 e2 => k1 σ' H1 g2 (p.wipe e2 hs)
  · exact k1.elim
/-! ### owned lists change -/
/-- x[k] = e -/
def mStore (i : Nat) (e : EM) (ix : PM) : SM := fun ρ => (e ρ).st fun t ρ => match ρ[i]?, ix ρ with
  | some (some (.ol ts)), some (.int k) => match ixN ts.length k with
    | some j => .nx (ρ.set i (some (.ol (ts.set j t))))
    | none => .bad
  | _, _ => .bad
theorem ss_store {i : Nat} {te ti : TE} {e : EM} {ix : PM} (he : SE ct Wx te e) (hx : SP ti ix) : SS ct Wx pin (tAsg te (gSub (tVar i) ti rSetL)) (mStore i e ix) := fun W S0 σ0 ρ σ H D g p k => by
  refine he W S0 ρ σ [] [] H _ g ((SK.st p k).mono (fun t ρ1 k1 v H1 g1 => ?_) fun _ _ h => h)
  split at k1
  case h_2 => exact k1.elim
  rename_i ts k e1 e2
  split at k1
  case h_2 => exact k1.elim
  rename_i j e3
  obtain ⟨x, hx1, g2⟩ := g1.take e1
  refine ⟨x, hx1, hx ρ1 σ H1 g1.rv _ e2 _ fun y H2 es r => ?_⟩
  cases r
  obtain ⟨a, xs, rfl, h1, h2, mk⟩ := (g2.ext es).mutL
  refine ⟨a, xs, k, j, rfl, rfl, h1, by rw [h2]; exact e3, ?_⟩
  have hj : j < ts.length := (ixN_seq e3).2.1
  have g3 := mk (ts.set j t) [] (xs.set j v) [] (fun S H b c hb hc => by
    obtain ⟨v', r, c1, c2, h3, rfl, h4, h5⟩ := hc
    cases h3
    obtain ⟨_, rfl⟩ := h5
    obtain ⟨w, b1, d1, d2, k1, rfl, k2, k3⟩ := hb.at (List.getElem?_eq_getElem hj)
    refine ⟨b1 ++ c1 ++ d2, [], k3 S H t v c1 (fun _ _ h => h) (fun _ _ => rfl) h4, ⟨rfl, rfl⟩, by grind, by grind⟩)
  have g4 := g3.back hx1
  rw [List.set_set] at g4
  exact k1 _ _ g4 p
/-- x.append(e) -/
def mApp (i : Nat) (e : EM) : SM := fun ρ => (e ρ).st fun t ρ => match ρ[i]? with
  | some (some (.ol ts)) => if ts.length < lim then .nx (ρ.set i (some (.ol (ts ++ [t])))) else .bad
  | _ => .bad
theorem SK_ite {c : Prop} [Decidable c] {o : SOut} (h : SK ct Wx W S0 pin σ0 D0 (if c then o else .bad)) : c ∧ SK ct Wx W S0 pin σ0 D0 o := by
  by_cases k : c
  · rw [if_pos k] at h; exact ⟨k, h⟩
  · rw [if_neg k] at h; exact h.elim
def mAppG (i : Nat) (e : EM) : SM := fun ρ => match ρ[i]? with
  | some (some (.ol _)) => mApp i e ρ
  | _ => .bad
/-- the list at a name that an expression evaluated ahead of others has read -/
theorem GX.refL (g : GX W S0 ρ σ tm vm H) (e : ρ[i]? = some (some (.ol ts))) : ∃ a xs, σ[i]? = some (some (.ref a)) ∧ H a = some (.lst xs) ∧ xs.length = ts.length := by
  obtain ⟨v, e1, g1⟩ := g.take e
  obtain ⟨a, xs, rfl, h1, h2, _⟩ := g1.mutL
  exact ⟨a, xs, e1, h1, h2⟩
theorem ss_app {K : PySem.W.Frag} {i : Nat} {te : TE} {e : EM} (he : SE ct Wx te e) : SS ct Wx pin (tDrop (tBM K "list" rAppend (tVar i) (tCons te tNil))) (mAppG i e) := fun W S0 σ0 ρ σ H D g p k => by
  unfold mAppG at k
  split at k
  case h_2 => exact k.elim
  rename_i ts0 e0
  obtain ⟨a0, xs0, ea, h0, _⟩ := g.refL e0
  refine ⟨.ref a0, ea, .inl ⟨rfl, xs0, .of h0⟩, ?_⟩
  refine he W S0 ρ σ [] [] H _ g ((SK.st p k).mono (fun t ρ1 k1 v H1 g1 => ?_) fun _ _ h => h)
  split at k1
  case h_2 => exact k1.elim
  rename_i ts e1
  obtain ⟨hz, k1⟩ := SK_ite k1
  obtain ⟨x, hx1, g2⟩ := g1.take e1
  rw [ea] at hx1
  cases hx1
  obtain ⟨a, xs, e5, h1, h2, mk⟩ := g2.mutL
  cases e5
  refine ⟨a0, xs, v, rfl, rfl, h1, lim_lt (by omega), ?_⟩
  have g3 := mk (ts ++ [t]) [] (xs ++ [v]) [] (fun S H b c hb hc => by
    obtain ⟨v', r, c1, c2, h3, rfl, h4, h5⟩ := hc
    cases h3
    obtain ⟨_, rfl⟩ := h5
    have h6 : Rtl S H [t] [v] c1 := ⟨v, [], c1, [], rfl, by simp, h4, rfl, rfl⟩
    exact ⟨b ++ c1, [], hb.append h6, ⟨rfl, rfl⟩, by grind, by grind⟩)
  have g4 := g3.back ea
  rw [List.set_set] at g4
  exact k1 _ _ g4 p
/-- x.extend(e) -/
def mExt (i : Nat) (e : EM) : SM := fun ρ => match ρ[i]? with
  | some (some (.ol _)) => (e ρ).st fun t ρ => match ρ[i]? with
    | some (some (.ol ts)) => match t.els with
      | some us => if ts.length + us.length ≤ lim then .nx (ρ.set i (some (.ol (ts ++ us)))) else .bad
      | none => .bad
    | _ => .bad
  | _ => .bad
theorem ss_ext {K : PySem.W.Frag} {i : Nat} {te : TE} {e : EM} (he : SE ct Wx te e) : SS ct Wx pin (tDrop (tBM K "list" rExtend (tVar i) (tCons te tNil))) (mExt i e) := fun W S0 σ0 ρ σ H D g p k => by
  unfold mExt at k
  split at k
  case h_2 => exact k.elim
  rename_i ts0 e0
  obtain ⟨a0, xs0, ea, h0, _⟩ := g.refL e0
  refine ⟨.ref a0, ea, .inl ⟨rfl, xs0, .of h0⟩, ?_⟩
  refine he W S0 ρ σ [] [] H _ g ((SK.st p k).mono (fun t ρ1 k1 v H1 g1 => ?_) fun _ _ h => h)
  split at k1
  case h_2 => exact k1.elim
  rename_i ts e1
  split at k1
  case h_2 => exact k1.elim
  rename_i us e2
  obtain ⟨hz, k1⟩ := SK_ite k1
  obtain ⟨b, ys, rfl, h3, h4, g1'⟩ := g1.els e2
  obtain ⟨x, hx1, g2⟩ := g1'.take e1
  rw [ea] at hx1
  cases hx1
  obtain ⟨a, xs, e5, h1, h2, mk⟩ := g2.mutL
  cases e5
  refine ⟨a0, b, xs, ys, rfl, rfl, h1, h3, lim_le (by omega), ?_⟩
  have g3 := mk (ts ++ us) [] (xs ++ ys) [] (fun S H b c hb hc => by
    have hc' : Rtl S H us ys c := by simpa using hc
    exact ⟨b ++ c, [], hb.append hc', ⟨rfl, rfl⟩, by grind, by grind⟩)
  have g4 := g3.back ea
  rw [List.set_set] at g4
  exact k1 _ _ g4 p
/-- x.pop() -/
def ePop (i : Nat) : EM := fun ρ => match ρ[i]? with
  | some (some (.ol ts)) => match ts[ts.length - 1]? with
    | some t => .ok t (ρ.set i (some (.ol ts.dropLast)))
    | none => .bad
  | _ => .bad
theorem Rtl.last {S H : Hp} {ts : List T} {vs : List V} {b : List Addr} {t : T} (h : Rtl S H ts vs b) (e : ts[ts.length - 1]? = some t) : ∃ v b' c, vs[vs.length - 1]? = some v ∧ Rtl S H ts.dropLast vs.dropLast b' ∧ Rt S H t v c ∧ b = b' ++ c := by
  have hl := h.len
  have hp : 0 < ts.length := by
    rcases Nat.eq_zero_or_pos ts.length with k | k
    · rw [List.length_eq_zero_iff.mp k] at e; simp at e
    · exact k
  have e1 : ts = ts.dropLast ++ [t] := by
    have := List.dropLast_concat_getLast (l := ts) (by intro k; rw [k] at hp; simp at hp)
    have h2 := (List.getElem?_eq_some_iff.mp e).2
    rw [List.getLast_eq_getElem, h2] at this
    exact this.symm
  have hv : vs ≠ [] := by intro k; rw [k] at hl; simp at hl; omega
  have e2 : vs = vs.dropLast ++ [vs.getLast hv] := (List.dropLast_concat_getLast hv).symm
  rw [e1, e2] at h
  obtain ⟨b', c, rfl, h1, h2⟩ := Rtl.split (by simp [hl]) h
  obtain ⟨w, r, c1, c2, h3, rfl, h4, h5⟩ := h2
  cases h3
  obtain ⟨_, rfl⟩ := h5
  refine ⟨_, b', c1, ?_, h1, h4, by simp⟩
  rw [List.getLast_eq_getElem]
  exact List.getElem?_eq_getElem _
theorem se_pop {K : PySem.W.Frag} {i : Nat} : SE ct Wx (tBM0 K "list" rPop (tVar i)) (ePop i) := fun W S0 ρ σ tm vm H Q g k => by
  unfold ePop at k
  split at k
  case h_2 => exact k.elim
  rename_i ts e1
  split at k
  case h_2 => exact k.elim
  rename_i t e2
  obtain ⟨x, hx1, g2⟩ := g.take e1
  obtain ⟨a, xs, rfl, h1, h2, mk⟩ := g2.mutL
  obtain ⟨y, hy⟩ : ∃ y, xs[xs.length - 1]? = some y := by
    have := (List.getElem?_eq_some_iff.mp e2).1
    exact ⟨_, List.getElem?_eq_getElem (by omega)⟩
  refine ⟨.ref a, hx1, .inl ⟨rfl, xs, .of h1⟩, a, xs, y, rfl, rfl, h1, hy, ?_⟩
  have g3 := mk ts.dropLast (t :: tm) xs.dropLast (y :: vm) (fun S H b c hb hc => by
    obtain ⟨w, b', c', k1, k2, k3, rfl⟩ := hb.last e2
    rw [hy] at k1
    cases k1
    exact ⟨b', c' ++ c, k2, ⟨y, vm, c', c, rfl, rfl, k3, hc⟩, by grind, by grind⟩)
  have g4 := g3.back hx1
  rw [List.set_set] at g4
  exact k y _ g4
/-- x.pop(k) -/
def ePopAt (i : Nat) (e : EM) : EM := fun ρ => match ρ[i]? with
  | some (some (.ol _)) => (e ρ).bnd fun u ρ => match ρ[i]? with
    | some (some (.ol ts)) => match u.d.intO with
      | some k => if InR k then match seqIndex? k ts.length with
        | some j => match ts[j]? with
          | some t => .ok t (ρ.set i (some (.ol (ts.eraseIdx j))))
          | none => .bad
        | none => .bad else .bad
      | none => .bad
    | _ => .bad
  | _ => .bad
theorem Rtl.erase {S H : Hp} : ∀ {ts : List T} {vs : List V} {b : List Addr} {j : Nat} {t : T}, Rtl S H ts vs b → ts[j]? = some t → ∃ v b1 c b2, vs[j]? = some v ∧ b = b1 ++ c ++ b2 ∧ Rt S H t v c ∧ Rtl S H (ts.eraseIdx j) (vs.eraseIdx j) (b1 ++ b2)
  | [], _, _, _, _, _, e => by simp at e
  | u :: l, _, _, 0, t, ⟨v, r, b, c, h1, h2, h3, h4⟩, e => by
    subst h1 h2
    simp at e
    subst e
    exact ⟨v, [], b, c, rfl, rfl, h3, h4⟩
  | u :: l, _, _, j + 1, t, ⟨v, r, b, c, h1, h2, h3, h4⟩, e => by
    subst h1 h2
    simp at e
    obtain ⟨w, b1, c1, b2, e1, rfl, e3, e4⟩ := Rtl.erase h4 e
    exact ⟨w, b ++ b1, c1, b2, by simpa using e1, by simp [List.append_assoc], e3, ⟨v, _, b, b1 ++ b2, rfl, by simp [List.append_assoc], h3, e4⟩⟩
theorem se_popAt {K : PySem.W.Frag} {i : Nat} {te : TE} {e : EM} (he : SE ct Wx te e) : SE ct Wx (tBM K "list" rPopAt (tVar i) (tCons te tNil)) (ePopAt i e) := fun W S0 ρ σ tm vm H Q g k => by
  unfold ePopAt at k
  split at k
  case h_2 => exact k.elim
  rename_i ts0 e0
  obtain ⟨a0, xs0, ea, h0, _⟩ := g.refL e0
  refine ⟨.ref a0, ea, .inl ⟨rfl, xs0, .of h0⟩, ?_⟩
  refine he W S0 ρ σ tm vm H _ g ((Out.P_bnd.mp k).mono (fun u ρ1 k1 v H1 g1 => ?_) fun _ _ h => h)
  split at k1
  case h_2 => exact k1.elim
  rename_i ts e1
  split at k1
  case h_2 => exact k1.elim
  rename_i kk e2
  obtain ⟨hz0, k1⟩ := P_ite k1
  have hz1 : -(2 ^ 63) ≤ kk := by unfold InR at hz0; omega
  have hz2 : kk < 2 ^ 63 := by unfold InR at hz0; omega
  split at k1
  case h_2 => exact k1.elim
  rename_i j e3
  split at k1
  case h_2 => exact k1.elim
  rename_i t e4
  have q := g1.tmp
  rw [intO_int e2] at q
  cases q
  obtain ⟨x, hx1, g2⟩ := g1.pop1.take e1
  rw [ea] at hx1
  cases hx1
  obtain ⟨a, xs, e5, h1, h2, mk⟩ := g2.mutL
  cases e5
  obtain ⟨y, hy⟩ : ∃ y, xs[j]? = some y := by
    have := (List.getElem?_eq_some_iff.mp e4).1
    exact ⟨_, List.getElem?_eq_getElem (by omega)⟩
  refine ⟨a0, xs, kk, j, y, rfl, rfl, h1, hz1, hz2, by rw [h2]; exact e3, hy, ?_⟩
  have g3 := mk (ts.eraseIdx j) (t :: tm) (xs.eraseIdx j) (y :: vm) (fun S H b c hb hc => by
    obtain ⟨w, b1, c', b2, k1, rfl, k3, k4⟩ := hb.erase e4
    rw [hy] at k1
    cases k1
    exact ⟨b1 ++ b2, c' ++ c, k4, ⟨y, vm, c', c, rfl, rfl, k3, hc⟩, by grind, by grind⟩)
  have g4 := g3.back ea
  rw [List.set_set] at g4
  exact k1 y _ g4
/-- x += e, ints -/
def mAug (i : Nat) (f : Int → Int → Int) (e : EM) : SM := fun ρ => match ρ[i]? with
  | some (some (.sh (.int a))) => (e ρ).st fun t ρ => match t.d.intO with
    | some b => .nx (ρ.set i (some (.sh (.int (f a b)))))
    | none => .bad
  | _ => .bad
theorem ss_aug {i : Nat} {te : TE} {e : EM} {f : Int → Int → Int} (he : SE ct Wx te e) (hi : i ∉ pin) : SS ct Wx pin (tAug i te (ipI f)) (mAug i f e) := fun W S0 σ0 ρ σ H D g p k => by
  unfold mAug at k
  split at k
  case h_2 => exact k.elim
  rename_i a e0
  obtain ⟨v0, hv0, r0⟩ := g.rv i _ e0
  cases r0
  refine ⟨_, hv0, he W S0 ρ σ [] [] H _ g ((SK.st p k).mono (fun t ρ1 k1 v H1 g1 => ?_) fun _ _ h => h)⟩
  split at k1
  case h_2 => exact k1.elim
  rename_i b e1
  have q := g1.tmp
  rw [intO_int e1] at q
  refine ⟨a, b, rfl, q, k1 _ _ ?_ (p.set hi)⟩
  exact GX.putA (g1.pop1.pushC (S := H1) (d := .int (f a b)) (v := .int (f a b)) rfl rfl) i
end
end Z

namespace Z
noncomputable section
open PySem L2
variable {ct : CT} {Wx : XW} {W S0 S S1 H H' : Hp} {ρ ρ' : Env} {σ σ0 : St} {t u : T} {ts us tm its : List T} {v w : V} {vs ws vm : List V} {as bs : List Addr} {i : Nat} {d : D} {pin : List Nat} {D0 : Ends} {J : It}
def Up (W S0 S : Hp) : Prop := Same S0 S ∧ ∀ a, W a ≠ none → S a ≠ none → S0 a ≠ none
theorem G.up (g : G W S0 S H ρ σ tm vm as bs) : Up W S0 S ∧ G W S S H ρ σ tm vm as bs := ⟨⟨g.s0, g.nw⟩, fun _ _ h => h, g.sh, g.wh, fun _ _ h => h, g.re, g.rt, g.nd, g.fs, g.fw⟩
theorem Up.trans (a : Up W S0 S) (b : Up W S S1) : Up W S0 S1 := ⟨a.1.trans b.1, fun x h k => a.2 x h (b.2 x h k)⟩
theorem GX.join (e : Up W S0 S) (g : GX W S ρ σ tm vm H) : GX W S0 ρ σ tm vm H := by
  obtain ⟨S1, as, bs, g⟩ := g
  exact ⟨S1, as, bs, e.1.trans g.s0, g.sh, g.wh, fun a h k => e.2 a h (g.nw a h k), g.re, g.rt, g.nd, g.fs, g.fw⟩
theorem GX.up (g : GX W S0 ρ σ tm vm H) : ∃ S as bs, Up W S0 S ∧ G W S S H ρ σ tm vm as bs := by
  obtain ⟨S, as, bs, g⟩ := g
  exact ⟨S, as, bs, g.up.1, g.up.2⟩
theorem GX.under (g : GX W S ρ σ tm vm H) : Same S H := by
  obtain ⟨S1, as, bs, g⟩ := g
  exact fun a o h => g.sh a o (g.s0 a o h)
theorem XE.up {x : Exn} (e : Up W S0 S) (h : XE ct Wx W S0 σ tm vm x ρ) : XE ct Wx W S σ tm vm x ρ := fun c d H' g k => h c d H' (g.join e) k
theorem SK.up {o : SOut} (e : Up W S0 S) (h : SK ct Wx W S0 pin σ0 D0 o) : SK ct Wx W S pin σ0 D0 o := by
  cases o with
  | bad => exact h
  | nx ρ => exact fun σ H g p => h σ H (g.join e) p
  | rt t ρ => exact fun v σ H g p => h v σ H (g.join e) p
  | bk ρ => exact fun σ H g p => h σ H (g.join e) p
  | ct ρ => exact fun σ H g p => h σ H (g.join e) p
  | ex x ρ => exact fun c d σ H g p k => h c d σ H (g.join e) p k

/-! ### what is walked -/
structure JOk (S : Hp) (J : It) (its : List T) : Prop where
  go : ∀ i H, Same S H → i < its.length → J.go i H
  stop : ∀ i H, Same S H → its.length ≤ i → J.stop i H
  yld : ∀ i H x H', Same S H → i < its.length → J.yld i H x H' → ∃ t, its[i]? = some t ∧ ((H' = H ∧ ∃ d, t = .sh d ∧ Rp S d x) ∨ ∃ p es vs, t = .ot (es.map .sh) ∧ x = .ref p ∧ H p = none ∧ H' = upd H p (.tup vs) ∧ Rpl S es vs)
theorem GX.item {x : V} (g : GX W S ρ σ tm vm H) (h : (H' = H ∧ ∃ d, t = .sh d ∧ Rp S d x) ∨ ∃ p es vs, t = .ot (es.map .sh) ∧ x = .ref p ∧ H p = none ∧ H' = upd H p (.tup vs) ∧ Rpl S es vs) : GX W S ρ σ (t :: tm) (x :: vm) H' := by
  obtain ⟨S1, as, bs, g⟩ := g
  rcases h with ⟨rfl, d, rfl, h⟩ | ⟨p, es, vs, rfl, rfl, hp, rfl, h⟩
  · exact g.pushS (h.mono g.s0)
  · exact (g.pushSs (h.mono g.s0)).newT (by simp [h.len]) hp
abbrev IM := Env → Out (List T)
def SI (ct : CT) (Wx : XW) (wi : TI) (m : IM) : Prop := ∀ W S0 ρ σ tm vm H (R : It → Hp → Prop), GX W S0 ρ σ tm vm H → (m ρ).P (fun its ρ' => ∀ J S H', Up W S0 S → GX W S ρ' σ tm vm H' → JOk S J its → R J H') (XE ct Wx W S0 σ tm vm) → wi σ H R
def iSeq (K : PySem.W.Frag) (tl : TE) : TI := fun σ H R => tl σ H fun x H1 => ∃ a, x = .ref a ∧ (((∃ xs, SqL K H1 a xs) ∧ R (Itl K a) H1) ∨ ((∃ xs, SqT K H1 a xs) ∧ R (Itt K a) H1))
theorem pi_seq {X : Cx} {tg l : Expr} {tl : TE} (hl : PE X l tl) : PI X tg l (iSeq X.K tl) := by
  refine ⟨fun pins s σ H R I h => ?_⟩
  refine thn (hl.run pins s σ H _ I h) fun v s1 ⟨x, H1, I1, r1, q1⟩ => ?_
  obtain ⟨a, e, q⟩ := q1
  subst e
  cases r1
  rcases q with ⟨⟨xs, hq⟩, q⟩ | ⟨⟨xs, hq⟩, q⟩
  · obtain ⟨its, rv, p, hz⟩ := I1.list hq
    refine wpAny_pyIter_list p.isList ?_
    refine ⟨s1.heap.objs.size, [s1.heap.objs.size], _, _, H1, rfl, I1.kept (t' := s1.toks) fun b o e => Heap.get?_push_of_some _ e, turn_list a _, ⟨_, Heap.get?_push_size _ rfl, rfl, rfl⟩, fun b hb => ?_, q⟩
    have e : b = s1.heap.objs.size := by simpa using hb
    subst e
    exact I1.fpOk (Nat.le_refl _) (I1.hok.fresh (Nat.le_refl _))
  · obtain ⟨its, rv, p, hz⟩ := I1.tuple hq
    refine wpAny_pyIter_tuple (show s1.heap.IsTuple a its.toArray from p) ?_
    refine ⟨s1.heap.objs.size, [s1.heap.objs.size], _, _, H1, rfl, I1.kept (t' := s1.toks) fun b o e => Heap.get?_push_of_some _ e, turn_tuple a _, ⟨_, Heap.get?_push_size _ rfl, rfl, rfl⟩, fun b hb => ?_, q⟩
    have e : b = s1.heap.objs.size := by simpa using hb
    subst e
    exact I1.fpOk (Nat.le_refl _) (I1.hok.fresh (Nat.le_refl _))
theorem jok_list {K : PySem.W.Frag} {a : Addr} {l : List D} {xs : List V} (h : S a = some (.lst xs)) (r : Rpl S l xs) : JOk S (Itl K a) (l.map .sh) where
  go i H e hi := ⟨xs, xs[i]'(by simpa [r.len] using hi), .of (e _ _ h), List.getElem?_eq_getElem _⟩
  stop i H e hi := ⟨xs, .of (e _ _ h), by simpa [r.len] using hi⟩
  yld i H x H' e hi y := by
    obtain ⟨e1, y⟩ := y
    have hx := y xs (.of (e _ _ h))
    have hl : i < l.length := by simpa using hi
    obtain ⟨v, e2, e3⟩ := r.get (List.getElem?_eq_getElem hl)
    rw [hx] at e2
    cases e2
    exact ⟨.sh l[i], by simp [hl], .inl ⟨e1, _, rfl, e3⟩⟩
theorem jok_tup {K : PySem.W.Frag} {a : Addr} {l : List D} {xs : List V} (h : S a = some (.tup xs)) (r : Rpl S l xs) : JOk S (Itt K a) (l.map .sh) where
  go i H e hi := ⟨xs, xs[i]'(by simpa [r.len] using hi), .of (e _ _ h), List.getElem?_eq_getElem _⟩
  stop i H e hi := ⟨xs, .of (e _ _ h), by simpa [r.len] using hi⟩
  yld i H x H' e hi y := by
    obtain ⟨e1, y⟩ := y
    have hx := y xs (.of (e _ _ h))
    have hl : i < l.length := by simpa using hi
    obtain ⟨v, e2, e3⟩ := r.get (List.getElem?_eq_getElem hl)
    rw [hx] at e2
    cases e2
    exact ⟨.sh l[i], by simp [hl], .inl ⟨e1, _, rfl, e3⟩⟩
def rangeT (lo : Int) (n : Nat) : List T := (List.range n).map fun k : Nat => .sh (.int (lo + (k : Int)))
theorem rangeT_len {lo : Int} {n : Nat} : (rangeT lo n).length = n := by simp [rangeT]
theorem jok_range {lo : Int} {n : Nat} : JOk S (Itr lo n) (rangeT lo n) where
  go i H e hi := by
    show i < n
    simpa [rangeT] using hi
  stop i H e hi := by
    show n ≤ i
    simpa [rangeT] using hi
  yld i H x H' e hi y := by
    obtain ⟨e1, rfl⟩ := y
    have hi' : i < n := by simpa [rangeT] using hi
    exact ⟨.sh (.int (lo + i)), by simp [rangeT, hi'], .inl ⟨e1, _, rfl, rfl⟩⟩
def D.seq : D → Option (List D)
  | .lst l => some l
  | .tup l => some l
  | _ => none
def iE (e : EM) : IM := fun ρ => (e ρ).bnd fun t ρ => optO (t.d.seq.map fun l => l.map .sh) ρ
/-- a frozen temporary -/
theorem GX.frozen (g : GX W S0 ρ σ (t :: tm) (v :: vm) H) : ∃ S, Up W S0 S ∧ Rp S t.d v ∧ GX W S ρ σ tm vm H := by
  obtain ⟨S, as, bs, hu, g⟩ := g.frz.up
  obtain ⟨v', r, b, c, h3, h0, ⟨h4, h4'⟩, h5⟩ := g.rt
  cases h3
  exact ⟨S, hu, h4', GX.pop1 ⟨S, as, bs, g⟩⟩
theorem si_e {K : PySem.W.Frag} {te : TE} {e : EM} (he : SE ct Wx te e) : SI ct Wx (iSeq K te) (iE e) := fun W S0 ρ σ tm vm H R g k => by
  refine he W S0 ρ σ tm vm H _ g ((Out.P_bnd.mp k).mono (fun t ρ1 k1 v H1 g1 => ?_) fun _ _ h => h)
  obtain ⟨its, e1, k1⟩ := P_opt k1
  obtain ⟨l, e2, rfl⟩ := Option.map_eq_some_iff.mp e1
  obtain ⟨S, hu, hr, g2⟩ := g1.frozen
  generalize t.d = d at e2 hr
  cases d <;> first | (cases e2; done) | skip
  · cases e2
    obtain ⟨a, xs, rfl, h1, h2⟩ := hr
    exact ⟨a, rfl, .inl ⟨⟨xs, .of (g2.under _ _ h1)⟩, k1 _ S H1 hu g2 (jok_list h1 h2)⟩⟩
  · cases e2
    obtain ⟨a, xs, rfl, h1, h2⟩ := hr
    exact ⟨a, rfl, .inr ⟨⟨xs, .of (g2.under _ _ h1)⟩, k1 _ S H1 hu g2 (jok_tup h1 h2)⟩⟩
def iR1 (a : EMs) : IM := fun ρ => (a ρ).bnd fun ts ρ => match dl ts with
  | [.int j] => if InR j then .ok (rangeT 0 j.toNat) ρ else .bad
  | _ => .bad
theorem si_r1 {ta : TA} {a : EMs} (ha : SEA ct Wx ta a) : SI ct Wx (iRng1 ta) (iR1 a) := fun W S0 ρ σ tm vm H R g k => by
  refine ha W S0 ρ σ tm vm H _ g ((Out.P_bnd.mp k).mono (fun ts ρ1 k1 vs H1 e1 g1 => ?_) fun _ _ h => h)
  have q := g1.tmps e1
  split at k1
  case h_2 => exact k1.elim
  rename_i j ej
  rw [ej] at q
  obtain ⟨v, rfl, q1⟩ := rpl1 q
  cases q1
  obtain ⟨h0, k1⟩ := P_ite k1
  obtain ⟨h1, h2⟩ := h0.out
  obtain ⟨S, as, bs, hu, g2⟩ := (g1.pop e1).up
  exact ⟨j, rfl, h1, h2, k1 _ S H1 hu ⟨S, as, bs, g2⟩ jok_range⟩
def iR2 (a : EMs) : IM := fun ρ => (a ρ).bnd fun ts ρ => match dl ts with
  | [.int i, .int j] => if InR i ∧ InR j then .ok (rangeT i (j - i).toNat) ρ else .bad
  | _ => .bad
theorem si_r2 {ta : TA} {a : EMs} (ha : SEA ct Wx ta a) : SI ct Wx (iRng2 ta) (iR2 a) := fun W S0 ρ σ tm vm H R g k => by
  refine ha W S0 ρ σ tm vm H _ g ((Out.P_bnd.mp k).mono (fun ts ρ1 k1 vs H1 e1 g1 => ?_) fun _ _ h => h)
  have q := g1.tmps e1
  split at k1
  case h_2 => exact k1.elim
  rename_i i j ej
  rw [ej] at q
  obtain ⟨v, w, rfl, q1, q2⟩ := rpl2 q
  cases q1
  cases q2
  obtain ⟨⟨h1, h2⟩, k1⟩ := P_ite k1
  have h1 : -(2 ^ 62) ≤ i ∧ i < 2 ^ 62 ∧ -(2 ^ 62) ≤ j ∧ j < 2 ^ 62 := ⟨h1.out.1, h1.out.2, h2.out.1, h2.out.2⟩
  obtain ⟨S, as, bs, hu, g2⟩ := (g1.pop e1).up
  exact ⟨i, j, rfl, h1, k1 _ S H1 hu ⟨S, as, bs, g2⟩ jok_range⟩
def enumT : Nat → List D → List T
  | _, [] => []
  | k, d :: l => .ot ([D.int (k : Int), d].map .sh) :: enumT (k + 1) l
theorem enumT_get : ∀ {k : Nat} {l : List D} {i : Nat}, (enumT k l)[i]? = l[i]?.map fun d => .ot ([D.int ((k + i : Nat) : Int), d].map .sh)
  | _, [], _ => by simp [enumT]
  | k, d :: l, 0 => by simp [enumT]
  | k, d :: l, i + 1 => by
    have := enumT_get (k := k + 1) (l := l) (i := i)
    simp only [enumT, List.getElem?_cons_succ, this]
    rw [show k + 1 + i = k + (i + 1) from by omega]
theorem enumT_len : ∀ {k : Nat} {l : List D}, (enumT k l).length = l.length
  | _, [] => rfl
  | k, d :: l => by simp only [enumT, List.length_cons, enumT_len]
theorem jok_enum {K : PySem.W.Frag} {a : Addr} {l : List D} {xs : List V} (h : S a = some (.lst xs)) (r : Rpl S l xs) : JOk S (Ite K a) (enumT 0 l) where
  go i H e hi := ⟨xs, xs[i]'(by simpa [r.len, enumT_len] using hi), .of (e _ _ h), List.getElem?_eq_getElem _⟩
  stop i H e hi := ⟨xs, .of (e _ _ h), by simpa [r.len, enumT_len] using hi⟩
  yld i H x H' e hi y := by
    obtain ⟨p, z, rfl, h1, e1, y⟩ := y
    have hx := y xs (.of (e _ _ h))
    have hl : i < l.length := by simpa [enumT_len] using hi
    obtain ⟨v, e2, e3⟩ := r.get (List.getElem?_eq_getElem hl)
    rw [hx] at e2
    cases e2
    refine ⟨.ot ([D.int (i : Int), l[i]].map .sh), ?_, .inr ⟨p, [D.int (i : Int), l[i]], _, rfl, rfl, h1, e1, ⟨_, _, rfl, rfl, _, _, rfl, e3, rfl⟩⟩⟩
    rw [enumT_get, List.getElem?_eq_getElem hl]
    simp
def D.lstO : D → Option (List D)
  | .lst l => some l
  | _ => none
theorem lstO_some {d : D} {l : List D} (h : d.lstO = some l) : d = .lst l := by
  cases d <;> first | (cases h; rfl) | cases h
def iEn (a : EM) : IM := fun ρ => (a ρ).bnd fun t ρ => optO (t.d.lstO.map fun l => enumT 0 l) ρ
theorem si_en {K : PySem.W.Frag} {te : TE} {e : EM} (he : SE ct Wx te e) : SI ct Wx (iEnum K (tCons te tNil)) (iEn e) := fun W S0 ρ σ tm vm H R g k => by
  refine he W S0 ρ σ tm vm H _ g ((Out.P_bnd.mp k).mono (fun t ρ1 k1 v H1 g1 => ?_) fun _ _ h => h)
  obtain ⟨its, e1, k1⟩ := P_opt k1
  obtain ⟨l, e2, rfl⟩ := Option.map_eq_some_iff.mp e1
  obtain ⟨S, hu, hr, g2⟩ := g1.frozen
  rw [lstO_some e2] at hr
  obtain ⟨a, xs, rfl, h1, h2⟩ := hr
  exact ⟨a, xs, rfl, .of (g2.under _ _ h1), k1 _ S H1 hu g2 (jok_enum h1 h2)⟩
def zipT : List D → List D → List T
  | d :: l, e :: m => .ot ([d, e].map .sh) :: zipT l m
  | _, _ => []
theorem zipT_get : ∀ {l m : List D} {i : Nat} {d e : D}, l[i]? = some d → m[i]? = some e → (zipT l m)[i]? = some (.ot ([d, e].map .sh))
  | [], _, _, _, _, h, _ => by simp at h
  | _ :: _, [], _, _, _, _, h => by simp at h
  | d :: l, e :: m, 0, _, _, h, k => by simp at h k; subst h k; rfl
  | d :: l, e :: m, i + 1, _, _, h, k => by simp at h k; simpa [zipT] using zipT_get h k
theorem zipT_len : ∀ {l m : List D}, (zipT l m).length = min l.length m.length
  | [], _ => by simp [zipT]
  | _ :: _, [] => by simp [zipT]
  | d :: l, e :: m => by simp only [zipT, List.length_cons, zipT_len]; omega
theorem jok_zip {K : PySem.W.Frag} {a b : Addr} {l m : List D} {xs ys : List V} (h : S a = some (.lst xs)) (r : Rpl S l xs) (h' : S b = some (.lst ys)) (r' : Rpl S m ys) : JOk S (Itz K a b) (zipT l m) where
  go i H e hi := by
    rw [zipT_len] at hi
    exact ⟨xs, ys, xs[i]'(by rw [r.len]; omega), ys[i]'(by rw [r'.len]; omega), .of (e _ _ h), .of (e _ _ h'), List.getElem?_eq_getElem _, List.getElem?_eq_getElem _⟩
  stop i H e hi := by
    rw [zipT_len] at hi
    exact ⟨xs, ys, .of (e _ _ h), .of (e _ _ h'), by rw [r.len, r'.len]; omega⟩
  yld i H x H' e hi y := by
    rw [zipT_len] at hi
    obtain ⟨p, z, z', rfl, h1, e1, y, y'⟩ := y
    have hx := y xs (.of (e _ _ h))
    have hx' := y' ys (.of (e _ _ h'))
    have hl : i < l.length := by omega
    have hl' : i < m.length := by omega
    obtain ⟨v, e2, e3⟩ := r.get (List.getElem?_eq_getElem hl)
    obtain ⟨v', e2', e3'⟩ := r'.get (List.getElem?_eq_getElem hl')
    rw [hx] at e2
    cases e2
    rw [hx'] at e2'
    cases e2'
    exact ⟨_, zipT_get (List.getElem?_eq_getElem hl) (List.getElem?_eq_getElem hl'), .inr ⟨p, [l[i], m[i]], _, rfl, rfl, h1, e1, ⟨_, _, rfl, e3, _, _, rfl, e3', rfl⟩⟩⟩
def iZp (a b : EM) : IM := fun ρ => (a ρ).bnd fun t ρ => (b ρ).bnd fun u ρ => optO (t.d.lstO.bind fun l => u.d.lstO.map fun m => zipT l m) ρ
theorem si_zp {K : PySem.W.Frag} {te tf : TE} {e f : EM} (he : SE ct Wx te e) (hf : SE ct Wx tf f) : SI ct Wx (iZip K (tCons te (tCons tf tNil))) (iZp e f) := fun W S0 ρ σ tm vm H R g k => by
  refine he W S0 ρ σ tm vm H _ g ((Out.P_bnd.mp k).mono (fun t ρ1 k1 v H1 g1 => ?_) fun _ _ h => h)
  obtain ⟨S, hu, hr, g2⟩ := g1.frozen
  refine hf W S ρ1 σ tm vm H1 _ g2 ((Out.P_bnd.mp k1).mono (fun u ρ2 k2 w H2 g3 => ?_) fun _ _ h => h.up hu)
  obtain ⟨its, e1, k3⟩ := P_opt k2
  obtain ⟨l, e2, e1⟩ := some_bind e1
  obtain ⟨m, e3, rfl⟩ := Option.map_eq_some_iff.mp e1
  obtain ⟨S', hu', hr', g4⟩ := g3.frozen
  rw [lstO_some e2] at hr
  rw [lstO_some e3] at hr'
  obtain ⟨a, xs, rfl, h1, h2⟩ := hr
  obtain ⟨b, ys, rfl, h3, h4⟩ := hr'
  have h1' := hu'.1 _ _ h1
  exact ⟨a, b, xs, ys, rfl, .of (g4.under _ _ h1'), .of (g4.under _ _ h3), k3 _ S' H2 (hu.trans hu') g4 (jok_zip h1' (h2.mono hu'.1) h3 h4)⟩

/-! ### for -/
theorem for_J {g : TG} {tb : TS} {D : Ends} {σ : St} {H : Hp} (jo : JOk S J its) (Pv : Nat → St → Hp → Prop) (h0 : Pv 0 σ H) (hS : ∀ i σ H, Pv i σ H → Same S H)
    (hs : ∀ i t x σ H H', its[i]? = some t → Pv i σ H → ((H' = H ∧ ∃ d, t = .sh d ∧ Rp S d x) ∨ ∃ p es vs, t = .ot (es.map .sh) ∧ x = .ref p ∧ H p = none ∧ H' = upd H p (.tup vs) ∧ Rpl S es vs) → g x σ H' fun σ2 H2 => tb { D with nx := Pv (i + 1), ct := Pv (i + 1), bk := D.nx } σ2 H2) (hd : ∀ σ H, Pv its.length σ H → D.nx σ H) :
    ∃ W : Nat → Nat → St → Hp → Prop, (∃ m, W 0 m σ H) ∧ ∀ i m σ H, W i m σ H →
      (J.stop i H ∧ D.nx σ H) ∨ (J.go i H ∧ ∃ N : St → Hp → Prop, (∀ σ' H', N σ' H' → ∃ m', m' < m ∧ W (i + 1) m' σ' H') ∧ ∀ x H', J.yld i H x H' → g x σ H' fun σ2 H2 => tb { D with nx := N, ct := N, bk := D.nx } σ2 H2) := by
  refine ⟨fun i m σ H => m = its.length - i ∧ i ≤ its.length ∧ Pv i σ H, ⟨its.length, by simp, Nat.zero_le _, h0⟩, ?_⟩
  rintro i m σ H ⟨rfl, hi, p⟩
  have e := hS i σ H p
  by_cases hlt : i < its.length
  · refine .inr ⟨jo.go i H e hlt, Pv (i + 1), fun σ' H' p' => ⟨its.length - (i + 1), by omega, rfl, hlt, p'⟩, fun x H' y => ?_⟩
    obtain ⟨t, e1, y⟩ := jo.yld i H x H' e hlt y
    exact hs i t x σ H H' e1 p y
  · have e2 : i = its.length := by omega
    subst e2
    exact .inl ⟨jo.stop _ H e (Nat.le_refl _), hd σ H p⟩
def forL (b : BM) (body : SM) : List T → SM
  | [], ρ => .nx ρ
  | t :: ts, ρ => match b t ρ with
    | none => .bad
    | some ρ => match body ρ with
      | .nx ρ => forL b body ts ρ
      | .ct ρ => forL b body ts ρ
      | .bk ρ => .nx ρ
      | r => r
def mFor (src : IM) (b : BM) (body : SM) : SM := fun ρ => (src ρ).st fun its ρ => forL b body its ρ
theorem ss_for {slots : List Nat} {wi : TI} {g : TG} {tb : TS} {src : IM} {b : BM} {body : SM} (hi : SI ct Wx wi src) (hg : SG slots g b) (hs : ∀ i ∈ slots, i ∉ pin) (hb : SS ct Wx pin tb body) : SS ct Wx pin (tFor wi g tb) (mFor src b body) := fun W S0 σ0 ρ σ H D gx p k => by
  refine hi W S0 ρ σ [] [] H _ gx ((SK.st p k).mono (fun its ρ1 k1 J S H1 hu g1 jo => ?_) fun _ _ h => h)
  refine for_J jo (fun i σ' H' => i ≤ its.length ∧ ∃ ρ', GX W S ρ' σ' [] [] H' ∧ Pin pin σ0 σ' ∧ SK ct Wx W S pin σ0 D (forL b body (its.drop i) ρ')) ⟨Nat.zero_le _, ρ1, g1, p, k1.up hu⟩ (fun i σ' H' ⟨_, ρ', g', _⟩ => g'.under) ?_ ?_
  · rintro i t x σ' H' H2 e ⟨hle, ρ', g', p', k'⟩ y
    have hlt := (List.getElem?_eq_some_iff.mp e).1
    rw [List.drop_eq_getElem_cons hlt, (List.getElem?_eq_some_iff.mp e).2] at k'
    unfold forL at k'
    split at k'
    · exact k'.elim
    rename_i ρ2 e2
    refine hg W S ρ' σ' [] [] H2 t x ρ2 (g'.item y) e2 _ fun σ2 g2 ew => ?_
    refine hb W S σ0 ρ2 σ2 H2 _ g2 (p'.wipe ew hs) ?_
    generalize body ρ2 = o at k'
    cases o with
    | bad => exact k'
    | nx ρ3 => exact fun σ3 H3 g3 p3 => ⟨hlt, ρ3, g3, p3, k'⟩
    | ct ρ3 => exact fun σ3 H3 g3 p3 => ⟨hlt, ρ3, g3, p3, k'⟩
    | bk ρ3 => exact k'
    | rt t' ρ3 => exact k'
    | ex x' ρ3 => exact k'
  · rintro σ' H' ⟨_, ρ', g', p', k'⟩
    rw [List.drop_eq_nil_of_le (Nat.le_refl _)] at k'
    exact k' σ' H' g' p'
/-! ### while -/
def whileL (c : EMb) (body : SM) : Nat → SM
  | 0, _ => .bad
  | n + 1, ρ => (c ρ).st fun k ρ => if k = true then match body ρ with
      | .nx ρ => whileL c body n ρ
      | .ct ρ => whileL c body n ρ
      | .bk ρ => .nx ρ
      | r => r else .nx ρ
theorem ss_while {tc : TT} {tb : TS} {c : EMb} {body : SM} (n : Nat) (hc : SET ct Wx tc c) (hb : SS ct Wx pin tb body) : SS ct Wx pin (tWhile tc tb) (whileL c body n) := fun W S0 σ0 ρ σ H D g p k => by
  refine ⟨fun m σ' H' => ∃ ρ', GX W S0 ρ' σ' [] [] H' ∧ Pin pin σ0 σ' ∧ SK ct Wx W S0 pin σ0 D (whileL c body m ρ'), ⟨n, ρ, g, p, k⟩, ?_⟩
  rintro m σ' H' ⟨ρ', g', p', k'⟩
  cases m with
  | zero => exact k'.elim
  | succ m =>
    refine hc W S0 ρ' σ' [] [] H' _ g' ((SK.st p' k').mono (fun b ρ1 k1 H1 g1 => ?_) fun _ _ h => h)
    cases b with
    | false => exact k1 σ' H1 g1 p'
    | true =>
      refine ⟨fun σ2 H2 => ∃ ρ2, GX W S0 ρ2 σ2 [] [] H2 ∧ Pin pin σ0 σ2 ∧ SK ct Wx W S0 pin σ0 D (whileL c body m ρ2), fun σ2 H2 h => ⟨m, Nat.lt_succ_self m, h⟩, ?_⟩
      refine hb W S0 σ0 ρ1 σ' H1 _ g1 p' ?_
      rw [if_pos rfl] at k1
      generalize body ρ1 = o at k1
      cases o with
      | bad => exact k1
      | nx ρ3 => exact fun σ3 H3 g3 p3 => ⟨ρ3, g3, p3, k1⟩
      | ct ρ3 => exact fun σ3 H3 g3 p3 => ⟨ρ3, g3, p3, k1⟩
      | bk ρ3 => exact k1
      | rt t' ρ3 => exact k1
      | ex x' ρ3 => exact k1
/-! ### comprehensions -/
abbrev NoX : XW := fun _ _ _ _ => False
def Out.nox {α : Type} : Out α → Out α
  | .ex _ _ => .bad
  | o => o
theorem P_nox {α : Type} {o : Out α} {Φ : α → Env → Prop} {Ψ Ψ' : Exn → Env → Prop} (h : o.nox.P Φ Ψ) : o.P Φ Ψ' := by
  cases o with
  | bad => exact h
  | ok a ρ => exact h
  | ex x ρ => exact h.elim
def wipeE (ρ : Env) : List Nat → Env
  | [] => ρ
  | i :: is => (wipeE ρ is).set i none
theorem Re.junk {S H : Hp} : ∀ {ρ : Env} {σ : St} {as : List Addr} {i : Nat} {o : Option V}, Re S H ρ σ as → ρ[i]? = some none → Re S H ρ (σ.set i o) as
  | [], _, _, _, _, _, e => by simp at e
  | none :: _, _, _, 0, o, ⟨o', r, h1, h2⟩, _ => by subst h1; exact ⟨o, r, rfl, h2⟩
  | some _ :: _, _, _, 0, _, _, e => by simp at e
  | none :: _, _, _, i + 1, o, ⟨o', r, h1, h2⟩, e => by subst h1; exact ⟨o', _, rfl, Re.junk h2 (by simpa using e)⟩
  | some _ :: _, _, _, i + 1, o, ⟨v, r, b, c, h1, h2, h3, h4⟩, e => by subst h1; exact ⟨v, _, b, c, rfl, h2, h3, Re.junk h4 (by simpa using e)⟩
theorem GX.junk {o : Option V} (g : GX W S0 (ρ.set i none) σ tm vm H) : GX W S0 (ρ.set i none) (σ.set i o) tm vm H := by
  obtain ⟨S, as, bs, g⟩ := g
  by_cases hi : i < ρ.length
  · exact ⟨S, as, bs, g.s0, g.sh, g.wh, g.nw, g.re.junk (by simp [hi]), g.rt, g.nd, g.fs, g.fw⟩
  · have hl := g.re.len
    rw [List.set_eq_of_length_le (l := σ) (by rw [hl]; simp; omega)]
    exact ⟨S, as, bs, g⟩
theorem GX.wipe : ∀ {slots : List Nat}, GX W S0 ρ σ tm vm H → GX W S0 (wipeE ρ slots) (L2.wipe σ slots) tm vm H
  | [], g => g
  | i :: is, g => ((GX.wipe (slots := is) g).forget i).junk
theorem wipe_wipe {σ : St} {slots : List Nat} : wipe (wipe σ slots) slots = wipe σ slots := by
  apply List.ext_getElem?
  intro j
  by_cases hj : j ∈ slots
  · by_cases hl : j < σ.length
    · rw [wipe_in hj (by simpa [wipe_length] using hl), wipe_in hj hl]
    · rw [List.getElem?_eq_none (by rw [wipe_length, wipe_length]; omega), List.getElem?_eq_none (by rw [wipe_length]; omega)]
  · rw [wipe_get hj]
def lcL (slots : List Nat) (b : BM) (tst : EMb) (elt : EM) : List T → List T → Env → Out (List T)
  | [], acc, ρ => .ok acc ρ
  | t :: ts, acc, ρ => match b t ρ with
    | none => .bad
    | some ρ => (tst ρ).bnd fun c ρ => if c = true then (elt ρ).bnd fun u ρ => if acc.length < lim then lcL slots b tst elt ts (acc ++ [u]) (wipeE ρ slots) else .bad
        else lcL slots b tst elt ts acc (wipeE ρ slots)
/-- the block's own names as they were -/
def keepE (ρ1 : Env) : List Nat → Env → Env
  | [], ρ => ρ
  | i :: is, ρ => match ρ1[i]? with
    | some (some (.sh d)) => (keepE ρ1 is ρ).set i (some (.sh d))
    | _ => (keepE ρ1 is ρ).set i none
def eLC (slots : List Nat) (src : IM) (b : BM) (tst : EMb) (elt : EM) : EM := fun ρ => (src ρ).bnd fun its ρ1 => ((lcL slots b tst elt its [] (wipeE ρ1 slots)).nox).bnd fun acc ρ2 => .ok (.ol acc) (keepE ρ1 slots (wipeE ρ2 slots))
theorem GX.keep : ∀ {slots : List Nat} {ρ1 ρ : Env}, GX W S (wipeE ρ slots) (L2.wipe σ slots) tm vm H → (∀ (i : Nat) d, ρ1[i]? = some (some (.sh d)) → ∃ v, σ[i]? = some (some v) ∧ Rp S d v) → GX W S (keepE ρ1 slots (wipeE ρ slots)) σ tm vm H := by
  intro slots ρ1 ρ g hk
  have h0 : ∀ is : List Nat, (∀ i ∈ is, i ∈ slots) → ∃ σ', GX W S (keepE ρ1 is (wipeE ρ slots)) σ' tm vm H ∧ σ'.length = σ.length ∧ ∀ j, (j ∈ is ∨ j ∉ slots) → σ'[j]? = σ[j]? := by
    intro is
    induction is with
    | nil => exact fun _ => ⟨_, g, wipe_length _ _, fun j hj => wipe_get (by rcases hj with h | h; cases h; exact h)⟩
    | cons i is ih =>
      intro hs
      obtain ⟨σ', g', hl, he⟩ := ih fun j hj => hs j (by simp [hj])
      have he2 : ∀ (o : Option V), σ[i]? = some o → ∀ j, (j ∈ i :: is ∨ j ∉ slots) → (σ'.set i o)[j]? = σ[j]? := fun o ho j hj => by
        by_cases e : i = j
        · subst e
          have : i < σ.length := (List.getElem?_eq_some_iff.mp ho).1
          rw [List.getElem?_set_self (by omega), ho]
        · rw [List.getElem?_set_ne e]
          exact he j (by rcases hj with h | h; rcases List.mem_cons.mp h with h | h; exact absurd h.symm e; exact .inl h; exact .inr h)
      unfold keepE
      split
      · rename_i d e
        obtain ⟨v, h1, h2⟩ := hk i d e
        obtain ⟨S1, as, bs, g1⟩ := g'
        exact ⟨σ'.set i (some v), (g1.pushS (h2.mono g1.s0)).putA i, by simp [hl], he2 _ h1⟩
      · cases ho : σ[i]? with
        | none =>
          refine ⟨σ', g'.forget i, hl, fun j hj => ?_⟩
          by_cases e : i = j
          · subst e
            rw [ho, List.getElem?_eq_none]
            rw [List.getElem?_eq_none_iff] at ho
            omega
          · exact he j (by rcases hj with h | h; rcases List.mem_cons.mp h with h | h; exact absurd h.symm e; exact .inl h; exact .inr h)
        | some o => exact ⟨σ'.set i o, (g'.forget i).junk, by simp [hl], he2 o ho⟩
  obtain ⟨σ', g', hl, he⟩ := h0 slots fun _ h => h
  have : σ' = σ := List.ext_getElem? fun j => by
    by_cases hj : j ∈ slots
    · exact he j (.inl hj)
    · exact he j (.inr hj)
  rw [this] at g'
  exact g'
theorem lc_J {g : TG} {tt : TT} {te : TE} {slots : List Nat} {σ : St} {H1 : Hp} {D : Addr} {Qd : Hp → Prop} (jo : JOk S J its) (Pv : Nat → Hp → Prop) (h0 : Pv 0 (upd H1 D (.lst []))) (hS : ∀ i H, Pv i H → Same S H)
    (hs : ∀ i t x H H', its[i]? = some t → Pv i H → ((H' = H ∧ ∃ d, t = .sh d ∧ Rp S d x) ∨ ∃ p es vs, t = .ot (es.map .sh) ∧ x = .ref p ∧ H p = none ∧ H' = upd H p (.tup vs) ∧ Rpl S es vs) → g x (wipe σ slots) H' fun σ2 H2 => wipe σ2 slots = wipe σ slots ∧ tt σ2 H2 fun b H3 =>
      if b = true then te σ2 H3 fun y H4 => ∃ acc, H4 D = some (.lst acc) ∧ acc.length < sizeLine ∧ Pv (i + 1) (upd H4 D (.lst (acc ++ [y]))) else Pv (i + 1) H3) (hd : ∀ H, Pv its.length H → Qd H) :
    ∃ W : Nat → Nat → Hp → Prop, (∃ m, W 0 m (upd H1 D (.lst []))) ∧ ∀ i m H, W i m H →
      (J.stop i H ∧ Qd H) ∨ (J.go i H ∧ ∃ Nx : Hp → Prop, (∀ H', Nx H' → ∃ m', m' < m ∧ W (i + 1) m' H') ∧ ∀ x H', J.yld i H x H' → g x (wipe σ slots) H' fun σ2 H2 => wipe σ2 slots = wipe σ slots ∧ tt σ2 H2 fun b H3 =>
        if b = true then te σ2 H3 fun y H4 => ∃ acc, H4 D = some (.lst acc) ∧ acc.length < sizeLine ∧ Nx (upd H4 D (.lst (acc ++ [y]))) else Nx H3) := by
  refine ⟨fun i m H => m = its.length - i ∧ i ≤ its.length ∧ Pv i H, ⟨its.length, by simp, Nat.zero_le _, h0⟩, ?_⟩
  rintro i m H ⟨rfl, hi, p⟩
  have e := hS i H p
  by_cases hlt : i < its.length
  · refine .inr ⟨jo.go i H e hlt, Pv (i + 1), fun H' p' => ⟨its.length - (i + 1), by omega, rfl, hlt, p'⟩, fun x H' y => ?_⟩
    obtain ⟨t, e1, y⟩ := jo.yld i H x H' e hlt y
    exact hs i t x H H' e1 p y
  · have e2 : i = its.length := by omega
    subst e2
    exact .inl ⟨jo.stop _ H e (Nat.le_refl _), hd H p⟩
theorem se_lc {slots : List Nat} {wi : TI} {g : TG} {tt : TT} {te : TE} {src : IM} {b : BM} {tst : EMb} {elt : EM} (hi : SI ct Wx wi src) (hg : SG slots g b) (ht : SET ct NoX tt tst) (he : SE ct NoX te elt) : SE ct Wx (tLc wi g tt te slots) (eLC slots src b tst elt) := fun W S0 ρ σ tm vm H Q gx k => by
  refine hi W S0 ρ σ tm vm H _ gx ((Out.P_bnd.mp k).mono (fun its ρ1 k1 J S H1 hu g1 jo => ?_) fun _ _ h => h)
  have k2 := P_nox (Ψ' := fun _ _ => False) (Out.P_bnd.mp k1)
  intro D hD
  obtain ⟨S1, as, bs, hu1, g1⟩ := g1.up
  have hk : ∀ (i : Nat) d, ρ1[i]? = some (some (.sh d)) → ∃ v, σ[i]? = some (some v) ∧ Rp S1 d v := fun i d e => by
    obtain ⟨v, b, c, d', e1, _, ⟨_, e3⟩, _⟩ := g1.re.at e
    exact ⟨v, e1, e3⟩
  have g2 : GX W S1 (wipeE ρ1 slots) (wipe σ slots) (.ol [] :: tm) (.ref D :: vm) (upd H1 D (.lst [])) := GX.wipe (GX.newL (ts := []) (vs := []) ⟨S1, as, bs, g1⟩ rfl hD)
  refine lc_J (S := S) jo (fun i H' => i ≤ its.length ∧ ∃ ρ' acc, GX W S1 ρ' (wipe σ slots) (.ol acc :: tm) (.ref D :: vm) H' ∧ (lcL slots b tst elt (its.drop i) acc ρ').P (fun acc ρ2 => ∀ H', GX W S1 (wipeE ρ2 slots) (wipe σ slots) (.ol acc :: tm) (.ref D :: vm) H' → Q (.ref D) H') (fun _ _ => False)) ?_ ?_ ?_ ?_
  · refine ⟨Nat.zero_le _, _, [], g2, k2.mono (fun acc ρ2 k3 H' g3 => ?_) fun _ _ h => h⟩
    exact k3 (.ref D) H' ((GX.keep g3 hk).join (hu.trans hu1))
  · exact fun i H' ⟨_, ρ', acc, g', _⟩ a o h => g'.under a o (hu1.1 a o h)
  · rintro i t x H' H2 e ⟨hle, ρ', acc, g', k'⟩ y
    have hlt := (List.getElem?_eq_some_iff.mp e).1
    rw [List.drop_eq_getElem_cons hlt, (List.getElem?_eq_some_iff.mp e).2] at k'
    unfold lcL at k'
    split at k'
    · exact k'.elim
    rename_i ρ2 e2
    have y' : ((H2 = H' ∧ ∃ d, t = .sh d ∧ Rp S1 d x) ∨ ∃ p es vs, t = .ot (es.map .sh) ∧ x = .ref p ∧ H' p = none ∧ H2 = upd H' p (.tup vs) ∧ Rpl S1 es vs) := by
      rcases y with ⟨h1, d, h2, h3⟩ | ⟨p, es, vs, h1, h2, h3, h4, h5⟩
      · exact .inl ⟨h1, d, h2, h3.mono hu1.1⟩
      · exact .inr ⟨p, es, vs, h1, h2, h3, h4, h5.mono hu1.1⟩
    refine hg W S1 ρ' _ _ _ H2 t x ρ2 (g'.item y') e2 _ fun σ2 g2 ew => ?_
    rw [wipe_wipe] at ew
    refine ⟨ew, ht W S1 ρ2 σ2 _ _ H2 _ g2 ((Out.P_bnd.mp k').mono (fun c ρ3 k3 H3 g3 => ?_) fun _ _ h => h.elim)⟩
    cases c with
    | false =>
      refine ⟨hlt, wipeE ρ3 slots, acc, ?_, k3⟩
      have := GX.wipe (slots := slots) g3
      rw [ew] at this
      exact this
    | true =>
      rw [if_pos rfl] at k3
      refine he W S1 ρ3 σ2 _ _ H3 _ g3 ((Out.P_bnd.mp k3).mono (fun u ρ4 k4 yv H4 g4 => ?_) fun _ _ h => h.elim)
      obtain ⟨hz, k4⟩ := P_ite k4
      have g5 : GX W S1 ρ4 σ2 (.ol acc :: u :: tm) (.ref D :: yv :: vm) H4 := GX.rot (ts := [u]) (vs := [yv]) g4 rfl
      obtain ⟨a, xs, e5, h1, h2, mk⟩ := g5.mutL
      cases e5
      refine ⟨xs, h1, lim_lt (by omega), hlt, wipeE ρ4 slots, acc ++ [u], ?_, k4⟩
      have g6 := mk (acc ++ [u]) tm (xs ++ [yv]) vm (fun S H b c hb hc => by
        obtain ⟨v', r, c1, c2, h3, rfl, h4, h5⟩ := hc
        cases h3
        have h6 : Rtl S H [u] [yv] c1 := ⟨yv, [], c1, [], rfl, by simp, h4, rfl, rfl⟩
        exact ⟨b ++ c1, c2, hb.append h6, h5, by grind, by grind⟩)
      have := GX.wipe (slots := slots) g6
      rw [ew] at this
      exact this
  · rintro H' ⟨_, ρ', acc, g', k'⟩
    rw [List.drop_eq_nil_of_le (Nat.le_refl _)] at k'
    refine k' H' ?_
    have := GX.wipe (slots := slots) g'
    rw [wipe_wipe] at this
    exact this
def tAll : EMb := fun ρ => .ok true ρ
theorem set_yes : SET ct Wx tYes tAll := fun W S0 ρ σ tm vm H Q g k => k H g

/-! ### a def by its body -/
def T.isSh : T → Bool
  | .sh _ => true
  | _ => false
def mFun (n nn : Nat) (body : SM) : FM := fun ts => if ts.length = n ∧ ts.all T.isSh = true then match body (ts.map some ++ List.replicate (nn - n) none) with
  | .nx _ => .ok (.sh .non) ts
  | .rt t _ => .ok t ts
  | .ex x _ => .ex x
  | _ => .bad else .bad
/-- the first argument is the def's to change -/
def mFunI (n nn : Nat) (body : SM) : FM := fun ts => if ts.length = n ∧ ts.tail.all T.isSh = true then match body (ts.map some ++ List.replicate (nn - n) none) with
  | .nx ρ => match ρ[0]? with
    | some (some t0) => .ok (.sh .non) (t0 :: ts.tail)
    | _ => .bad
  | .rt t ρ => match ρ[0]? with
    | some (some t0) => .ok t (t0 :: ts.tail)
    | _ => .bad
  | .ex x _ => .ex x
  | _ => .bad else .bad
theorem re_start {S H : Hp} {k : Nat} : ∀ {ts : List T} {vs : List V} {as : List Addr}, Rtl S H ts vs as → Re S H (ts.map some ++ List.replicate k none) (vs.map some ++ List.replicate k none) as
  | [], _, _, ⟨h1, h2⟩ => by
    subst h1 h2
    induction k with
    | zero => exact ⟨rfl, rfl⟩
    | succ k ih => exact ⟨none, _, rfl, ih⟩
  | t :: ts, _, _, ⟨v, r, b, c, h1, h2, h3, h4⟩ => by subst h1; exact ⟨v, _, b, c, rfl, h2, h3, re_start h4⟩
theorem GX.start {N : List Str} (g : GX W S0 [] [] ts vs H) (hn : vs.length = ts.length) : GX W S0 (ts.map some ++ List.replicate (N.length - ts.length) none) (L2.start N vs) [] [] H := by
  obtain ⟨S, as, bs, g⟩ := g
  have ea : as = [] := g.re.2
  subst ea
  have nd := g.nd
  have fs := g.fs
  have fw := g.fw
  refine ⟨S, bs, [], g.s0, g.sh, g.wh, g.nw, ?_, ⟨rfl, rfl⟩, by grind, by grind, by grind⟩
  have := re_start (k := N.length - ts.length) g.rt
  unfold L2.start
  rw [hn]; exact this
theorem GX.noEnv (g : GX W S0 ρ σ tm vm H) : GX W S0 [] [] tm vm H := by
  obtain ⟨S, as, bs, g⟩ := g
  have nd := g.nd
  have fs := g.fs
  have fw := g.fw
  exact ⟨S, [], bs, g.s0, g.sh, g.wh, g.nw, ⟨rfl, rfl⟩, g.rt, by grind, by grind, by grind⟩
theorem G.endS {ds : List D} {xs : List V} (g : G W S0 S H ρ σ tm vm as bs) (h : Rpl S ds xs) : GX W S0 ρ σ (tm ++ ds.map .sh) (vm ++ xs) H := by
  have hr := (g.rt).append (h.toRtl (H := H))
  rw [List.append_nil] at hr
  exact ⟨S, as, bs, g.s0, g.sh, g.wh, g.nw, g.re, hr, g.nd, g.fs, g.fw⟩
theorem allSh : ∀ {ts : List T}, ts.all T.isSh = true → ∃ ds : List D, ts = ds.map .sh
  | [], _ => ⟨[], rfl⟩
  | t :: ts, h => by
    simp only [List.all_cons, Bool.and_eq_true] at h
    obtain ⟨ds, rfl⟩ := allSh h.2
    cases t <;> first | (simp [T.isSh] at h; done) | skip
    exact ⟨_ :: ds, rfl⟩
theorem Rtl.toRpl' {S H : Hp} : ∀ {ds : List D} {vs : List V} {as : List Addr}, Rtl S H (ds.map .sh) vs as → Rpl S ds vs ∧ as = []
  | [], _, _, h => h
  | d :: ds, _, _, ⟨v, r, b, c, h1, h2, ⟨h3, h5⟩, h4⟩ => by
    subst h1 h2 h3
    have := Rtl.toRpl' h4
    exact ⟨⟨v, r, rfl, h5, this.1⟩, by simp [this.2]⟩
section
open PySem.Spec PyProof.Rows
variable {P : Program} {w : World} {K : PySem.W.Frag} {mg : Str → Option Value} {base : Heap}
theorem fn_mk {x qual : Str} {st : Stmt} {f : Addr} {fd : FuncData} {N ps : List Str} {k : Nat} {m : SM} (F : Fun K x qual st f fd) (Sc : FnScope N ps (defScope st))
    (hbody : ∀ (cdv : Value) (A : Around) (outer : List PySem.Env) (s : Shared) (H : Hp) (E : XK), Room k (A.deeper (envOfC qual (defScope st) s.heap.objs.size f cdv)) →
      ∃ t, PSs (cxOf (L2.CX P w) P w K mg base N qual (defScope st) f cdv A outer s H E) (defBody st) t ∧ SS ct (fun c d _ H => E c d H) [] t m) : FnOk P w K mg base (L2.CX P w) (k + 1) f fd ps (spM ct ps.length (mFun ps.length N.length m)) := by
  refine F.okX Sc (fun vs H Q E h => h.1) fun cdv A outer s H vs Q E hr h => ?_
  obtain ⟨t, ht, hs⟩ := hbody cdv A outer s H E hr
  refine ⟨t, ht, ?_⟩
  obtain ⟨hl, ts, W, S, g, k1⟩ := h
  unfold mFun at k1
  by_cases hc : ts.length = ps.length ∧ ts.all T.isSh = true
  case neg => rw [if_neg hc] at k1; exact k1.elim
  rw [if_pos hc] at k1
  obtain ⟨S1, as, bs, hu, g1⟩ := g.up
  obtain ⟨ds, rfl⟩ := allSh hc.2
  obtain ⟨hr1, rfl⟩ := g1.rt.toRpl'
  have g2 := GX.start (N := N) ⟨S1, as, [], g1⟩ (by rw [hl, hc.1])
  rw [hc.1] at g2
  refine hs W S1 (start N vs) _ _ H _ g2 Pin.refl ?_
  have fin : ∀ (t : T) (v : V) (ρ : Env) (σ : L2.St) (H' : Hp), GX W S1 ρ σ [t] [v] H' → GX W S [] [] (t :: ds.map .sh) (v :: vs) H' := fun t v ρ σ H' g3 => by
    obtain ⟨S2, as2, bs2, g4⟩ := g3.noEnv
    exact (g4.endS (hr1.mono g4.s0)).join hu
  generalize m _ = o at k1 ⊢
  cases o with
  | bad => exact k1
  | nx ρ => exact fun σ' H' g3 _ => k1.2 .non H' (fin (.sh .non) .non ρ σ' H' (g3.pushC (S := H') (d := .non) (v := .non) rfl rfl))
  | rt t ρ => exact fun v σ' H' g3 _ => k1.2 v H' (fin t v ρ σ' H' g3)
  | bk ρ => exact k1.elim
  | ct ρ => exact k1.elim
  | ex x ρ => exact fun c d σ' H' g3 _ hx => k1 c d H' (g3.noEnv.join hu) hx
theorem fn_mkI {x qual : Str} {st : Stmt} {f : Addr} {fd : FuncData} {N ps : List Str} {k : Nat} {m : SM} (F : Fun K x qual st f fd) (Sc : FnScope N ps (defScope st)) (hps : 0 < ps.length)
    (hbody : ∀ (cdv : Value) (A : Around) (outer : List PySem.Env) (s : Shared) (H : Hp) (E : XK), Room k (A.deeper (envOfC qual (defScope st) s.heap.objs.size f cdv)) →
      ∃ t, PSs (cxOf (L2.CX P w) P w K mg base N qual (defScope st) f cdv A outer s H E) (defBody st) t ∧ SS ct (fun c d _ H => E c d H) [0] t m) : FnOk P w K mg base (L2.CX P w) (k + 1) f fd ps (spM ct ps.length (mFunI ps.length N.length m)) := by
  refine F.okX Sc (fun vs H Q E h => h.1) fun cdv A outer s H vs Q E hr h => ?_
  obtain ⟨t, ht, hs⟩ := hbody cdv A outer s H E hr
  refine ⟨t, ht, ?_⟩
  obtain ⟨hl, ts, W, S, g, k1⟩ := h
  unfold mFunI at k1
  by_cases hc : ts.length = ps.length ∧ ts.tail.all T.isSh = true
  case neg => rw [if_neg hc] at k1; exact k1.elim
  rw [if_pos hc] at k1
  match ts, vs, hl, hc with
  | [], _, _, hc => simp at hc; omega
  | _ :: _, [], hl, _ => simp at hl; omega
  | t0 :: ts, v0 :: vs, hl, hc =>
  obtain ⟨ds, hds⟩ := allSh hc.2
  simp only [List.tail_cons] at hds
  subst hds
  obtain ⟨S1, as, bs, hu, g1⟩ := g.up
  have hr1 : Rpl S1 ds vs := by
    obtain ⟨v', r, b, c, h3, _, _, h5⟩ := g1.rt
    cases h3
    exact h5.toRpl'.1
  have g2 := GX.start (N := N) ⟨S1, as, bs, g1⟩ (by rw [hl, hc.1])
  rw [hc.1] at g2
  refine hs W S1 (start N (v0 :: vs)) _ _ H _ g2 Pin.refl ?_
  have hst : (start N (v0 :: vs))[0]? = some (some v0) := rfl
  have fin : ∀ (t : T) (v : V) (ρ : Env) (σ : L2.St) (H' : Hp) (t1 : T), ρ[0]? = some (some t1) → Pin [0] (start N (v0 :: vs)) σ → GX W S1 ρ σ [t] [v] H' → GX W S [] [] (t :: t1 :: ds.map .sh) (v :: v0 :: vs) H' := fun t v ρ σ H' t1 e p g3 => by
    obtain ⟨v1, e1, g4⟩ := g3.take e
    have e2 := p 0 (by simp)
    rw [hst, e1] at e2
    cases e2
    have g5 := GX.rot (ts := [t1]) (vs := [v0]) g4.noEnv rfl
    obtain ⟨S2, as2, bs2, g6⟩ := g5
    exact (g6.endS (hr1.mono g6.s0)).join hu
  generalize m _ = o at k1 ⊢
  cases o with
  | bad => exact k1
  | nx ρ =>
    simp only at k1
    split at k1
    · rename_i t1 e
      exact fun σ' H' g3 p => k1.2 .non H' (fin (.sh .non) .non ρ σ' H' t1 e p (g3.pushC (S := H') (d := .non) (v := .non) rfl rfl))
    · exact k1.elim
  | rt t ρ =>
    simp only at k1
    split at k1
    · rename_i t1 e
      exact fun v σ' H' g3 p => k1.2 v H' (fin t v ρ σ' H' t1 e p g3)
    · exact k1.elim
  | bk ρ => exact k1.elim
  | ct ρ => exact k1.elim
  | ex x ρ => exact fun c d σ' H' g3 _ hx => k1 c d H' (g3.noEnv.join hu) hx
end
end
end Z

namespace Z
noncomputable section
open PySem L2
variable {ct : CT} {Wx : XW} {W S0 S S1 H H' : Hp} {ρ ρ' : Env} {σ σ0 : St} {t u : T} {ts us tm its : List T} {v w : V} {vs ws vm : List V} {as bs : List Addr} {i : Nat} {d : D} {pin : List Nat} {D0 : Ends} {J : It}
/-! ### list(range(..)) -/
theorem rgV_rp {S : Hp} {a b : Int} : Rpl S ((List.range (b - a).toNat).map fun i : Nat => D.int (a + (i : Int))) (rgV a b) := by
  unfold rgV
  generalize List.range (b - a).toNat = l
  induction l with
  | nil => rfl
  | cons x l ih => exact ⟨_, _, rfl, rfl, ih⟩
def rgOk (a b : Int) : Bool := decide (InR a ∧ InR b ∧ (b - a).toNat ≤ lim)
theorem rgOk_of {a b : Int} (h0 : -1000000 ≤ a) (h1 : a ≤ 1000000) (h2 : -1000000 ≤ b) (h3 : b ≤ a + 1000000) : rgOk a b = true := by
  refine decide_eq_true ⟨InR.of (by omega) (by omega), InR.of (by omega) (by omega), ?_⟩
  unfold lim
  omega
theorem rgOk_ok {a b : Int} (h : rgOk a b = true) : RgOk a b := by
  have := of_decide_eq_true h
  exact ⟨this.1.out.1, this.1.out.2, this.2.1.out.1, this.2.1.out.2, Nat.le_trans this.2.2 (by decide)⟩
def eRg1 (p : PM) : EM := fun ρ => match p ρ with
  | some (.int n) => if rgOk 0 n = true then .ok (.ol (rangeT 0 n.toNat)) ρ else .bad
  | _ => .bad
theorem se_rg1 {te : TE} {p : PM} (h : SP te p) : SE ct Wx (tLstRg (tRg1 te)) (eRg1 p) := fun W S0 ρ σ tm vm H Q g k => by
  unfold eRg1 at k
  split at k
  case h_2 => exact k.elim
  rename_i n e
  obtain ⟨hz, k⟩ := P_ite k
  refine h ρ σ H g.rv _ e _ fun v H1 es r => ⟨n, r, rgOk_ok hz, fun q hq => k _ _ ?_⟩
  obtain ⟨S, as, bs, g1⟩ := g.ext es
  have h1 := g1.pushSs (rgV_rp (S := S) (a := 0) (b := n))
  rw [show n - 0 = n from by omega, List.map_map] at h1
  exact h1.newL (by simp [rgV_length]) hq
def eRg2 (p q : PM) : EM := fun ρ => match p ρ, q ρ with
  | some (.int m), some (.int n) => if rgOk m n = true then .ok (.ol (rangeT m (n - m).toNat)) ρ else .bad
  | _, _ => .bad
theorem se_rg2 {te tf : TE} {p q : PM} (h : SP te p) (h' : SP tf q) : SE ct Wx (tLstRg (tRg2 te tf)) (eRg2 p q) := fun W S0 ρ σ tm vm H Q g k => by
  unfold eRg2 at k
  split at k
  case h_2 => exact k.elim
  rename_i m n e e'
  obtain ⟨hz, k⟩ := P_ite k
  refine h ρ σ H g.rv _ e _ fun v H1 es r => h' ρ σ H1 (g.ext es).rv _ e' _ fun w H2 es' r' => ⟨m, n, r, r', rgOk_ok hz, fun q hq => k _ _ ?_⟩
  obtain ⟨S, as, bs, g1⟩ := (g.ext es).ext es'
  have h1 := g1.pushSs (rgV_rp (S := S) (a := m) (b := n))
  rw [List.map_map] at h1
  exact h1.newL (by simp [rgV_length]) hq
/-! ### a list some times over -/
def repT (t u : T) : Option T := t.shs.bind fun l => u.d.intO.bind fun k => if l.length * k.toNat ≤ lim ∧ InR k then some (.ol ((List.replicate k.toNat (l.map .sh)).flatten)) else none
theorem Rpl.rep {S : Hp} {l : List D} {xs : List V} (h : Rpl S l xs) : ∀ n : Nat, Rpl S (List.replicate n l).flatten (List.replicate n xs).flatten
  | 0 => rfl
  | n + 1 => by
    simp only [List.replicate_succ, List.flatten_cons]
    exact h.append (h.rep n)
theorem map_rep {α β : Type} (f : α → β) (l : List α) (n : Nat) : ((List.replicate n l).flatten).map f = (List.replicate n (l.map f)).flatten := by
  simp [List.map_flatten]
theorem oe_rep : OpE rRep repT := fun W S0 ρ σ tm vm H t u v w z Q g e k => by
  obtain ⟨l, e1, e⟩ := some_bind e
  obtain ⟨n, e2, e⟩ := some_bind e
  obtain ⟨⟨hz, hz0⟩, e⟩ := ite_some e
  have hz1 := hz0.out.1
  have hz2 := hz0.out.2
  cases e
  have q := g.tmp
  rw [intO_int e2] at q
  cases q
  obtain ⟨S, as, bs, g1⟩ := g.pop1
  obtain ⟨v', r, b, c, h3, _, h4, h5⟩ := g1.rt
  cases h3
  obtain ⟨a, xs, rfl, h6, h7⟩ := h4.shs g1.sh e1
  refine ⟨a, n, xs, rfl, rfl, h6, by omega, by omega, lim_le (by rw [h7.len]; exact hz), fun p hp => k _ _ ?_⟩
  have hg : G W S0 S H ρ σ tm vm as c := ⟨g1.s0, g1.sh, g1.wh, g1.nw, g1.re, h5, by have := g1.nd; grind, by have := g1.fs; grind, by have := g1.fw; grind⟩
  have h8 := hg.pushSs (h7.rep n.toNat)
  rw [map_rep] at h8
  refine h8.newL ?_ hp
  rw [← map_rep, List.length_map, (h7.rep _).len]
def oMax2 : D → D → Option D := oI0 fun i j => .int (if j > i then j else i)
def oMin2 : D → D → Option D := oI0 fun i j => .int (if j < i then j else i)
def rUMul : R2 := rOr rMulI rRep
section
variable {X : Cx}
theorem u_mul : OpR X (binaryOp .Mult) rUMul := (op_mul.or op_mulW).or op_rep
end
def oMul : D → D → Option D := oI smallM fun i j => .int (i * j)
theorem os_mul : OpS rUMul oMul := fun H dx dy x y d hx hy e Q q => .inl (os_mulI H dx dy x y d hx hy e Q q)
theorem oe_repU : OpE rUMul repT := fun W S0 ρ σ tm vm H t u v w z Q g e k => .inr (oe_rep W S0 ρ σ tm vm H t u v w z Q g e k)
/-! ### -a, truth, in -/
def oNeg : D → Option D
  | .int i => some (.int (-i))
  | _ => none
theorem us_neg : UnS (rU fun i => .int (-i)) oNeg := fun H dx x d hx e Q q => by
  cases dx <;> first | (cases e; done) | skip
  cases e
  cases hx
  exact ⟨_, rfl, q _ H (fun _ _ h => h) rfl⟩
def eUn (o : D → Option D) (a : EM) : EM := fun ρ => (a ρ).bnd fun t ρ => optO (scalO (o t.d)) ρ
theorem se_un {r : V → Hp → VK → Prop} {o : D → Option D} {ta : TE} {a : EM} (hr : UnS r o) (ha : SE ct Wx ta a) : SE ct Wx (tUn r ta) (eUn o a) := fun W S0 ρ σ tm vm H Q g k => by
  refine ha W S0 ρ σ tm vm H _ g ((Out.P_bnd.mp k).mono (fun t ρ1 k1 v H1 g1 => ?_) fun _ _ h => h)
  obtain ⟨z, e, k1⟩ := P_opt k1
  obtain ⟨d, e1, e2, rfl⟩ := scalO_some e
  exact hr H1 t.d v d g1.tmp e1 Q fun w H2 es r => k1 w H2 ((g1.pop1.ext es).pushC e2 r)
def D.truth : D → Option Bool
  | .non => some false
  | .bl b => some b
  | .int i => some (i != 0)
  | .str s => if s.length ≤ lim then some ((s.length : Int) != 0) else none
  | .lst l => some (!l.isEmpty)
  | .tup l => some (!l.isEmpty)
  | .dic ks _ => some (!ks.isEmpty)
theorem truth_V {K : PySem.W.Frag} {v : V} {b : Bool} (h : Rp H d v) (e : d.truth = some b) : TruV K v H b := by
  have hi : ∀ (l : List D) (vs : List V), Rpl H l vs → l.isEmpty = vs.isEmpty := fun l vs r => by
    have := r.len
    cases l <;> cases vs <;> first | rfl | (simp at this)
  cases d with
  | non => cases h; cases e; rfl
  | bl b => cases h; cases e; rfl
  | int b => cases h; cases e; rfl
  | str s => cases h; obtain ⟨hz, e⟩ := ite_some e; cases e; exact ⟨lim_le hz, rfl⟩
  | lst l => cases e; obtain ⟨a, vs, rfl, h1, h2⟩ := h; exact .inl ⟨vs, .of h1, by rw [hi l vs h2]⟩
  | tup l => cases e; obtain ⟨a, vs, rfl, h1, h2⟩ := h; exact .inr (.inl ⟨vs, .of h1, by rw [hi l vs h2]⟩)
  | dic ks l =>
    cases e
    obtain ⟨a, vs, rfl, h1, hk, h2⟩ := h
    refine .inr (.inr ⟨_, h1, ?_⟩)
    have := h2.len
    cases ks <;> cases vs <;> cases l <;> simp_all
def qTru (a : PM) : TM := fun ρ => (a ρ).bind D.truth
theorem st_tru {K : PySem.W.Frag} {ta : TE} {a : PM} (ha : SP ta a) : SPT (fun σ H Q => ta σ H fun x H' => ∃ k, TruV K x H' k ∧ Q k H') (qTru a) := fun ρ σ H g b h Q q => by
  obtain ⟨x, h1, h2⟩ := some_bind h
  exact ha ρ σ H g x h1 _ fun v H1 e1 r1 => ⟨b, truth_V r1 h2, q H1 e1⟩
def eTru (a : EM) : EMb := fun ρ => (a ρ).bnd fun t ρ => optO (t.d.truth) ρ
theorem set_tru {K : PySem.W.Frag} {ta : TE} {a : EM} (ha : SE ct Wx ta a) : SET ct Wx (fun σ H Q => ta σ H fun x H' => ∃ k, TruV K x H' k ∧ Q k H') (eTru a) := fun W S0 ρ σ tm vm H Q g k => by
  refine ha W S0 ρ σ tm vm H _ g ((Out.P_bnd.mp k).mono (fun t ρ1 k1 v H1 g1 => ?_) fun _ _ h => h)
  obtain ⟨b, e, k1⟩ := P_opt k1
  exact ⟨b, truth_V g1.tmp e, k1 H1 g1.pop1⟩
def flatD : D → Bool
  | .lst _ | .tup _ | .dic _ _ => false
  | _ => true
def eqD : D → D → Bool
  | .non, .non => true
  | .bl a, .bl b => a == b
  | .bl a, .int b => (if a then 1 else 0) == b
  | .int a, .bl b => a == (if b then 1 else 0)
  | .int a, .int b => a == b
  | .str a, .str b => a == b
  | _, _ => false
theorem flatD_V {v : V} (h : Rp H d v) (e : flatD d = true) : flatV v = true := by
  cases d <;> first | (cases h; rfl) | (simp [flatD] at e)
theorem eqD_V {d e : D} {v w : V} (h : Rp H d v) (h' : Rp H e w) (k : flatD d = true) (k' : flatD e = true) : eqV v w = eqD d e := by
  cases d <;> cases e <;> first | (simp [flatD] at k k'; done) | (cases h; cases h'; rfl)
theorem inD_V : ∀ {l : List D} {vs : List V} {x : D} {v : V}, Rpl H l vs → Rp H x v → flatD x = true → l.all flatD = true → vs.all flatV = true ∧ inV v vs = l.any fun y => eqD y x
  | [], _, _, _, h, _, _, _ => by rw [show _ = [] from h]; exact ⟨rfl, rfl⟩
  | d :: l, _, x, v, ⟨w, r, h1, h2, h3⟩, hx, kx, k => by
    subst h1
    simp only [List.all_cons, Bool.and_eq_true] at k
    have ih := inD_V h3 hx kx k.2
    refine ⟨by simp only [List.all_cons, Bool.and_eq_true]; exact ⟨flatD_V h2 k.1, ih.1⟩, ?_⟩
    have e2 := ih.2
    unfold inV at e2 ⊢
    simp only [List.any_cons]
    rw [e2, eqD_V h2 hx k.1 kx]
def oInB (neg : Bool) : D → D → Option D := fun x y => match y.seq with
  | some l => if flatD x = true ∧ l.all flatD = true then some (.bl (if neg then !(l.any fun y => eqD y x) else l.any fun y => eqD y x)) else none
  | none => none
theorem os_in {K : PySem.W.Frag} {neg : Bool} : OpS (rIn K neg) (oInB neg) := fun H dx dy x y d hx hy e Q q => by
  unfold oInB at e
  split at e
  case h_2 => cases e
  rename_i l e1
  obtain ⟨⟨k1, k2⟩, e⟩ := ite_some e
  cases e
  cases dy <;> first | (cases e1; done) | skip
  · cases e1
    obtain ⟨a, vs, rfl, h1, h2⟩ := hy
    have := inD_V h2 hx k1 k2
    refine ⟨a, vs, rfl, .inl (.of h1), flatD_V hx k1, this.1, ?_⟩
    rw [this.2]
    exact q _ H (fun _ _ h => h) rfl
  · cases e1
    obtain ⟨a, vs, rfl, h1, h2⟩ := hy
    have := inD_V h2 hx k1 k2
    refine ⟨a, vs, rfl, .inr (.of h1), flatD_V hx k1, this.1, ?_⟩
    rw [this.2]
    exact q _ H (fun _ _ h => h) rfl
def rIsN : R2 := fun x y H Q => y = .non ∧ Q (.bl (decide (x = .non))) H
def rNotN : R2 := fun x y H Q => y = .non ∧ Q (.bl (!decide (x = .non))) H
def D.isNon : D → Bool
  | .non => true
  | _ => false
theorem isNon_V {v : V} (h : Rp H d v) : decide (v = .non) = d.isNon := by
  cases d with
  | non => cases h; rfl
  | bl b => cases h; rfl
  | int b => cases h; rfl
  | str b => cases h; rfl
  | lst l => obtain ⟨a, vs, rfl, _⟩ := h; rfl
  | tup l => obtain ⟨a, vs, rfl, _⟩ := h; rfl
  | dic ks l => obtain ⟨a, vs, rfl, _⟩ := h; rfl
def oIsN (neg : Bool) : D → D → Option D := fun x y => match y with
  | .non => some (.bl (if neg then !x.isNon else x.isNon))
  | _ => none
theorem os_isN : OpS rIsN (oIsN false) := fun H dx dy x y d hx hy e Q q => by
  cases dy <;> first | (cases e; done) | skip
  cases e
  cases hy
  refine ⟨rfl, ?_⟩
  rw [isNon_V hx]
  exact q _ H (fun _ _ h => h) rfl
theorem os_notN : OpS rNotN (oIsN true) := fun H dx dy x y d hx hy e Q q => by
  cases dy <;> first | (cases e; done) | skip
  cases e
  cases hy
  refine ⟨rfl, ?_⟩
  rw [isNon_V hx]
  exact q _ H (fun _ _ h => h) rfl
/-- chains over expressions with effects are not needed: a < b < c is read -/
def eChain (m : PM) : EM := eP m

/-! ### isinstance(x, (T1, T2)) -/
def tys : List Ty → TA
  | [] => tNil
  | t :: l => tCons (tC (.ty t.name)) (tys l)
theorem tys_run : ∀ (l : List Ty) (σ : St) (H : Hp) (Q : List V → Hp → Prop), Q (l.map fun t => V.ty t.name) H → tys l σ H Q
  | [], σ, H, Q, h => h
  | t :: l, σ, H, Q, h => tys_run l σ H _ h
def pIsiM (l : List Ty) (a : PM) : PM := fun ρ => (a ρ).map fun d => .bl (l.any fun t => d.isi t)
theorem isiM_kit {K : PySem.W.Frag} {u : Value} {d : D} (h : ∀ t : Ty, PySem.W.kitOne K u (.type t.name) = some (d.isi t)) : ∀ l : List Ty, PySem.W.kitAny K u (l.map fun t => Value.type t.name) = some (l.any fun t => d.isi t)
  | [] => rfl
  | t :: l => kitAny_cons (h t) (fun e => by rw [isiM_kit h l, List.any_cons, e]; simp) (fun e => by rw [List.any_cons, e]; simp)
theorem sp_isiM {K : PySem.W.Frag} {ta : TE} {tt : TA} {a : PM} (l : List Ty) (hl : tt = tys l) (hz : l.length ≤ 10) (ha : SP ta a) : SP (tCB (rIsiT K) (tCons ta (tCons (tTup tt) tNil))) (pIsiM l a) := fun ρ σ H g d h Q q => by
  obtain ⟨x, h1, rfl⟩ := Option.map_eq_some_iff.mp h
  subst hl
  refine ha ρ σ H g x h1 _ fun v H1 e1 r1 => tys_run l σ H1 _ ⟨lim_le (by rw [List.length_map]; unfold lim; omega), fun p hp => ?_⟩
  have es : Same H1 (upd H1 p (.tup (l.map fun t => V.ty t.name))) := same_new hp
  have kt : ∀ t : Ty, PySem.W.kitOne K (.type x.kd.name) (.type t.name) = some (x.isi t) := fun t => kit_ty (kd_isi t x.kd)
  have ty : TyX K (upd H1 p (.tup (l.map fun t => V.ty t.name))) v (.type x.kd.name) := by
    have r2 := r1.mono es
    cases x with
    | non => cases r2; exact .base .non
    | bl b => cases r2; exact .base (.bl _)
    | int b => cases r2; exact .base (.int _)
    | str b => cases r2; exact .base (.str _)
    | lst l => obtain ⟨a, vs, rfl, h1, _⟩ := r2; exact .base (.lst h1)
    | tup l => obtain ⟨a, vs, rfl, h1, _⟩ := r2; exact .base (.tup h1)
    | dic ks l => obtain ⟨a, vs, rfl, h1, _⟩ := r2; exact .base (.dK h1)
  have pr : ∀ l : List Ty, Paired ClsV (l.map fun t => V.ty t.name) (l.map fun t => Value.type t.name) := fun l => by
    induction l with
    | nil => exact .nil
    | cons t l ih => exact .cons (.ty _) ih
  exact ⟨v, p, _, _, _, _, rfl, upd_same, pr l, ty, isiM_kit kt l, q _ _ (e1.trans es) rfl⟩

/-! ### the script -/
def spSc (ct : CT) (K : PySem.W.Frag) (F : List Int → FOut) : Sp := fun vs H Q E => ∃ a ns, vs = [.ref a] ∧ SqL K H a (ns.map V.int) ∧
  (F ns).P (fun t _ => ∀ v H', GX H (fun _ => none) [] [] [t] [v] H' → Q v H') (fun _ => False)
def SSa (A : Hp → St → Prop) (ct : CT) (Wx : XW) (pin : List Nat) (s : TS) (m : SM) : Prop := ∀ W S0 σ0 ρ σ H (D : Ends), A W σ0 → GX W S0 ρ σ [] [] H → Pin pin σ0 σ → SK ct Wx W S0 pin σ0 D (m ρ) → s D σ H
theorem SS.a {A : Hp → St → Prop} {s : TS} {m : SM} (h : SS ct Wx pin s m) : SSa A ct Wx pin s m := fun W S0 σ0 ρ σ H D _ => h W S0 σ0 ρ σ H D
theorem ssa_seq {A : Hp → St → Prop} {s u : TS} {a b : SM} (ha : SSa A ct Wx pin s a) (hb : SSa A ct Wx pin u b) : SSa A ct Wx pin (tSeq s u) (mSeq a b) := fun W S0 σ0 ρ σ H D x g p k => by
  refine ha W S0 σ0 ρ σ H { D with nx := u D } x g p ?_
  unfold mSeq at k
  generalize a ρ = o at k ⊢
  cases o with
  | nx ρ' => exact fun σ' H' g' p' => hb W S0 σ0 ρ' σ' H' D x g' p' k
  | _ => exact k
/-- the first name holds the script -/
def ScA (K : PySem.W.Frag) (ns : List Int) : Hp → St → Prop := fun W σ => ∃ a, σ[0]? = some (some (.ref a)) ∧ SqL K W a (ns.map V.int)
def mForS (ns : List Int) (b : BM) (body : SM) : SM := fun ρ => forL b body (ns.map fun i => .sh (.int i)) ρ
theorem jok_sc {K : PySem.W.Frag} {a : Addr} {ns : List Int} (h : SqL K W a (ns.map V.int)) (hu : ∀ xs, SqL K W a xs → xs = ns.map V.int) : True := trivial
theorem for_Sc {K : PySem.W.Frag} {ns : List Int} {a : Addr} {g : TG} {tb : TS} {D : Ends} {σ : St} {H : Hp} (Pv : Nat → St → Hp → Prop) (h0 : Pv 0 σ H) (hS : ∀ i σ H, Pv i σ H → SqL K H a (ns.map V.int))
    (hs : ∀ i n σ H, ns[i]? = some n → Pv i σ H → g (.int n) σ H fun σ2 H2 => tb { D with nx := Pv (i + 1), ct := Pv (i + 1), bk := D.nx } σ2 H2) (hd : ∀ σ H, Pv ns.length σ H → D.nx σ H) :
    ∃ W : Nat → Nat → St → Hp → Prop, (∃ m, W 0 m σ H) ∧ ∀ i m σ H, W i m σ H →
      ((Itl K a).stop i H ∧ D.nx σ H) ∨ ((Itl K a).go i H ∧ ∃ N : St → Hp → Prop, (∀ σ' H', N σ' H' → ∃ m', m' < m ∧ W (i + 1) m' σ' H') ∧ ∀ x H', (Itl K a).yld i H x H' → g x σ H' fun σ2 H2 => tb { D with nx := N, ct := N, bk := D.nx } σ2 H2) :=
  for_list (xs := ns.map V.int) Pv h0 (fun i σ H _ p => hS i σ H p) (fun i x σ H e p => by
    rw [List.getElem?_map] at e
    obtain ⟨n, e1, rfl⟩ := Option.map_eq_some_iff.mp e
    exact hs i n σ H e1 p) (fun σ H p => hd σ H (by rw [List.length_map] at p; exact p))
theorem SqL.up {K : PySem.W.Frag} {a : Addr} {xs : List V} (e : Same H H') (h : SqL K H a xs) : SqL K H' a xs := e.seq h
theorem GX.outer (g : GX W S0 ρ σ tm vm H) : Same W H := by
  obtain ⟨S, as, bs, g⟩ := g
  exact g.wh
theorem ssa_forS {K : PySem.W.Frag} {ns : List Int} {slots : List Nat} {g : TG} {tb : TS} {b : BM} {body : SM} (hg : SG slots g b) (hs : ∀ i ∈ slots, i ∉ pin) (hp : 0 ∈ pin) (hb : SS ct Wx pin tb body) : SSa (ScA K ns) ct Wx pin (tFor (iSeq K (tVar 0)) g tb) (mForS ns b body) := fun W S0 σ0 ρ σ H D ⟨a, ea, hA⟩ gx p k => by
  have e0 : σ[0]? = some (some (.ref a)) := (p 0 hp).trans ea
  refine ⟨.ref a, e0, a, rfl, .inl ⟨⟨_, SqL.up gx.outer hA⟩, ?_⟩⟩
  refine for_Sc (ns := ns) (fun i σ' H' => i ≤ ns.length ∧ ∃ ρ', GX W S0 ρ' σ' [] [] H' ∧ Pin pin σ0 σ' ∧ SK ct Wx W S0 pin σ0 D (forL b body ((ns.drop i).map fun i => .sh (.int i)) ρ')) ⟨Nat.zero_le _, ρ, gx, p, k⟩ (fun i σ' H' ⟨_, ρ', g', _⟩ => SqL.up g'.outer hA) ?_ ?_
  · rintro i n σ' H' e ⟨hle, ρ', g', p', k'⟩
    have hlt := (List.getElem?_eq_some_iff.mp e).1
    rw [List.drop_eq_getElem_cons hlt, (List.getElem?_eq_some_iff.mp e).2, List.map_cons] at k'
    unfold forL at k'
    split at k'
    · exact k'.elim
    rename_i ρ2 e2
    refine hg W S0 ρ' σ' [] [] H' _ (.int n) ρ2 (g'.pushC (S := H') (d := .int n) rfl rfl) e2 _ fun σ2 g2 ew => ?_
    refine hb W S0 σ0 ρ2 σ2 H' _ g2 (p'.wipe ew hs) ?_
    generalize body ρ2 = o at k'
    cases o with
    | bad => exact k'
    | nx ρ3 => exact fun σ3 H3 g3 p3 => ⟨hlt, ρ3, g3, p3, k'⟩
    | ct ρ3 => exact fun σ3 H3 g3 p3 => ⟨hlt, ρ3, g3, p3, k'⟩
    | bk ρ3 => exact k'
    | rt t' ρ3 => exact k'
    | ex x' ρ3 => exact k'
  · rintro σ' H' ⟨_, ρ', g', p', k'⟩
    rw [List.drop_eq_nil_of_le (Nat.le_refl _)] at k'
    exact k' σ' H' g' p'
/-- a body over the script: a plain answer -/
def mFunS (nn : Nat) (body : List Int → SM) : List Int → FOut := fun ns => match body ns (List.replicate nn none) with
  | .rt t _ => .ok t []
  | _ => .bad
section
open PySem.Spec PyProof.Rows
variable {P : Program} {w : World} {K : PySem.W.Frag} {mg : Str → Option Value} {base : Heap}
theorem re_none {S H : Hp} : ∀ (σ : L2.St), Re S H (List.replicate σ.length none) σ []
  | [] => ⟨rfl, rfl⟩
  | o :: σ => ⟨o, σ, rfl, re_none σ⟩
theorem fn_mkS {x qual : Str} {st : Stmt} {f : Addr} {fd : FuncData} {N : List Str} {sc : Str} {k : Nat} {m : List Int → SM} (F : Fun K x qual st f fd) (Sc : FnScope N [sc] (defScope st)) (hN : 1 ≤ N.length)
    (hbody : ∀ (cdv : Value) (A : Around) (outer : List PySem.Env) (s : Shared) (H : Hp) (E : XK), Room k (A.deeper (envOfC qual (defScope st) s.heap.objs.size f cdv)) →
      ∃ t, PSs (cxOf (L2.CX P w) P w K mg base N qual (defScope st) f cdv A outer s H E) (defBody st) t ∧ ∀ ns, SSa (ScA K ns) ct (fun c d _ H => E c d H) [0] t (m ns)) : FnOk P w K mg base (L2.CX P w) (k + 1) f fd [sc] (spSc ct K (mFunS N.length m)) := by
  refine F.okX Sc (fun vs H Q E h => by obtain ⟨a, ns, rfl, _⟩ := h; rfl) fun cdv A outer s H vs Q E hr h => ?_
  obtain ⟨t, ht, hs⟩ := hbody cdv A outer s H E hr
  refine ⟨t, ht, ?_⟩
  obtain ⟨a, ns, rfl, hA, k1⟩ := h
  have hl : (start N [.ref a]).length = N.length := by
    simp only [L2.start, List.length_append, List.length_map, List.length_replicate, List.length_cons, List.length_nil]
    omega
  have hr0 : Re (fun _ => none) H (List.replicate N.length none) (start N [.ref a]) [] := by
    have := re_none (S := fun _ => none) (H := H) (start N [.ref a])
    rw [hl] at this
    exact this
  have g : GX H (fun _ => none) (List.replicate N.length none) (start N [.ref a]) [] [] H := ⟨fun _ => none, [], [], fun _ _ h => h, (fun _ _ h => nomatch h), (fun _ _ h => h), (fun _ _ h => h), hr0, ⟨rfl, rfl⟩, by simp, by simp, by simp⟩
  refine hs ns H (fun _ => none) (start N [.ref a]) _ _ H _ ⟨a, rfl, hA⟩ g Pin.refl ?_
  unfold mFunS at k1
  generalize m ns _ = o at k1 ⊢
  cases o with
  | rt t ρ => exact fun v σ' H' g3 _ => k1 v H' g3.noEnv
  | _ => exact k1.elim
end
end
end Z

namespace Z
noncomputable section
open PySem L2
variable {ct : CT} {Wx : XW} {W S0 S S1 H H' : Hp} {ρ ρ' : Env} {σ σ0 : St} {t u : T} {ts us tm its : List T} {v w : V} {vs ws vm : List V} {as bs : List Addr} {i : Nat} {d : D} {pin : List Nat} {D0 : Ends} {K : PySem.W.Frag} {ns : List Int}
theorem GX.addS (e : Same S H) (g : GX H (fun _ => none) [] [] tm vm H') : GX H S [] [] tm vm H' := by
  obtain ⟨S1, as, bs, g⟩ := g
  have ea : as = [] := g.re.2
  subst ea
  have n1 : ∀ a, S1 a ≠ none → H a = none := fun a h => by
    cases q : H a with
    | none => rfl
    | some o => exact absurd rfl (g.nw a (by rw [q]; simp) h)
  let S2 : Hp := fun a => match S a with
    | some o => some o
    | none => S1 a
  have e1 : Same S S2 := fun a o h => by show (match S a with | some o => some o | none => S1 a) = some o; rw [h]
  have e2 : Same S1 S2 := fun a o h => by
    show (match S a with | some o => some o | none => S1 a) = some o
    cases q : S a with
    | none => exact h
    | some o' =>
      have := n1 a (by rw [h]; simp)
      rw [e a o' q] at this; cases this
  refine ⟨S2, [], bs, e1, fun a o h => ?_, g.wh, fun a h1 h2 => ?_, ⟨rfl, rfl⟩, g.rt.mono e2 fun _ _ => rfl, g.nd, fun a ha => ?_, g.fw⟩
  · have h : (match S a with | some o => some o | none => S1 a) = some o := h
    cases q : S a with
    | none => rw [q] at h; exact g.sh a o h
    | some z => rw [q] at h; cases h; exact g.wh a o (e a o q)
  · have h2 : (match S a with | some o => some o | none => S1 a) ≠ none := h2
    cases q : S a with
    | none => rw [q] at h2; exact absurd (n1 a h2) h1
    | some o' => simp
  · have h1 := g.fw a ha
    have h2 := g.fs a ha
    have h3 : S a = none := by
      cases q : S a with
      | none => rfl
      | some z => rw [e a z q] at h1; cases h1
    show (match S a with | some o => some o | none => S1 a) = none
    rw [h3]; exact h2
def SEa (K : PySem.W.Frag) (ns : List Int) (ct : CT) (Wx : XW) (te : TE) (m : EM) : Prop := ∀ W S0 ρ σ tm vm H (Q : VK), ScA K ns W σ → GX W S0 ρ σ tm vm H → (m ρ).P (fun t ρ' => ∀ v H', GX W S0 ρ' σ (t :: tm) (v :: vm) H' → Q v H') (XE ct Wx W S0 σ tm vm) → te σ H Q
def eCallS (F : List Int → FOut) (ns : List Int) : EM := fun ρ => match F ns with
  | .ok t _ => .ok t ρ
  | _ => .bad
theorem sea_callS {F : List Int → FOut} {E : St → XK} : SEa K ns ct Wx (tCallS (spSc ct K F) E (tCons (tVar 0) tNil)) (eCallS F ns) := fun W S0 ρ σ tm vm H Q ⟨a, ea, hA⟩ g k => by
  refine ⟨.ref a, ea, a, ns, rfl, SqL.up g.outer hA, ?_⟩
  unfold eCallS at k
  generalize F ns = o at k ⊢
  cases o with
  | ok t ts =>
    intro v H' g2
    obtain ⟨S, as, bs, g1⟩ := g
    have hw : ∀ x, less H ([] : List Addr) x = H x := fun x => less_out (by simp)
    obtain ⟨W', S', gc, back⟩ := GX.call (ts := []) (vs := []) ⟨S, as, bs, g1⟩ rfl
    refine k v H' ?_
    -- the callee saw nothing of S: what it made is new
    have g3 : GX H S [] [] [t] [v] H' := g2.addS g1.sh
    obtain ⟨S2, as2, bs2, g4⟩ := g3
    have ea2 : as2 = [] := g4.re.2
    subst ea2
    have hnS : ∀ x, H x ≠ none → S x = none → S2 x = none := fun x h1 h2 => by
      cases q : S2 x with
      | none => rfl
      | some o => exact absurd h2 (g4.nw x h1 (by rw [q]; simp))
    have nd := g1.nd
    have fs := g1.fs
    have fw := g1.fw
    have nd4 := g4.nd
    have fs4 := g4.fs
    have fw4 := g4.fw
    have hne : ∀ x ∈ bs2, ∀ y, (y ∈ as ∨ y ∈ bs) → x ≠ y := fun x hx y hy e => by
      subst e
      have h0 := fw4 x (by simpa using hx)
      rcases hy with h | h
      · exact g1.re.there x h h0
      · exact g1.rt.there x h h0
    refine ⟨S2, as, bs2 ++ bs, fun x o h => g4.s0 x o (g1.s0 x o h), g4.sh, fun x o h => g4.wh x o (g1.wh x o h), fun x h1 h2 => ?_, g1.re.mono g4.s0 fun x hx => same_at g4.wh (g1.re.there x hx), ?_, by grind, ?_, ?_⟩
    · refine g1.nw x h1 (g4.nw x ?_ h2)
      cases q : W x with
      | none => exact absurd q h1
      | some o => rw [g1.wh x o q]; simp
    · have := g4.rt.append (g1.rt.mono g4.s0 fun x hx => same_at g4.wh (g1.rt.there x hx))
      exact this
    · intro x hx
      rcases List.mem_append.mp hx with h | h
      · exact hnS x (g1.re.there x h) (fs x (by grind))
      · rcases List.mem_append.mp h with h | h
        · exact fs4 x (by simpa using h)
        · exact hnS x (g1.rt.there x h) (fs x (by grind))
    · intro x hx
      rcases List.mem_append.mp hx with h | h
      · exact fw x (by grind)
      · rcases List.mem_append.mp h with h | h
        · have h0 := fw4 x (by simpa using h)
          cases q : W x with
          | none => rfl
          | some o => rw [g1.wh x o q] at h0; cases h0
        · exact fw x (by grind)
  | _ => exact k.elim
theorem sea_op {r : R2} {o : T → T → Option T} {ta tb : TE} {a b : EM} (hr : OpE r o) (ha : SE ct Wx ta a) (hb : SEa K ns ct Wx tb b) : SEa K ns ct Wx (tOp r ta tb) (eOp o a b) := fun W S0 ρ σ tm vm H Q x g k => by
  refine ha W S0 ρ σ tm vm H _ g ((Out.P_bnd.mp k).mono (fun t ρ1 k1 v H1 g1 => ?_) fun _ _ h => h)
  refine hb W S0 ρ1 σ (t :: tm) (v :: vm) H1 _ x g1 ((Out.P_bnd.mp k1).mono (fun u ρ2 k2 w H2 g2 => ?_) fun _ _ h => XE.pop (ts := [t]) (vs := [v]) h rfl)
  obtain ⟨z, e, k2⟩ := P_opt k2
  exact hr W S0 ρ2 σ tm vm H2 t u v w z Q g2 e k2
theorem sca_pin (x : ScA K ns W σ0) (p : Pin pin σ0 σ) (h : 0 ∈ pin) : ScA K ns W σ := by
  obtain ⟨a, e, q⟩ := x
  exact ⟨a, (p 0 h).trans e, q⟩
theorem ssa_ret {te : TE} {e : EM} (hp : 0 ∈ pin) (he : SEa K ns ct Wx te e) : SSa (ScA K ns) ct Wx pin (tRet te) (mRet e) := fun W S0 σ0 ρ σ H D x g p k => by
  refine he W S0 ρ σ [] [] H _ (sca_pin x p hp) g ((SK.st p k).mono (fun t ρ1 k1 v H1 g1 => ?_) fun _ _ h => h)
  exact k1 v σ H1 g1 p
theorem ssa_set {i : Nat} {te : TE} {e : EM} (hp : 0 ∈ pin) (he : SEa K ns ct Wx te e) (hi : i ∉ pin) : SSa (ScA K ns) ct Wx pin (tAsg te (gName i)) (mSet i e) := fun W S0 σ0 ρ σ H D x g p k => by
  refine he W S0 ρ σ [] [] H _ (sca_pin x p hp) g ((SK.st p k).mono (fun t ρ1 k1 v H1 g1 => ?_) fun _ _ h => h)
  exact k1 _ _ (g1.putA i) (p.set hi)
/-! ### what the top holds -/
section
open PySem.Spec PyProof.Rows
variable {P : Program} {w : World} {mg : Str → Option Value} {base h : Heap}
def Dd (K : PySem.W.Frag) (mg : Str → Option Value) (x : Str) (st : Stmt) (ps : List Str) : Prop := ∃ (f : Addr) (fd : FuncData), Fun K x x st f fd ∧ mg x = some (.ref f) ∧ Binds K fd ps []
def Fn (P : Program) (w : World) (K : PySem.W.Frag) (mg : Str → Option Value) (base : Heap) (x : Str) (k : Nat) (ps : List Str) (sp : Sp) : Prop :=
  ∃ (f : Addr) (fd : FuncData), FnOk P w K mg base (L2.CX P w) k f fd ps sp ∧ mg x = some (.ref f) ∧ PySem.W.keepIn K (.ref f) = true ∧ Binds K fd ps []
theorem dd_mk {x : Str} {st : Stmt} {f : Addr} {oc : Value} {od an : Option Addr} {osl : Array (Option Value)} {kV doc pm cdv ctv : Value} {ps : List Str} (X : K.In h) (G : h.Ns mainGlobals mg)
    (a : PySem.W.nsIn K mainGlobals x = some (some (.ref f))) (l : K.lookup f = some ⟨oc, od, .func (PySem.W.fnOf x x (defArgs st) (defBody st) (defScope st) .none kV doc pm an cdv ctv), osl⟩) (c : PySem.W.codeIn K cdv x = true) (k : PySem.W.keepIn K (.ref f) = true)
    (hb : ∀ (kV doc pm : Value) (an : Option Addr) (cdv ct : Value) (us : List Value), us.length = ps.length → bindArgs (PySem.W.fnOf x x (defArgs st) (defBody st) (defScope st) .none kV doc pm an cdv ct) ⟨us, []⟩ = pure (ps.zip us)) : Dd K mg x st ps :=
  ⟨f, _, fun_mk l c k, PySem.W.mg_of X G a, (fun_mk l c k).binds hb⟩
theorem fn_def {x : Str} {st : Stmt} {N ps : List Str} {k : Nat} {m : SM} (F : Dd K mg x st ps) (Sc : FnScope N ps (defScope st))
    (hbody : ∀ (f : Addr) (cdv : Value) (A : Around) (outer : List PySem.Env) (s : Shared) (H : Hp) (E : XK), Room k (A.deeper (envOfC x (defScope st) s.heap.objs.size f cdv)) →
      ∃ t, PSs (cxOf (L2.CX P w) P w K mg base N x (defScope st) f cdv A outer s H E) (defBody st) t ∧ SS ct (fun c d _ H => E c d H) [] t m) : Fn P w K mg base x (k + 1) ps (spM ct ps.length (mFun ps.length N.length m)) := by
  obtain ⟨f, fd, F, hm, hb⟩ := F
  exact ⟨f, fd, fn_mk F Sc (hbody f), hm, F.kp, hb⟩
theorem fn_defI {x : Str} {st : Stmt} {N ps : List Str} {k : Nat} {m : SM} (F : Dd K mg x st ps) (Sc : FnScope N ps (defScope st)) (hps : 0 < ps.length)
    (hbody : ∀ (f : Addr) (cdv : Value) (A : Around) (outer : List PySem.Env) (s : Shared) (H : Hp) (E : XK), Room k (A.deeper (envOfC x (defScope st) s.heap.objs.size f cdv)) →
      ∃ t, PSs (cxOf (L2.CX P w) P w K mg base N x (defScope st) f cdv A outer s H E) (defBody st) t ∧ SS ct (fun c d _ H => E c d H) [0] t m) : Fn P w K mg base x (k + 1) ps (spM ct ps.length (mFunI ps.length N.length m)) := by
  obtain ⟨f, fd, F, hm, hb⟩ := F
  exact ⟨f, fd, fn_mkI F Sc hps (hbody f), hm, F.kp, hb⟩
theorem fn_defS {x : Str} {st : Stmt} {N : List Str} {sc : Str} {k : Nat} {m : List Int → SM} (F : Dd K mg x st [sc]) (Sc : FnScope N [sc] (defScope st)) (hN : 1 ≤ N.length)
    (hbody : ∀ (f : Addr) (cdv : Value) (A : Around) (outer : List PySem.Env) (s : Shared) (H : Hp) (E : XK), Room k (A.deeper (envOfC x (defScope st) s.heap.objs.size f cdv)) →
      ∃ t, PSs (cxOf (L2.CX P w) P w K mg base N x (defScope st) f cdv A outer s H E) (defBody st) t ∧ ∀ ns, SSa (ScA K ns) ct (fun c d _ H => E c d H) [0] t (m ns)) : Fn P w K mg base x (k + 1) [sc] (spSc ct K (mFunS N.length m)) := by
  obtain ⟨f, fd, F, hm, hb⟩ := F
  exact ⟨f, fd, fn_mkS F Sc hN (hbody f), hm, F.kp, hb⟩
theorem fn_bad {x : Str} {st : Stmt} {k n : Nat} {ps : List Str} (F : Dd K mg x st ps) : Fn P w K mg base x k ps (spM ct n (fun _ => .bad)) := by
  obtain ⟨f, fd, F, hm, hb⟩ := F
  have no : ∀ vs H Q E, ¬ spM ct n (fun _ => .bad) vs H Q E := fun vs H Q E h => by
    obtain ⟨_, _, _, _, _, h⟩ := h
    exact h
  exact ⟨f, fd, ⟨fun vs H Q E h => absurd h (no vs H Q E), fun A outer s H args us vs Q E _ _ _ _ h => absurd h (no vs H Q E)⟩, hm, F.kp, hb⟩
/-- law's own -/
def Fl (P : Program) (w : World) (K : PySem.W.Frag) (mg : Str → Option Value) (base : Heap) (x : Str) (st : Stmt) (k : Nat) (ps : List Str) (sp : Sp) : Prop :=
  ∃ (f : Addr) (fd : FuncData), FnOk P w K mg base (L2.CX P w) k f fd ps sp ∧ Fun K x x st f fd ∧ mg x = some (.ref f)
theorem fn_defL {x : Str} {st : Stmt} {N : List Str} {sc : Str} {k : Nat} {m : List Int → SM} (F : Dd K mg x st [sc]) (Sc : FnScope N [sc] (defScope st)) (hN : 1 ≤ N.length)
    (hbody : ∀ (f : Addr) (cdv : Value) (A : Around) (outer : List PySem.Env) (s : Shared) (H : Hp) (E : XK), Room k (A.deeper (envOfC x (defScope st) s.heap.objs.size f cdv)) →
      ∃ t, PSs (cxOf (L2.CX P w) P w K mg base N x (defScope st) f cdv A outer s H E) (defBody st) t ∧ ∀ ns, SSa (ScA K ns) ct (fun c d _ H => E c d H) [0] t (m ns)) : Fl P w K mg base x st (k + 1) [sc] (spSc ct K (mFunS N.length m)) := by
  obtain ⟨f, fd, F, hm, hb⟩ := F
  exact ⟨f, fd, fn_mkS F Sc hN (hbody f), F, hm⟩
theorem Fn.mono {x : Str} {j k : Nat} {ps : List Str} {sp : Sp} (F : Fn P w K mg base x j ps sp) (h : j ≤ k) : Fn P w K mg base x k ps sp := by
  obtain ⟨f, fd, F, r⟩ := F
  exact ⟨f, fd, F.mono h, r⟩
/-- what law(script) promises -/
def spLaw (K : PySem.W.Frag) : Sp := fun vs H Q _ => ∃ (a : Addr) (ns : List Int), vs = [.ref a] ∧ SqL K H a (ns.map V.int) ∧ ns.length ≤ 63 ∧ ∀ H', Q (.bl true) H'
theorem fn_law {x : Str} {st : Stmt} {sc : Str} {k : Nat} {F : List Int → FOut} (G : Fl P w K mg base x st k [sc] (spSc ct K F)) (hF : ∀ ns : List Int, ns.length ≤ 63 → F ns = .ok (.sh (.bl true)) []) : Fl P w K mg base x st k [sc] (spLaw K) := by
  obtain ⟨f, fd, G, r⟩ := G
  refine ⟨f, fd, G.imp fun vs H Q E h => ?_, r⟩
  obtain ⟨a, ns, rfl, hA, hl, q⟩ := h
  refine ⟨a, ns, rfl, hA, ?_⟩
  rw [hF ns hl]
  intro v H' g
  have := g.tmp
  rw [show v = .bl true from this]
  exact q H'
theorem law_at {fa : Addr} {x sc : Str} {st : Stmt} {f : Addr} {oc : Value} {od an : Option Addr} {osl : Array (Option Value)} {kV doc pm cdv ctv : Value} {k : Nat} {sp : Sp} (X : K.In h) (G : h.Ns mainGlobals mg) (hfa : mg x = some (.ref fa))
    (a : PySem.W.nsIn K mainGlobals x = some (some (.ref f))) (l : K.lookup f = some ⟨oc, od, .func (PySem.W.fnOf x x (defArgs st) (defBody st) (defScope st) .none kV doc pm an cdv ctv), osl⟩)
    (hb : ∀ (kV doc pm : Value) (an : Option Addr) (cdv ct : Value) (us : List Value), us.length = [sc].length → bindArgs (PySem.W.fnOf x x (defArgs st) (defBody st) (defScope st) .none kV doc pm an cdv ct) ⟨us, []⟩ = pure ([sc].zip us))
    (hF : ∀ base : Heap, K.In base → base.Ns mainGlobals mg → ∃ g gd, FnOk P w K mg base (L2.CX P w) k g gd [sc] sp ∧ Fun K x x st g gd ∧ mg x = some (.ref g)) :
    ∃ fd : FuncData, (∀ (s : Shared) (v : Value), BindsTo s fd ⟨[v], []⟩ [(sc, v)]) ∧ ∀ base : Heap, K.In base → base.Ns mainGlobals mg → FnOk P w K mg base (L2.CX P w) k fa fd [sc] sp := by
  have e := hfa.symm.trans (PySem.W.mg_of X G a)
  cases e
  refine ⟨_, fun s v => .of_eq (hb kV doc pm an cdv ctv [v] rfl), fun base b1 b2 => ?_⟩
  obtain ⟨g, gd, h1, h2, h3⟩ := hF base b1 b2
  rw [hfa] at h3
  cases h3
  obtain ⟨oc', od', kV', doc', pm', an', cdv', ct', osl', e1, lk, _⟩ := h2.ex
  rw [l] at lk
  have e2 : PySem.W.fnOf x x (defArgs st) (defBody st) (defScope st) .none kV doc pm an cdv ctv = gd := by
    injection lk with lk
    injection lk with _ _ e3 _
    injection e3
  rw [e2]
  exact h1
theorem cx_none {P : Program} {w : World} {H : Hp} {s : Shared} {e : Value} {s' : Shared} (h : L2.CX P w [] H s (fun _ _ _ => False) e s') : False := by
  obtain ⟨_, _, _, _, _, _, _, _, _, _, _, _, z⟩ := h
  exact z.elim
theorem walk {l : PySem.W.OpenLaw} {q : Program} {loose : List Str} {XP : (Str → Option Value) → Heap → Prop} {YP : World → Heap → Prop} {d : DefRec} {K : Params → PySem.W.Frag} (k : Nat) (hr : Room k callerA) (hn : l.most = some 63) (hdf : d.params.defaults = [])
    (hY : ∀ (w : World) (h : Heap), YP w h → (K w.params).In h)
    (F : ∀ (w : World) (mg : Str → Option Value) (fa : Addr) (h : Heap), (K w.params).In h → h.Ns mainGlobals mg → mg d.name = some (.ref fa) →
      ∃ fd : FuncData, (∀ (s : Shared) (u : Value), BindsTo s fd ⟨[u], []⟩ [("script", u)]) ∧ ∀ base : Heap, (K w.params).In base → base.Ns mainGlobals mg → FnOk l.prog w (K w.params) mg base (L2.CX l.prog w) k fa fd ["script"] (spLaw (K w.params))) :
    PySem.W.WalkO q loose XP YP l.row.toRowW d [] (fun f vs => PySem.call f vs) :=
  L2.walk_of (n := 63) (k := k) (x := "script") (CX := fun w => L2.CX l.prog w) (sp := fun w => spLaw (K w.params)) hn (by decide) hdf hr hY F (fun _ _ a ns hl _ hS => ⟨a, ns, rfl, hS, hl, fun _ => rfl⟩) fun _ _ _ _ _ z => cx_none z
theorem eqU {A : Around} {k : Nat} (hr : Room k A) : A.units + 64 < cLine := by
  have := hr.un
  omega
end
end
end Z

namespace Z
noncomputable section
open PySem L2
variable {ct : CT} {Wx : XW} {W S0 S S1 H H' : Hp} {ρ ρ' : Env} {σ σ0 : St} {t u : T} {ts us tm its : List T} {v w : V} {vs ws vm : List V} {as bs : List Addr} {i : Nat} {d : D} {pin : List Nat} {D0 : Ends} {K : PySem.W.Frag} {ns : List Int}
/-! ### a list at a name is walked; it stays the name's own, its items are shared -/
def also (W H : Hp) (a : Addr) : Hp := fun x => if x = a then H x else W x
theorem also_at {a : Addr} : also W H a a = H a := if_pos rfl
theorem also_ne {a x : Addr} (h : x ≠ a) : also W H a x = W x := if_neg h
theorem Rtl.fzs {S H : Hp} : ∀ {ts : List T} {vs : List V} {b : List Addr} {S' : Hp}, Same S S' → (∀ a ∈ b, ∀ o, H a = some o → S' a = some o) → Rtl S H ts vs b → Rpl S' (ts.map T.d) vs
  | ts, vs, b, S', e, k, h => by rw [← dl_eq]; exact h.toRpl e k
theorem map_fz (ts : List T) : ts.map T.fz = (ts.map T.d).map .sh := by
  rw [List.map_map]; rfl
/-- the name's list set aside: what is walked, and how it is put back -/
theorem GX.aside (g : GX W S0 ρ σ tm vm H) (e : ρ[i]? = some (some (.ol ts))) : ∃ a xs S, σ[i]? = some (some (.ref a)) ∧ H a = some (.lst xs) ∧ Rpl S (ts.map T.d) xs ∧ Up W S0 S ∧ S a = none ∧ W a = none ∧
    GX (also W H a) S (ρ.set i none) σ tm vm H ∧
    (∀ ρ' σ' tm' vm' H', GX (also W H a) S ρ' σ' tm' vm' H' → GX W S0 ρ' σ' tm' vm' H') ∧
    (∀ ρ' σ' tm' vm' H', GX (also W H a) S ρ' σ' tm' vm' H' → σ'[i]? = some (some (.ref a)) → GX W S0 (ρ'.set i (some (.ol (ts.map T.fz)))) σ' tm' vm' H') := by
  obtain ⟨v, e1, g1⟩ := g.take e
  obtain ⟨S, as, bs, g1⟩ := g1
  obtain ⟨v', r, c1, c2, h3, rfl, ⟨a, xs, b, rfl, rfl, h4, h5⟩, h6⟩ := g1.rt
  cases h3
  have nd := g1.nd
  have fs := g1.fs
  have fw := g1.fw
  have eS : Same S (more S H b) := more_same (by grind)
  have hr : Rpl (more S H b) (ts.map T.d) xs := h5.fzs eS fun x hx o h => by rw [more_in hx]; exact h
  have ha : a ∉ b := by grind
  have hSa : S a = none := fs a (by grind)
  have hWa : W a = none := fw a (by grind)
  have hMa : more S H b a = none := by rw [more_out ha]; exact hSa
  have sW : ∀ x, x ≠ a → also W H a x = W x := fun x h => also_ne h
  have wSame : Same W (also W H a) := fun x o h => by
    rw [sW x (by rintro rfl; rw [hWa] at h; cases h)]; exact h
  have hup : Up W S0 (more S H b) := ⟨g1.s0.trans eS, fun x h k => by
    by_cases q : x ∈ b
    · exact absurd (fw x (by grind)) h
    · rw [more_out q] at k; exact g1.nw x h k⟩
  have gN : GX (also W H a) (more S H b) (ρ.set i none) σ tm vm H := by
    refine ⟨more S H b, as, c2, fun _ _ h => h, more_sub g1.sh, fun x o h => ?_, fun _ _ h => h, g1.re.mono eS fun _ _ => rfl, h6.mono eS fun _ _ => rfl, by grind, fun x hx => ?_, fun x hx => ?_⟩
    · by_cases q : x = a
      · subst q; rw [also_at] at h; exact h
      · rw [sW x q] at h; exact g1.wh x o h
    · have q : x ∉ b := by grind
      rw [more_out q]; exact fs x (by grind)
    · rw [sW x (by rintro rfl; grind)]; exact fw x (by grind)
  refine ⟨a, xs, more S H b, e1, h4, hr, hup, hMa, hWa, gN, fun ρ' σ' tm' vm' H' g' => ?_, fun ρ' σ' tm' vm' H' g' es => ?_⟩
  · obtain ⟨S', as', bs', g'⟩ := g'
    refine ⟨S', as', bs', hup.1.trans g'.s0, g'.sh, fun x o h => g'.wh x o (wSame x o h), fun x h k => ?_, g'.re, g'.rt, g'.nd, g'.fs, fun x hx => ?_⟩
    · refine hup.2 x h (g'.nw x ?_ k)
      intro q
      cases hq : W x with
      | none => exact h hq
      | some o => rw [wSame x o hq] at q; cases q
    · have := g'.fw x hx
      cases hq : W x with
      | none => rfl
      | some o => rw [wSame x o hq] at this; cases this
  · obtain ⟨S', as', bs', g'⟩ := g'
    have hHa : H' a = some (.lst xs) := g'.wh a _ (by rw [also_at]; exact h4)
    have hS'a : S' a = none := by
      cases q : S' a with
      | none => rfl
      | some o => exact absurd hMa (g'.nw a (by rw [also_at, h4]; simp) (by rw [q]; simp))
    have nd' := g'.nd
    have fw' := g'.fw
    have fs' := g'.fs
    have hne : ∀ x ∈ as' ++ bs', x ≠ a := fun x hx q => by
      have := fw' x hx
      rw [q, also_at, h4] at this; cases this
    have g2 : GX W S0 ρ' σ' (.ol (ts.map T.fz) :: tm') (.ref a :: vm') H' := by
      refine ⟨S', as', a :: bs', hup.1.trans g'.s0, g'.sh, fun x o h => g'.wh x o (wSame x o h), fun x h k => ?_, g'.re, ⟨.ref a, vm', [a], bs', rfl, rfl, ⟨a, xs, [], rfl, rfl, hHa, ?_⟩, g'.rt⟩, ?_, ?_, ?_⟩
      · refine hup.2 x h (g'.nw x ?_ k)
        intro q
        cases hq : W x with
        | none => exact h hq
        | some o => rw [wSame x o hq] at q; cases q
      · rw [map_fz]; exact (hr.mono g'.s0).toRtl
      · grind
      · grind
      · intro x hx
        by_cases q : x = a
        · rw [q]; exact hWa
        · have := fw' x (by grind)
          rw [sW x q] at this; exact this
    exact g2.back es
def mForB (i : Nat) (b : BM) (body : SM) : SM := fun ρ => match ρ[i]? with
  | some (some (.ol ts)) => match forL b body (ts.map T.fz) (ρ.set i none) with
    | .nx ρ' => .nx (ρ'.set i (some (.ol (ts.map T.fz))))
    | r => r
  | _ => .bad
/-- a stable heap for the walk -/
theorem jok_mono {Z : Hp} {J : It} (h : JOk S J its) (e : Same S Z) : ∀ i H x H', Same Z H → i < its.length → J.yld i H x H' → ∃ t, its[i]? = some t ∧ ((H' = H ∧ ∃ d, t = .sh d ∧ Rp S d x) ∨ ∃ p es vs, t = .ot (es.map .sh) ∧ x = .ref p ∧ H p = none ∧ H' = upd H p (.tup vs) ∧ Rpl S es vs) := fun i H x H' s => h.yld i H x H' (e.trans s)
theorem yld_list {a : Addr} {l : List D} {xs : List V} (hH : H a = some (.lst xs)) (r : Rpl S l xs) {x : V} (hi : i < l.length) (y : (Itl K a).yld i H x H') : ∃ t, (l.map T.sh)[i]? = some t ∧ ((H' = H ∧ ∃ d, t = .sh d ∧ Rp S d x) ∨ ∃ p es vs, t = .ot (es.map .sh) ∧ x = .ref p ∧ H p = none ∧ H' = upd H p (.tup vs) ∧ Rpl S es vs) := by
  obtain ⟨e1, y⟩ := y
  have hx := y xs (.of hH)
  obtain ⟨v, e2, e3⟩ := r.get (List.getElem?_eq_getElem hi)
  rw [hx] at e2
  cases e2
  exact ⟨.sh l[i], by simp [hi], .inl ⟨e1, _, rfl, e3⟩⟩
theorem ss_forB {slots : List Nat} {g : TG} {tb : TS} {b : BM} {body : SM} (hg : SG slots g b) (hs : ∀ j ∈ slots, j ∉ i :: pin) (hb : SS ct Wx (i :: pin) tb body) : SS ct Wx pin (tFor (iSeq K (tVar i)) g tb) (mForB i b body) := fun W S0 σ0 ρ σ H D gx p k => by
  unfold mForB at k
  split at k
  case h_2 => exact k.elim
  rename_i ts e0
  obtain ⟨a, xs, S, ea, hH, hr, hu, hSa, hWa, gN, out1, out2⟩ := gx.aside e0
  have hlen : xs.length = ts.length := by have := hr.len; simpa using this
  refine ⟨.ref a, ea, a, rfl, .inl ⟨⟨xs, .of hH⟩, ?_⟩⟩
  have pinI : ∀ σ', Pin (i :: pin) σ σ' → Pin pin σ0 σ' ∧ σ'[i]? = some (some (.ref a)) := fun σ' q => ⟨fun j hj => (q j (by simp [hj])).trans (p j hj), (q i (by simp)).trans ea⟩
  refine for_list (xs := xs) (fun n σ' H' => ∃ ρ', GX (also W H a) S ρ' σ' [] [] H' ∧ Pin (i :: pin) σ σ' ∧ n ≤ ts.length ∧ (match forL b body ((ts.map T.fz).drop n) ρ' with
      | .nx ρ' => SK ct Wx W S0 pin σ0 D (.nx (ρ'.set i (some (.ol (ts.map T.fz)))))
      | r => SK ct Wx W S0 pin σ0 D r)) ⟨_, gN, Pin.refl, Nat.zero_le _, ?_⟩ ?_ ?_ ?_
  · simp only [List.drop_zero]
    generalize forL b body (ts.map T.fz) (ρ.set i none) = o at k ⊢
    cases o <;> exact k
  · rintro n σ' H' _ ⟨ρ', g', _⟩
    exact .of (g'.outer a _ (by rw [also_at]; exact hH))
  · rintro n x σ' H' hx ⟨ρ', g', p', hn, k'⟩
    have hlt : n < ts.length := by have := (List.getElem?_eq_some_iff.mp hx).1; omega
    have hH' : H' a = some (.lst xs) := g'.outer a _ (by rw [also_at]; exact hH)
    obtain ⟨w, e2, e3⟩ := hr.get (i := n) (d := (ts[n]).d) (by simp [hlt])
    rw [hx] at e2
    cases e2
    rw [List.drop_eq_getElem_cons (by simpa using hlt), List.getElem_map] at k'
    unfold forL at k'
    generalize hbt : b (T.fz ts[n]) ρ' = ob at k'
    cases ob with
    | none => exact k'.elim
    | some ρ2 =>
      simp only at k'
      obtain ⟨S1, as1, bs1, g1⟩ := g'
      refine hg _ S ρ' σ' [] [] H' _ x ρ2 (g1.pushS (e3.mono g1.s0)) hbt _ fun σ2 g2 ew => ?_
      refine hb _ S σ ρ2 σ2 H' _ g2 (p'.wipe ew hs) ?_
      generalize body ρ2 = o at k'
      cases o with
      | bad => exact k'
      | nx ρ3 => exact fun σ3 H3 g3 p3 => ⟨ρ3, g3, p3, hlt, k'⟩
      | ct ρ3 => exact fun σ3 H3 g3 p3 => ⟨ρ3, g3, p3, hlt, k'⟩
      | bk ρ3 => exact fun σ3 H3 g3 p3 => k' σ3 H3 (out2 _ _ _ _ _ g3 (pinI _ p3).2) (pinI _ p3).1
      | rt t' ρ3 => exact fun v3 σ3 H3 g3 p3 => k' v3 σ3 H3 (out1 _ _ _ _ _ g3) (pinI _ p3).1
      | ex x' ρ3 => exact fun c3 d3 σ3 H3 g3 p3 hx3 => k' c3 d3 σ3 H3 (out1 _ _ _ _ _ g3) (pinI _ p3).1 hx3
  · rintro σ' H' ⟨ρ', g', p', hn, k'⟩
    rw [hlen, List.drop_eq_nil_of_le (by simp)] at k'
    exact k' σ' H' (out2 _ _ _ _ _ g' (pinI _ p').2) (pinI _ p').1
def eLCB (slots : List Nat) (i : Nat) (b : BM) (tst : EMb) (elt : EM) : EM := fun ρ => match ρ[i]? with
  | some (some (.ol ts)) => ((lcL slots b tst elt (ts.map T.fz) [] (wipeE (ρ.set i none) slots)).nox).bnd fun acc ρ2 => .ok (.ol acc) ((keepE (ρ.set i none) slots (wipeE ρ2 slots)).set i (some (.ol (ts.map T.fz))))
  | _ => .bad
theorem se_lcB {slots : List Nat} {g : TG} {tt : TT} {te : TE} {b : BM} {tst : EMb} {elt : EM} (hg : SG slots g b) (ht : SET ct NoX tt tst) (he : SE ct NoX te elt) : SE ct Wx (tLc (iSeq K (tVar i)) g tt te slots) (eLCB slots i b tst elt) := fun W S0 ρ σ tm vm H Q gx k => by
  unfold eLCB at k
  split at k
  case h_2 => exact k.elim
  rename_i ts e0
  obtain ⟨a, xs, S, ea, hH, hr, hu, hSa, hWa, gN, out1, out2⟩ := gx.aside e0
  have hlen : xs.length = ts.length := by have := hr.len; simpa using this
  have k2 := P_nox (Ψ' := fun _ _ => False) (Out.P_bnd.mp k)
  refine ⟨.ref a, ea, a, rfl, .inl ⟨⟨xs, .of hH⟩, ?_⟩⟩
  intro D hD
  obtain ⟨S1, as, bs, hu1, g1⟩ := gN.up
  have hk : ∀ (j : Nat) d, (ρ.set i none)[j]? = some (some (.sh d)) → ∃ v, σ[j]? = some (some v) ∧ Rp S1 d v := fun j d e => by
    obtain ⟨v, b, c, d', e1, _, ⟨_, e3⟩, _⟩ := g1.re.at e
    exact ⟨v, e1, e3⟩
  have g2 : GX (also W H a) S1 (wipeE (ρ.set i none) slots) (wipe σ slots) (.ol [] :: tm) (.ref D :: vm) (upd H D (.lst [])) := GX.wipe (GX.newL (ts := []) (vs := []) ⟨S1, as, bs, g1⟩ rfl hD)
  have hr1 := hr.mono hu1.1
  refine lc_list (xs := xs) (fun n H' => n ≤ ts.length ∧ ∃ ρ' acc, GX (also W H a) S1 ρ' (wipe σ slots) (.ol acc :: tm) (.ref D :: vm) H' ∧ (lcL slots b tst elt ((ts.map T.fz).drop n) acc ρ').P (fun acc ρ2 => ∀ H', GX (also W H a) S1 (wipeE ρ2 slots) (wipe σ slots) (.ol acc :: tm) (.ref D :: vm) H' → Q (.ref D) H') (fun _ _ => False)) ?_ ?_ ?_ ?_
  · refine ⟨Nat.zero_le _, _, [], g2, k2.mono (fun acc ρ2 k3 H' g3 => ?_) fun _ _ h => h⟩
    exact k3 (.ref D) H' (out2 _ _ _ _ _ ((GX.keep g3 hk).join hu1) ea)
  · rintro n H' _ ⟨_, ρ', acc, g', _⟩
    exact .of (g'.outer a _ (by rw [also_at]; exact hH))
  · rintro n x H' hx ⟨hle, ρ', acc, g', k'⟩
    have hlt : n < ts.length := by have := (List.getElem?_eq_some_iff.mp hx).1; omega
    obtain ⟨w, e2, e3⟩ := hr1.get (i := n) (d := (ts[n]).d) (by simp [hlt])
    rw [hx] at e2
    cases e2
    rw [List.drop_eq_getElem_cons (by simpa using hlt), List.getElem_map] at k'
    unfold lcL at k'
    generalize hbt : b (T.fz ts[n]) ρ' = ob at k'
    cases ob with
    | none => exact k'.elim
    | some ρ2 =>
    simp only at k'
    obtain ⟨S2, as2, bs2, gg⟩ := g'
    refine hg _ S1 ρ' _ _ _ H' _ x ρ2 (gg.pushS (e3.mono gg.s0)) hbt _ fun σ2 g2 ew => ?_
    rw [wipe_wipe] at ew
    refine ⟨ew, ht _ S1 ρ2 σ2 _ _ H' _ g2 ((Out.P_bnd.mp k').mono (fun c ρ3 k3 H3 g3 => ?_) fun _ _ h => h.elim)⟩
    cases c with
    | false =>
      refine ⟨hlt, wipeE ρ3 slots, acc, ?_, k3⟩
      have := GX.wipe (slots := slots) g3
      rw [ew] at this
      exact this
    | true =>
      rw [if_pos rfl] at k3
      refine he _ S1 ρ3 σ2 _ _ H3 _ g3 ((Out.P_bnd.mp k3).mono (fun u ρ4 k4 yv H4 g4 => ?_) fun _ _ h => h.elim)
      obtain ⟨hz, k4⟩ := P_ite k4
      have g5 : GX (also W H a) S1 ρ4 σ2 (.ol acc :: u :: tm) (.ref D :: yv :: vm) H4 := GX.rot (ts := [u]) (vs := [yv]) g4 rfl
      obtain ⟨a', xs', e5, h1, h2, mk⟩ := g5.mutL
      cases e5
      refine ⟨xs', h1, lim_lt (by omega), hlt, wipeE ρ4 slots, acc ++ [u], ?_, k4⟩
      have g6 := mk (acc ++ [u]) tm (xs' ++ [yv]) vm (fun S H b c hb hc => by
        obtain ⟨v', r, c1, c2, h3, rfl, h4, h5⟩ := hc
        cases h3
        have h6 : Rtl S H [u] [yv] c1 := ⟨yv, [], c1, [], rfl, by simp, h4, rfl, rfl⟩
        exact ⟨b ++ c1, c2, hb.append h6, h5, by grind, by grind⟩)
      have := GX.wipe (slots := slots) g6
      rw [ew] at this
      exact this
  · rintro H' ⟨_, ρ', acc, g', k'⟩
    rw [hlen, List.drop_eq_nil_of_le (by simp)] at k'
    refine k' H' ?_
    have := GX.wipe (slots := slots) g'
    rw [wipe_wipe] at this
    exact this
/-! ### a fresh value shared at once -/
def eFz (m : EM) : EM := fun ρ => (m ρ).bnd fun u ρ => .ok u.fz ρ
theorem se_fz {te : TE} {m : EM} (h : SE ct Wx te m) : SE ct Wx te (eFz m) := fun W S0 ρ σ tm vm H Q g k => h W S0 ρ σ tm vm H Q g ((Out.P_bnd.mp k).mono (fun t ρ1 k1 v H1 g1 => k1 v H1 g1.frz) fun _ _ h => h)
end
end Z

namespace Z
noncomputable section
open PySem L2
/-! ### lists of ints -/
def ig (i : Int) : T := .sh (.int i)
@[simp] theorem ig_app (i : Int) : ig i = .sh (.int i) := rfl
abbrev si (i : Int) : T := .sh (.int i)
abbrev T.ints (l : List Int) : T := .ol (l.map ig)
abbrev D.ints (l : List Int) : D := .lst (l.map .int)
abbrev shi (l : List Int) : T := .sh (D.ints l)
@[simp] theorem dl_nil : dl [] = [] := rfl
@[simp] theorem dl_cons (t : T) (l : List T) : dl (t :: l) = t.d :: dl l := rfl
@[simp] theorem dl_app (l m : List T) : dl (l ++ m) = dl l ++ dl m := by simp [dl_eq]
@[simp] theorem dl_ig (l : List Int) : dl (l.map ig) = l.map D.int := by rw [dl_eq, List.map_map]; rfl
@[simp] theorem dl_set (l : List T) (k : Nat) (t : T) : dl (l.set k t) = (dl l).set k t.d := by simp [dl_eq]
@[simp] theorem sh_d (d : D) : (T.sh d).d = d := rfl
@[simp] theorem ol_d (l : List T) : (T.ol l).d = .lst (dl l) := rfl
@[simp] theorem ot_d (l : List T) : (T.ot l).d = .tup (dl l) := rfl
@[simp] theorem fz_def (t : T) : T.fz t = .sh t.d := rfl
@[simp] theorem els_ol (l : List T) : (T.ol l).els = some l := rfl
@[simp] theorem els_sh (l : List D) : (T.sh (.lst l)).els = some (l.map .sh) := rfl
@[simp] theorem kids_ol (l : List T) : (T.ol l).kids = some l := rfl
@[simp] theorem kids_sh (l : List D) : (T.sh (.lst l)).kids = some (l.map .sh) := rfl
@[simp] theorem shs_sh (l : List D) : (T.sh (.lst l)).shs = some l := rfl
@[simp] theorem shs_ol (l : List T) : (T.ol l).shs = shsL l := rfl
@[simp] theorem shsL_ig (l : List Int) : shsL (l.map ig) = some (l.map .int) := by
  induction l with
  | nil => rfl
  | cons a l ih => simp only [List.map_cons, ig_app, shsL, ih, Option.map_some]
@[simp] theorem shsL_nil : shsL [] = some [] := rfl
@[simp] theorem shsL_cons (d : D) (l : List T) : shsL (.sh d :: l) = (shsL l).map (d :: ·) := rfl
@[simp] theorem shsL_app (l m : List T) : shsL (l ++ m) = (shsL l).bind fun a => (shsL m).map (a ++ ·) := by
  induction l with
  | nil => cases h : shsL m <;> simp [shsL, h]
  | cons t l ih =>
    cases t <;> simp [shsL, ih]
    cases shsL l <;> simp
    cases shsL m <;> simp
@[simp] theorem map_sh_int (l : List Int) : (l.map D.int).map T.sh = l.map ig := by rw [List.map_map]; rfl
@[simp] theorem lst_lst (l : List D) : (D.lst l).lstO = some l := rfl
@[simp] theorem seq_lst (l : List D) : (D.lst l).seq = some l := rfl
@[simp] theorem int_int (i : Int) : (D.int i).intO = some i := rfl
@[simp] theorem tru_bool (b : Bool) : (D.bl b).tru = some b := rfl
@[simp] theorem scal_int (i : Int) : (D.int i).scal = true := rfl
@[simp] theorem scal_bl (i : Bool) : (D.bl i).scal = true := rfl
@[simp] theorem scal_str (i : Str) : (D.str i).scal = true := rfl
@[simp] theorem scal_non : D.non.scal = true := rfl
@[simp] theorem len_lst (l : List D) : oLen (.lst l) = some (.int l.length) := rfl
@[simp] theorem dl_len (l : List T) : (dl l).length = l.length := by simp [dl_eq]
@[simp] theorem int_o (i : Int) : oInt (.int i) = some (.int i) := rfl
@[simp] theorem add_int (i j : Int) : oAdd (.int i) (.int j) = some (.int (i + j)) := rfl
@[simp] theorem sub_int (i j : Int) : oSub (.int i) (.int j) = some (.int (i - j)) := rfl
@[simp] theorem lt_int (i j : Int) : oLt (.int i) (.int j) = some (.bl (decide (i < j))) := rfl
@[simp] theorem le_int (i j : Int) : oLe (.int i) (.int j) = some (.bl (decide (i ≤ j))) := rfl
@[simp] theorem gt_int (i j : Int) : oGt (.int i) (.int j) = some (.bl (decide (j < i))) := rfl
@[simp] theorem ge_int (i j : Int) : oGe (.int i) (.int j) = some (.bl (decide (j ≤ i))) := rfl
@[simp] theorem eq_int (a b : Int) : oEq (.int a) (.int b) = some (.bl (a == b)) := rfl
@[simp] theorem ne_int (a b : Int) : oNe (.int a) (.int b) = some (.bl (!(a == b))) := rfl
@[simp] theorem eq_bl (a b : Bool) : oEq (.bl a) (.bl b) = some (.bl (a == b)) := rfl
@[simp] theorem ne_bl (a b : Bool) : oNe (.bl a) (.bl b) = some (.bl (!(a == b))) := rfl
@[simp] theorem neg_int (a : Int) : oNeg (.int a) = some (.int (-a)) := rfl
@[simp] theorem max_int (i j : Int) : oMax2 (.int i) (.int j) = some (.int (if j > i then j else i)) := rfl
@[simp] theorem min_int (i j : Int) : oMin2 (.int i) (.int j) = some (.int (if j < i then j else i)) := rfl
theorem mod_int {i j : Int} (h : 0 < j) : oMod (.int i) (.int j) = some (.int (i % j)) := by
  show (if 0 < j then some (D.int (i % j)) else none) = _
  rw [if_pos h]
theorem mul_int {i j : Int} (h : smallM i j) : oMul (.int i) (.int j) = some (.int (i * j)) := by
  show (if smallM i j then some (D.int (i * j)) else none) = _
  rw [if_pos h]
theorem small_r {i j : Int} (h : -(2 ^ 64) < j ∧ j < 2 ^ 64) : smallM i j := .inr (.inl h)
theorem small_l {i j : Int} (h : -(2 ^ 64) < i ∧ i < 2 ^ 64) : smallM i j := .inl h
theorem log_lt {j : Int} (h0 : 0 < j) (h1 : j < 2 ^ 60) : j.natAbs.log2 < 9000 := by
  have h2 : j.natAbs < 2 ^ 60 := by omega
  have := (Nat.log2_lt (n := j.natAbs) (k := 60) (by omega)).mpr h2
  omega
theorem div_int {i j : Int} (h : 0 < j) (h1 : j < 2 ^ 60) : oDiv (.int i) (.int j) = some (.int (i / j)) := by
  show (if smallD i j then some (D.int (i / j)) else none) = _
  rw [if_pos ⟨h, log_lt h h1⟩]
theorem atI_ok {α : Type} {l : List α} {i : Int} (h0 : 0 ≤ i) (h1 : i < l.length) : atI l i = l[i.toNat]? := by
  unfold atI ixN
  rw [if_pos h0, if_pos h1]
  rfl
theorem atI_D (l : List Int) {i : Int} (h0 : 0 ≤ i) (h1 : i < l.length) : atI (l.map D.int) i = some (.int (l.getD i.toNat 0)) := by
  rw [atI_ok h0 (by simpa using h1), List.getElem?_map, List.getD_eq_getElem?_getD]
  have : i.toNat < l.length := by omega
  simp [this]
theorem atI_T (l : List Int) {i : Int} (h0 : 0 ≤ i) (h1 : i < l.length) : atI (l.map ig) i = some (.sh (.int (l.getD i.toNat 0))) := by
  rw [atI_ok h0 (by simpa using h1), List.getElem?_map, List.getD_eq_getElem?_getD]
  have : i.toNat < l.length := by omega
  simp [this]
@[simp] theorem oIx_lst (l : List D) (i : Int) : oIx (.lst l) (.int i) = atI l i := rfl
@[simp] theorem oIx_tup (l : List D) (i : Int) : oIx (.tup l) (.int i) = atI l i := rfl
@[simp] theorem atI_zero {α : Type} (a : α) (l : List α) : atI (a :: l) 0 = some a := by
  rw [atI_ok (by omega) (by simp <;> omega)]; rfl
theorem atI_nat {α : Type} (l : List α) (k : Nat) : atI l (k : Int) = l[k]? := by
  by_cases h : k < l.length
  · rw [atI_ok (by omega) (by omega)]; simp
  · unfold atI ixN
    rw [if_pos (by omega), if_neg (by omega), List.getElem?_eq_none (by omega)]
    rfl
theorem ixN_ok {n : Nat} {i : Int} (h0 : 0 ≤ i) (h1 : i < n) : ixN n i = some i.toNat := by
  unfold ixN
  rw [if_pos h0, if_pos h1]
@[simp] theorem ixN_zero {n : Nat} : ixN (n + 1) 0 = some 0 := ixN_ok (by omega) (by omega)
@[simp] theorem cut_map {α β : Type} (f : α → β) (l : List α) (a b : Option Int) : cutD (l.map f) a b = (cutD l a b).map f := by
  unfold cutD
  rw [List.length_map, List.map_take, List.map_drop]
theorem cut_to {α : Type} (l : List α) {i : Int} (h0 : 0 ≤ i) (h1 : i ≤ l.length) : cutD l none (some i) = l.take i.toNat := by
  unfold cutD HT.sIx
  simp only
  rw [if_neg (by omega), Nat.min_eq_left (by omega)]
  simp
theorem cut_from {α : Type} (l : List α) {i : Int} (h0 : 0 ≤ i) (h1 : i ≤ l.length) : cutD l (some i) none = l.drop i.toNat := by
  unfold cutD HT.sIx
  simp only
  rw [if_neg (by omega), Nat.min_eq_left (by omega)]
  rw [List.take_of_length_le (by simp)]
theorem rangeT_get {lo : Int} {n k : Nat} {t : T} (h : (rangeT lo n)[k]? = some t) : k < n ∧ t = si (lo + k) := by
  unfold rangeT at h
  rw [List.getElem?_map] at h
  obtain ⟨j, e, rfl⟩ := Option.map_eq_some_iff.mp h
  have := List.getElem?_eq_some_iff.mp e
  obtain ⟨h1, h2⟩ := this
  simp at h1 h2
  subst h2
  exact ⟨h1, rfl⟩
def iota (n : Nat) : List Int := (List.range n).map fun k : Nat => (k : Int)
@[simp] theorem iota_len (n : Nat) : (iota n).length = n := by simp [iota]
@[simp] theorem rangeT_iota (n : Nat) : rangeT 0 n = (iota n).map ig := by
  unfold rangeT iota
  rw [List.map_map]
  congr 1
  funext k
  simp
theorem iota_get (n k : Nat) (h : k < n) : (iota n)[k]? = some (k : Int) := by simp [iota, h]
theorem iota_getD (n k : Nat) (h : k < n) : (iota n).getD k 0 = (k : Int) := by simp [iota, h]
/-! ### running: what the combinators come to -/
@[simp] theorem bnd_ok {α β : Type} (a : α) (ρ : Env) (f : α → Env → Out β) : (Out.ok a ρ).bnd f = f a ρ := rfl
@[simp] theorem st_ok {α : Type} (a : α) (ρ : Env) (f : α → Env → SOut) : (Out.ok a ρ).st f = f a ρ := rfl
@[simp] theorem optO_some {α : Type} (a : α) (ρ : Env) : optO (some a) ρ = .ok a ρ := rfl
@[simp] theorem nox_ok {α : Type} (a : α) (ρ : Env) : (Out.ok a ρ).nox = .ok a ρ := rfl
/-! ### loops -/
theorem forL_inv {b : BM} {body : SM} : ∀ {its : List T} {ρ : Env} (I : Nat → Env → Prop) (_ : I 0 ρ) (_ : ∀ k t ρ, its[k]? = some t → I k ρ → ∃ ρ1 ρ2, b t ρ = some ρ1 ∧ (body ρ1 = .nx ρ2 ∨ body ρ1 = .ct ρ2) ∧ I (k + 1) ρ2),
    ∃ ρ', forL b body its ρ = .nx ρ' ∧ I its.length ρ'
  | [], ρ, I, h0, _ => ⟨ρ, rfl, h0⟩
  | t :: its, ρ, I, h0, hs => by
    obtain ⟨ρ1, ρ2, e1, e2, h2⟩ := hs 0 t ρ rfl h0
    obtain ⟨ρ', e3, h3⟩ := forL_inv (its := its) (fun k => I (k + 1)) h2 fun k t' ρ' e i => hs (k + 1) t' ρ' (by simpa using e) i
    refine ⟨ρ', ?_, h3⟩
    unfold forL
    rw [e1]
    simp only
    rcases e2 with e2 | e2 <;> rw [e2] <;> exact e3
/-- .. over a name's values -/
theorem forN_inv {i : Nat} {body : SM} {its : List T} {ρ : Env} (I : Nat → Env → Prop) (h0 : I 0 ρ) (hs : ∀ k t ρ, its[k]? = some t → I k ρ → ∃ ρ2, (body (ρ.set i (some t)) = .nx ρ2 ∨ body (ρ.set i (some t)) = .ct ρ2) ∧ I (k + 1) ρ2) :
    ∃ ρ', forL (bName i) body its ρ = .nx ρ' ∧ I its.length ρ' :=
  forL_inv I h0 fun k t ρ e h => by
    obtain ⟨ρ2, h1, h2⟩ := hs k t ρ e h
    exact ⟨_, ρ2, rfl, h1, h2⟩
theorem lcL_inv {slots : List Nat} {b : BM} {tst : EMb} {elt : EM} : ∀ {its acc : List T} {ρ : Env} (I : Nat → List T → Env → Prop) (_ : I 0 acc ρ)
    (_ : ∀ k t acc ρ, its[k]? = some t → I k acc ρ → ∃ ρ1 ρ2, b t ρ = some ρ1 ∧ ((∃ u ρ3, tst ρ1 = .ok true ρ2 ∧ elt ρ2 = .ok u ρ3 ∧ acc.length < lim ∧ I (k + 1) (acc ++ [u]) (wipeE ρ3 slots)) ∨ (tst ρ1 = .ok false ρ2 ∧ I (k + 1) acc (wipeE ρ2 slots)))),
    ∃ acc' ρ', lcL slots b tst elt its acc ρ = .ok acc' ρ' ∧ I its.length acc' ρ'
  | [], acc, ρ, I, h0, _ => ⟨acc, ρ, rfl, h0⟩
  | t :: its, acc, ρ, I, h0, hs => by
    obtain ⟨ρ1, ρ2, e1, e2⟩ := hs 0 t acc ρ rfl h0
    unfold lcL
    rw [e1]
    simp only
    rcases e2 with ⟨u, ρ3, e2, e3, hz, h2⟩ | ⟨e2, h2⟩
    · rw [e2]
      simp only [Out.bnd, if_pos, e3, if_pos hz]
      exact lcL_inv (its := its) (fun k => I (k + 1)) h2 fun k t' acc' ρ' e i => hs (k + 1) t' acc' ρ' (by simpa using e) i
    · rw [e2]
      simp only [Out.bnd]
      exact lcL_inv (its := its) (fun k => I (k + 1)) h2 fun k t' acc' ρ' e i => hs (k + 1) t' acc' ρ' (by simpa using e) i
/-- a comprehension whose items leave all else as it is -/
theorem lcL_map {slots : List Nat} {b : BM} {elt : EM} {ρ : Env} (f : T → T) : ∀ {its acc : List T} (_ : ∀ t ∈ its, ∃ ρ1 ρ2, b t ρ = some ρ1 ∧ elt ρ1 = .ok (f t) ρ2 ∧ wipeE ρ2 slots = ρ) (_ : acc.length + its.length ≤ lim),
    lcL slots b tAll elt its acc ρ = .ok (acc ++ its.map f) ρ
  | [], acc, _, _ => by simp [lcL]
  | t :: its, acc, h, hz => by
    obtain ⟨ρ1, ρ2, e1, e2, e3⟩ := h t (by simp)
    unfold lcL
    simp only [List.length_cons] at hz
    rw [e1]
    simp only [tAll, Out.bnd, if_pos, e2, e3, if_pos (show acc.length < lim by omega)]
    have := lcL_map f (its := its) (acc := acc ++ [f t]) (fun t' h' => h t' (by simp [h'])) (by simp; omega)
    rw [this]
    simp
end
end Z

namespace Z
noncomputable section
open PySem L2
@[simp ↓] theorem pV_run (i : Nat) (ρ : Env) : pV i ρ = (match ρ[i]? with
  | some (some t) => some t.d
  | _ => none) := rfl
@[simp ↓] theorem pC_run (d : D) (ρ : Env) : pC d ρ = (some d) := rfl
@[simp ↓] theorem pOp_run (o : D → D → Option D) (a b : PM) (ρ : Env) : pOp o a b ρ = ((a ρ).bind fun x => (b ρ).bind fun y => o x y) := rfl
@[simp ↓] theorem pUn_run (o : D → Option D) (a : PM) (ρ : Env) : pUn o a ρ = ((a ρ).bind o) := rfl
@[simp ↓] theorem pIf_run (t : TM) (a b : PM) (ρ : Env) : pIf t a b ρ = ((t ρ).bind fun c => if c = true then a ρ else b ρ) := rfl
@[simp ↓] theorem pB_run (a : PM) (ρ : Env) : pB a ρ = ((a ρ).bind D.tru) := rfl
@[simp ↓] theorem qAnd_run (a b : TM) (ρ : Env) : qAnd a b ρ = ((a ρ).bind fun c => if c = true then b ρ else some false) := rfl
@[simp ↓] theorem qOr_run (a b : TM) (ρ : Env) : qOr a b ρ = ((a ρ).bind fun c => if c = true then some true else b ρ) := rfl
@[simp ↓] theorem qNot_run (a : TM) (ρ : Env) : qNot a ρ = ((a ρ).map (!·)) := rfl
@[simp ↓] theorem pAndV_run (a b : PM) (ρ : Env) : pAndV a b ρ = ((a ρ).bind fun x => x.tru.bind fun c => if c = true then b ρ else some (.bl false)) := rfl
@[simp ↓] theorem pOrV_run (a b : PM) (ρ : Env) : pOrV a b ρ = ((a ρ).bind fun x => x.tru.bind fun c => if c = true then some (.bl true) else b ρ) := rfl
@[simp ↓] theorem pNotV_run (a : PM) (ρ : Env) : pNotV a ρ = ((a ρ).bind fun x => x.tru.bind fun c => some (.bl (!c))) := rfl
@[simp ↓] theorem pChain_run (o o' : D → D → Option D) (a b c : PM) (ρ : Env) : pChain o o' a b c ρ = ((a ρ).bind fun x => (b ρ).bind fun y => (o x y).bind fun z => z.tru.bind fun k => if k = true then (c ρ).bind fun w => o' y w else some (.bl false)) := rfl
@[simp ↓] theorem aNil_run (ρ : Env) : aNil  ρ = (some []) := rfl
@[simp ↓] theorem aCons_run (a : PM) (b : AM) (ρ : Env) : aCons a b ρ = ((a ρ).bind fun x => (b ρ).bind fun y => some (x :: y)) := rfl
@[simp ↓] theorem pCB_run (o : List D → Option D) (a : AM) (ρ : Env) : pCB o a ρ = ((a ρ).bind o) := rfl
@[simp ↓] theorem pLst_run (a : AM) (ρ : Env) : pLst a ρ = ((a ρ).bind fun l => if l.length ≤ lim then some (.lst l) else none) := rfl
@[simp ↓] theorem pTup_run (a : AM) (ρ : Env) : pTup a ρ = ((a ρ).bind fun l => if l.length ≤ lim then some (.tup l) else none) := rfl
@[simp ↓] theorem pIsi_run (t : Ty) (a : PM) (ρ : Env) : pIsi t a ρ = ((a ρ).map fun d => .bl (d.isi t)) := rfl
@[simp ↓] theorem eP_run (p : PM) (ρ : Env) : eP p ρ = (match p ρ with
  | some d => if d.scal = true then .ok (.sh d) ρ else .bad
  | none => .bad) := rfl
@[simp ↓] theorem eV_run (i : Nat) (ρ : Env) : eV i ρ = (match ρ[i]? with
  | some (some (.sh d)) => .ok (.sh d) ρ
  | some (some t) => .ok (.sh t.d) (ρ.set i (some (.sh t.d)))
  | _ => .bad) := rfl
@[simp ↓] theorem eM_run (i : Nat) (ρ : Env) : eM i ρ = (match ρ[i]? with
  | some (some t) => .ok t (ρ.set i none)
  | _ => .bad) := rfl
@[simp ↓] theorem eNil_run (ρ : Env) : eNil  ρ = (.ok [] ρ) := rfl
@[simp ↓] theorem eCons_run (a : EM) (b : EMs) (ρ : Env) : eCons a b ρ = ((a ρ).bnd fun t ρ => (b ρ).bnd fun ts ρ => .ok (t :: ts) ρ) := rfl
@[simp ↓] theorem eLst_run (a : EMs) (ρ : Env) : eLst a ρ = ((a ρ).bnd fun ts ρ => if ts.length ≤ lim then .ok (.ol ts) ρ else .bad) := rfl
@[simp ↓] theorem eTup_run (a : EMs) (ρ : Env) : eTup a ρ = ((a ρ).bnd fun ts ρ => if ts.length ≤ lim then .ok (.ot ts) ρ else .bad) := rfl
@[simp ↓] theorem eOp_run (o : T → T → Option T) (a b : EM) (ρ : Env) : eOp o a b ρ = ((a ρ).bnd fun t ρ => (b ρ).bnd fun u ρ => optO (o t u) ρ) := rfl
@[simp ↓] theorem eCB_run (o : List T → Option T) (a : EMs) (ρ : Env) : eCB o a ρ = ((a ρ).bnd fun ts ρ => optO (o ts) ρ) := rfl
@[simp ↓] theorem vV_run (i : Nat) (ρ : Env) : vV i ρ = (match ρ[i]? with
  | some (some t) => some t
  | _ => none) := rfl
@[simp ↓] theorem vIx_run (a : Env → Option T) (p : PM) (ρ : Env) : vIx a p ρ = ((a ρ).bind fun t => (p ρ).bind fun d => d.intO.bind fun i => t.kids.bind fun l => atI l i) := rfl
@[simp ↓] theorem eGet_run (a : Env → Option T) (ρ : Env) : eGet a ρ = (match a ρ with
  | some (.sh d) => .ok (.sh d) ρ
  | _ => .bad) := rfl
@[simp ↓] theorem oNo_run (ρ : Env) : oNo  ρ = (some none) := rfl
@[simp ↓] theorem oYes_run (p : PM) (ρ : Env) : oYes p ρ = ((p ρ).bind fun d => d.intO.map some) := rfl
@[simp ↓] theorem eList_run (a : Env → Option T) (ρ : Env) : eList a ρ = (optO ((a ρ).bind fun t => t.shsU.bind fun ds => some (.ol (ds.map .sh))) ρ) := rfl
@[simp ↓] theorem eB_run (a : EM) (ρ : Env) : eB a ρ = ((a ρ).bnd fun t ρ => optO (t.d.tru) ρ) := rfl
@[simp ↓] theorem eT_run (t : TM) (ρ : Env) : eT t ρ = (optO (t ρ) ρ) := rfl
@[simp ↓] theorem eAnd_run (a b : EMb) (ρ : Env) : eAnd a b ρ = ((a ρ).bnd fun c ρ => if c = true then b ρ else .ok false ρ) := rfl
@[simp ↓] theorem eOr_run (a b : EMb) (ρ : Env) : eOr a b ρ = ((a ρ).bnd fun c ρ => if c = true then .ok true ρ else b ρ) := rfl
@[simp ↓] theorem eNot_run (a : EMb) (ρ : Env) : eNot a ρ = ((a ρ).bnd fun c ρ => .ok (!c) ρ) := rfl
@[simp ↓] theorem eAndV_run (a b : EM) (ρ : Env) : eAndV a b ρ = ((a ρ).bnd fun t ρ => match t.d.tru with
  | some true => b ρ
  | some false => .ok (.sh (.bl false)) ρ
  | none => .bad) := rfl
@[simp ↓] theorem eOrV_run (a b : EM) (ρ : Env) : eOrV a b ρ = ((a ρ).bnd fun t ρ => match t.d.tru with
  | some false => b ρ
  | some true => .ok (.sh (.bl true)) ρ
  | none => .bad) := rfl
@[simp ↓] theorem eNotV_run (a : EM) (ρ : Env) : eNotV a ρ = ((a ρ).bnd fun t ρ => optO (t.d.tru.map fun c => .sh (.bl (!c))) ρ) := rfl
@[simp ↓] theorem eIf_run (c : EMb) (a b : EM) (ρ : Env) : eIf c a b ρ = ((c ρ).bnd fun k ρ => if k = true then a ρ else b ρ) := rfl
@[simp ↓] theorem eCall_run (n : Nat) (F : FM) (a : EMs) (ρ : Env) : eCall n F a ρ = ((a ρ).bnd fun ts ρ => if ts.length = n then match F (ts.map T.fz) with
  | .ok t ts' => if ts'.length = n then .ok t ρ else .bad
  | .ex x => .ex x ρ
  | .bad => .bad else .bad) := rfl
@[simp ↓] theorem eCallI_run (n i : Nat) (F : FM) (a : EMs) (ρ : Env) : eCallI n i F a ρ = (match ρ[i]? with
  | some (some _) => (a ρ).bnd fun ts ρ => match ρ[i]? with
    | some (some t0) => if ts.length + 1 = n then match F (t0 :: ts.map T.fz) with
      | .ok t (t1 :: ts') => if ts'.length + 1 = n then .ok t (ρ.set i (some t1)) else .bad
      | .ex x => .ex x (ρ.set i none)
      | _ => .bad else .bad
    | _ => .bad
  | _ => .bad) := rfl
@[simp ↓] theorem pCall_run (n : Nat) (F : FM) (a : AM) (ρ : Env) : pCall n F a ρ = ((a ρ).bind fun ds => if ds.length = n then match F (ds.map T.sh) with
  | .ok t ts' => if ts'.length = n then some t.d else none
  | _ => none else none) := rfl
@[simp ↓] theorem mSeq_run (a b : SM) (ρ : Env) : mSeq a b ρ = (match a ρ with
  | .nx ρ => b ρ
  | r => r) := rfl
@[simp ↓] theorem mNil_run (ρ : Env) : mNil  ρ = (.nx ρ) := rfl
@[simp ↓] theorem mSet_run (i : Nat) (e : EM) (ρ : Env) : mSet i e ρ = ((e ρ).st fun t ρ => .nx (ρ.set i (some t))) := rfl
@[simp ↓] theorem mDrop_run (e : EM) (ρ : Env) : mDrop e ρ = ((e ρ).st fun _ ρ => .nx ρ) := rfl
@[simp ↓] theorem mRet_run (e : EM) (ρ : Env) : mRet e ρ = ((e ρ).st fun t ρ => .rt t ρ) := rfl
@[simp ↓] theorem mRetN_run (ρ : Env) : mRetN  ρ = (.rt (.sh .non) ρ) := rfl
@[simp ↓] theorem mBk_run (ρ : Env) : mBk  ρ = (.bk ρ) := rfl
@[simp ↓] theorem mCt_run (ρ : Env) : mCt  ρ = (.ct ρ) := rfl
@[simp ↓] theorem mIf_run (c : EMb) (a b : SM) (ρ : Env) : mIf c a b ρ = ((c ρ).st fun k ρ => if k = true then a ρ else b ρ) := rfl
@[simp ↓] theorem mPar_run (i j : Nat) (a : EMs) (ρ : Env) : mPar i j a ρ = ((a ρ).st fun ts ρ => match ts with
  | [t, u] => .nx ((ρ.set i (some t)).set j (some u))
  | _ => .bad) := rfl
@[simp ↓] theorem mPar3_run (i j l : Nat) (a : EMs) (ρ : Env) : mPar3 i j l a ρ = ((a ρ).st fun ts ρ => match ts with
  | [t, u, w] => .nx (((ρ.set i (some t)).set j (some u)).set l (some w))
  | _ => .bad) := rfl
@[simp ↓] theorem mUnp_run (b : BM) (e : EM) (ρ : Env) : mUnp b e ρ = ((e ρ).st fun t ρ => match b t ρ with
  | some ρ => .nx ρ
  | none => .bad) := rfl
@[simp ↓] theorem mStore_run (i : Nat) (e : EM) (ix : PM) (ρ : Env) : mStore i e ix ρ = ((e ρ).st fun t ρ => match ρ[i]?, ix ρ with
  | some (some (.ol ts)), some (.int k) => match ixN ts.length k with
    | some j => .nx (ρ.set i (some (.ol (ts.set j t))))
    | none => .bad
  | _, _ => .bad) := rfl
@[simp ↓] theorem mApp_run (i : Nat) (e : EM) (ρ : Env) : mApp i e ρ = ((e ρ).st fun t ρ => match ρ[i]? with
  | some (some (.ol ts)) => if ts.length < lim then .nx (ρ.set i (some (.ol (ts ++ [t])))) else .bad
  | _ => .bad) := rfl
@[simp ↓] theorem mAppG_run (i : Nat) (e : EM) (ρ : Env) : mAppG i e ρ = (match ρ[i]? with
  | some (some (.ol _)) => mApp i e ρ
  | _ => .bad) := rfl
@[simp ↓] theorem mExt_run (i : Nat) (e : EM) (ρ : Env) : mExt i e ρ = (match ρ[i]? with
  | some (some (.ol _)) => (e ρ).st fun t ρ => match ρ[i]? with
    | some (some (.ol ts)) => match t.els with
      | some us => if ts.length + us.length ≤ lim then .nx (ρ.set i (some (.ol (ts ++ us)))) else .bad
      | none => .bad
    | _ => .bad
  | _ => .bad) := rfl
@[simp ↓] theorem ePop_run (i : Nat) (ρ : Env) : ePop i ρ = (match ρ[i]? with
  | some (some (.ol ts)) => match ts[ts.length - 1]? with
    | some t => .ok t (ρ.set i (some (.ol ts.dropLast)))
    | none => .bad
  | _ => .bad) := rfl
@[simp ↓] theorem ePopAt_run (i : Nat) (e : EM) (ρ : Env) : ePopAt i e ρ = (match ρ[i]? with
  | some (some (.ol _)) => (e ρ).bnd fun u ρ => match ρ[i]? with
    | some (some (.ol ts)) => match u.d.intO with
      | some k => if InR k then match seqIndex? k ts.length with
        | some j => match ts[j]? with
          | some t => .ok t (ρ.set i (some (.ol (ts.eraseIdx j))))
          | none => .bad
        | none => .bad else .bad
      | none => .bad
    | _ => .bad
  | _ => .bad) := rfl
@[simp ↓] theorem mAug_run (i : Nat) (f : Int → Int → Int) (e : EM) (ρ : Env) : mAug i f e ρ = (match ρ[i]? with
  | some (some (.sh (.int a))) => (e ρ).st fun t ρ => match t.d.intO with
    | some b => .nx (ρ.set i (some (.sh (.int (f a b)))))
    | none => .bad
  | _ => .bad) := rfl
@[simp ↓] theorem iE_run (e : EM) (ρ : Env) : iE e ρ = ((e ρ).bnd fun t ρ => optO (t.d.seq.map fun l => l.map .sh) ρ) := rfl
@[simp ↓] theorem iR1_run (a : EMs) (ρ : Env) : iR1 a ρ = ((a ρ).bnd fun ts ρ => match dl ts with
  | [.int j] => if InR j then .ok (rangeT 0 j.toNat) ρ else .bad
  | _ => .bad) := rfl
@[simp ↓] theorem iR2_run (a : EMs) (ρ : Env) : iR2 a ρ = ((a ρ).bnd fun ts ρ => match dl ts with
  | [.int i, .int j] => if InR i ∧ InR j then .ok (rangeT i (j - i).toNat) ρ else .bad
  | _ => .bad) := rfl
@[simp ↓] theorem iEn_run (a : EM) (ρ : Env) : iEn a ρ = ((a ρ).bnd fun t ρ => optO (t.d.lstO.map fun l => enumT 0 l) ρ) := rfl
@[simp ↓] theorem iZp_run (a b : EM) (ρ : Env) : iZp a b ρ = ((a ρ).bnd fun t ρ => (b ρ).bnd fun u ρ => optO (t.d.lstO.bind fun l => u.d.lstO.map fun m => zipT l m) ρ) := rfl
@[simp ↓] theorem mFor_run (src : IM) (b : BM) (body : SM) (ρ : Env) : mFor src b body ρ = ((src ρ).st fun its ρ => forL b body its ρ) := rfl
@[simp ↓] theorem eLC_run (slots : List Nat) (src : IM) (b : BM) (tst : EMb) (elt : EM) (ρ : Env) : eLC slots src b tst elt ρ = ((src ρ).bnd fun its ρ1 => ((lcL slots b tst elt its [] (wipeE ρ1 slots)).nox).bnd fun acc ρ2 => .ok (.ol acc) (keepE ρ1 slots (wipeE ρ2 slots))) := rfl
@[simp ↓] theorem tAll_run (ρ : Env) : tAll  ρ = (.ok true ρ) := rfl
@[simp ↓] theorem mFun_run (n nn : Nat) (body : SM) (ts : List T) : mFun n nn body ts = (if ts.length = n ∧ ts.all T.isSh = true then match body (ts.map some ++ List.replicate (nn - n) none) with
  | .nx _ => .ok (.sh .non) ts
  | .rt t _ => .ok t ts
  | .ex x _ => .ex x
  | _ => .bad else .bad) := rfl
@[simp ↓] theorem mFunI_run (n nn : Nat) (body : SM) (ts : List T) : mFunI n nn body ts = (if ts.length = n ∧ ts.tail.all T.isSh = true then match body (ts.map some ++ List.replicate (nn - n) none) with
  | .nx ρ => match ρ[0]? with
    | some (some t0) => .ok (.sh .non) (t0 :: ts.tail)
    | _ => .bad
  | .rt t ρ => match ρ[0]? with
    | some (some t0) => .ok t (t0 :: ts.tail)
    | _ => .bad
  | .ex x _ => .ex x
  | _ => .bad else .bad) := rfl
@[simp ↓] theorem eRg1_run (p : PM) (ρ : Env) : eRg1 p ρ = (match p ρ with
  | some (.int n) => if rgOk 0 n = true then .ok (.ol (rangeT 0 n.toNat)) ρ else .bad
  | _ => .bad) := rfl
@[simp ↓] theorem eRg2_run (p q : PM) (ρ : Env) : eRg2 p q ρ = (match p ρ, q ρ with
  | some (.int m), some (.int n) => if rgOk m n = true then .ok (.ol (rangeT m (n - m).toNat)) ρ else .bad
  | _, _ => .bad) := rfl
@[simp ↓] theorem eUn_run (o : D → Option D) (a : EM) (ρ : Env) : eUn o a ρ = ((a ρ).bnd fun t ρ => optO (scalO (o t.d)) ρ) := rfl
@[simp ↓] theorem qTru_run (a : PM) (ρ : Env) : qTru a ρ = ((a ρ).bind D.truth) := rfl
@[simp ↓] theorem eTru_run (a : EM) (ρ : Env) : eTru a ρ = ((a ρ).bnd fun t ρ => optO (t.d.truth) ρ) := rfl
@[simp ↓] theorem pIsiM_run (l : List Ty) (a : PM) (ρ : Env) : pIsiM l a ρ = ((a ρ).map fun d => .bl (l.any fun t => d.isi t)) := rfl
@[simp ↓] theorem mForS_run (ns : List Int) (b : BM) (body : SM) (ρ : Env) : mForS ns b body ρ = (forL b body (ns.map fun i => .sh (.int i)) ρ) := rfl
@[simp ↓] theorem eCallS_run (F : List Int → FOut) (ns : List Int) (ρ : Env) : eCallS F ns ρ = (match F ns with
  | .ok t _ => .ok t ρ
  | _ => .bad) := rfl
@[simp ↓] theorem mForB_run (i : Nat) (b : BM) (body : SM) (ρ : Env) : mForB i b body ρ = (match ρ[i]? with
  | some (some (.ol ts)) => match forL b body (ts.map T.fz) (ρ.set i none) with
    | .nx ρ' => .nx (ρ'.set i (some (.ol (ts.map T.fz))))
    | r => r
  | _ => .bad) := rfl
@[simp ↓] theorem eLCB_run (slots : List Nat) (i : Nat) (b : BM) (tst : EMb) (elt : EM) (ρ : Env) : eLCB slots i b tst elt ρ = (match ρ[i]? with
  | some (some (.ol ts)) => ((lcL slots b tst elt (ts.map T.fz) [] (wipeE (ρ.set i none) slots)).nox).bnd fun acc ρ2 => .ok (.ol acc) ((keepE (ρ.set i none) slots (wipeE ρ2 slots)).set i (some (.ol (ts.map T.fz))))
  | _ => .bad) := rfl
@[simp ↓] theorem eFz_run (m : EM) (ρ : Env) : eFz m ρ = ((m ρ).bnd fun u ρ => .ok u.fz ρ) := rfl
@[simp] theorem o1_run (f : D → Option D) (d : D) : o1 f [d] = f d := rfl
@[simp] theorem o2_run (f : D → D → Option D) (d e : D) : o2 f [d, e] = f d e := rfl
@[simp] theorem isSh_sh (d : D) : (T.sh d).isSh = true := rfl
@[simp ↓] theorem bnd_pre {α β : Type} (o : Out α) (f : α → Env → Out β) : o.bnd f = match o with
  | .bad => .bad
  | .ok a ρ => f a ρ
  | .ex x ρ => .ex x ρ := rfl
@[simp ↓] theorem st_pre {α : Type} (o : Out α) (f : α → Env → SOut) : o.st f = match o with
  | .bad => .bad
  | .ok a ρ => f a ρ
  | .ex x ρ => .ex x ρ := rfl
@[simp ↓] theorem bind_pre {α β : Type} (o : Option α) (f : α → Option β) : o.bind f = match o with
  | none => none
  | some a => f a := by cases o <;> rfl
@[simp ↓] theorem optO_pre {α : Type} (o : Option α) (ρ : Env) : optO o ρ = match o with
  | some a => .ok a ρ
  | none => .bad := by cases o <;> rfl
@[simp ↓] theorem nox_pre {α : Type} (o : Out α) : o.nox = match o with
  | .ex _ _ => .bad
  | .bad => .bad
  | .ok a ρ => .ok a ρ := by cases o <;> rfl
@[simp ↓] theorem eSl_run (a : Env → Option T) (lo hi : Env → Option (Option Int)) (ρ : Env) : eSl a lo hi ρ = optO ((a ρ).bind fun t => t.shs.bind fun ds => (lo ρ).bind fun l => (hi ρ).bind fun h => some (.ol ((cutD ds l h).map .sh))) ρ := rfl
@[simp ↓] theorem eSlE_run (a : EM) (lo hi : Env → Option (Option Int)) (ρ : Env) : eSlE a lo hi ρ = (a ρ).bnd fun t ρ => optO (t.els.bind fun ds => (lo ρ).bind fun l => (hi ρ).bind fun h => some (.ol (cutD ds l h))) ρ := rfl
@[simp ↓] theorem bTup_run (is : List Nat) (t : T) (ρ : Env) : bTup is t ρ = t.elsT.bind fun ts => bNames is ts ρ := rfl
@[simp] theorem bNames_nil (ρ : Env) : bNames [] [] ρ = some ρ := rfl
@[simp] theorem bNames_cons (i : Nat) (is : List Nat) (t : T) (ts : List T) (ρ : Env) : bNames (i :: is) (t :: ts) ρ = bNames is ts (ρ.set i (some t)) := rfl
@[simp] theorem elsT_ot (l : List T) : (T.ot l).elsT = some l := rfl
@[simp] theorem elsT_sh (l : List D) : (T.sh (.tup l)).elsT = some (l.map .sh) := rfl
@[simp] theorem ixT_run (t u : T) : ixT t u = t.kids.bind fun l => u.d.intO.bind fun i => atI l i := rfl
@[simp] theorem oS_run (o : D → D → Option D) (t u : T) : oS o t u = match o t.d u.d with
  | some d => if d.scal = true then some (.sh d) else none
  | none => none := by unfold oS scalO; cases o t.d u.d <;> rfl
@[simp] theorem cS_run (o : List D → Option D) (ts : List T) : cS o ts = match o (dl ts) with
  | some d => if d.scal = true then some (.sh d) else none
  | none => none := by unfold cS scalO; cases o (dl ts) <;> rfl
@[simp] theorem scalO_run (o : Option D) : scalO o = match o with
  | some d => if d.scal = true then some (.sh d) else none
  | none => none := by unfold scalO; cases o <;> rfl
@[simp] theorem addT_int (i j : Int) : eAddT (.sh (.int i)) (.sh (.int j)) = some (.sh (.int (i + j))) := rfl
theorem addT_lst {t u : T} {a b : List T} (h1 : t.els = some a) (h2 : u.els = some b) (h : a.length + b.length ≤ lim) : eAddT t u = some (.ol (a ++ b)) := by
  have hc : catT t u = some (.ol (a ++ b)) := by
    unfold catT
    rw [h1, h2]
    exact if_pos h
  unfold eAddT
  have : oS oAdd t u = none := by
    have h3 : ∃ l, t.d = .lst l := by cases t <;> first | (exact ⟨_, rfl⟩) | (rename_i d; cases d <;> first | (cases h1; done) | exact ⟨_, rfl⟩) | (cases h1)
    have h4 : ∃ l, u.d = .lst l := by cases u <;> first | (exact ⟨_, rfl⟩) | (rename_i d; cases d <;> first | (cases h2; done) | exact ⟨_, rfl⟩) | (cases h2)
    obtain ⟨l, e1⟩ := h3
    obtain ⟨m, e2⟩ := h4
    unfold oS
    rw [e1, e2]
    show scalO (oOr _ (oOr oCat oAddS) (.lst l) (.lst m)) = none
    show scalO (match (if l.length + m.length ≤ lim then some (D.lst (l ++ m)) else none) with | some d => some d | none => none) = none
    by_cases q : l.length + m.length ≤ lim
    · rw [if_pos q]; rfl
    · rw [if_neg q]; rfl
  rw [this]
  exact hc
/-- loops that may be left -/
theorem forL_brk {b : BM} {body : SM} : ∀ {its : List T} {ρ : Env} (I : Nat → Env → Prop) (J : Env → Prop) (_ : I 0 ρ) (_ : ∀ k t ρ, its[k]? = some t → I k ρ → ∃ ρ1 ρ2, b t ρ = some ρ1 ∧ (((body ρ1 = .nx ρ2 ∨ body ρ1 = .ct ρ2) ∧ I (k + 1) ρ2) ∨ (body ρ1 = .bk ρ2 ∧ J ρ2))) (_ : ∀ ρ, I its.length ρ → J ρ),
    ∃ ρ', forL b body its ρ = .nx ρ' ∧ J ρ'
  | [], ρ, I, J, h0, _, hd => ⟨ρ, rfl, hd ρ h0⟩
  | t :: its, ρ, I, J, h0, hs, hd => by
    obtain ⟨ρ1, ρ2, e1, e2⟩ := hs 0 t ρ rfl h0
    unfold forL
    rw [e1]
    simp only
    rcases e2 with ⟨e2, h2⟩ | ⟨e2, h2⟩
    · obtain ⟨ρ', e3, h3⟩ := forL_brk (its := its) (fun k => I (k + 1)) J h2 (fun k t' ρ' e i => hs (k + 1) t' ρ' (by simpa using e) i) fun ρ h => hd ρ (by simpa using h)
      refine ⟨ρ', ?_, h3⟩
      rcases e2 with e2 | e2 <;> rw [e2] <;> exact e3
    · rw [e2]; exact ⟨ρ2, rfl, h2⟩
theorem pow_int {i j : Int} (h : smallP i j) : oPow (.int i) (.int j) = some (.int (i ^ j.toNat)) := by
  show (if smallP i j then some (D.int (i ^ j.toNat)) else none) = _
  rw [if_pos h]
@[simp] theorem isi_int_non  : D.isi .int (.non) = false := rfl
@[simp] theorem isi_bool_non  : D.isi .bool (.non) = false := rfl
@[simp] theorem isi_str_non  : D.isi .str (.non) = false := rfl
@[simp] theorem isi_list_non  : D.isi .list (.non) = false := rfl
@[simp] theorem isi_tuple_non  : D.isi .tuple (.non) = false := rfl
@[simp] theorem isNon_non  : D.isNon (.non) = true := rfl
@[simp] theorem isi_int_bl (b : Bool) : D.isi .int (.bl b) = true := rfl
@[simp] theorem isi_bool_bl (b : Bool) : D.isi .bool (.bl b) = true := rfl
@[simp] theorem isi_str_bl (b : Bool) : D.isi .str (.bl b) = false := rfl
@[simp] theorem isi_list_bl (b : Bool) : D.isi .list (.bl b) = false := rfl
@[simp] theorem isi_tuple_bl (b : Bool) : D.isi .tuple (.bl b) = false := rfl
@[simp] theorem isNon_bl (b : Bool) : D.isNon (.bl b) = false := rfl
@[simp] theorem isi_int_int (i : Int) : D.isi .int (.int i) = true := rfl
@[simp] theorem isi_bool_int (i : Int) : D.isi .bool (.int i) = false := rfl
@[simp] theorem isi_str_int (i : Int) : D.isi .str (.int i) = false := rfl
@[simp] theorem isi_list_int (i : Int) : D.isi .list (.int i) = false := rfl
@[simp] theorem isi_tuple_int (i : Int) : D.isi .tuple (.int i) = false := rfl
@[simp] theorem isNon_int (i : Int) : D.isNon (.int i) = false := rfl
@[simp] theorem isi_int_str (s : Str) : D.isi .int (.str s) = false := rfl
@[simp] theorem isi_bool_str (s : Str) : D.isi .bool (.str s) = false := rfl
@[simp] theorem isi_str_str (s : Str) : D.isi .str (.str s) = true := rfl
@[simp] theorem isi_list_str (s : Str) : D.isi .list (.str s) = false := rfl
@[simp] theorem isi_tuple_str (s : Str) : D.isi .tuple (.str s) = false := rfl
@[simp] theorem isNon_str (s : Str) : D.isNon (.str s) = false := rfl
@[simp] theorem isi_int_lst (l : List D) : D.isi .int (.lst l) = false := rfl
@[simp] theorem isi_bool_lst (l : List D) : D.isi .bool (.lst l) = false := rfl
@[simp] theorem isi_str_lst (l : List D) : D.isi .str (.lst l) = false := rfl
@[simp] theorem isi_list_lst (l : List D) : D.isi .list (.lst l) = true := rfl
@[simp] theorem isi_tuple_lst (l : List D) : D.isi .tuple (.lst l) = false := rfl
@[simp] theorem isNon_lst (l : List D) : D.isNon (.lst l) = false := rfl
@[simp] theorem isi_int_tup (l : List D) : D.isi .int (.tup l) = false := rfl
@[simp] theorem isi_bool_tup (l : List D) : D.isi .bool (.tup l) = false := rfl
@[simp] theorem isi_str_tup (l : List D) : D.isi .str (.tup l) = false := rfl
@[simp] theorem isi_list_tup (l : List D) : D.isi .list (.tup l) = false := rfl
@[simp] theorem isi_tuple_tup (l : List D) : D.isi .tuple (.tup l) = true := rfl
@[simp] theorem isNon_tup (l : List D) : D.isNon (.tup l) = false := rfl
@[simp] theorem isi_int_dic (k : List Key) (l : List D) : D.isi .int (.dic k l) = false := rfl
@[simp] theorem isi_bool_dic (k : List Key) (l : List D) : D.isi .bool (.dic k l) = false := rfl
@[simp] theorem isi_str_dic (k : List Key) (l : List D) : D.isi .str (.dic k l) = false := rfl
@[simp] theorem isi_list_dic (k : List Key) (l : List D) : D.isi .list (.dic k l) = false := rfl
@[simp] theorem isi_tuple_dic (k : List Key) (l : List D) : D.isi .tuple (.dic k l) = false := rfl
@[simp] theorem isNon_dic (k : List Key) (l : List D) : D.isNon (.dic k l) = false := rfl
@[simp] theorem isN_run (neg : Bool) (x : D) : oIsN neg x .non = some (.bl (if neg then !x.isNon else x.isNon)) := rfl
@[simp] theorem ints_def (l : List Int) : T.ints l = .ol (l.map ig) := rfl
@[simp] theorem dints_def (l : List Int) : D.ints l = .lst (l.map .int) := rfl
@[simp] theorem shi_def (l : List Int) : shi l = .sh (.lst (l.map .int)) := rfl
@[simp] theorem sh_comp : (T.sh ∘ D.int) = ig := rfl
@[simp] theorem d_comp : (T.d ∘ ig) = D.int := rfl
@[simp] theorem dt_comp : (T.d ∘ T.sh) = id := rfl
@[simp] theorem lim_0 : 0 ≤ lim := by decide
@[simp] theorem lim_1 : 1 ≤ lim := by decide
@[simp] theorem lim_2 : 2 ≤ lim := by decide
@[simp] theorem lim_3 : 3 ≤ lim := by decide
@[simp] theorem lim_4 : 4 ≤ lim := by decide
@[simp] theorem lim_5 : 5 ≤ lim := by decide
@[simp] theorem lim_6 : 6 ≤ lim := by decide
@[simp] theorem lim_7 : 7 ≤ lim := by decide
@[simp] theorem lim_8 : 8 ≤ lim := by decide
@[simp] theorem lim_9 : 9 ≤ lim := by decide
@[simp] theorem lim_10 : 10 ≤ lim := by decide
@[simp] theorem lim_11 : 11 ≤ lim := by decide
@[simp] theorem lim_12 : 12 ≤ lim := by decide
@[simp] theorem lim_13 : 13 ≤ lim := by decide
@[simp] theorem lim_14 : 14 ≤ lim := by decide
@[simp] theorem lim_15 : 15 ≤ lim := by decide
@[simp] theorem lim_16 : 16 ≤ lim := by decide
@[simp] theorem lim_17 : 17 ≤ lim := by decide
@[simp] theorem lim_18 : 18 ≤ lim := by decide
@[simp] theorem lim_19 : 19 ≤ lim := by decide
@[simp] theorem lim_20 : 20 ≤ lim := by decide
@[simp] theorem lim_21 : 21 ≤ lim := by decide
@[simp] theorem lim_22 : 22 ≤ lim := by decide
@[simp] theorem lim_23 : 23 ≤ lim := by decide
@[simp] theorem lim_24 : 24 ≤ lim := by decide
@[simp] theorem lim_25 : 25 ≤ lim := by decide
@[simp] theorem lim_26 : 26 ≤ lim := by decide
@[simp] theorem lim_27 : 27 ≤ lim := by decide
@[simp] theorem lim_28 : 28 ≤ lim := by decide
@[simp] theorem lim_29 : 29 ≤ lim := by decide
@[simp] theorem lim_30 : 30 ≤ lim := by decide
@[simp] theorem lim_31 : 31 ≤ lim := by decide
@[simp] theorem lim_32 : 32 ≤ lim := by decide
@[simp] theorem lim_33 : 33 ≤ lim := by decide
@[simp] theorem lim_34 : 34 ≤ lim := by decide
@[simp] theorem lim_35 : 35 ≤ lim := by decide
@[simp] theorem lim_36 : 36 ≤ lim := by decide
@[simp] theorem lim_37 : 37 ≤ lim := by decide
@[simp] theorem lim_38 : 38 ≤ lim := by decide
@[simp] theorem lim_39 : 39 ≤ lim := by decide
@[simp] theorem lim_40 : 40 ≤ lim := by decide
@[simp] theorem lt_lim_0 : 0 < lim := by decide
@[simp] theorem lt_lim_1 : 1 < lim := by decide
@[simp] theorem lt_lim_2 : 2 < lim := by decide
@[simp] theorem lt_lim_3 : 3 < lim := by decide
@[simp] theorem lt_lim_4 : 4 < lim := by decide
@[simp] theorem lt_lim_5 : 5 < lim := by decide
@[simp] theorem lt_lim_6 : 6 < lim := by decide
@[simp] theorem lt_lim_7 : 7 < lim := by decide
@[simp] theorem lt_lim_8 : 8 < lim := by decide
@[simp] theorem lt_lim_9 : 9 < lim := by decide
@[simp] theorem lt_lim_10 : 10 < lim := by decide
@[simp] theorem lt_lim_11 : 11 < lim := by decide
@[simp] theorem lt_lim_12 : 12 < lim := by decide
@[simp] theorem lt_lim_13 : 13 < lim := by decide
@[simp] theorem lt_lim_14 : 14 < lim := by decide
@[simp] theorem lt_lim_15 : 15 < lim := by decide
@[simp] theorem lt_lim_16 : 16 < lim := by decide
@[simp] theorem lt_lim_17 : 17 < lim := by decide
@[simp] theorem lt_lim_18 : 18 < lim := by decide
@[simp] theorem lt_lim_19 : 19 < lim := by decide
@[simp] theorem lt_lim_20 : 20 < lim := by decide
@[simp] theorem lt_lim_21 : 21 < lim := by decide
@[simp] theorem lt_lim_22 : 22 < lim := by decide
@[simp] theorem lt_lim_23 : 23 < lim := by decide
@[simp] theorem lt_lim_24 : 24 < lim := by decide
@[simp] theorem lt_lim_25 : 25 < lim := by decide
@[simp] theorem lt_lim_26 : 26 < lim := by decide
@[simp] theorem lt_lim_27 : 27 < lim := by decide
@[simp] theorem lt_lim_28 : 28 < lim := by decide
@[simp] theorem lt_lim_29 : 29 < lim := by decide
@[simp] theorem lt_lim_30 : 30 < lim := by decide
@[simp] theorem lt_lim_31 : 31 < lim := by decide
@[simp] theorem lt_lim_32 : 32 < lim := by decide
@[simp] theorem lt_lim_33 : 33 < lim := by decide
@[simp] theorem lt_lim_34 : 34 < lim := by decide
@[simp] theorem lt_lim_35 : 35 < lim := by decide
@[simp] theorem lt_lim_36 : 36 < lim := by decide
@[simp] theorem lt_lim_37 : 37 < lim := by decide
@[simp] theorem lt_lim_38 : 38 < lim := by decide
@[simp] theorem lt_lim_39 : 39 < lim := by decide
@[simp] theorem lt_lim_40 : 40 < lim := by decide
mutual
def D.sm : Nat → D → Bool
  | _, .non => true
  | _, .bl _ => true
  | _, .int _ => true
  | _, .str s => PyData.strOk s
  | n + 1, .lst l => decide (l.length ≤ lim) && sml n l
  | n + 1, .tup l => decide (l.length ≤ lim) && sml n l
  | _, _ => false
def sml : Nat → List D → Bool
  | _, [] => true
  | n, d :: l => d.sm n && sml n l
end
theorem sml_get {n : Nat} : ∀ {l : List D} {k : Nat} {d : D}, sml n l = true → l[k]? = some d → d.sm n = true
  | [], _, _, _, e => by simp at e
  | d :: l, 0, _, h, e => by
    simp only [sml, Bool.and_eq_true] at h
    simp at e
    rw [← e]; exact h.1
  | d :: l, k + 1, _, h, e => by
    simp only [sml, Bool.and_eq_true] at h
    exact sml_get h.2 (by simpa using e)
@[simp] theorem sml_int (n : Nat) (l : List Int) : sml n (l.map .int) = true := by
  induction l with
  | nil => rfl
  | cons a l ih => simp only [List.map_cons, sml, ih, Bool.and_true]; cases n <;> rfl
theorem sm_ints (n : Nat) (l : List Int) (h : l.length ≤ lim) : (D.lst (l.map .int)).sm (n + 1) = true := by simp [D.sm, h]
theorem eq_str_self {s : Str} (h : PyData.strOk s = true) : oEq (.str s) (.str s) = some (.bl true) := by
  unfold oEq
  have hd : (D.str s).dat 60 = true := by simp only [D.dat, h]
  rw [if_pos ⟨hd, hd⟩]
  simp [D.py, PyData.eqv]
def rg (r : List Int) : T := .sh (.lst (r.map .int))
@[simp] theorem rg_app (r : List Int) : rg r = .sh (.lst (r.map .int)) := rfl
@[simp] theorem len_tup (l : List D) : oLen (.tup l) = some (.int l.length) := rfl
@[simp] theorem boolsOf_rep (n : Nat) (b : Bool) : boolsOf (List.replicate n (.bl b)) = some (List.replicate n b) := by
  induction n with
  | zero => rfl
  | succ n ih => simp [List.replicate_succ, boolsOf, ih]
theorem lcL_T {slots : List Nat} {b : BM} {elt : EM} {ρ : Env} (f : Int → T) {p : List Int} (h : ∀ x ∈ p, ∃ ρ1 ρ2, b (si x) ρ = some ρ1 ∧ elt ρ1 = .ok (f x) ρ2 ∧ wipeE ρ2 slots = ρ) (hz : p.length ≤ lim) : lcL slots b tAll elt (p.map ig) [] ρ = .ok (p.map f) ρ := by
  let F : T → T := fun t => match t with
    | .sh (.int x) => f x
    | t => t
  have := lcL_map (slots := slots) (b := b) (elt := elt) (ρ := ρ) F (its := p.map ig) (acc := []) (fun t ht => by
    obtain ⟨x, hx, rfl⟩ := List.mem_map.mp ht
    exact h x hx) (by simpa using hz)
  rw [this, List.map_map]
  rfl
theorem lcL_ints {slots : List Nat} {b : BM} {elt : EM} {ρ : Env} (f : Int → Int) {p : List Int} (h : ∀ x ∈ p, ∃ ρ1 ρ2, b (si x) ρ = some ρ1 ∧ elt ρ1 = .ok (si (f x)) ρ2 ∧ wipeE ρ2 slots = ρ) (hz : p.length ≤ lim) : lcL slots b tAll elt (p.map ig) [] ρ = .ok ((p.map f).map ig) ρ := by
  rw [lcL_T (fun x => si (f x)) h hz, List.map_map]; rfl
theorem mem_iota {n : Nat} {x : Int} : x ∈ iota n ↔ 0 ≤ x ∧ x < n := by
  unfold iota
  rw [List.mem_map]
  constructor
  · rintro ⟨k, hk, rfl⟩
    rw [List.mem_range] at hk
    exact ⟨by omega, by omega⟩
  · rintro ⟨h0, h1⟩
    exact ⟨x.toNat, by rw [List.mem_range]; omega, by omega⟩
/-- items put by place -/
def putN (n : Nat) (f g : Nat → Int) : Nat → List Int
  | 0 => List.replicate n 0
  | k + 1 => (putN n f g k).set (f k).toNat (g k)
@[simp] theorem putN_len {n : Nat} {f g : Nat → Int} : ∀ k, (putN n f g k).length = n
  | 0 => by simp [putN]
  | k + 1 => by simp [putN, putN_len k]
theorem putN_congr {n : Nat} {f g f' g' : Nat → Int} : ∀ {m : Nat}, (∀ k, k < m → f k = f' k ∧ g k = g' k) → putN n f g m = putN n f' g' m
  | 0, _ => rfl
  | m + 1, h => by
    simp only [putN]
    rw [putN_congr (m := m) fun k hk => h k (by omega), (h m (by omega)).1, (h m (by omega)).2]
theorem repT_zero {n : Nat} (h : n ≤ lim) : repT (.ol [.sh (.int 0)]) (.sh (.int n)) = some (T.ints (List.replicate n 0)) := by
  have h2 : (1 : Nat) * (n : Int).toNat ≤ lim ∧ InR (n : Int) := by unfold lim InR at *; omega
  show (if (1 : Nat) * (n : Int).toNat ≤ lim ∧ InR (n : Int) then some (T.ol ((List.replicate (n : Int).toNat [si 0]).flatten)) else none) = _
  rw [if_pos h2]
  congr 2
  simp only [Int.toNat_natCast]
  clear h h2
  induction n with
  | zero => rfl
  | succ n ih => simp only [List.replicate_succ, List.flatten_cons, ih, List.map_cons]; rfl
@[simp] theorem bName_run (i : Nat) (t : T) (ρ : Env) : bName i t ρ = some (ρ.set i (some t)) := rfl
@[simp] theorem wipeE_nil (ρ : Env) : wipeE ρ [] = ρ := rfl
@[simp] theorem wipeE_cons (ρ : Env) (i : Nat) (l : List Nat) : wipeE ρ (i :: l) = (wipeE ρ l).set i none := rfl
@[simp] theorem keepE_nil (ρ1 ρ : Env) : keepE ρ1 [] ρ = ρ := rfl
@[simp] theorem keepE_cons (ρ1 ρ : Env) (i : Nat) (l : List Nat) : keepE ρ1 (i :: l) ρ = match ρ1[i]? with
  | some (some (.sh d)) => (keepE ρ1 l ρ).set i (some (.sh d))
  | _ => (keepE ρ1 l ρ).set i none := rfl
end
end Z

namespace Z
noncomputable section
open PySem L2
/-! ### loops that end early -/
theorem whileL_dec {c : EMb} {body : SM} (I : Nat → Env → Prop) (E : Env → Prop)
    (hs : ∀ m ρ, I m ρ → (∃ ρ', c ρ = .ok false ρ' ∧ E ρ') ∨ (∃ ρ1 ρ2 m', c ρ = .ok true ρ1 ∧ (body ρ1 = .nx ρ2 ∨ body ρ1 = .ct ρ2) ∧ m' < m ∧ I m' ρ2)) :
    ∀ (n m : Nat) (ρ : Env), m < n → I m ρ → ∃ ρ', whileL c body n ρ = .nx ρ' ∧ E ρ'
  | 0, m, ρ, h, _ => by omega
  | n + 1, m, ρ, h, hi => by
    rcases hs m ρ hi with ⟨ρ', e, h1⟩ | ⟨ρ1, ρ2, m', e, h1, h2, h3⟩
    · refine ⟨ρ', ?_, h1⟩
      unfold whileL
      rw [e]
      rfl
    · obtain ⟨ρ', e3, h4⟩ := whileL_dec I E hs n m' ρ2 (by omega) h3
      refine ⟨ρ', ?_, h4⟩
      unfold whileL
      rw [e]
      show (match body ρ1 with | .nx ρ => whileL c body n ρ | .ct ρ => whileL c body n ρ | .bk ρ => .nx ρ | r => r) = _
      rcases h1 with h1 | h1 <;> rw [h1] <;> exact e3
theorem forL_or {b : BM} {body : SM} : ∀ {its : List T} {ρ : Env} (I : Nat → Env → Prop) (R : T → Env → Prop) (_ : I 0 ρ)
    (_ : ∀ k t ρ, its[k]? = some t → I k ρ → ∃ ρ1 ρ2, b t ρ = some ρ1 ∧ (((body ρ1 = .nx ρ2 ∨ body ρ1 = .ct ρ2) ∧ I (k + 1) ρ2) ∨ (∃ u, body ρ1 = .rt u ρ2 ∧ R u ρ2))),
    (∃ ρ', forL b body its ρ = .nx ρ' ∧ I its.length ρ') ∨ (∃ u ρ', forL b body its ρ = .rt u ρ' ∧ R u ρ')
  | [], ρ, I, R, h0, _ => .inl ⟨ρ, rfl, h0⟩
  | t :: its, ρ, I, R, h0, hs => by
    obtain ⟨ρ1, ρ2, e1, e2⟩ := hs 0 t ρ rfl h0
    unfold forL
    rw [e1]
    simp only
    rcases e2 with ⟨e2, h2⟩ | ⟨u, e2, h2⟩
    · have := forL_or (its := its) (ρ := ρ2) (fun k => I (k + 1)) R h2 (fun k t' ρ' e i => hs (k + 1) t' ρ' (by simpa using e) i)
      rcases e2 with e2 | e2 <;> rw [e2] <;> exact this
    · rw [e2]
      exact .inr ⟨u, ρ2, rfl, h2⟩
/-- .. over a name's values -/
theorem forN_or {i : Nat} {body : SM} {its : List T} {ρ : Env} (I : Nat → Env → Prop) (R : T → Env → Prop) (h0 : I 0 ρ)
    (hs : ∀ k t ρ, its[k]? = some t → I k ρ → ∃ ρ2, (((body (ρ.set i (some t)) = .nx ρ2 ∨ body (ρ.set i (some t)) = .ct ρ2) ∧ I (k + 1) ρ2) ∨ (∃ u, body (ρ.set i (some t)) = .rt u ρ2 ∧ R u ρ2))) :
    (∃ ρ', forL (bName i) body its ρ = .nx ρ' ∧ I its.length ρ') ∨ (∃ u ρ', forL (bName i) body its ρ = .rt u ρ' ∧ R u ρ') :=
  forL_or I R h0 fun k t ρ e h => by
    obtain ⟨ρ2, h1⟩ := hs k t ρ e h
    exact ⟨_, ρ2, rfl, h1⟩
@[simp] theorem abs_int (i : Int) : oAbs (.int i) = some (.int i.natAbs) := by
  show some (D.int (if i < 0 then -i else i)) = _
  congr 2
  split <;> omega
theorem mul_ok {i j : Int} (h : i.natAbs.log2 + j.natAbs.log2 < 1000000) : oMul (.int i) (.int j) = some (.int (i * j)) := mul_int (.inr (.inr h))
theorem seqIx_ok {k : Int} {n : Nat} (h0 : 0 ≤ k) (h1 : k < n) : seqIndex? k n = some k.toNat := by
  unfold seqIndex?
  simp [h0, h1]
  try omega
theorem repT_one {d : D} {n : Nat} (h : n ≤ lim) : repT (.ol [.sh d]) (.sh (.int n)) = some (.ol (List.replicate n (.sh d))) := by
  have h2 : (1 : Nat) * (n : Int).toNat ≤ lim ∧ InR (n : Int) := by unfold lim InR at *; omega
  show (if (1 : Nat) * (n : Int).toNat ≤ lim ∧ InR (n : Int) then some (T.ol ((List.replicate (n : Int).toNat [T.sh d]).flatten)) else none) = _
  rw [if_pos h2]
  congr 2
  simp only [Int.toNat_natCast]
  clear h h2
  induction n with
  | zero => rfl
  | succ n ih => simp only [List.replicate_succ, List.flatten_cons, ih]; rfl
@[simp] theorem dl_sh (l : List D) : dl (l.map .sh) = l := by rw [dl_eq, List.map_map]; exact List.map_id'' (fun _ => rfl) l
theorem addT_sl {l : List D} {m : List T} (h : l.length + m.length ≤ lim) : eAddT (.sh (.lst l)) (.ol m) = some (.ol (l.map .sh ++ m)) := addT_lst (els_sh l) (els_ol m) (by simpa using h)
/-! ### lists of tests -/
def bg (b : Bool) : T := .sh (.bl b)
@[simp] theorem bg_app (b : Bool) : bg b = .sh (.bl b) := rfl
@[simp] theorem dl_bg (l : List Bool) : dl (l.map bg) = l.map D.bl := by rw [dl_eq, List.map_map]; rfl
@[simp] theorem dl_rg (l : List (List Int)) : dl (l.map rg) = l.map D.ints := by rw [dl_eq, List.map_map]; rfl
@[simp] theorem map_sh_ints (l : List (List Int)) : (l.map D.ints).map T.sh = l.map rg := by rw [List.map_map]; rfl
@[simp] theorem map_comp_ints (l : List (List Int)) : l.map (T.sh ∘ D.ints) = l.map rg := rfl
theorem atI_B (l : List Bool) {i : Nat} (h1 : i < l.length) : atI (l.map D.bl) (i : Int) = some (.bl (l.getD i false)) := by
  rw [atI_ok (by omega) (by simpa using h1), List.getElem?_map, List.getD_eq_getElem?_getD]
  simp [h1]
theorem getD_setB {l : List Bool} {i j : Nat} {v : Bool} (h : i < l.length) : (l.set i v).getD j false = if i = j then v else l.getD j false := by
  rw [List.getD_eq_getElem?_getD, List.getD_eq_getElem?_getD, List.getElem?_set]
  split
  · simp [h]
  · rfl
theorem count_set {l : List Bool} {i : Nat} (h : i < l.length) (e : l.getD i false = false) : (l.set i true).count false + 1 = l.count false := by
  induction l generalizing i with
  | nil => simp at h
  | cons b l ih =>
    cases i with
    | zero =>
      simp at e
      subst e
      simp
    | succ i =>
      have := ih (i := i) (by simpa using h) (by simpa using e)
      simp only [List.set_cons_succ, List.count_cons]
      omega
@[simp] theorem atI_1 {α : Type} (a b : α) (l : List α) : atI (a :: b :: l) 1 = some b := by
  rw [atI_ok (by omega) (by simp <;> omega)]; rfl
@[simp] theorem atI_2 {α : Type} (a b c : α) (l : List α) : atI (a :: b :: c :: l) 2 = some c := by
  rw [atI_ok (by omega) (by simp <;> omega)]; rfl
@[simp] theorem atI_3 {α : Type} (a b c d : α) (l : List α) : atI (a :: b :: c :: d :: l) 3 = some d := by
  rw [atI_ok (by omega) (by simp <;> omega)]; rfl
@[simp] theorem atI_4 {α : Type} (a b c d e : α) (l : List α) : atI (a :: b :: c :: d :: e :: l) 4 = some e := by
  rw [atI_ok (by omega) (by simp <;> omega)]; rfl
@[simp] theorem atI_5 {α : Type} (a b c d e f : α) (l : List α) : atI (a :: b :: c :: d :: e :: f :: l) 5 = some f := by
  rw [atI_ok (by omega) (by simp <;> omega)]; rfl
/-! ### lists of ints are alike just if they are the same -/
theorem dat_ints {k : Nat} : ∀ l : List Int, datl k (l.map D.int) = true
  | [] => rfl
  | i :: l => by
    simp only [List.map_cons, datl, dat_ints l, Bool.and_true]
    cases k <;> rfl
theorem eqv_ints : ∀ l m : List Int, PyData.eqvAll (pyl (l.map D.int)) (pyl (m.map D.int)) = decide (l = m)
  | [], [] => by simp [pyl, PyData.eqvAll]
  | [], i :: m => by simp [pyl, PyData.eqvAll]
  | i :: l, [] => by simp [pyl, PyData.eqvAll]
  | i :: l, j :: m => by
    have := eqv_ints l m
    simp only [List.map_cons, pyl, D.py, PyData.eqvAll, this]
    by_cases h : i = j <;> by_cases h2 : l = m <;> simp [PyData.eqv, h, h2]
theorem eq_ints (p q : List Int) : oEq (D.lst (p.map .int)) (D.lst (q.map .int)) = some (.bl (decide (p = q))) := by
  unfold oEq
  have hd : ∀ l : List Int, (D.lst (l.map .int)).dat 60 = true := fun l => dat_ints l
  rw [if_pos ⟨hd p, hd q⟩]
  congr 2
  show PyData.eqv (.list (pyl (p.map .int))) (.list (pyl (q.map .int))) = _
  rw [← eqv_ints p q]
  simp [PyData.eqv]
theorem ne_ints (p q : List Int) : oNe (D.lst (p.map .int)) (D.lst (q.map .int)) = some (.bl (!decide (p = q))) := by
  unfold oNe
  have hd : ∀ l : List Int, (D.lst (l.map .int)).dat 60 = true := fun l => dat_ints l
  rw [if_pos ⟨hd p, hd q⟩]
  congr 3
  show PyData.eqv (.list (pyl (p.map .int))) (.list (pyl (q.map .int))) = _
  rw [← eqv_ints p q]
  simp [PyData.eqv]
end
end Z

namespace Z
noncomputable section
open PySem L2
/-! ### repr of data, where no repr is under way -/
section
variable {X : Cx}
def rRepr (K : PySem.W.Frag) : List V → Hp → VK → Prop := fun xs H Q => ∃ (a : Addr) (d : PyData), xs = [.ref a] ∧ Dp K H (.ref a) d ∧ d.showable = true ∧ d.hasDict = false ∧ d.depth ≤ 60 ∧ d.shown.length ≤ sizeLine ∧ Q (.str d.shown) H
theorem call_reprD (hg : X.A.guards = some []) (hu : X.A.units + 64 < cLine) : CallR X (.builtin "repr") (rRepr X.K) := by
  intro pins s σ H xs us Q I r h
  obtain ⟨a, d, rfl, hd, hs, hk, hdp, hz, q⟩ := h
  obtain ⟨u, rfl, ru⟩ := vals1 r
  obtain rfl : u = Value.ref a := ru
  obtain ⟨as, rd⟩ := Dp.reads I d (.ref a) (.ref a) hd rfl
  refine repr_of_reads' (h₀ := s.heap) rd hs (fun e => ?_) hg (by omega) (fun _ _ e => e) (fun h' u tk hk' => ?_) hz
  · rw [hk] at e; cases e
  · exact ⟨.str d.shown, H, I.kept (t' := tk) hk', ⟨u, rfl⟩, q⟩
end
end
end Z

namespace Z
noncomputable section
open PySem L2
@[simp] theorem oRep_dummy : True := trivial
/-- repr of lists and tuples of plain data -/
def oRepr : D → Option D := fun d => match d with
  | .lst l => if d.dat 60 = true ∧ d.py.showable = true ∧ d.py.hasDict = false ∧ d.py.shown.length ≤ sizeLine then some (.str d.py.shown) else none
  | .tup l => if d.dat 60 = true ∧ d.py.showable = true ∧ d.py.hasDict = false ∧ d.py.shown.length ≤ sizeLine then some (.str d.py.shown) else none
  | _ => none
theorem cs_repr {K : PySem.W.Frag} : CallS (rRepr K) (o1 oRepr) := fun H ds vs d h e Q q => by
  obtain ⟨x, rfl, e⟩ := o1_some e
  obtain ⟨v, rfl, hv⟩ := rpl1 h
  clear h
  cases x <;> first | (cases e; done) | skip
  all_goals
    obtain ⟨⟨h1, h2, h3, h4⟩, e⟩ := ite_some e
    cases e
    have hd := hv.dp (K := K) h1
    obtain ⟨a, vs, rfl, _⟩ := hv
    exact ⟨a, _, rfl, hd, h2, h3, (dat_lay h1).2, h4, q _ H (fun _ _ h => h) rfl⟩
def oEqS : D → D → Option D
  | .str a, .str b => some (.bl (decide (a = b)))
  | _, _ => none
theorem os_eqS : OpS rEq oEqS := fun H dx dy x y d hx hy e Q q => by
  cases dx <;> first | (cases e; done) | skip
  cases dy <;> first | (cases e; done) | skip
  cases e
  cases hx
  cases hy
  refine ⟨rfl, ?_⟩
  have := q (.bl (decide (V.str _ = V.str _))) H (fun _ _ h => h) (by simp; rfl)
  exact this
/-! ### a def that is called where no repr is under way -/
section
open PySem.Spec PyProof.Rows
variable {P : Program} {w : World} {mg : Str → Option Value} {base : Heap} {K : PySem.W.Frag}
structure FnG (P : Program) (w : World) (K : PySem.W.Frag) (mg : Str → Option Value) (base : Heap) (CX : CXT) (k : Nat) (f : Addr) (fd : FuncData) (ps : List Str) (sp : Sp) : Prop where
  run : ∀ (A : Around), A.guards = some [] → Room k A → ∀ (outer : List PySem.Env) (s : Shared) (H : Hp), Env0 P w K mg base A outer s H → ∀ (args : Args) (us : List Value) (vs : List V), BindsTo s fd args (ps.zip us) → Vals vs us →
    ∀ (Q : VK) (E : XK), sp vs H Q E → codeAny (model P w) A (.call (.ref f) args) (CR CX outer P w H s Q E) s
theorem fnG_mk {x qual : Str} {st : Stmt} {f : Addr} {fd : FuncData} {N ps : List Str} {k : Nat} {sp : Sp} (F : Fun K x qual st f fd) (S : FnScope N ps (defScope st)) (len : ∀ vs H Q E, sp vs H Q E → vs.length = ps.length)
    (hbody : ∀ (cdv : Value) (A : Around), A.guards = some [] → ∀ (outer : List PySem.Env) (s : Shared) (H : Hp) (vs : List V) (Q : VK) (E : XK), Room k (A.deeper (envOfC qual (defScope st) s.heap.objs.size f cdv)) → sp vs H Q E →
      ∃ t, PSs (cxOf (L2.CX P w) P w K mg base N qual (defScope st) f cdv A outer s H E) (defBody st) t ∧ t { nx := fun _ H' => Q .non H', rt := Q } (start N vs) H) : FnG P w K mg base (L2.CX P w) (k + 1) f fd ps sp := by
  obtain ⟨oc, od, kV, doc, pm, an, cdv, ct, osl, rfl, lk, hcd⟩ := F.ex
  constructor
  intro A hg hr outer s H en args us vs hb rv Q E hsp
  have inS : ∀ b o, base.get? b = some o → s.heap.get? b = some o := fun b o e => (en.bs b o e).1
  have kin := en.mod.kin.keeps inS
  have nolim := en.mod.nolimit.keeps inS
  have kinds : ∀ y ∈ ps.zip us, (defScope st).names.lookup y.1 = some .local ∨ ((defScope st).names.lookup y.1 = some .cell ∧ ((cellsFrom (s.heap.objs.size + 1) (defScope st).names []).lookup y.1).isSome = true) := by
    rintro ⟨n, v⟩ hy
    exact (S.par n (List.of_mem_zip hy).1).imp id fun q => ⟨q, PySem.W.cellsFrom_some _ _ _ (.inl q)⟩
  refine codeAny_call_function hr.depth (kin _ _ lk) rfl S.co S.gen rfl (PySem.W.codeRec_of kin hcd) (hb _ _ _ _ (wpAny_newFunctionEnv_cells S.kind kinds ?_))
  rintro env rfl s1 x
  obtain ⟨t, ht, hq⟩ := hbody cdv A hg outer s H vs Q E (hr.deeper _) hsp
  have inv := inv_start (CX := L2.CX P w) (E := E) (cd := cdv) (qual := qual) (f := f) S hr.hd en (len _ _ _ _ hsp) rv x
  refine ⟨nolim.keeps x.toInCall.keep, codeAny_func (wpAny_mono (ht.run [] s1 _ H _ inv hq) ?_ fun _ _ h => h)⟩
  intro fl s' hs
  cases fl with
  | ret u =>
    obtain ⟨v, σ', H', J, r1, q1⟩ := hs
    exact ⟨v, H', J.os, J.bare, J.base, J.hok, r1, q1⟩
  | next =>
    obtain ⟨σ', H', J, q1⟩ := hs
    exact ⟨.non, H', J.os, J.bare, J.base, J.hok, rfl, q1⟩
  | brk => exact hs.choose_spec.choose_spec.2.elim
  | cont => exact hs.choose_spec.choose_spec.2.elim
/-- the law's def is called where nothing is under way -/
theorem start_at {mb : Str → Option Value} {s : Shared} {H : Hp} {a : Addr} {vs : List Value} (kin : K.In s.heap) (gl : s.heap.Ns mainGlobals mg) (bl : s.heap.Ns builtinsNs mb) (bb : ∀ x : Str, x ≠ "__name__" → mb x = bootBuiltins x) (lim : s.heap.NoLimit) (nog : s.gens = #[])
    (ha : s.heap.get? a = some { cls := .type "list", data := .seq vs.toArray }) (hok : HOk P w H s.heap) (one : ∀ b, H b ≠ none → b = a) (own : H a ≠ none → K.lookup a = none) :
    Env0 P w K mg (hidT s.heap H) callerA [] s H ∧ K.In (hidT s.heap H) ∧ (hidT s.heap H).Ns mainGlobals mg := by
  have dictFree : ∀ {b : Addr} {o : Obj} {es : Array DictEntry} {ep : Nat}, s.heap.get? b = some o → o.data = .dict es ep → H b = none := by
    intro b o es ep e d
    apply Classical.byContradiction
    intro n
    rw [one b n, ha] at e
    cases e
    cases d
  have nsk : ∀ {b : Addr} {m : Str → Option Value}, s.heap.Ns b m → (hidT s.heap H).Ns b m := by
    rintro b m ⟨o, es, ep, e, d, r⟩
    exact ⟨o, es, ep, hidT_get e (dictFree e d), d, r⟩
  have kin' : K.In (hidT s.heap H) := by
    intro b o e
    refine hidT_get (kin b o e) (Classical.byContradiction fun n => ?_)
    have eb := one b n
    subst eb
    rw [own n] at e
    cases e
  obtain ⟨mc, l1, l2⟩ := lim
  exact ⟨⟨rfl, ⟨kin', nsk gl, ⟨mb, nsk bl, bb⟩, ⟨mc, nsk l1, l2⟩⟩, fun b o e => of_hidT e, Nat.le_of_eq (hidT_size _ _), trivial, (fun b z => nomatch z), hok, .of_eq nog⟩, kin', nsk gl⟩
theorem law_callG {mb : Str → Option Value} {k : Nat} {fa a : Addr} {fd : FuncData} {x : Str} {sp : Sp} {s : Shared} {vs : List Value} {ns : List Int} (kin : K.In s.heap) (gl : s.heap.Ns mainGlobals mg) (bl : s.heap.Ns builtinsNs mb) (bb : ∀ x : Str, x ≠ "__name__" → mb x = bootBuiltins x) (lim : s.heap.NoLimit) (nog : s.gens = #[])
    (ha : s.heap.get? a = some { cls := .type "list", data := .seq vs.toArray }) (hi : IntsAre vs ns) (hl : ns.length ≤ sizeLine) (hr : Room k callerA)
    (F : ∀ base : Heap, K.In base → base.Ns mainGlobals mg → FnG P w K mg base (L2.CX P w) k fa fd [x] sp) (hbind : ∀ (s : Shared) (u : Value), BindsTo s fd ⟨[u], []⟩ [(x, u)])
    (hsp : ∀ H : Hp, Only H → SqL K H a (ns.map V.int) → sp [.ref a] H (fun v _ => v = .bl true) fun _ _ _ => False)
    (hCX : ∀ H e s', L2.CX P w [] H s (fun _ _ _ => False) e s' → False) :
    codeAny (model P w) callerA (.call (.ref fa) ⟨[.ref a], []⟩) (fun r s' => r = .ok (.ret (.bool true)) ∧ OldK s.heap s'.heap ∧ s'.os = s.os ∧ AllBare s'.gens) s := by
  have go : ∀ H : Hp, Only H → SqL K H a (ns.map V.int) → HOk P w H s.heap → (∀ b, H b ≠ none → b = a) → (H a ≠ none → K.lookup a = none) →
      codeAny (model P w) callerA (.call (.ref fa) ⟨[.ref a], []⟩) (fun r s' => r = .ok (.ret (.bool true)) ∧ OldK s.heap s'.heap ∧ s'.os = s.os ∧ AllBare s'.gens) s := by
    intro H hO hS hok one own
    obtain ⟨en, k1, k2⟩ := start_at (P := P) (w := w) kin gl bl bb lim nog ha hok one own
    refine codeAny_mono ((F _ k1 k2).run callerA rfl hr [] s H en ⟨[.ref a], []⟩ [.ref a] [.ref a] (hbind s (.ref a)) (.cons rfl .nil) _ _ (hsp H hO hS)) ?_
    intro r s' h
    rcases r with e | fl
    · exact (hCX H e s' h).elim
    cases fl with
    | next => exact False.elim h
    | brk => exact False.elim h
    | cont => exact False.elim h
    | ret u =>
      obtain ⟨v, H', os, bare, un, hok', r', q⟩ := h
      obtain rfl : v = .bl true := q
      obtain rfl : u = Value.bool true := r'
      refine ⟨rfl, OldK.of_keep ?_, os, bare⟩
      intro b o e
      rcases hO b with z | ⟨ob, xs, z⟩
      · exact un.keep b o e z (by intro z; cases z) (by intro z; cases z)
      · obtain ⟨e1, _⟩ := hok b _ z
        obtain ⟨e2, _⟩ := hok' b _ (un.frzs b ob _ z)
        rw [e] at e1
        cases e1
        exact e2
  have rv := vals_ints hi
  have lv := hi.length
  cases hk : K.lookup a with
  | some o =>
    have e := kin a o hk
    rw [ha] at e
    cases e
    exact go (fun _ => none) (fun _ => .inl rfl) (.inr ⟨_, vs.toArray, _, hk, rfl, rfl, rfl, by rw [List.size_toArray, lv]; exact hl, by simpa using rv⟩) (fun b u z => nomatch z) (fun b z => absurd rfl z) fun z => absurd rfl z
  | none =>
    let H : Hp := fun b => if b = a then some (.frz { cls := .type "list", data := .seq vs.toArray } (.lst (ns.map V.int))) else none
    have Ha : H a = some (.frz { cls := .type "list", data := .seq vs.toArray } (.lst (ns.map V.int))) := if_pos rfl
    have Hn : ∀ b, b ≠ a → H b = none := fun b h => if_neg h
    have one : ∀ b, H b ≠ none → b = a := fun b h => Classical.byContradiction fun n => h (Hn b n)
    refine go H (fun b => ?_) (.inl (.inr ⟨_, Ha⟩)) (fun b u z => ?_) one fun _ => hk
    · by_cases hb : b = a
      · rw [hb]; exact .inr ⟨_, _, Ha⟩
      · exact .inl (Hn b hb)
    · have hb := one b (by rw [z]; simp)
      subst hb
      rw [Ha] at z
      cases z
      exact ⟨ha, by rw [List.length_map]; exact hl, vs, _, rv, ha⟩
theorem walkG {l : PySem.W.OpenLaw} {q : Program} {loose : List Str} {XP : (Str → Option Value) → Heap → Prop} {YP : World → Heap → Prop} {d : DefRec} {K : Params → PySem.W.Frag} (k : Nat) (hr : Room k callerA) (hn : l.most = some 63) (hdf : d.params.defaults = [])
    (hY : ∀ (w : World) (h : Heap), YP w h → (K w.params).In h)
    (F : ∀ (w : World) (mg : Str → Option Value) (fa : Addr) (h : Heap), (K w.params).In h → h.Ns mainGlobals mg → mg d.name = some (.ref fa) →
      ∃ fd : FuncData, (∀ (s : Shared) (u : Value), BindsTo s fd ⟨[u], []⟩ [("script", u)]) ∧ ∀ base : Heap, (K w.params).In base → base.Ns mainGlobals mg → FnG l.prog w (K w.params) mg base (L2.CX l.prog w) k fa fd ["script"] (spLaw (K w.params))) :
    PySem.W.WalkO q loose XP YP l.row.toRowW d [] (fun f vs => PySem.call f vs) := by
  refine Att.attach_call hn hdf ?_
  intro w s₀ s₁ mg mb fa o pm cd doc a vs ns G Y _ _ _ hmg hobj hints hlen hg
  have kin := hY w _ Y
  obtain ⟨fd, hb, hF⟩ := F w mg fa _ kin G.T.g hmg
  exact law_callG kin G.T.g G.T.b G.T.builtins G.T.nolimit hg hobj hints (Nat.le_trans hlen (by decide)) hr hF hb (fun H _ hS => ⟨a, ns, rfl, hS, hlen, fun _ => rfl⟩) fun H e s' z => cx_none z
end
end
end Z

namespace Z
noncomputable section
open PySem L2
variable {ct : CT} {Wx : XW} {W S0 S S1 H H' : Hp} {ρ ρ' : Env} {σ σ0 : St} {t u : T} {ts us tm its : List T} {v w : V} {vs ws vm : List V} {as bs : List Addr} {i : Nat} {d : D} {pin : List Nat} {D0 : Ends} {K : PySem.W.Frag} {ns : List Int}
/-! ### {x: True for x in ..}, x whole numbers -/
def addI (ks : List Int) (x : Int) : List Int := if x ∈ ks then ks else ks ++ [x]
def intsT : List T → Option (List Int)
  | [] => some []
  | .sh (.int i) :: l => (intsT l).map (i :: ·)
  | _ => none
def keysI (xs : List Int) : List Int := xs.foldl addI []
def odI (ks : List Int) : T := .od (ks.map Sum.inl) (ks.map fun _ => .sh (.bl true))
def eDcI (j : Nat) (src : IM) : EM := fun ρ => (src ρ).bnd fun its ρ1 => match intsT its with
  | some xs => if xs.length ≤ lim ∧ j < ρ1.length then .ok (odI (keysI xs)) (keepE ρ1 [j] (wipeE ρ1 [j])) else .bad
  | none => .bad
theorem intsT_get : ∀ {l : List T} {xs : List Int} {i : Nat} {t : T}, intsT l = some xs → l[i]? = some t → ∃ x, xs[i]? = some x ∧ t = .sh (.int x)
  | [], _, _, _, _, e => by simp at e
  | .sh (.int x) :: l, xs, i, t, h, e => by
    unfold intsT at h
    obtain ⟨r, hr, rfl⟩ := Option.map_eq_some_iff.mp h
    cases i with
    | zero => cases e; exact ⟨x, rfl, rfl⟩
    | succ i =>
      obtain ⟨y, h1, h2⟩ := intsT_get (i := i) hr (by simpa using e)
      exact ⟨y, by simpa using h1, h2⟩
  | .sh .non :: l, _, _, _, h, _ => by cases h
  | .sh (.bl _) :: l, _, _, _, h, _ => by cases h
  | .sh (.str _) :: l, _, _, _, h, _ => by cases h
  | .sh (.lst _) :: l, _, _, _, h, _ => by cases h
  | .sh (.tup _) :: l, _, _, _, h, _ => by cases h
  | .sh (.dic _ _) :: l, _, _, _, h, _ => by cases h
  | .ol _ :: l, _, _, _, h, _ => by cases h
  | .ot _ :: l, _, _, _, h, _ => by cases h
  | .od _ _ :: l, _, _, _, h, _ => by cases h
theorem intsT_len : ∀ {l : List T} {xs : List Int}, intsT l = some xs → xs.length = l.length
  | [], _, h => by cases h; rfl
  | .sh (.int x) :: l, xs, h => by
    unfold intsT at h
    obtain ⟨r, hr, rfl⟩ := Option.map_eq_some_iff.mp h
    simp [intsT_len hr]
  | .sh .non :: l, _, h => by cases h
  | .sh (.bl _) :: l, _, h => by cases h
  | .sh (.str _) :: l, _, h => by cases h
  | .sh (.lst _) :: l, _, h => by cases h
  | .sh (.tup _) :: l, _, h => by cases h
  | .sh (.dic _ _) :: l, _, h => by cases h
  | .ol _ :: l, _, h => by cases h
  | .ot _ :: l, _, h => by cases h
  | .od _ _ :: l, _, h => by cases h
theorem addI_le (ks : List Int) (x : Int) : (addI ks x).length ≤ ks.length + 1 := by
  unfold addI; split <;> simp
/-- the dict's rows -/
def rowsI (ks : List Int) : List (Key × V) := ks.map fun k => (Sum.inl k, .bl true)
theorem put_rows (ks : List Int) (x : Int) : putK (rowsI ks) (Sum.inl x) (.bl true) = rowsI (addI ks x) := by
  unfold putK addI rowsI
  by_cases h : x ∈ ks
  · have : ((ks.map fun k => ((Sum.inl k : Key), V.bl true)).any fun kv => decide (kv.1 = Sum.inl x)) = true := by
      rw [List.any_map, List.any_eq_true]
      exact ⟨x, h, by simp⟩
    rw [if_pos this, if_pos h, List.map_map]
    apply List.map_congr_left
    intro k _
    show (if (Sum.inl k : Key) = Sum.inl x then (Sum.inl k, V.bl true) else (Sum.inl k, V.bl true)) = _
    split <;> rfl
  · have : ¬ ((ks.map fun k => ((Sum.inl k : Key), V.bl true)).any fun kv => decide (kv.1 = Sum.inl x)) = true := by
      rw [List.any_map, List.any_eq_true]
      rintro ⟨k, hk, e⟩
      have : k = x := by simpa using e
      exact h (this ▸ hk)
    rw [if_neg this, if_neg h, List.map_append]
    rfl
theorem zip_rows : ∀ (ks : List Int) (xs : List V), xs = ks.map (fun _ => V.bl true) → (ks.map (Sum.inl : Int → Key)).zip xs = rowsI ks
  | [], _, h => by subst h; rfl
  | k :: ks, _, h => by
    subst h
    simp only [List.map_cons, List.zip_cons_cons]
    rw [zip_rows ks _ rfl]
    rfl
theorem rtl_true {S H : Hp} : ∀ (ks : List Int), Rtl S H (ks.map fun _ => T.sh (.bl true)) (ks.map fun _ => V.bl true) []
  | [] => ⟨rfl, rfl⟩
  | k :: ks => ⟨_, _, [], [], rfl, rfl, ⟨rfl, rfl⟩, rtl_true ks⟩
theorem rtl_trueE {S H : Hp} : ∀ (ks : List Int) (xs : List V) (b : List Addr), Rtl S H (ks.map fun _ => T.sh (.bl true)) xs b → xs = (ks.map fun _ => V.bl true) ∧ b = []
  | [], _, _, ⟨h1, h2⟩ => ⟨h1, h2⟩
  | k :: ks, _, _, ⟨v, r, b, c, h1, h2, ⟨h3, h4⟩, h5⟩ => by
    subst h1 h2 h3
    obtain ⟨e1, e2⟩ := rtl_trueE ks _ _ h5
    subst e1 e2
    have : v = V.bl true := h4
    subst this
    exact ⟨rfl, rfl⟩
theorem keysI_snoc (xs : List Int) (x : Int) : keysI (xs ++ [x]) = addI (keysI xs) x := by simp [keysI, List.foldl_append]
theorem foldl_addI : ∀ (xs ks : List Int), (xs.foldl addI ks).length ≤ ks.length + xs.length
  | [], ks => by simp
  | x :: xs, ks => by
    have h1 := foldl_addI xs (addI ks x)
    have h2 := addI_le ks x
    simp only [List.foldl_cons, List.length_cons]
    omega
theorem keysI_le (xs : List Int) : (keysI xs).length ≤ xs.length := by
  have := foldl_addI xs []
  simpa [keysI] using this
theorem se_dcI {j : Nat} {wi : TI} {src : IM} (hi : SI ct Wx wi src) : SE ct Wx (tDc wi (gName j) tYes (tVar j) (tC (.bl true)) [j]) (eDcI j src) := fun W S0 ρ σ tm vm H Q gx k => by
  refine hi W S0 ρ σ tm vm H _ gx ((Out.P_bnd.mp k).mono (fun its ρ1 k1 J S H1 hu g1 jo => ?_) fun _ _ h => h)
  cases hx : intsT its with
  | none => rw [hx] at k1; exact k1.elim
  | some xs =>
  rw [hx] at k1
  obtain ⟨⟨hz, hj⟩, k2⟩ := P_ite k1
  have hl := intsT_len hx
  intro D hD
  obtain ⟨S1, as, bs, hu1, g1⟩ := g1.up
  have hk : ∀ (i : Nat) d, ρ1[i]? = some (some (.sh d)) → ∃ v, σ[i]? = some (some v) ∧ Rp S1 d v := fun i d e => by
    obtain ⟨v, b, c, d', e1, _, ⟨_, e3⟩, _⟩ := g1.re.at e
    exact ⟨v, e1, e3⟩
  have g2 : GX W S1 (wipeE ρ1 [j]) (wipe σ [j]) (odI [] :: tm) (.ref D :: vm) (upd H1 D (.dK [])) := GX.wipe (GX.newD (ks := []) (ts := []) (vs := []) ⟨S1, as, bs, g1⟩ rfl rfl hD)
  refine ⟨fun i m H' => m = its.length - i ∧ i ≤ its.length ∧ ∃ ρ', GX W S1 ρ' (wipe σ [j]) (odI (keysI (xs.take i)) :: tm) (.ref D :: vm) H' ∧ wipeE ρ' [j] = wipeE ρ1 [j], ⟨its.length, by simp, Nat.zero_le _, _, g2, by simp⟩, ?_⟩
  rintro i m H' ⟨rfl, hle, ρ', g', ew1⟩
  have eS : Same S H' := fun a o h => g'.under a o (hu1.1 a o h)
  by_cases hlt : i < its.length
  · refine .inr ⟨jo.go i H' eS hlt, fun H' => i + 1 ≤ its.length ∧ ∃ ρ', GX W S1 ρ' (wipe σ [j]) (odI (keysI (xs.take (i + 1))) :: tm) (.ref D :: vm) H' ∧ wipeE ρ' [j] = wipeE ρ1 [j], fun H2 q => ⟨its.length - (i + 1), by omega, rfl, q⟩, fun x H2 y => ?_⟩
    obtain ⟨t, e1, y⟩ := jo.yld i H' x H2 eS hlt y
    obtain ⟨z, e2, rfl⟩ := intsT_get hx e1
    have y' : ((H2 = H' ∧ ∃ d, T.sh (.int z) = .sh d ∧ Rp S1 d x) ∨ ∃ p es vs, T.sh (.int z) = .ot (es.map .sh) ∧ x = .ref p ∧ H' p = none ∧ H2 = upd H' p (.tup vs) ∧ Rpl S1 es vs) := by
      rcases y with ⟨h1, d, h2, h3⟩ | ⟨p, es, vs, h1, h2, h3, h4, h5⟩
      · exact .inl ⟨h1, d, h2, h3.mono hu1.1⟩
      · cases h1
    refine sg_name W S1 ρ' _ _ _ H2 _ x _ (g'.item y') rfl _ fun σ2 g3 ew => ?_
    rw [wipe_wipe] at ew
    refine ⟨ew, ?_⟩
    unfold tYes
    dsimp only
    rw [if_pos rfl]
    have hlen : ρ'.length = ρ1.length := by simpa using congrArg List.length ew1
    obtain ⟨v, e5, g4⟩ := g3.read (i := j) (t := .sh (.int z)) (by simp [hlen, hj])
    have hv : v = .int z := g4.tmp
    subst hv
    have hle2 : (keysI (xs.take i)).length ≤ lim := by
      have h1 := keysI_le (xs.take i)
      rw [List.length_take] at h1
      omega
    refine ⟨.int z, e5, ?_⟩
    obtain ⟨a, ys, e6, h1, h2, h3, mk⟩ := g3.mutD
    cases e6
    have hys : ys = (keysI (xs.take i)).map fun _ => V.bl true := by
      obtain ⟨S', as', bs', gg⟩ := g3
      obtain ⟨v', r, c1, c2, h4, _, ⟨a', ys', b', h5, _, h6, _, h7⟩, _⟩ := gg.rt
      cases h4
      cases h5
      obtain ⟨q1, _⟩ := rtl_trueE _ _ _ h7
      have h8 := h1.symm.trans h6
      injection h8 with h8
      injection h8 with h8
      rw [zip_rows _ _ q1] at h8
      have h9 := congrArg (List.map Prod.snd) h8
      rw [List.map_snd_zip (by simp [h3])] at h9
      rw [h9]
      simp [rowsI]
    rw [zip_rows _ _ hys] at h1
    have et : keysI (xs.take (i + 1)) = addI (keysI (xs.take i)) z := by
      rw [List.take_add_one, e2]
      exact keysI_snoc _ _
    have g6 := mk ((addI (keysI (xs.take i)) z).map Sum.inl) ((addI (keysI (xs.take i)) z).map fun _ => .sh (.bl true)) tm ((addI (keysI (xs.take i)) z).map fun _ => V.bl true) vm (by simp) (fun S H b c hb hc => ⟨[], c, rtl_true _, hc, by
      intro h
      simpa using (List.nodup_append.mp h).2.1, by
      intro x hx
      simp at hx
      simp [hx]⟩)
    rw [zip_rows _ _ rfl, ← put_rows, ← et] at g6
    have g7 := GX.wipe (slots := [j]) g6
    rw [ew] at g7
    refine ⟨rowsI (keysI (xs.take i)), Sum.inl z, rfl, h1, ?_, hlt, _, g7, ?_⟩
    · have : (rowsI (keysI (xs.take i))).length = (keysI (xs.take i)).length := by simp [rowsI]
      rw [this]
      have h1 := keysI_le (xs.take i)
      rw [List.length_take] at h1
      exact lim_lt (by omega)
    · rw [← ew1]
      simp [wipeE]
  · have ei : i = its.length := by omega
    subst ei
    refine .inl ⟨jo.stop _ H' eS (Nat.le_refl _), ?_⟩
    have hw := GX.wipe (slots := [j]) g'
    rw [wipe_wipe, ew1] at hw
    rw [← hl, List.take_length] at hw
    exact k2 (.ref D) H' ((GX.keep hw hk).join (hu.trans hu1))
/-! ### len of a dict, tuple(l), str(i), l.index(x) -/
def rLenD : List V → Hp → VK → Prop := fun xs H Q => ∃ a kvs, xs = [V.ref a] ∧ H a = some (.dK kvs) ∧ Q (.int kvs.length) H
def oLenD : List T → Option T
  | [.od ks _] => some (.sh (.int ks.length))
  | _ => none
theorem ce_lenD : CallE rLenD oLenD := fun W S0 ρ σ tm vm H ts vs z Q g hl e k => by
  unfold oLenD at e
  split at e
  · rename_i ks l
    cases e
    match vs, hl with
    | [v], _ =>
      obtain ⟨a, xs, rfl, h1, h2, h3, _⟩ := GX.mutD (ts := l) (tm := tm) (vm := vm) g
      refine ⟨a, _, rfl, h1, ?_⟩
      have : (ks.zip xs).length = ks.length := by simp [h2, h3]
      rw [this]
      exact k _ H ((GX.pop1 (t := .od ks l) (v := .ref a) g).pushC (S := fun _ => none) (d := .int ks.length) rfl rfl)
  · cases e
def rStrI : List V → Hp → VK → Prop := fun xs H Q => ∃ i : Int, xs = [.int i] ∧ i.natAbs.log2 < 1920 ∧ Q (.str (toString i)) H
def oStrI : D → Option D
  | .int i => if i.natAbs.log2 < 1920 then some (.str (toString i)) else none
  | _ => none
theorem cs_strI : CallS rStrI (o1 oStrI) := fun H ds vs d h e Q q => by
  obtain ⟨x, rfl, e⟩ := o1_some e
  obtain ⟨v, rfl, hv⟩ := rpl1 h
  clear h
  cases x <;> first | (cases e; done) | skip
  obtain ⟨h1, e⟩ := ite_some e
  cases e
  cases hv
  exact ⟨_, rfl, h1, q _ H (fun _ _ h => h) rfl⟩
def oIndex : D → D → Option D
  | .lst l, y => if (D.lst l).dat 60 = true ∧ y.dat 60 = true then ((pyl l).findIdx? fun z => PyData.eqv z y.py).map fun j => .int (j : Nat) else none
  | _, _ => none
def pIndex (p q : PM) : PM := fun ρ => (p ρ).bind fun x => (q ρ).bind fun y => oIndex x y
theorem sp_index {K : PySem.W.Frag} {ta tb : TE} {a b : PM} (ha : SP ta a) (hb : SP tb b) : SP (tBM K "list" (rIndexD K) ta (tCons tb tNil)) (pIndex a b) := fun ρ σ H g d h Q q => by
  obtain ⟨x, h1, h⟩ := some_bind h
  obtain ⟨y, h2, h⟩ := some_bind h
  refine ha ρ σ H g x h1 _ fun v H1 e1 r1 => ?_
  obtain ⟨l, rfl⟩ : ∃ l, x = .lst l := by
    cases x <;> first | (cases h; done) | exact ⟨_, rfl⟩
  obtain ⟨⟨k1, k2⟩, h⟩ := ite_some h
  obtain ⟨j, hj, rfl⟩ := Option.map_eq_some_iff.mp h
  obtain ⟨hlt, hz, hno⟩ := List.findIdx?_eq_some_iff_getElem.mp hj
  have hx := r1
  obtain ⟨p, xs, rfl, hp, _⟩ := hx
  refine ⟨.inl ⟨rfl, xs, .of hp⟩, ?_⟩
  refine hb ρ σ H1 (g.ext e1) y h2 _ fun w H2 e2 r2 => ?_
  have d1 := (r1.mono e2).dp (K := K) k1
  exact ⟨p, w, y.py, pyl l, j, (pyl l)[j], rfl, rfl, d1, r2.dp k2, dat_shaped k1, dat_shaped k2, List.getElem?_eq_getElem hlt, hz, fun m z' hm hz' => by
    obtain ⟨hm2, rfl⟩ := List.getElem?_eq_some_iff.mp hz'
    simpa using hno m hm, q _ H2 (e1.trans e2) rfl⟩
end
end Z

namespace Z
noncomputable section
open PySem L2
open PySem.Spec PyProof.Rows
variable {ct : CT} {P : Program} {w : World} {K : PySem.W.Frag} {mg : Str → Option Value} {base h : Heap}
/-! ### a law that asks repr -/
def FlG (P : Program) (w : World) (K : PySem.W.Frag) (mg : Str → Option Value) (base : Heap) (x : Str) (st : Stmt) (k : Nat) (ps : List Str) (sp : Sp) : Prop :=
  ∃ (f : Addr) (fd : FuncData), FnG P w K mg base (L2.CX P w) k f fd ps sp ∧ Fun K x x st f fd ∧ mg x = some (.ref f)
theorem fnG_defL {x : Str} {st : Stmt} {N : List Str} {sc : Str} {k : Nat} {m : List Int → SM} (F : Dd K mg x st [sc]) (Sc : FnScope N [sc] (defScope st)) (hN : 1 ≤ N.length)
    (hbody : ∀ (f : Addr) (cdv : Value) (A : Around), A.guards = some [] → ∀ (outer : List PySem.Env) (s : Shared) (H : Hp) (E : XK), Room k (A.deeper (envOfC x (defScope st) s.heap.objs.size f cdv)) →
      ∃ t, PSs (cxOf (L2.CX P w) P w K mg base N x (defScope st) f cdv A outer s H E) (defBody st) t ∧ ∀ ns, SSa (ScA K ns) ct (fun c d _ H => E c d H) [0] t (m ns)) : FlG P w K mg base x st (k + 1) [sc] (spSc ct K (mFunS N.length m)) := by
  obtain ⟨f, fd, F, hm, hb⟩ := F
  refine ⟨f, fd, ?_, F, hm⟩
  refine fnG_mk F Sc (fun vs H Q E h => by obtain ⟨a, ns, rfl, _⟩ := h; rfl) fun cdv A hg outer s H vs Q E hr h => ?_
  obtain ⟨t, ht, hs⟩ := hbody f cdv A hg outer s H E hr
  refine ⟨t, ht, ?_⟩
  obtain ⟨a, ns, rfl, hA, k1⟩ := h
  have hl : (start N [.ref a]).length = N.length := by
    simp only [L2.start, List.length_append, List.length_map, List.length_replicate, List.length_cons, List.length_nil]
    omega
  have hr0 : Re (fun _ => none) H (List.replicate N.length none) (start N [.ref a]) [] := by
    have := re_none (S := fun _ => none) (H := H) (start N [.ref a])
    rw [hl] at this
    exact this
  have g : GX H (fun _ => none) (List.replicate N.length none) (start N [.ref a]) [] [] H := ⟨fun _ => none, [], [], fun _ _ h => h, (fun _ _ h => nomatch h), (fun _ _ h => h), (fun _ _ h => h), hr0, ⟨rfl, rfl⟩, by simp, by simp, by simp⟩
  refine hs ns H (fun _ => none) (start N [.ref a]) _ _ H _ ⟨a, rfl, hA⟩ g Pin.refl ?_
  unfold mFunS at k1
  generalize m ns _ = o at k1 ⊢
  cases o with
  | rt t ρ => exact fun v σ' H' g3 _ => k1 v H' g3.noEnv
  | _ => exact k1.elim
theorem fnG_law {x : Str} {st : Stmt} {sc : Str} {k : Nat} {F : List Int → FOut} (G : FlG P w K mg base x st k [sc] (spSc ct K F)) (hF : ∀ ns : List Int, ns.length ≤ 63 → F ns = .ok (.sh (.bl true)) []) : FlG P w K mg base x st k [sc] (spLaw K) := by
  obtain ⟨f, fd, G, r⟩ := G
  refine ⟨f, fd, ⟨fun A hg hr outer s H e args us vs hb hv Q E hsp => G.run A hg hr outer s H e args us vs hb hv Q E ?_⟩, r⟩
  obtain ⟨a, ns, rfl, hA, hl, q⟩ := hsp
  refine ⟨a, ns, rfl, hA, ?_⟩
  rw [hF ns hl]
  intro v H' g
  have := g.tmp
  rw [show v = .bl true from this]
  exact q H'
theorem law_atG {fa : Addr} {x sc : Str} {st : Stmt} {f : Addr} {oc : Value} {od an : Option Addr} {osl : Array (Option Value)} {kV doc pm cdv ctv : Value} {k : Nat} {sp : Sp} (X : K.In h) (G : h.Ns mainGlobals mg) (hfa : mg x = some (.ref fa))
    (a : PySem.W.nsIn K mainGlobals x = some (some (.ref f))) (l : K.lookup f = some ⟨oc, od, .func (PySem.W.fnOf x x (defArgs st) (defBody st) (defScope st) .none kV doc pm an cdv ctv), osl⟩)
    (hb : ∀ (kV doc pm : Value) (an : Option Addr) (cdv ct : Value) (us : List Value), us.length = [sc].length → bindArgs (PySem.W.fnOf x x (defArgs st) (defBody st) (defScope st) .none kV doc pm an cdv ct) ⟨us, []⟩ = pure ([sc].zip us))
    (hF : ∀ base : Heap, K.In base → base.Ns mainGlobals mg → FlG P w K mg base x st k [sc] sp) :
    ∃ fd : FuncData, (∀ (s : Shared) (v : Value), BindsTo s fd ⟨[v], []⟩ [(sc, v)]) ∧ ∀ base : Heap, K.In base → base.Ns mainGlobals mg → FnG P w K mg base (L2.CX P w) k fa fd [sc] sp := by
  have e := hfa.symm.trans (PySem.W.mg_of X G a)
  cases e
  refine ⟨_, fun s v => .of_eq (hb kV doc pm an cdv ctv [v] rfl), fun base b1 b2 => ?_⟩
  obtain ⟨g, gd, h1, h2, h3⟩ := hF base b1 b2
  rw [hfa] at h3
  cases h3
  obtain ⟨oc', od', kV', doc', pm', an', cdv', ct', osl', e1, lk, _⟩ := h2.ex
  rw [l] at lk
  have e2 : PySem.W.fnOf x x (defArgs st) (defBody st) (defScope st) .none kV doc pm an cdv ctv = gd := by
    injection lk with lk
    injection lk with _ _ e3 _
    injection e3
  rw [e2]
  exact h1
theorem eqU65 {A : Around} {k : Nat} (hr : Room k A) : A.units + 65 < cLine := by
  have := hr.un
  omega
@[simp ↓] theorem eDcI_run (j : Nat) (src : IM) (ρ : Env) : eDcI j src ρ = (src ρ).bnd fun its ρ1 => match intsT its with
  | some xs => if xs.length ≤ lim ∧ j < ρ1.length then .ok (odI (keysI xs)) (keepE ρ1 [j] (wipeE ρ1 [j])) else .bad
  | none => .bad := rfl
@[simp] theorem oLenD_odI (ks : List Int) : oLenD [odI ks] = some (.sh (.int ks.length)) := by
  show some (T.sh (.int (ks.map Sum.inl).length)) = _
  rw [List.length_map]
@[simp ↓] theorem pIndex_run (p q : PM) (ρ : Env) : pIndex p q ρ = (p ρ).bind fun x => (q ρ).bind fun y => oIndex x y := rfl
@[simp] theorem eqS_str (a b : Str) : oEqS (.str a) (.str b) = some (.bl (decide (a = b))) := rfl
@[simp] theorem map_fz_ig (l : List Int) : List.map (T.fz ∘ ig) l = l.map ig := rfl
end
end Z

namespace Z
noncomputable section
open PySem L2
/-! ### data whose text is short -/
structure okd (k w : Nat) (d : D) : Prop where
  dat : d.dat k = true
  sho : d.py.showable = true
  lea : d.py.leavesShort 24 = true
  wei : d.py.weight ≤ w
structure okl (k w : Nat) (l : List D) : Prop where
  dat : datl k l = true
  sho : PyData.showableAll (pyl l) = true
  lea : PyData.leavesShortAll 24 (pyl l) = true
  wei : PyData.weightAll (pyl l) ≤ w
theorem okl_nil {k : Nat} : okl k 0 [] := ⟨rfl, rfl, rfl, Nat.le_refl _⟩
theorem okl_cons {k w v : Nat} {d : D} {l : List D} (h : okd k w d) (h' : okl k v l) : okl k (w + 1 + v) (d :: l) := by
  refine ⟨?_, ?_, ?_, ?_⟩
  · simp [datl, h.dat, h'.dat]
  · simp [pyl, PyData.showableAll, h.sho, h'.sho]
  · simp [pyl, PyData.leavesShortAll, h.lea, h'.lea]
  · have := h.wei
    have := h'.wei
    simp only [pyl, PyData.weightAll]
    omega
theorem okl_app {k w v : Nat} : ∀ {l m : List D}, okl k w l → okl k v m → okl k (w + v) (l ++ m)
  | [], m, h, h' => ⟨h'.dat, h'.sho, h'.lea, Nat.le_trans h'.wei (Nat.le_add_left _ _)⟩
  | d :: l, m, h, h' => by
    have hd := h.dat; have hs := h.sho; have hl := h.lea; have hw := h.wei
    simp only [datl, pyl, PyData.showableAll, PyData.leavesShortAll, PyData.weightAll, Bool.and_eq_true] at hd hs hl hw
    have ih := okl_app (w := w - (d.py.weight + 1)) (l := l) (m := m) ⟨hd.2, hs.2, hl.2, by omega⟩ h'
    have := okl_cons (w := d.py.weight) ⟨hd.1, hs.1, hl.1, Nat.le_refl _⟩ ih
    exact ⟨this.dat, this.sho, this.lea, Nat.le_trans this.wei (by omega)⟩
theorem okl.mono {k w v : Nat} {l : List D} (h : okl k w l) (hv : w ≤ v) : okl k v l := ⟨h.dat, h.sho, h.lea, Nat.le_trans h.wei hv⟩
theorem okd.mono {k w v : Nat} {d : D} (h : okd k w d) (hv : w ≤ v) : okd k v d := ⟨h.dat, h.sho, h.lea, Nat.le_trans h.wei hv⟩
theorem okl_all {k w : Nat} : ∀ {l : List D}, (∀ d ∈ l, okd k w d) → okl k (l.length * (w + 1)) l
  | [], _ => by simpa using okl_nil
  | d :: l, h => by
    have := okl_cons (h d List.mem_cons_self) (okl_all fun x hx => h x (List.mem_cons_of_mem _ hx))
    refine this.mono ?_
    rw [List.length_cons, Nat.add_mul]
    omega
mutual
theorem dat_mono : ∀ {d : D} {k j : Nat}, d.dat k = true → k ≤ j → d.dat j = true
  | .non, _, j, _, _ => by cases j <;> rfl
  | .bl _, _, j, _, _ => by cases j <;> rfl
  | .int _, _, j, _, _ => by cases j <;> rfl
  | .str s, k, j, h, _ => by
    have : PyData.strOk s = true := by cases k <;> simpa [D.dat] using h
    cases j <;> simpa [D.dat] using this
  | .lst l, 0, _, h, _ => by simp [D.dat] at h
  | .tup l, 0, _, h, _ => by simp [D.dat] at h
  | .dic _ _, k, _, h, _ => by cases k <;> simp [D.dat] at h
  | .lst l, k + 1, j, h, hj => by
    cases j with
    | zero => omega
    | succ j => simp only [D.dat] at h ⊢; exact datl_mono h (by omega)
  | .tup l, k + 1, j, h, hj => by
    cases j with
    | zero => omega
    | succ j => simp only [D.dat] at h ⊢; exact datl_mono h (by omega)
theorem datl_mono : ∀ {l : List D} {k j : Nat}, datl k l = true → k ≤ j → datl j l = true
  | [], _, _, _, _ => rfl
  | d :: l, k, j, h, hj => by
    simp only [datl, Bool.and_eq_true] at h ⊢
    exact ⟨dat_mono h.1 hj, datl_mono h.2 hj⟩
end
theorem okl.lst {k w : Nat} {l : List D} (h : okl k w l) : okd (k + 1) w (.lst l) := ⟨h.dat, h.sho, h.lea, h.wei⟩
theorem okl.tup {k w : Nat} {l : List D} (h : okl k w l) : okd (k + 1) w (.tup l) := ⟨h.dat, h.sho, h.lea, h.wei⟩
theorem okd.up {k j w : Nat} {d : D} (h : okd k w d) (hj : k ≤ j) : okd j w d := ⟨dat_mono h.dat hj, h.sho, h.lea, h.wei⟩
theorem okl.up {k j w : Nat} {l : List D} (h : okl k w l) (hj : k ≤ j) : okl j w l := ⟨datl_mono h.dat hj, h.sho, h.lea, h.wei⟩
mutual
theorem no_dict : ∀ {d : D} {k : Nat}, d.dat k = true → d.py.hasDict = false
  | .non, _, _ => rfl
  | .bl _, _, _ => rfl
  | .int _, _, _ => rfl
  | .str _, _, _ => rfl
  | .lst l, 0, h => by simp [D.dat] at h
  | .tup l, 0, h => by simp [D.dat] at h
  | .dic _ _, k, h => by cases k <;> simp [D.dat] at h
  | .lst l, k + 1, h => by simp only [D.dat] at h; exact no_dictl h
  | .tup l, k + 1, h => by simp only [D.dat] at h; exact no_dictl h
theorem no_dictl : ∀ {l : List D} {k : Nat}, datl k l = true → PyData.hasDictAll (pyl l) = false
  | [], _, _ => rfl
  | d :: l, k, h => by
    simp only [datl, Bool.and_eq_true] at h
    simp only [pyl, PyData.hasDictAll, no_dict h.1, no_dictl h.2, Bool.or_self]
end
theorem repr_lst {k w : Nat} {l : List D} (h : okl k w l) (hk : k + 1 ≤ 60) (hw : w ≤ 600000) : oRepr (.lst l) = some (.str (D.lst l).py.shown) := by
  have h' := h.lst
  have hs := PyData.shown_le 24 (by decide) (D.lst l).py h'.lea
  have hz : (D.lst l).py.shown.length ≤ sizeLine := by
    have := h'.wei
    rw [sizeLine_eq]
    omega
  exact if_pos ⟨dat_mono h'.dat hk, h'.sho, no_dict h'.dat, hz⟩
theorem repr_tup {k w : Nat} {l : List D} (h : okl k w l) (hk : k + 1 ≤ 60) (hw : w ≤ 600000) : oRepr (.tup l) = some (.str (D.tup l).py.shown) := by
  have h' := h.tup
  have hs := PyData.shown_le 24 (by decide) (D.tup l).py h'.lea
  have hz : (D.tup l).py.shown.length ≤ sizeLine := by
    have := h'.wei
    rw [sizeLine_eq]
    omega
  exact if_pos ⟨dat_mono h'.dat hk, h'.sho, no_dict h'.dat, hz⟩
/-- numbers of a few digits -/
theorem shown_len {i : Int} (h : i.natAbs < 10 ^ 22) : (PyData.shown (.int i)).length ≤ 24 := by
  have e := int_text_length_le10 (k := 22) (by decide) h
  show (Str.ofString (toString i)).length ≤ 24
  rw [show (Str.ofString (toString i)).length = (toString i).length from by first | exact ofString_length _ | exact StrLaws.ofString_length _]
  omega
theorem okd_intw {k e : Nat} {i : Int} (h : i.natAbs < 2 ^ e) (he : e ≤ 70) : okd k e (.int i) := by
  have h22 : i.natAbs < 10 ^ 22 := by
    have : (2 : Nat) ^ e ≤ 2 ^ 70 := Nat.pow_le_pow_right (by decide) he
    have : (2 : Nat) ^ 70 < 10 ^ 22 := by decide
    omega
  have hl : i.natAbs ≠ 0 → i.natAbs.log2 < e := fun q => (Nat.log2_lt q).mpr h
  refine ⟨by cases k <;> rfl, ?_, ?_, ?_⟩
  · show decide (i.natAbs.log2 < 1920) = true
    rw [decide_eq_true_eq]
    by_cases q : i.natAbs = 0
    · rw [q]; decide
    · have := hl q; omega
  · show decide ((PyData.shown (.int i)).length ≤ 24) = true
    rw [decide_eq_true_eq]
    exact shown_len h22
  · show (if i == 0 then 0 else i.natAbs.log2 + 1) ≤ e
    by_cases q : i = 0
    · simp [q]
    · have := hl (by omega)
      simp [q]
      omega
theorem okl_ints {k e : Nat} {p : List Int} (h : ∀ x ∈ p, x.natAbs < 2 ^ e) (he : e ≤ 70) : okl k (p.length * (e + 1)) (p.map .int) := by
  have := okl_all (k := k) (w := e) (l := p.map .int) fun d hd => by
    obtain ⟨x, hx, rfl⟩ := List.mem_map.mp hd
    exact okd_intw (h x hx) he
  rwa [List.length_map] at this
theorem okd_non {k : Nat} : okd k 0 .non := ⟨by cases k <;> rfl, rfl, rfl, Nat.le_refl _⟩
theorem okd_bl {k : Nat} {b : Bool} : okd k 0 (.bl b) := ⟨by cases k <;> rfl, rfl, rfl, Nat.le_refl _⟩
theorem okd_str {k : Nat} {s : Str} (h : PyData.strOk s = true) (hz : s.cps.size ≤ 24) : okd k 24 (.str s) := by
  refine ⟨by cases k <;> simpa [D.dat] using h, rfl, ?_, hz⟩
  show (s.cps.toList.all fun c => decide (c < 16 ^ 8)) = true
  have h' : s.cps.all (· < 0x110000) = true := h
  rw [← Array.all_toList, List.all_eq_true] at h'
  rw [List.all_eq_true]
  intro c hc
  have := h' c hc
  simp only [decide_eq_true_eq] at this ⊢
  omega
theorem str_small {i : Int} (h0 : 0 ≤ i) (h1 : i < 60) : PyData.strOk (Str.ofString (toString i)) = true ∧ (Str.ofString (toString i)).cps.size ≤ 24 := by
  have h : ∀ k : Fin 60, PyData.strOk (Str.ofString (toString ((k : Nat) : Int))) = true ∧ (Str.ofString (toString ((k : Nat) : Int))).cps.size ≤ 24 := by decide +kernel
  have := h ⟨i.toNat, by omega⟩
  simp only [Int.toNat_of_nonneg h0] at this
  exact this
end
end Z

namespace Z
open PySem PySem.W PySem.Calls PyProof.Rows PySem.Spec
open L2 (V St Hp)
/-! ### an own exception whose __init__ says super().__init__(x); self.f = x -/
abbrev exB : List Value := [.type "Exception", .type "BaseException", .type "object"]
def supBody (arg fld : Str) (p0 p1 p2 p3 p4 p5 p6 p7 p8 p9 : Pos) : List Stmt :=
  [.Expr (.Call (.Attribute (.Call (.Name "super" p0) [] [] p1) "__init__" p2) [.Name arg p3] [] p4) p5,
   .Assign [.Attribute (.Name "self" p6) fld p7] (.Name arg p8) p9]
def SupEv (arg : Str) (p0 p1 p2 p3 p4 : Pos) : Prop := ∃ pl : Sem Bool, ∀ env : PySem.Env, eval (.Call (.Attribute (.Call (.Name "super" p0) [] [] p1) "__init__" p2) [.Name arg p3] [] p4) env =
  (do let ov ← attributeBase (.Call (.Name "super" p0) [] [] p1) "__init__" env (eval (.Call (.Name "super" p0) [] [] p1) env)
      standAt p2.atName
      let (f, first) ← holding [ov] (getMethod ov "__init__" pl)
      callWith p4 f first (backTo p4 (starEach [.Name arg p3] env)) [])
/-- what is written of the class and its __init__ -/
structure SupC (prog : Program) (K : Frag) (C f : Addr) (arg fld : Str) : Prop where
  made : excInitIn K C exB "Exception.__new__" = true
  over : excOver K C exB = true
  ini : findIn K (.ref C) "__init__" = some (some (.ref f))
  isf : isFn K (.ref f) = true
  sup : ks_superIn K C C "__init__" = some (some (.builtin "Exception.__init__"))
  subE : subIn K (.ref C) (.type "Exception") = some true
  subB : subIn K (.ref C) (.type "BaseException") = some true
  typ : typeIn K (.ref C) = some (.type "type")
  keep : keepIn K (.ref C) = true
  setA : findIn K (.ref C) "__setattr__" = some (some (.builtin "object.__setattr__"))
  tak : takerIn K C fld = some none
  dic : hasDictIn K C = true
  opq : nsIn K cStatics "thirdparty.any" = some none
  sub0 : mroIn K C (.ref C) = some true
  fn : ∃ oc od osl nm qn params scope bd kV doc pm an cda ct cc p0 p1 p2 p3 p4 p5 p6 p7 p8 p9 ccl cdd vs ccs file tf cl cld csl ar,
    K.lookup f = some ⟨oc, od, .func (ksFn nm qn params bd scope .none kV doc pm an (.ref cda) ct cc), osl⟩ ∧
    codeIn K (.ref cda) qn = true ∧ K.lookup cda = some ⟨ccl, cdd, .fields vs, ccs⟩ ∧ vs[2]? = some (.str file tf) ∧ ((prog.main.file : Str) == file) = true ∧
    K.lookup cc = some ⟨cl, cld, .cell (some (.ref C)), csl⟩ ∧ (params.posonlyargs ++ params.args).head? = some ar ∧ ar.arg = "self" ∧
    (∀ a u : Value, bindArgs (ksFn nm qn params bd scope .none kV doc pm an (.ref cda) ct cc) ⟨[a, u], []⟩ = pure [(("self" : Str), a), (arg, u)]) ∧
    scope.names.lookup ("super" : Str) = some .globalImplicit ∧ scope.names.lookup ("__class__" : Str) = some .free ∧ scope.names.lookup ("self" : Str) = some .local ∧ scope.names.lookup arg = some .local ∧
    (∀ x ∈ scope.names, x.2 ≠ .cell) ∧ scope.isCoroutine = false ∧ scope.isGenerator = false ∧ scope.kind = .function ∧ SupEv arg p0 p1 p2 p3 p4 ∧ bd = supBody arg fld p0 p1 p2 p3 p4 p5 p6 p7 p8 p9
  top : (prog.main.scope.names.lookup ("super" : Str)).isSome = false
  argne : arg ≠ "self"
  argd : (arg == ("__debug__" : Str)) = false
section
variable {prog : Program} {w : World} {A : Around} {s : Shared} {K : Frag} {R : Result → Shared → Prop} {a C f t0 : Addr} {u : Value} {arg fld : Str} {g : Heap} {mg mb : Str → Option Value}
theorem sup_init (T : SupC prog K C f arg fld) (hroom : A.depth < recursionLimit) (X : K.In g) (hg : ∀ b o, g.get? b = some o → s.heap.get? b = some o) (hs : g.objs.size ≤ s.heap.objs.size) (hn : g.get? a = none)
    (hmg : g.Ns mainGlobals mg) (hmb : g.Ns builtinsNs mb) (hsm : mg "super" = none) (hsb : mb "super" = some (.type "super")) (nl : s.heap.NoLimit)
    (ha : s.heap.get? a = some (excObj C t0 none .none))
    (hgb : ∀ b o, b ≠ a → s.heap.get? b = some o → g.get? b = some o)
    (h : ∀ (h' : Heap) (tk : Nat) (dx t1 : Addr), (∀ b o, b ≠ a → s.heap.get? b = some o → h'.get? b = some o) → s.heap.objs.size ≤ dx → h'.get? a = some (excObj C t1 (some dx) .none) →
      h'.Ns1 dx (fun y => if y = fld then some u else none) → R (.ok (.ret .none)) { s with heap := h', toks := tk }) :
    codeAny (model prog w) A (.call (.ref f) ⟨[.ref a, u], []⟩) R s := by
  obtain ⟨oc, od, osl, nm, qn, params, scope, bd, kV, doc, pm, an, cda, ct, cc, p0, p1, p2, p3, p4, p5, p6, p7, p8, p9, ccl, cdd, vs, ccs, file, tf, cl, cld, csl, ar, lf, hcd, lcd, hvs, hfile, lcc, har, hself, hbind, ns, nc, nself, narg, hcell, hco, hgen, hk, ⟨pl, hev⟩, rfl⟩ := T.fn
  have Xs : K.In s.heap := X.keeps hg
  obtain ⟨cd, hcls⟩ : ∃ cd, clsIn K C = some cd := by
    have := T.sub0
    unfold mroIn at this
    cases q : clsIn K C with
    | none => rw [q] at this; cases this
    | some cd => exact ⟨cd, rfl⟩
  refine ks_codeAny_call_defAt (fd := ksFn nm qn params (supBody arg fld p0 p1 p2 p3 p4 p5 p6 p7 p8 p9) scope .none kV doc pm an (.ref cda) ct cc) (body := supBody arg fld p0 p1 p2 p3 p4 p5 p6 p7 p8 p9)
    (binds := [(("self" : Str), .ref a), (arg, u)]) hroom (Xs _ _ lf) rfl nl (codeRec_of Xs hcd) rfl (.of_eq (hbind _ _)) hcell ?_ (fun h₁ hns hk₁ => ?_) hco hgen hk
  · intro y hy
    simp only [List.mem_cons, List.not_mem_nil, or_false] at hy
    rcases hy with rfl | rfl
    · exact nself
    · exact narg
  have e1 : ([(("self" : Str), Value.ref a), (arg, u)] : List (Str × Value)).reverse.lookup arg = some u := by simp [List.lookup]
  have e2 : ([(("self" : Str), Value.ref a), (arg, u)] : List (Str × Value)).reverse.lookup ("self" : Str) = some (.ref a) := by
    have : (("self" : Str) == arg) = false := by simpa using fun q => T.argne q.symm
    simp [List.lookup, this]
  have F1 : Fr g s.heap.objs.size h₁ (fun x => ([(("self" : Str), Value.ref a), (arg, u)] : List (Str × Value)).reverse.lookup x) := ⟨hns, fun b o e => hk₁ b o (hg b o e), hs⟩
  have N1 : News g s.heap.objs.size h₁ [(a, excObj C t0 none .none)] := fun p hp => by
    rcases List.mem_cons.mp hp with rfl | hp
    · exact ⟨hk₁ _ _ ha, Nat.ne_of_lt (Heap.lt_size ha), hn⟩
    · cases hp
  show _root_.PySem.wpAt (model prog w) (A.deeper (ksEnv qn scope s.heap.objs.size f (.ref cda) cc)) (.func (supBody arg fld p0 p1 p2 p3 p4 p5 p6 p7 p8 p9) (ksEnv qn scope s.heap.objs.size f (.ref cda) cc)) (execs (supBody arg fld p0 p1 p2 p3 p4 p5 p6 p7 p8 p9) (ksEnv qn scope s.heap.objs.size f (.ref cda) cc)) _ _ _
  have I1 : InstAt h₁ a (excObj C t0 none .none) C none := .of_exc0 N1 (List.mem_cons_self ..)
  obtain ⟨oD, hD1, hD2⟩ : ∃ oD, h₁.get? C = some oD ∧ oD.data = .cls cd := by
    unfold clsIn at hcls
    split at hcls
    · rename_i c d cd' sl ho
      cases hcls
      exact ⟨_, hk₁ _ _ (Xs _ _ ho), rfl⟩
    · cases hcls
  have X1 : K.In h₁ := Xs.keeps hk₁
  obtain ⟨hh, gg, dd, tt, oo⟩ := s
  refine ks_wpAt_execs_cons (ks_wpAt_Expr_any (ks_wpAt_MethodCall (pl := pl) ?_ (hev _)) (by simp [interactive, hk]))
  refine ks_wpAt_super_base (env := ksEnv qn scope hh.objs.size f (.ref cda) cc) ns nc (by decide) rfl (X1 _ _ lf) rfl har rfl (X1 _ _ lcd) rfl hvs hfile T.top ?_
  refine ks_loadName_global hk ns (loadGlobal_builtin (env := ksEnv qn scope hh.objs.size f (.ref cda) cc) (hmg.keeps F1.keep) hsm (hmb.keeps F1.keep) hsb ⟨rfl, ?_⟩)
  refine wpAny_loadName_free hk nc rfl ⟨_, X1 _ _ lcc, rfl⟩ ?_
  rw [hself]
  refine wpAny_loadName_local hk nself F1.ns e2 ?_
  refine ks_wpAny_isType_cls hD1 hD2 ⟨rfl, ?_⟩
  refine ks_wpAny_call_super hD1 hD2 I1.at_ I1.cls (fun c e => ?_) (looks_mroIn X1 T.sub0) (fun h2 eso k2 => ?_)
  · cases e
  obtain ⟨F2, N2, l2⟩ := ks_newsPush (s := ⟨h₁, gg, dd, tt, oo⟩) F1 N1 rfl eso k2
  refine kxs_method kxs_Exception F2 X N2 (List.mem_cons_self ..) (.of_exc0 N2 (.tail _ (List.mem_cons_self ..))) T.opq T.sup T.subE (by decide) (fun q h3 F3 N3 l3 => ?_)
  refine kxs_callWith1 N3 (List.mem_cons_self ..) ?_
  refine spliced_cons (wpAny_Name (wpAny_loadName_local hk narg F3.ns e1 (spliced_nil ⟨kxs_at N3 (List.mem_cons_self ..), ?_⟩)) T.argd)
  have n1 : h₁.objs.size ≠ a := fun z => by have := l2 (a, _) (List.mem_cons_self ..); rw [← z] at this; exact absurd this (Nat.lt_irrefl _)
  have n2 : q ≠ a := fun z => by have := l3 (a, _) (.tail _ (List.mem_cons_self ..)); rw [← z] at this; exact absurd this (Nat.lt_irrefl _)
  refine kxs_call (x := a) F3 X N3 PySem.F.excBase_Exception T.made (List.mem_cons_self ..) (UpdF.tail n2 (UpdF.tail n1 (UpdF.head (fun _ hp => nomatch hp)))) (by rw [sizeLine_eq]; simp) (fun t4 h4 F4 N4 l4 => ?_)
  refine ks_wpAt_execs_cons (ks_wpAt_Assign_Attr (_root_.PySem.wpAt_of_wpAny ?_))
  refine wpAny_Name (wpAny_loadName_local hk narg F4.ns e1 ?_) T.argd
  refine wpAny_Name (wpAny_loadName_local hk nself F4.ns e2 ?_) (by decide)
  have n4 : t4 ≠ a := fun z => by have := l4 (a, _) (.tail _ (.tail _ (List.mem_cons_self ..))); rw [← z] at this; exact absurd this (Nat.lt_irrefl _)
  refine set_exc0 (x := a) PySem.F.store_Exception F4 X N4 (.tail _ (.tail _ (.tail _ (List.mem_cons_self ..)))) T.setA T.over T.tak T.dic rfl (UpdF.tail n4 (UpdF.tail n2 (UpdF.tail n1 (UpdF.head (fun _ hp => nomatch hp))))) (by simp [putL]) (fun dx h5 F5 N5 l5 => ?_)
  refine _root_.PySem.wpAt_of_wpAny (wpAny_execs_nil ?_)
  have hdx := N5 _ (List.mem_cons_self ..)
  have hlt : hh.objs.size ≤ dx := by
    have q1 := hns.lt
    have q2 := l5 (h₁.objs.size, _) (.tail _ (.tail _ (List.mem_cons_self ..)))
    exact Nat.le_of_lt (Nat.lt_trans q1 q2)
  refine h h5 _ dx t4 (fun b o hb e => F5.keep b o (hgb b o hb e)) hlt (N5 (a, _) (by simp)).1 ?_
  refine ⟨_, _, _, hdx.1, rfl, ?_, ?_, ?_⟩
  · intro e he
    simp only [putL, List.mem_toArray, List.mem_cons, List.not_mem_nil, or_false] at he
    exact ⟨_, _, by rw [he]⟩
  · simp [UniqKeys, putL]
  · intro y
    simp only [putL]
    by_cases q : y = fld
    · subst q
      simp [nsFind, findBy, Value.isStr]
    · have q' : ¬ fld = y := fun z => q z.symm
      simp [nsFind, findBy, Value.isStr, q, q']
end
end Z

namespace Z
open PySem L2
open PySem.W (Frag)
variable {X : Cx}
/-! ### C(e), an own exception with such an __init__ -/
def tMkS (C : Addr) (fld : Str) (te : TE) : St → Hp → XK → Prop := fun σ H Q => te σ H fun v H1 => ∀ d, H1 d = none → Q (.ref C) (some d) (upd H1 d (.xd [(fld, v)]))
theorem upd_un {H : Hp} {a d C : Addr} {fld : Str} {v : V} (ha : H a = none) (hd : d ≠ a) : upd (del (upd (upd (upd H a (exo a C none)) d (exd d [(fld, v)])) a (exo a C (some d))) a) d (.xd [(fld, v)]) = upd H d (.xd [(fld, v)]) := by
  funext b
  by_cases q : b = d
  · subst q; rw [upd_same, upd_same]
  · rw [upd_ne q, upd_ne q]
    by_cases q2 : b = a
    · subst q2; rw [del_same, ha]
    · rw [del_ne q2, upd_ne q2, upd_ne q, upd_ne q2]
theorem pmk_sup {C f : Addr} {x arg fld : Str} {e : Expr} {te : TE} {p pos : Pos} (T : SupC X.prog X.K C f arg fld) (hr : Room 1 X.A) (hsup : X.mg "super" = none) (hg : Gl X x) (hm : X.mg x = some (.ref C)) (he : PE X e te)
    (hdb : (x == ("__debug__" : Str)) = false := by decide) (hs : starEach [e] X.env = (false, eval e X.env) :: starEach [] X.env := by rfl) :
    PMk X (.Call (.Name x p) [e] [] pos) (tMkS C fld te) := by
  intro pins s σ H Q I h
  refine wpAny_Call_Name_kw (ld_glob I hg hm ?_ hdb)
  refine PySem.W.callWith_K (h₀ := X.base) I.ok.mod.kin T.keep ?_ hs (by rfl)
  rw [hs]
  show wpAny _ _ (spliced ((false, eval e X.env) :: backTo pos (starEach [] X.env))) _ _ s
  refine Calls.spliced_cons (thn (he.run pins s σ H _ I h) fun u s1 ⟨v, H1, I1, r1, q1⟩ => ?_)
  refine Calls.spliced_nil ⟨I1.kIn, ?_⟩
  show wpAny _ _ (call (.ref C) [u]) _ _ _
  obtain ⟨nm, N', qn, bs, bm, hdct, sn, sub, ab, col, dd, k0, k1, k2, k3, k5, hC, hT⟩ := PySem.W.excInit_of I1.kIn T.made
  obtain ⟨oI, hoI, hcI⟩ : ∃ oI, s1.heap.get? f = some oI ∧ oI.cls = .type "function" := by
    obtain ⟨o, ho, hc⟩ := Option.map_eq_some_iff.mp (show (X.K.lookup f).map (·.cls) = some (.type "function") from beq_iff_eq.mp T.isf)
    exact ⟨o, I1.kIn _ _ ho, hc⟩
  have hi : PySem.W.Looks (model X.prog X.w) s1.heap (typeLookup (.ref C) "__init__") (some (.ref f)) := PySem.W.looks_findIn I1.kIn T.ini
  obtain ⟨mbb, hmb, hbb⟩ := I1.ok.mod.blt
  obtain ⟨hp, g, dr, tk, os⟩ := s1
  have hsz : hp.objs.size ≤ hp.objs.size + 1 := Nat.le_succ _
  have hn : H1 (hp.objs.size + 1) = none := I1.hok.fresh hsz
  let hp2 : Heap := (hp.push (PySem.W.kdv_tup [u])).push (PySem.HandSPX.excO C hp.objs.size)
  have kk : ∀ b o, hp.get? b = some o → hp2.get? b = some o := fun b o e => Heap.get?_push_of_some _ (Heap.get?_push_of_some _ e)
  have hget : hp2.get? (hp.objs.size + 1) = some (PySem.HandSPX.excO C hp.objs.size) := by heap_get
  have nha : ∀ {b : Addr} {o : Obj}, hp.get? b = some o → b ≠ hp.objs.size + 1 := fun {b o} z => Nat.ne_of_lt (Nat.lt_of_lt_of_le (Heap.lt_size z) hsz)
  have gk : ∀ b o, hp.get? b = some o → (PySem.W.hideAll hp2 [hp.objs.size + 1]).get? b = some o := fun b o z => PySem.W.hideAll_get _ (kk b o z) (by simpa using nha z)
  refine wpAny_call (PySem.PX.call_own PySem.F.excBase_Exception hT hC hi (fun self => PySem.W.exc_bind hoI hcI self) (by rw [sizeLine_eq]; simp) ?_)
  refine sup_init (a := hp.objs.size + 1) (t0 := hp.objs.size) (g := PySem.W.hideAll hp2 [hp.objs.size + 1]) (mg := X.mg) (mb := mbb) T (hr.make C [u] []).depth (I1.kIn.keeps gk) (fun b o z => PySem.W.of_hideAll _ z) (Nat.le_of_eq (PySem.W.hideAll_size _ _)) (PySem.W.hideAll_none _ (by simp))
    ((I1.ok.mod.glob.keeps I1.bk).keeps gk) ((hmb.keeps I1.bk).keeps gk) hsup (by rw [hbb _ (by decide)]; decide +kernel) (I1.nolimit.keeps kk) hget (fun b o hb z => PySem.W.hideAll_get _ z (by simpa using hb)) (fun h2 tk2 dx t1 k2 hlt ha2 hns => ?_)
  have hle : hp.objs.size + 1 < hp2.objs.size := Heap.lt_size hget
  have hlt2 : hp2.objs.size ≤ dx := hlt
  have hndx : hp.objs.size ≤ dx := Nat.le_trans (Nat.le_succ _) (Nat.le_trans (Nat.le_of_lt hle) hlt2)
  have hd1 : H1 dx = none := I1.hok.fresh hndx
  have dne : dx ≠ hp.objs.size + 1 := fun z => absurd (Nat.lt_of_lt_of_le hle hlt2) (by rw [z]; exact Nat.lt_irrefl _)
  have ea : upd H1 (hp.objs.size + 1) (exo (hp.objs.size + 1) C none) (hp.objs.size + 1) = some (exo (hp.objs.size + 1) C none) := upd_same
  have I2 : Inv X pins σ (upd H1 (hp.objs.size + 1) (exo (hp.objs.size + 1) C none)) ⟨hp2, g, dr, tk, os⟩ :=
    I1.laid (t' := tk) (a := hp.objs.size + 1) (o := exo (hp.objs.size + 1) C none) (h' := hp2) kk hsz (exo_ok hget)
  have hd2 : upd H1 (hp.objs.size + 1) (exo (hp.objs.size + 1) C none) dx = none := by rw [upd_ne dne]; exact hd1
  have un : Un (frs X.stack) [] (upd H1 (hp.objs.size + 1) (exo (hp.objs.size + 1) C none)) (upd (upd (upd H1 (hp.objs.size + 1) (exo (hp.objs.size + 1) C none)) dx (exd dx [(fld, v)])) (hp.objs.size + 1) (exo (hp.objs.size + 1) C (some dx))) hp2 h2 := by
    have nd : ∀ {b : Addr} {o : Obj}, hp2.get? b = some o → b ≠ dx := fun {b o} z => Nat.ne_of_lt (Nat.lt_of_lt_of_le (Heap.lt_size z) hlt2)
    have na : ∀ {b : Addr}, upd H1 (hp.objs.size + 1) (exo (hp.objs.size + 1) C none) b = none → b ≠ hp.objs.size + 1 := fun {b} n z => by
      rw [z, ea] at n
      cases n
    exact {
      keep := fun b o z n _ _ => k2 b o (na n) z
      slot := fun b o z n _ _ => ⟨o.slots, k2 b o (na n) z⟩
      free := fun b o z n _ => by rw [upd_ne (na n), upd_ne (nd z)]; exact n
      there := fun b o z _ => by
        by_cases hb : b = hp.objs.size + 1
        · exact ⟨_, by rw [hb]; exact ha2⟩
        · exact ⟨o, k2 b o hb z⟩
      tups := fun b xs z => by rw [upd_ne (at_ne ea z exo_tup), upd_ne (ne_of_none z hd2)]; exact z
      frzs := fun b o w z => by rw [upd_ne (at_ne ea z exo_frz), upd_ne (ne_of_none z hd2)]; exact z
      tbls := fun b ps z => ⟨#[], by rw [upd_ne (at_ne ea z exo_tbl), upd_ne (ne_of_none z hd2), z]; simp⟩ }
  have hok : HOk X.prog X.w (upd (upd (upd H1 (hp.objs.size + 1) (exo (hp.objs.size + 1) C none)) dx (exd dx [(fld, v)])) (hp.objs.size + 1) (exo (hp.objs.size + 1) C (some dx))) h2 := fun b o z => by
    by_cases hb : b = hp.objs.size + 1
    · subst hb
      rw [upd_same] at z
      cases z
      exact exo_ok ha2
    · rw [upd_ne hb] at z
      by_cases hd : b = dx
      · subst hd
        rw [upd_same] at z
        cases z
        exact exd_ok hns (relO_put (fs := []) r1 fun g => True.intro)
      · rw [upd_ne hd] at z
        refine (I2.hok b o z).stay (fun c v hc y => k2 c v ?_ y) (fun c hc => ?_) fun c xs hc => ?_
        · rcases hc with hc | hc
          · rw [hc]; exact hb
          · exact at_ne ea hc exo_own
        · rw [upd_ne (at_ne ea hc exo_own), upd_ne (ne_of_none hc hd2)]; exact hc
        · rw [upd_ne (at_ne ea hc exo_tup), upd_ne (ne_of_none hc hd2)]; exact hc
  refine ⟨rfl, ?_⟩
  show MkP X pins σ Q (.ref (hp.objs.size + 1)) ⟨h2, g, dr, tk2, os⟩
  refine mk_end (fs := [(fld, v)]) (raises_own T.subB T.typ) I1 hsz kk un hok rfl I1.bare upd_same ?_ hd1 ?_
  · rw [upd_ne dne, upd_same]
  · rw [upd_un hn dne]
    exact q1 dx hd1
end Z

namespace Z
noncomputable section
open PySem L2
open PySem.W (Frag)
variable {X : Cx}
/-! ### C(), an own exception without an __init__ -/
theorem pmk_own0 {C : Addr} {bmB : List Value} {B newId initId : String} {x : Str} {p pos : Pos} (F : ExcBaseFacts B newId initId bmB) (q : PySem.W.excIn X.K C bmB newId = true) (gC : X.mg x = some (.ref C))
    (kC : PySem.W.keepIn X.K (.ref C) = true) (r : Raises X (.ref C)) (hg : Gl X x) (hdb : (x == ("__debug__" : Str)) = false := by decide) :
    PMk X (.Call (.Name x p) [] [] pos) (fun _ H Q => Q (.ref C) none H) := by
  intro pins s σ H Q I h
  refine wpAny_Call_Name_kw (ld_glob I hg gC ?_ hdb)
  refine PySem.W.callWith_K0 I.kIn kC ?_
  show wpAny _ _ (call (.ref C) []) _ _ _
  obtain ⟨bm, N, nm, qn, bs, hdct, sn, sub, ab, col, dd, k0, k1, k2, k3, k5, mN, hC, hN, hni, T⟩ := exc_obj I.kIn q
  obtain ⟨hp, g, dr, tk, os⟩ := s
  refine wpAny_call_exc_subT F T hC hN hni (fun h' e hm => ?_) (Nat.zero_le _)
  exact mk_of I hm r h (I.hok.gone hm.new)
/-! ### isinstance(e, C) -/
structure XcC (K : Frag) (D : Addr) : Prop where
  cl : (PySem.W.clsIn K D).isSome = true
  ga : PySem.W.findIn K (.ref D) "__getattribute__" = some (some (.builtin "BaseException.__getattribute__"))
  gg : PySem.W.findIn K (.ref D) "__getattr__" = some none
  sb : PySem.W.subIn K (.ref D) (.type "BaseException") = some true
  hd : PySem.W.hasDictIn K D = true
  ca : PySem.W.findIn K (.ref D) "__class__" = some (some (.builtin "object.__class__"))
  sp : PySem.W.specialIn K (.builtin "object.__class__") "__get__" = some (some (.builtin "getset_descriptor.__get__"))
  tk : PySem.W.takesIn K (.builtin "object.__class__") = some true
  mo : PySem.W.mroIn K D (.type "object") = some true
  ty : PySem.W.typeIn K (.ref D) = some (.type "type")
  kp : PySem.W.keepIn K (.ref D) = true
def xcB (K : Frag) (D : Addr) : Bool :=
  (PySem.W.clsIn K D).isSome && decide (PySem.W.findIn K (.ref D) "__getattribute__" = some (some (.builtin "BaseException.__getattribute__"))) && decide (PySem.W.findIn K (.ref D) "__getattr__" = some none) &&
    decide (PySem.W.subIn K (.ref D) (.type "BaseException") = some true) && PySem.W.hasDictIn K D && decide (PySem.W.findIn K (.ref D) "__class__" = some (some (.builtin "object.__class__"))) &&
    decide (PySem.W.specialIn K (.builtin "object.__class__") "__get__" = some (some (.builtin "getset_descriptor.__get__"))) && decide (PySem.W.takesIn K (.builtin "object.__class__") = some true) &&
    decide (PySem.W.mroIn K D (.type "object") = some true) && decide (PySem.W.typeIn K (.ref D) = some (.type "type")) && PySem.W.keepIn K (.ref D)
theorem xcB_ok {K : Frag} {D : Addr} (h : xcB K D = true) : XcC K D := by
  unfold xcB at h
  simp only [Bool.and_eq_true, decide_eq_true_eq] at h
  obtain ⟨⟨⟨⟨⟨⟨⟨⟨⟨⟨h1, h2⟩, h3⟩, h4⟩, h5⟩, h6⟩, h7⟩, h8⟩, h9⟩, h10⟩, h11⟩ := h
  exact ⟨h1, h2, h3, h4, h5, h6, h7, h8, h9, h10, h11⟩
def rIsX (K : Frag) (cls : Value) (d : Option Addr) (a : Addr) : List V → Hp → VK → Prop := fun xs H Q => ∃ (D : Addr) (c : V) (cv : Value) (b : Bool), cls = .ref D ∧ XcC K D ∧
  (d = none ∨ ∃ dd fs, d = some dd ∧ H dd = some (.xd fs)) ∧ xs = [.ref a, c] ∧ (∀ u, RelV c u → u = cv) ∧ PySem.W.kitOne K (.ref D) cv = some b ∧ Q (.bl b) H
theorem call_isX {a : Addr} {cls : Value} {d : Option Addr} {oe : Obj} {pn : List (Addr × Obj)} (hz : Zc cls d oe) (hf : ∃ vs, oe.data = .fields vs) : CallR (X.suite a ((a, oe) :: pn)) (.builtin "isinstance") (rIsX X.K cls d a) := by
  intro pins s σ H xs us Q I r h
  obtain ⟨D, c, cv, b, rfl, C, hd, rfl, hcv, e, q⟩ := h
  match us, r with
  | [ux, ut], .cons rx (.cons rt .nil) =>
    obtain rfl : ux = Value.ref a := rx
    have ec := hcv _ rt
    subst ec
    obtain ⟨hget, _⟩ := I.pin (a, oe) (List.mem_append.mpr (.inl List.mem_cons_self))
    obtain ⟨vs, hv⟩ := hf
    have nc : PySem.W.notCls oe = true := by unfold PySem.W.notCls; rw [hv]
    rcases hd with rfl | ⟨dd, fs, rfl, hdd⟩
    · have J : PySem.W.InstAt s.heap a oe D none := ⟨hget, hz.1, nc, by rw [hz.2]; trivial⟩
      exact PySem.W.kia_one (PySem.W.kitx_exc C.cl C.ga C.gg C.sb C.ca C.sp C.tk C.mo) I.kIn J e (fun z => nomatch z) fun tk => ⟨.bl b, H, I.kept (t' := tk) fun _ _ z => z, rfl, q⟩
    · have hx : ObjOk X.prog X.w H s.heap dd (.xd fs) := I.hok dd _ hdd
      obtain ⟨mA, hns, hr⟩ := hx
      obtain ⟨od, ho, hl⟩ := lookIn_ns hns
      have J : PySem.W.InstAt s.heap a oe D (some od) := ⟨hget, hz.1, nc, by rw [hz.2]; exact ho⟩
      exact PySem.W.kia_one (PySem.W.kitx_exc C.cl C.ga C.gg C.sb C.ca C.sp C.tk C.mo) I.kIn J e (fun z => nomatch z) fun tk => ⟨.bl b, H, I.kept (t' := tk) fun _ _ z => z, rfl, q⟩
/-! ### raise, over data -/
variable {ct : CT} {Wx : XW} {W S0 S H H' : Hp} {ρ : Env} {σ σ0 : St} {t u : T} {ts us tm : List T} {v w : V} {vs ws vm : List V} {as bs : List Addr} {i : Nat} {d : D} {pin : List Nat} {D0 : Ends}
def mRaise0 (cls : Str) : SM := fun ρ => .ex ⟨cls, []⟩ ρ
theorem ss_raise0 {C : Addr} {cls : Str} (hC : ct cls = some C) : SS ct Wx pin (fun _ σ H => Wx (.ref C) none σ H) (mRaise0 cls) := fun W S0 σ0 ρ σ H D g p k =>
  k (.ref C) none σ H g p ⟨C, hC, rfl, (fun q h => nomatch h), .inl ⟨rfl, rfl⟩⟩
def mRaise1 (cls fld : Str) (e : EM) : SM := fun ρ => (e ρ).st fun t ρ => if t.d.scal = true then .ex ⟨cls, [(fld, t.d)]⟩ ρ else .bad
theorem ss_raise1 {C : Addr} {cls fld : Str} {te : TE} {e : EM} (hC : ct cls = some C) (he : SE ct Wx te e) : SS ct Wx pin (fun _ σ H => tMkS C fld te σ H fun c d H' => Wx c d σ H') (mRaise1 cls fld e) := fun W S0 σ0 ρ σ H D g p k => by
  refine he W S0 ρ σ [] [] H _ g ((SK.st p k).mono (fun t ρ1 k1 v H1 g1 => ?_) fun _ _ h => h)
  obtain ⟨hs, k1⟩ := SK_ite k1
  intro d hd
  have es : Same H1 (upd H1 d (.xd [(fld, v)])) := same_new hd
  refine k1 (.ref C) (some d) σ _ (g1.pop1.ext es) p ⟨C, hC, rfl, fun q hq => ?_, .inr ⟨d, [v], rfl, upd_same, ⟨v, [], rfl, g1.tmp.scal hs, rfl⟩⟩⟩
  rcases List.mem_cons.mp hq with rfl | hq
  · exact hs
  · cases hq
/-! ### try: body, except T as e: suite -/
def relX (a b : Str) : Bool := a == b || b == "TurnError"
def XaA (ct : CT) (x : Exn) (cls : Value) (d : Option Addr) (a : Addr) (i : Nat) : Hp → St → Prop := fun W σ => σ[i]? = some (some (.ref a)) ∧ XOk ct x cls d W
def SOut.drop (i : Nat) : SOut → SOut
  | .nx ρ => .nx (ρ.set i none)
  | .bk ρ => .bk (ρ.set i none)
  | .ct ρ => .ct (ρ.set i none)
  | .rt t ρ => .rt t (ρ.set i none)
  | .ex _ _ => .bad
  | .bad => .bad
def mTry (Tn : Str) (i : Nat) (body : SM) (suite : Exn → SM) : SM := fun ρ => match body ρ with
  | .ex x ρ' => if relX x.cls Tn = true then (if i < ρ'.length then (suite x (ρ'.set i none)).drop i else .bad) else .ex x ρ'
  | r => r
mutual
theorem Rt.nox {S H : Hp} : ∀ {t : T} {v : V} {as : List Addr}, Rt S H t v as → ∀ a ∈ as, ∀ fs, H a ≠ some (.xd fs)
  | .sh _, _, _, ⟨h1, h2⟩, a, ha => by subst h1; cases ha
  | .ol l, _, _, ⟨a, vs, bs, h1, h2, h3, h4⟩, b, hb => by
    subst h2
    rcases List.mem_cons.mp hb with rfl | hb
    · intro fs; rw [h3]; simp
    · exact Rtl.nox h4 b hb
  | .ot l, _, _, ⟨a, vs, bs, h1, h2, h3, h4⟩, b, hb => by
    subst h2
    rcases List.mem_cons.mp hb with rfl | hb
    · intro fs; rw [h3]; simp
    · exact Rtl.nox h4 b hb
  | .od ks l, _, _, ⟨a, vs, bs, h1, h2, h3, h5, h4⟩, b, hb => by
    subst h2
    rcases List.mem_cons.mp hb with rfl | hb
    · intro fs; rw [h3]; simp
    · exact Rtl.nox h4 b hb
theorem Rtl.nox {S H : Hp} : ∀ {t : List T} {v : List V} {as : List Addr}, Rtl S H t v as → ∀ a ∈ as, ∀ fs, H a ≠ some (.xd fs)
  | [], _, _, h, a, ha => by rw [h.2] at ha; cases ha
  | _ :: _, _, _, ⟨v, r, b, c, h1, h2, h3, h4⟩, a, ha => by
    subst h2
    rcases List.mem_append.mp ha with ha | ha
    · exact Rt.nox h3 a ha
    · exact Rtl.nox h4 a ha
end
theorem Re.nox {S H : Hp} : ∀ {ρ : Env} {σ : St} {as : List Addr}, Re S H ρ σ as → ∀ a ∈ as, ∀ fs, H a ≠ some (.xd fs)
  | [], _, _, h, a, ha => by rw [h.2] at ha; cases ha
  | none :: _, _, _, ⟨o, r, h1, h2⟩, a, ha => Re.nox h2 a ha
  | some _ :: _, _, _, ⟨v, r, b, c, h1, h2, h3, h4⟩, a, ha => by
    subst h2
    rcases List.mem_append.mp ha with ha | ha
    · exact h3.nox a ha
    · exact Re.nox h4 a ha
theorem GX.addX {dd : Addr} {fs : List (Str × V)} (g : GX W S0 ρ σ tm vm H) (hd : H dd = some (.xd fs)) : ∃ W' S, W' dd = some (.xd fs) ∧ GX W' S ρ σ tm vm H ∧
    ∀ {ρ' : Env} {σ' : St} {tm' : List T} {vm' : List V} {H' : Hp}, GX W' S ρ' σ' tm' vm' H' → GX W S0 ρ' σ' tm' vm' H' := by
  obtain ⟨S, as, bs, hu, g⟩ := g.up
  have w1 : ∀ a, W a ≠ none → upd W dd (.xd fs) a ≠ none := fun a h => by
    by_cases q : a = dd
    · subst q; rw [upd_same]; simp
    · rw [upd_ne q]; exact h
  refine ⟨upd W dd (.xd fs), S, upd_same, ⟨S, as, bs, g.s0, g.sh, fun a o h => ?_, fun a _ h => h, g.re, g.rt, g.nd, g.fs, fun a ha => ?_⟩, ?_⟩
  · by_cases q : a = dd
    · subst q; rw [upd_same] at h; rw [hd]; exact h
    · rw [upd_ne q] at h; exact g.wh a o h
  · have q : a ≠ dd := by
      rintro rfl
      rcases List.mem_append.mp ha with h | h
      · exact g.re.nox a h fs hd
      · exact g.rt.nox a h fs hd
    rw [upd_ne q]
    exact g.fw a ha
  · intro ρ' σ' tm' vm' H' ⟨S1, as1, bs1, g1⟩
    refine ⟨S1, as1, bs1, hu.1.trans g1.s0, g1.sh, fun a o h => ?_, fun a h k => hu.2 a h (g1.nw a (w1 a h) k), g1.re, g1.rt, g1.nd, g1.fs, fun a ha => ?_⟩
    · by_cases q : a = dd
      · subst q
        have h2 := g.wh a o h
        rw [hd] at h2
        cases h2
        exact g1.wh a _ upd_same
      · exact g1.wh a o (by rw [upd_ne q]; exact h)
    · have h1 := g1.fw a ha
      cases q : W a with
      | none => rfl
      | some o => exact absurd h1 (w1 a (by rw [q]; simp))
theorem XOk.at {x : Exn} {c : Value} {d : Option Addr} {a : Addr} (h : XOk ct x c d H) : (x.fs = [] ∧ d = none) ∨ ∃ dd vs, d = some dd ∧ H dd = some (.xd ((x.fs.map (·.1)).zip vs)) ∧ ∀ W : Hp, W dd = some (.xd ((x.fs.map (·.1)).zip vs)) → XOk ct x c d W := by
  obtain ⟨C, h1, h2, h3, h4⟩ := h
  rcases h4 with h4 | ⟨dd, vs, h5, h6, h7⟩
  · exact .inl h4
  · refine .inr ⟨dd, vs, h5, h6, fun W hW => ⟨C, h1, h2, h3, .inr ⟨dd, vs, h5, hW, ?_⟩⟩⟩
    clear h1 h2 h5 h6 hW
    revert vs
    generalize x.fs = l at h3
    induction l with
    | nil => exact fun vs h => h
    | cons q l ih =>
      rintro vs ⟨v, r, rfl, h8, h9⟩
      exact ⟨v, r, rfl, h8.scal (h3 q List.mem_cons_self), ih (fun y hy => h3 y (List.mem_cons_of_mem _ hy)) r h9⟩
theorem ss_try {K : Frag} {cT : Value} {Tn : Str} {tb : WX → TS} {ts : Addr → Value → Option Addr → TS} {body : SM} {suite : Exn → SM}
    (tab : ∀ x C, ct x = some C → PySem.W.exmOne K (.ref C) cT = some (relX x Tn)) (hb : ∀ W : WX, SS ct W pin (tb W) body)
    (hs : ∀ x a cls d, SSa (XaA ct x cls d a i) ct (fun _ _ _ _ => False) (i :: pin) (ts a cls d) (suite x)) (hi : i ∉ pin) :
    SS ct Wx pin (fun D σ H => tb (wAs K cT i ts Wx D) D σ H) (mTry Tn i body suite) := fun W S0 σ0 ρ σ H D g p k => by
  refine hb (wAs K cT i ts Wx D) W S0 σ0 ρ σ H D g p ?_
  unfold mTry at k
  generalize body ρ = o at k ⊢
  cases o with
  | bad => exact k
  | nx ρ' => exact k
  | rt t ρ' => exact k
  | bk ρ' => exact k
  | ct ρ' => exact k
  | ex x ρ' =>
    intro c d σ1 H1 g1 p1 hx
    obtain ⟨C, hC, rfl, _⟩ := id hx
    refine ⟨relX x.cls Tn, tab _ _ hC, fun hr a ha => ?_, fun hr => ?_⟩
    · simp only [hr, if_true] at k
      obtain ⟨hl, k⟩ := SK_ite k
      have hl1 : i < σ1.length := by rw [g1.lenE]; exact hl
      have g2 : GX W S0 (ρ'.set i none) (σ1.set i (some (.ref a))) [] [] H1 := (g1.forget i).junk
      have key : ∃ W' S, XOk ct x (.ref C) d W' ∧ GX W' S (ρ'.set i none) (σ1.set i (some (.ref a))) [] [] H1 ∧
          ∀ {ρ' : Env} {σ' : St} {tm' : List T} {vm' : List V} {H' : Hp}, GX W' S ρ' σ' tm' vm' H' → GX W S0 ρ' σ' tm' vm' H' := by
        rcases hx.at (a := a) with ⟨h1, h2⟩ | ⟨dd, vs, h1, h2, h3⟩
        · obtain ⟨C', q1, q2, q3, _⟩ := hx
          exact ⟨W, S0, ⟨C', q1, q2, q3, .inl ⟨h1, h2⟩⟩, g2, fun h => h⟩
        · obtain ⟨W', S, q1, q2, q3⟩ := g2.addX h2
          exact ⟨W', S, h3 W' q1, q2, q3⟩
      obtain ⟨W', S, hx', g3, back⟩ := key
      have hA : XaA ct x (.ref C) d a i W' (σ1.set i (some (.ref a))) := ⟨by rw [List.getElem?_set_self hl1], hx'⟩
      refine hs x a (.ref C) d W' S (σ1.set i (some (.ref a))) (ρ'.set i none) (σ1.set i (some (.ref a))) H1 _ hA g3 Pin.refl ?_
      have pp : ∀ {σ2 : St}, Pin (i :: pin) (σ1.set i (some (.ref a))) σ2 → Pin pin σ0 (σ2.set i none) := fun {σ2} h j hj => by
        have hne : i ≠ j := fun z => hi (by rw [z]; exact hj)
        rw [List.getElem?_set_ne hne, h j (List.mem_cons_of_mem _ hj), List.getElem?_set_ne hne]; exact p1 j hj
      generalize suite x (ρ'.set i none) = o at k ⊢
      cases o with
      | bad => exact k
      | nx ρ2 => exact fun σ2 H2 g4 p4 => k _ H2 (back (GX.junk (g4.forget i))) (pp p4)
      | rt t ρ2 => exact fun v σ2 H2 g4 p4 => k v _ H2 (back (GX.junk (g4.forget i))) (pp p4)
      | bk ρ2 => exact fun σ2 H2 g4 p4 => k _ H2 (back (GX.junk (g4.forget i))) (pp p4)
      | ct ρ2 => exact fun σ2 H2 g4 p4 => k _ H2 (back (GX.junk (g4.forget i))) (pp p4)
      | ex x2 ρ2 => exact k.elim
    · simp only [hr, Bool.false_eq_true, if_false] at k
      exact k _ d σ1 H1 g1 p1 hx
/-! ### readings in the suite -/
def SEx (A : Hp → St → Prop) (ct : CT) (Wx : XW) (te : TE) (m : EM) : Prop := ∀ W S0 ρ σ tm vm H (Q : VK), A W σ → GX W S0 ρ σ tm vm H → (m ρ).P (fun t ρ' => ∀ v H', GX W S0 ρ' σ (t :: tm) (v :: vm) H' → Q v H') (XE ct Wx W S0 σ tm vm) → te σ H Q
def SEAx (A : Hp → St → Prop) (ct : CT) (Wx : XW) (ta : TA) (m : EMs) : Prop := ∀ W S0 ρ σ tm vm H (Q : List V → Hp → Prop), A W σ → GX W S0 ρ σ tm vm H → (m ρ).P (fun ts ρ' => ∀ vs H', vs.length = ts.length → GX W S0 ρ' σ (ts ++ tm) (vs ++ vm) H' → Q vs H') (XE ct Wx W S0 σ tm vm) → ta σ H Q
def SETx (A : Hp → St → Prop) (ct : CT) (Wx : XW) (tt : TT) (m : EMb) : Prop := ∀ W S0 ρ σ tm vm H (Q : Bool → Hp → Prop), A W σ → GX W S0 ρ σ tm vm H → (m ρ).P (fun b ρ' => ∀ H', GX W S0 ρ' σ tm vm H' → Q b H') (XE ct Wx W S0 σ tm vm) → tt σ H Q
variable {A : Hp → St → Prop}
theorem xe_up {te : TE} {m : EM} (h : SE ct Wx te m) : SEx A ct Wx te m := fun W S0 ρ σ tm vm H Q _ => h W S0 ρ σ tm vm H Q
theorem xea_up {te : TA} {m : EMs} (h : SEA ct Wx te m) : SEAx A ct Wx te m := fun W S0 ρ σ tm vm H Q _ => h W S0 ρ σ tm vm H Q
theorem xet_up {te : TT} {m : EMb} (h : SET ct Wx te m) : SETx A ct Wx te m := fun W S0 ρ σ tm vm H Q _ => h W S0 ρ σ tm vm H Q
theorem xea_nil : SEAx A ct Wx tNil eNil := xea_up sea_nil
theorem xea_cons {ta : TE} {tr : TA} {a : EM} {b : EMs} (ha : SEx A ct Wx ta a) (hb : SEAx A ct Wx tr b) : SEAx A ct Wx (tCons ta tr) (eCons a b) := fun W S0 ρ σ tm vm H Q x g k => by
  refine ha W S0 ρ σ tm vm H _ x g ((Out.P_bnd.mp k).mono (fun t ρ1 k1 v H1 g1 => ?_) fun _ _ h => h)
  refine hb W S0 ρ1 σ (t :: tm) (v :: vm) H1 _ x g1 ((Out.P_bnd.mp k1).mono (fun ts ρ2 k2 vs H2 e2 g2 => ?_) fun _ _ h => XE.pop (ts := [t]) (vs := [v]) h rfl)
  exact k2 (v :: vs) H2 (by simp [e2]) (g2.rot e2)
theorem xe_lst {ta : TA} {a : EMs} (ha : SEAx A ct Wx ta a) : SEx A ct Wx (tLst ta) (eLst a) := fun W S0 ρ σ tm vm H Q x g k => by
  refine ha W S0 ρ σ tm vm H _ x g ((Out.P_bnd.mp k).mono (fun ts ρ1 k1 vs H1 e1 g1 => ?_) fun _ _ h => h)
  obtain ⟨hz, k1⟩ := P_ite k1
  exact ⟨lim_le (by omega), fun p hp => k1 _ _ (g1.newL e1 hp)⟩
theorem xe_tup {ta : TA} {a : EMs} (ha : SEAx A ct Wx ta a) : SEx A ct Wx (tTup ta) (eTup a) := fun W S0 ρ σ tm vm H Q x g k => by
  refine ha W S0 ρ σ tm vm H _ x g ((Out.P_bnd.mp k).mono (fun ts ρ1 k1 vs H1 e1 g1 => ?_) fun _ _ h => h)
  obtain ⟨hz, k1⟩ := P_ite k1
  exact ⟨lim_le (by omega), fun p hp => k1 _ _ (g1.newT e1 hp)⟩
theorem xe_op {r : R2} {o : T → T → Option T} {ta tb : TE} {a b : EM} (hr : OpE r o) (ha : SEx A ct Wx ta a) (hb : SEx A ct Wx tb b) : SEx A ct Wx (tOp r ta tb) (eOp o a b) := fun W S0 ρ σ tm vm H Q x g k => by
  refine ha W S0 ρ σ tm vm H _ x g ((Out.P_bnd.mp k).mono (fun t ρ1 k1 v H1 g1 => ?_) fun _ _ h => h)
  refine hb W S0 ρ1 σ (t :: tm) (v :: vm) H1 _ x g1 ((Out.P_bnd.mp k1).mono (fun u ρ2 k2 w H2 g2 => ?_) fun _ _ h => XE.pop (ts := [t]) (vs := [v]) h rfl)
  obtain ⟨z, e, k2⟩ := P_opt k2
  exact hr W S0 ρ2 σ tm vm H2 t u v w z Q g2 e k2
theorem xet_b {te : TE} {a : EM} (ha : SEx A ct Wx te a) : SETx A ct Wx (tB te) (eB a) := fun W S0 ρ σ tm vm H Q x g k => by
  refine ha W S0 ρ σ tm vm H _ x g ((Out.P_bnd.mp k).mono (fun t ρ1 k1 v H1 g1 => ?_) fun _ _ h => h)
  obtain ⟨b, e, k⟩ := P_opt k1
  have := g1.tmp
  rw [tru_bl e] at this
  exact ⟨b, this, k H1 g1.pop1⟩
theorem xet_test {te : TE} {a : EM} (ha : SEx A ct Wx te a) : SETx A ct Wx (tTest te) (eB a) := fun W S0 ρ σ tm vm H Q x g k => by
  refine ha W S0 ρ σ tm vm H _ x g ((Out.P_bnd.mp k).mono (fun t ρ1 k1 v H1 g1 => ?_) fun _ _ h => h)
  obtain ⟨b, e, k⟩ := P_opt k1
  have := g1.tmp
  rw [tru_bl e] at this
  exact ⟨b, this, k H1 g1.pop1⟩
theorem xet_and {ta tb : TT} {a b : EMb} (ha : SETx A ct Wx ta a) (hb : SETx A ct Wx tb b) : SETx A ct Wx (tAnd ta tb) (eAnd a b) := fun W S0 ρ σ tm vm H Q x g k => by
  refine ha W S0 ρ σ tm vm H _ x g ((Out.P_bnd.mp k).mono (fun c ρ1 k1 H1 g1 => ?_) fun _ _ h => h)
  cases c with
  | true => exact hb W S0 ρ1 σ tm vm H1 Q x g1 k1
  | false => exact k1 H1 g1
theorem xet_or {ta tb : TT} {a b : EMb} (ha : SETx A ct Wx ta a) (hb : SETx A ct Wx tb b) : SETx A ct Wx (tOr ta tb) (eOr a b) := fun W S0 ρ σ tm vm H Q x g k => by
  refine ha W S0 ρ σ tm vm H _ x g ((Out.P_bnd.mp k).mono (fun c ρ1 k1 H1 g1 => ?_) fun _ _ h => h)
  cases c with
  | false => exact hb W S0 ρ1 σ tm vm H1 Q x g1 k1
  | true => exact k1 H1 g1
theorem xet_not {ta : TT} {a : EMb} (ha : SETx A ct Wx ta a) : SETx A ct Wx (tNot ta) (eNot a) := fun W S0 ρ σ tm vm H Q x g k => by
  refine ha W S0 ρ σ tm vm H _ x g ((Out.P_bnd.mp k).mono (fun c ρ1 k1 H1 g1 => k1 H1 g1) fun _ _ h => h)
theorem xe_andV {ta tb : TE} {a b : EM} (ha : SEx A ct Wx ta a) (hb : SEx A ct Wx tb b) : SEx A ct Wx (tAndV ta tb) (eAndV a b) := fun W S0 ρ σ tm vm H Q x g k => by
  refine ha W S0 ρ σ tm vm H _ x g ((Out.P_bnd.mp k).mono (fun t ρ1 k1 v H1 g1 => ?_) fun _ _ h => h)
  have q := g1.tmp
  split at k1
  · rename_i e
    rw [tru_bl e] at q
    exact ⟨true, q, hb W S0 ρ1 σ tm vm H1 Q x g1.pop1 k1⟩
  · rename_i e
    rw [tru_bl e] at q
    exact ⟨false, q, k1 _ H1 (g1.pop1.pushC (S := H1) rfl rfl)⟩
  · exact k1.elim
theorem xe_orV {ta tb : TE} {a b : EM} (ha : SEx A ct Wx ta a) (hb : SEx A ct Wx tb b) : SEx A ct Wx (tOrV ta tb) (eOrV a b) := fun W S0 ρ σ tm vm H Q x g k => by
  refine ha W S0 ρ σ tm vm H _ x g ((Out.P_bnd.mp k).mono (fun t ρ1 k1 v H1 g1 => ?_) fun _ _ h => h)
  have q := g1.tmp
  split at k1
  · rename_i e
    rw [tru_bl e] at q
    exact ⟨false, q, hb W S0 ρ1 σ tm vm H1 Q x g1.pop1 k1⟩
  · rename_i e
    rw [tru_bl e] at q
    exact ⟨true, q, k1 _ H1 (g1.pop1.pushC (S := H1) rfl rfl)⟩
  · exact k1.elim
theorem xe_notV {ta : TE} {a : EM} (ha : SEx A ct Wx ta a) : SEx A ct Wx (tNotV ta) (eNotV a) := fun W S0 ρ σ tm vm H Q x g k => by
  refine ha W S0 ρ σ tm vm H _ x g ((Out.P_bnd.mp k).mono (fun t ρ1 k1 v H1 g1 => ?_) fun _ _ h => h)
  obtain ⟨z, e, k1⟩ := P_opt k1
  obtain ⟨c, e1, rfl⟩ := Option.map_eq_some_iff.mp e
  have q := g1.tmp
  rw [tru_bl e1] at q
  exact ⟨c, q, k1 _ H1 (g1.pop1.pushC (S := H1) rfl rfl)⟩
/-- isinstance(e, C) -/
def eXis (Tn : Str) (x : Exn) : EM := fun ρ => .ok (.sh (.bl (relX x.cls Tn))) ρ
theorem xe_is {K : Frag} {C a : Addr} {Tn : Str} {x : Exn} {cls : Value} {d : Option Addr} (tab : ∀ y D, ct y = some D → XcC K D ∧ PySem.W.kitOne K (.ref D) (.ref C) = some (relX y Tn)) :
    SEx (XaA ct x cls d a i) ct Wx (tCB (rIsX K cls d a) (tCons (tVar i) (tCons (tC (.ref C)) tNil))) (eXis Tn x) := fun W S0 ρ σ tm vm H Q hA g k => by
  obtain ⟨e1, hx⟩ := hA
  obtain ⟨D, hD, rfl, _, h4⟩ := id hx
  obtain ⟨t1, t2⟩ := tab _ _ hD
  refine ⟨.ref a, e1, D, .ref C, .ref C, relX x.cls Tn, rfl, t1, ?_, rfl, fun u r => ?_, t2, k _ H (g.pushC (S := H) rfl rfl)⟩
  · rcases h4 with ⟨_, h⟩ | ⟨dd, vs, h5, h6, _⟩
    · exact .inl h
    · exact .inr ⟨dd, _, h5, g.outer _ _ h6⟩
  · exact r
/-- e.f -/
def eXfld (Cn f : Str) (x : Exn) : EM := fun ρ => if x.cls = Cn then (match x.fs.lookup f with
  | some d => .ok (.sh d) ρ
  | none => .bad) else .bad
theorem zip_look {f : Str} : ∀ {l : List (Str × D)} {vs : List V} {d : D}, Rpl W (l.map (·.2)) vs → l.lookup f = some d → ∃ v, ((l.map (·.1)).zip vs).lookup f = some v ∧ Rp W d v
  | [], _, _, _, h => by cases h
  | (g, d0) :: l, _, d, ⟨v, r, rfl, h1, h2⟩, h => by
    by_cases e : f = g
    · subst e
      simp [List.lookup] at h
      subst h
      exact ⟨v, by simp [List.lookup], h1⟩
    · have e' : (f == g) = false := by simpa using e
      simp only [List.lookup, e'] at h
      obtain ⟨w, h3, h4⟩ := zip_look h2 h
      exact ⟨w, by simp only [List.map_cons, List.zip_cons_cons, List.lookup, e']; exact h3, h4⟩
theorem xe_fld {C a : Addr} {Cn f : Str} {x : Exn} {cls : Value} {d : Option Addr} (hC : ct Cn = some C) :
    SEx (XaA ct x cls d a i) ct Wx (tXf a cls d C f (tVar i)) (eXfld Cn f x) := fun W S0 ρ σ tm vm H Q hA g k => by
  obtain ⟨e1, hx⟩ := hA
  obtain ⟨D, hD, rfl, h3, h4⟩ := id hx
  unfold eXfld at k
  obtain ⟨hc, k⟩ := P_ite k
  rw [hc, hC] at hD
  cases hD
  split at k
  case h_2 => exact k.elim
  rename_i y ey
  rcases h4 with ⟨h, _⟩ | ⟨dd, vs, h5, h6, h7⟩
  · rw [h] at ey; cases ey
  · obtain ⟨v, q1, q2⟩ := zip_look h7 ey
    refine ⟨.ref a, e1, rfl, rfl, dd, _, v, h5, g.outer _ _ h6, q1, k v H (g.pushC (S := W) ?_ q2)⟩
    have : ∀ {l : List (Str × Z.D)} {d : Z.D}, (∀ q ∈ l, q.2.scal = true) → l.lookup f = some d → d.scal = true := by
      intro l
      induction l with
      | nil => intro d _ h; cases h
      | cons q l ih =>
        intro d h h'
        obtain ⟨g0, d0⟩ := q
        by_cases e : f = g0
        · subst e
          simp [List.lookup] at h'
          subst h'
          exact h (f, d0) List.mem_cons_self
        · have e' : (f == g0) = false := by simpa using e
          simp only [List.lookup, e'] at h'
          exact ih (fun q hq => h q (List.mem_cons_of_mem _ hq)) h'
    exact this h3 ey
/-! ### statements in the suite -/
theorem xa_pin {x : Exn} {cls : Value} {d : Option Addr} {a : Addr} (h : XaA ct x cls d a i W σ0) (p : Pin (i :: pin) σ0 σ) : XaA ct x cls d a i W σ := ⟨(p i List.mem_cons_self).trans h.1, h.2⟩
section
variable {x : Exn} {cls : Value} {dx : Option Addr} {a : Addr}
theorem xss_ret {te : TE} {e : EM} (he : SEx (XaA ct x cls dx a i) ct Wx te e) : SSa (XaA ct x cls dx a i) ct Wx (i :: pin) (tRet te) (mRet e) := fun W S0 σ0 ρ σ H D hA g p k => by
  refine he W S0 ρ σ [] [] H _ (xa_pin hA p) g ((SK.st p k).mono (fun t ρ1 k1 v H1 g1 => ?_) fun _ _ h => h)
  exact k1 v σ H1 g1 p
theorem xss_set {j : Nat} {te : TE} {e : EM} (he : SEx (XaA ct x cls dx a i) ct Wx te e) (hj : j ∉ i :: pin) : SSa (XaA ct x cls dx a i) ct Wx (i :: pin) (tAsg te (gName j)) (mSet j e) := fun W S0 σ0 ρ σ H D hA g p k => by
  refine he W S0 ρ σ [] [] H _ (xa_pin hA p) g ((SK.st p k).mono (fun t ρ1 k1 v H1 g1 => ?_) fun _ _ h => h)
  exact k1 _ _ (g1.putA j) (p.set hj)
theorem xss_if {tc : TT} {s u : TS} {c : EMb} {m n : SM} (hc : SETx (XaA ct x cls dx a i) ct Wx tc c) (ha : SSa (XaA ct x cls dx a i) ct Wx (i :: pin) s m) (hb : SSa (XaA ct x cls dx a i) ct Wx (i :: pin) u n) : SSa (XaA ct x cls dx a i) ct Wx (i :: pin) (tIfS tc s u) (mIf c m n) := fun W S0 σ0 ρ σ H D hA g p k => by
  refine hc W S0 ρ σ [] [] H _ (xa_pin hA p) g ((SK.st p k).mono (fun c ρ1 k1 H1 g1 => ?_) fun _ _ h => h)
  cases c with
  | true => exact ha W S0 σ0 ρ1 σ H1 D hA g1 p k1
  | false => exact hb W S0 σ0 ρ1 σ H1 D hA g1 p k1
theorem xss_app {K : Frag} {j : Nat} {te : TE} {e : EM} (he : SEx (XaA ct x cls dx a i) ct Wx te e) : SSa (XaA ct x cls dx a i) ct Wx (i :: pin) (tDrop (tBM K "list" rAppend (tVar j) (tCons te tNil))) (mAppG j e) := fun W S0 σ0 ρ σ H D hA g p k => by
  unfold mAppG at k
  split at k
  case h_2 => exact k.elim
  rename_i ts0 e0
  obtain ⟨a0, xs0, ea, h0, _⟩ := g.refL e0
  refine ⟨.ref a0, ea, .inl ⟨rfl, xs0, .of h0⟩, ?_⟩
  refine he W S0 ρ σ [] [] H _ (xa_pin hA p) g ((SK.st p k).mono (fun t ρ1 k1 v H1 g1 => ?_) fun _ _ h => h)
  split at k1
  case h_2 => exact k1.elim
  rename_i ts e1
  obtain ⟨hz, k1⟩ := SK_ite k1
  obtain ⟨y, hx1, g2⟩ := g1.take e1
  rw [ea] at hx1
  cases hx1
  obtain ⟨b0, xs, e5, h1, h2, mk⟩ := g2.mutL
  cases e5
  refine ⟨a0, xs, v, rfl, rfl, h1, lim_lt (by omega), ?_⟩
  have g3 := mk (ts ++ [t]) [] (xs ++ [v]) [] (fun S H b c hb hc => by
    obtain ⟨v', r, c1, c2, h3, rfl, h4, h5⟩ := hc
    cases h3
    obtain ⟨_, rfl⟩ := h5
    have h6 : Rtl S H [t] [v] c1 := ⟨v, [], c1, [], rfl, by simp, h4, rfl, rfl⟩
    exact ⟨b ++ c1, [], hb.append h6, ⟨rfl, rfl⟩, by grind, by grind⟩)
  have g4 := g3.back ea
  rw [List.set_set] at g4
  exact k1 _ _ g4 p
end
end
end Z

namespace Z
noncomputable section
open PySem L2
open PySem.W (Frag)
variable {P : Program} {K : Frag} {mg : Str → Option Value} {ct : CT}
/-! ### what is told of a class to those who use it -/
structure Xc (K : Frag) (mg : Str → Option Value) (ct : CT) (n : Str) (C : Addr) : Prop where
  cto : ct n = some C
  mgo : mg n = some (.ref C)
  tab : ∀ y D, ct y = some D → (XcC K D ∧ PySem.W.kitOne K (.ref D) (.ref C) = some (relX y n)) ∧ PySem.W.exmOne K (.ref D) (.ref C) = some (relX y n)
theorem Xc.is {n : Str} {C : Addr} (h : Xc K mg ct n C) : ∀ y D, ct y = some D → XcC K D ∧ PySem.W.kitOne K (.ref D) (.ref C) = some (relX y n) := fun y D e => (h.tab y D e).1
theorem Xc.exm {n : Str} {C : Addr} (h : Xc K mg ct n C) : ∀ y D, ct y = some D → PySem.W.exmOne K (.ref D) (.ref C) = some (relX y n) := fun y D e => (h.tab y D e).2
theorem Xc.own {n : Str} {C : Addr} (h : Xc K mg ct n C) : XcC K C := (h.tab n C h.cto).1.1
theorem XcC.xf {C : Addr} (h : XcC K C) : XfC K C := ⟨h.ga, h.gg, h.sb, h.hd⟩
structure Xc0 (K : Frag) (mg : Str → Option Value) (ct : CT) (n : Str) (C : Addr) : Prop where
  c : Xc K mg ct n C
  ex : PySem.W.excIn K C exB "Exception.__new__" = true
structure Xc1 (P : Program) (K : Frag) (mg : Str → Option Value) (ct : CT) (n : Str) (C f : Addr) (arg fld : Str) : Prop where
  c : Xc K mg ct n C
  sup : SupC P K C f arg fld
  ms : mg "super" = none
theorem pmk_x0 {X : Cx} {C : Addr} {x : Str} {p pos : Pos} {ct : CT} (h : Xc0 X.K X.mg ct x C) (hg : Gl X x) (hdb : (x == ("__debug__" : Str)) = false := by decide) :
    PMk X (.Call (.Name x p) [] [] pos) (fun _ H Q => Q (.ref C) none H) :=
  pmk_own0 PySem.F.excBase_Exception h.ex h.c.mgo h.c.own.kp (raises_own h.c.own.sb h.c.own.ty) hg hdb
theorem pmk_x1 {X : Cx} {C f : Addr} {x arg fld : Str} {e : Expr} {te : TE} {p pos : Pos} {ct : CT} (h : Xc1 X.prog X.K X.mg ct x C f arg fld) (hr : Room 1 X.A) (hg : Gl X x) (he : PE X e te)
    (hdb : (x == ("__debug__" : Str)) = false := by decide) (hs : starEach [e] X.env = (false, eval e X.env) :: starEach [] X.env := by rfl) :
    PMk X (.Call (.Name x p) [e] [] pos) (tMkS C fld te) := pmk_sup h.sup hr h.ms hg h.c.mgo he hdb hs
/-! ### .. and where it comes from -/
def tabB (K : Frag) (L : List (Str × Addr)) : Bool := L.all (fun p => xcB K p.2) && L.all fun p => L.all fun q => (PySem.W.kitOne K (.ref p.2) (.ref q.2) == some (relX p.1 q.1)) && (PySem.W.exmOne K (.ref p.2) (.ref q.2) == some (relX p.1 q.1))
def ctL (L : List (Str × Addr)) : CT := fun n => L.lookup n
theorem look_mem : ∀ {L : List (Str × Addr)} {n : Str} {C : Addr}, L.lookup n = some C → (n, C) ∈ L
  | [], _, _, h => by cases h
  | (m, D) :: L, n, C, h => by
    by_cases e : n = m
    · subst e
      simp [List.lookup] at h
      subst h
      exact List.mem_cons_self
    · have e' : (n == m) = false := by simpa using e
      simp only [List.lookup, e'] at h
      exact List.mem_cons_of_mem _ (look_mem h)
theorem xc_of {L : List (Str × Addr)} {n : Str} {C : Addr} (h : tabB K L = true) (hn : L.lookup n = some C) (hm : mg n = some (.ref C)) : Xc K mg (ctL L) n C := by
  obtain ⟨h1, h2⟩ := Bool.and_eq_true_iff.mp h
  refine ⟨hn, hm, fun y D e => ?_⟩
  have m1 := look_mem (show L.lookup y = some D from e)
  have m2 := look_mem hn
  have h3 := List.all_eq_true.mp (List.all_eq_true.mp h2 _ m1) _ m2
  obtain ⟨h4, h5⟩ := Bool.and_eq_true_iff.mp h3
  have h6 := List.all_eq_true.mp h1 _ m1
  dsimp only at h4 h5 h6
  have h7 := eq_of_beq h4
  have h8 := eq_of_beq h5
  have h9 := xcB_ok h6
  exact ⟨⟨h9, h7⟩, h8⟩
def clsBody : Stmt → List Stmt
  | .ClassDef _ _ _ b .. => b
  | _ => []
def supB (K : Frag) (C f : Addr) (fld : Str) : Bool :=
  PySem.W.excInitIn K C exB "Exception.__new__" && PySem.W.excOver K C exB && decide (PySem.W.findIn K (.ref C) "__init__" = some (some (.ref f))) && PySem.W.isFn K (.ref f) &&
    decide (PySem.W.ks_superIn K C C "__init__" = some (some (.builtin "Exception.__init__"))) && decide (PySem.W.subIn K (.ref C) (.type "Exception") = some true) &&
    decide (PySem.W.findIn K (.ref C) "__setattr__" = some (some (.builtin "object.__setattr__"))) && decide (PySem.W.takerIn K C fld = some none) && decide (PySem.W.nsIn K cStatics "thirdparty.any" = some none) &&
    decide (PySem.W.mroIn K C (.ref C) = some true)
/-- what is written in an __init__ that says super().__init__(arg); self.fld = arg -/
structure SupSt (st : Stmt) (arg fld : Str) : Prop where
  body : ∃ p0 p1 p2 p3 p4 p5 p6 p7 p8 p9, defBody st = supBody arg fld p0 p1 p2 p3 p4 p5 p6 p7 p8 p9 ∧ SupEv arg p0 p1 p2 p3 p4
  head : ∃ ar, ((defArgs st).posonlyargs ++ (defArgs st).args).head? = some ar ∧ ar.arg = "self"
  sc : (defScope st).names.lookup ("super" : Str) = some .globalImplicit ∧ (defScope st).names.lookup ("__class__" : Str) = some .free ∧ (defScope st).names.lookup ("self" : Str) = some .local ∧ (defScope st).names.lookup arg = some .local ∧
    (∀ x ∈ (defScope st).names, x.2 ≠ .cell) ∧ (defScope st).isCoroutine = false ∧ (defScope st).isGenerator = false ∧ (defScope st).kind = .function
  ne : arg ≠ "self"
  nd : (arg == ("__debug__" : Str)) = false
theorem sup_mk {C f cda cc : Addr} {arg fld qn : Str} {st : Stmt} {oc kV doc pm ctv ccl cl : Value} {od an cdd cld : Option Addr} {osl ccs csl : Array (Option Value)} {vs : Array Value} {file : Str} {tf : Tok}
    (lf : K.lookup f = some ⟨oc, od, .func (PySem.W.ksFn "__init__" qn (defArgs st) (defBody st) (defScope st) .none kV doc pm an (.ref cda) ctv cc), osl⟩) (hcd : PySem.W.codeIn K (.ref cda) qn = true)
    (lcd : K.lookup cda = some ⟨ccl, cdd, .fields vs, ccs⟩) (hvs : vs[2]? = some (.str file tf)) (hfile : ((P.main.file : Str) == file) = true) (lcc : K.lookup cc = some ⟨cl, cld, .cell (some (.ref C)), csl⟩)
    (hB : supB K C f fld = true) (hS : SupSt st arg fld)
    (hbind : ∀ (kV doc pm : Value) (an : Option Addr) (cdv ct : Value) (cc : Addr) (a u : Value), bindArgs (PySem.W.ksFn "__init__" qn (defArgs st) (defBody st) (defScope st) .none kV doc pm an cdv ct cc) ⟨[a, u], []⟩ = pure [(("self" : Str), a), (arg, u)])
    (htop : (P.main.scope.names.lookup ("super" : Str)).isSome = false) (hx : XcC K C) : SupC P K C f arg fld := by
  unfold supB at hB
  simp only [Bool.and_eq_true, decide_eq_true_eq] at hB
  obtain ⟨⟨⟨⟨⟨⟨⟨⟨⟨h1, h2⟩, h3⟩, h4⟩, h5⟩, h6⟩, h7⟩, h8⟩, h9⟩, h10⟩ := hB
  obtain ⟨p0, p1, p2, p3, p4, p5, p6, p7, p8, p9, hb, hev⟩ := hS.body
  obtain ⟨ar, har, hself⟩ := hS.head
  obtain ⟨s1, s2, s3, s4, s5, s6, s7, s8⟩ := hS.sc
  refine ⟨h1, h2, h3, h4, h5, h6, hx.sb, hx.ty, hx.kp, h7, h8, hx.hd, h9, h10, ?_, htop, hS.ne, hS.nd⟩
  exact ⟨oc, od, osl, _, qn, _, _, _, kV, doc, pm, an, cda, ctv, cc, p0, p1, p2, p3, p4, p5, p6, p7, p8, p9, ccl, cdd, vs, ccs, file, tf, cl, cld, csl, ar, lf, hcd, lcd, hvs, hfile, lcc, har, hself, fun a u => hbind kV doc pm an (.ref cda) ctv cc a u, s1, s2, s3, s4, s5, s6, s7, s8, hev, hb⟩
/-! ### try, both readings at once -/
def zTS (ct : CT) (Wx : XW) (pin : List Nat) (m : SM) : TS := fun D σ H => ∃ W S0 σ0 ρ, GX W S0 ρ σ [] [] H ∧ Pin pin σ0 σ ∧ SK ct Wx W S0 pin σ0 D (m ρ)
theorem ss_z {ct : CT} {Wx : XW} {pin : List Nat} {m : SM} : SS ct Wx pin (zTS ct Wx pin m) m := fun W S0 σ0 ρ σ H D g p k => ⟨W, S0, σ0, ρ, g, p, k⟩
theorem pss_z {X : Cx} {b : List Stmt} {ct : CT} {Wx : XW} {pin : List Nat} {m : SM} (h : ∃ t, PSs X b t ∧ SS ct Wx pin t m) : PSs X b (zTS ct Wx pin m) := by
  obtain ⟨t, h1, h2⟩ := h
  exact ⟨fun pins s σ H D I ⟨W, S0, σ0, ρ, g, p, k⟩ => h1.run pins s σ H D I (h2 W S0 σ0 ρ σ H D g p k)⟩
def zXS (ct : CT) (pin : List Nat) (i : Nat) (sm : Exn → SM) (a : Addr) (cls : Value) (d : Option Addr) : TS := fun D σ H => ∃ x W S0 σ0 ρ, XaA ct x cls d a i W σ0 ∧ GX W S0 ρ σ [] [] H ∧ Pin (i :: pin) σ0 σ ∧ SK ct (fun _ _ _ _ => False) W S0 (i :: pin) σ0 D (sm x ρ)
theorem ps_tryZ {X : Cx} {x n : Str} {C : Addr} {i : Nat} {body suite : List Stmt} {b₀ : Stmt} {np pos pos' : Pos} {ct : CT} {Wx : XW} {pin : List Nat} {bm : SM} {sm : Exn → SM}
    (hs : X.stack = X.env :: X.outer) (hf : X.env.frame = some X.env.locals) (hN : X.N.Nodup) (hi : X.N[i]? = some n) (hln : X.env.kindOf n = some .local) (hc : Names X x (.ref C)) (tk : Takes X Wx) (hx : Xc X.K X.mg ct x C)
    (hb : ∀ (W : WX) (pn : List (Addr × Obj)) (xe : Value → Shared → Prop), Takes (X.tr pn xe) W → PassesOwn (model X.prog X.w) X.A X.env xe → ∃ t, PSs (X.tr pn xe) body t ∧ SS ct W pin t bm)
    (hsu : ∀ (a : Addr) (oe : Obj) (cls : Value) (d : Option Addr) (pn : List (Addr × Obj)), Zc cls d oe → (∃ vs, oe.data = .fields vs) → ∃ t, PSs (X.suite a ((a, oe) :: pn)) (b₀ :: suite) t ∧ ∀ y, SSa (XaA ct y cls d a i) ct (fun _ _ _ _ => False) (i :: pin) t (sm y)) (hi' : i ∉ pin) :
    PS X (.Try body [.ExceptHandler (some (.Name x np)) (some n) (b₀ :: suite) pos'] [] [] pos) (zTS ct Wx pin (mTry x i bm sm)) := by
  have h1 := ps_try_as (tb := fun W => zTS ct W pin bm) (ts := zXS ct pin i sm) (pos := pos) (pos' := pos') (np := np) hs hf hN hi hln hc tk (fun W pn xe h h' => pss_z (hb W pn xe h h')) (fun a oe cls d pn hz hf' => by
    obtain ⟨t, h2, h3⟩ := hsu a oe cls d pn hz hf'
    exact ⟨fun pins s σ H D I ⟨y, W, S0, σ0, ρ, hA, g, p, k⟩ => h2.run pins s σ H D I (h3 y W S0 σ0 ρ σ H D hA g p k)⟩)
  have h2 : SS ct Wx pin (fun D σ H => zTS ct (wAs X.K (.ref C) i (zXS ct pin i sm) Wx D) pin bm D σ H) (mTry x i bm sm) :=
    ss_try (K := X.K) (tb := fun W => zTS ct W pin bm) (ts := zXS ct pin i sm) hx.exm (fun W => ss_z) (fun y a cls d W S0 σ0 ρ σ H D hA g p k => ⟨y, W, S0, σ0, ρ, hA, g, p, k⟩) hi'
  exact ⟨fun pins s σ H D I ⟨W, S0, σ0, ρ, g, p, k⟩ => h1.run pins s σ H D I (h2 W S0 σ0 ρ σ H D g p k)⟩
end
end Z

namespace Z
noncomputable section
open PySem L2
@[simp ↓] theorem mRaise0_run (cls : Str) (ρ : Env) : mRaise0 cls ρ = .ex ⟨cls, []⟩ ρ := rfl
@[simp ↓] theorem mRaise1_run (cls fld : Str) (e : EM) (ρ : Env) : mRaise1 cls fld e ρ = ((e ρ).st fun t ρ => if t.d.scal = true then .ex ⟨cls, [(fld, t.d)]⟩ ρ else .bad) := rfl
@[simp ↓] theorem mTry_run (Tn : Str) (i : Nat) (body : SM) (suite : Exn → SM) (ρ : Env) : mTry Tn i body suite ρ = (match body ρ with
  | .ex x ρ' => if relX x.cls Tn = true then (if i < ρ'.length then (suite x (ρ'.set i none)).drop i else .bad) else .ex x ρ'
  | r => r) := rfl
@[simp ↓] theorem eXis_run (Tn : Str) (x : Exn) (ρ : Env) : eXis Tn x ρ = .ok (.sh (.bl (relX x.cls Tn))) ρ := rfl
@[simp ↓] theorem eXfld_run (Cn f : Str) (x : Exn) (ρ : Env) : eXfld Cn f x ρ = if x.cls = Cn then (match x.fs.lookup f with
  | some d => .ok (.sh d) ρ
  | none => .bad) else .bad := rfl
@[simp] theorem drop_nx (i : Nat) (ρ : Env) : SOut.drop i (.nx ρ) = .nx (ρ.set i none) := rfl
@[simp] theorem drop_rt (i : Nat) (t : T) (ρ : Env) : SOut.drop i (.rt t ρ) = .rt t (ρ.set i none) := rfl
@[simp] theorem drop_ct (i : Nat) (ρ : Env) : SOut.drop i (.ct ρ) = .ct (ρ.set i none) := rfl
@[simp] theorem drop_bk (i : Nat) (ρ : Env) : SOut.drop i (.bk ρ) = .bk (ρ.set i none) := rfl
@[simp] theorem relX_base (a : Str) : relX a "TurnError" = true := by simp [relX]
end
end Z

namespace Z
noncomputable section
open PySem L2
variable {ct : CT} {Wx : XW} {W S0 S H H' : Hp} {ρ : Env} {σ σ0 : St} {t u : T} {ts us tm : List T} {v w : V} {vs ws vm : List V} {as bs : List Addr} {i : Nat} {d : D} {pin : List Nat} {D0 : Ends}
/-- x[e], x a list that a name owns and keeps, e with effects -/
def eIxN (i : Nat) (e : EM) : EM := fun ρ => match ρ[i]? with
  | some (some (.ol _)) => (e ρ).bnd fun u ρ => match ρ[i]? with
    | some (some (.ol ts)) => match u.d.intO with
      | some k => match atI ts k with
        | some (.sh d) => .ok (.sh d) ρ
        | _ => .bad
      | none => .bad
    | _ => .bad
  | _ => .bad
@[simp ↓] theorem eIxN_run (i : Nat) (e : EM) (ρ : Env) : eIxN i e ρ = (match ρ[i]? with
  | some (some (.ol _)) => (e ρ).bnd fun u ρ => match ρ[i]? with
    | some (some (.ol ts)) => match u.d.intO with
      | some k => match atI ts k with
        | some (.sh d) => .ok (.sh d) ρ
        | _ => .bad
      | none => .bad
    | _ => .bad
  | _ => .bad) := rfl
theorem se_ixN {K : PySem.W.Frag} {i : Nat} {te : TE} {e : EM} (he : SE ct Wx te e) : SE ct Wx (tOp (rIx K) (tVar i) te) (eIxN i e) := fun W S0 ρ σ tm vm H Q g k => by
  unfold eIxN at k
  split at k
  case h_2 => exact k.elim
  rename_i ts0 e0
  obtain ⟨a0, xs0, ea, h0, _⟩ := g.refL e0
  refine ⟨.ref a0, ea, ?_⟩
  refine he W S0 ρ σ tm vm H _ g ((Out.P_bnd.mp k).mono (fun u ρ1 k1 v H1 g1 => ?_) fun _ _ h => h)
  split at k1
  case h_2 => exact k1.elim
  rename_i ts e1
  split at k1
  case h_2 => exact k1.elim
  rename_i kk e2
  split at k1
  case h_2 => exact k1.elim
  rename_i d e3
  have q := g1.tmp
  rw [intO_int e2] at q
  cases q
  obtain ⟨S, as, bs, g2⟩ := g1.pop1
  obtain ⟨w, b, c, d', f1, f2, f3, _⟩ := g2.re.at e1
  rw [ea] at f1
  cases f1
  refine Rt.kid (K := K) g2.sh f3 (l := ts) rfl e3 fun w' ⟨cs, c1, c2, c3⟩ => ?_
  obtain ⟨_, c4⟩ := c3
  exact k1 w' H1 (g2.pushS c4)
def oNeS : D → D → Option D
  | .str a, .str b => some (.bl (!decide (a = b)))
  | _, _ => none
@[simp] theorem neS_str (a b : Str) : oNeS (.str a) (.str b) = some (.bl (!decide (a = b))) := rfl
theorem os_neS : OpS rNe oNeS := fun H dx dy x y d hx hy e Q q => by
  cases dx <;> first | (cases e; done) | skip
  cases dy <;> first | (cases e; done) | skip
  cases e
  cases hx
  cases hy
  refine ⟨rfl, ?_⟩
  have := q (.bl (!decide (V.str _ = V.str _))) H (fun _ _ h => h) (by simp; rfl)
  exact this
end
end Z

namespace Z
noncomputable section
open PySem L2
variable {ct : CT} {Wx : XW} {W S0 S H H' : Hp} {ρ : Env} {σ σ0 : St} {t u : T} {ts us tm : List T} {v w : V} {vs ws vm : List V} {as bs : List Addr} {i : Nat} {d : D} {pin : List Nat} {D0 : Ends}
/-! ### a list within what a name owns changes -/
def T.kidsO : T → Option (List T)
  | .ol l => some l
  | .ot l => some l
  | _ => none
def T.putK : T → Nat → T → T
  | .ol l, j, u => .ol (l.set j u)
  | .ot l, j, u => .ot (l.set j u)
  | t, _, _ => t
/-- the list at a place of an owned list or tuple -/
def T.kidL (t : T) (k : Int) : Option (Nat × List T) := t.kidsO.bind fun l => (ixN l.length k).bind fun j => match l[j]? with
  | some (.ol us) => some (j, us)
  | _ => none
theorem Rt.kidL {K : PySem.W.Frag} {k : Int} {j : Nat} (h : Rt S H t v as) (hn : as.Nodup) (e : t.kidL k = some (j, us)) : ∃ b ys cs, H b = some (.lst ys) ∧ ys.length = us.length ∧ Rtl S H us ys cs ∧ b ∈ as ∧
    (∀ (H1 : Hp) (Q : VK), Same H H1 → Q (.ref b) H1 → rIx K v (.int k) H1 Q) ∧
    (∀ H2 us' ys', (∀ a ∈ as, H2 a = H a) → (∀ H', (∀ a ∈ cs, H' a = H a) → Rtl S H' us' ys' cs) → Rt S (upd H2 b (.lst ys')) (t.putK j (.ol us')) v as) := by
  unfold T.kidL at e
  obtain ⟨l, e1, e⟩ := some_bind e
  obtain ⟨j', e2, e⟩ := some_bind e
  split at e
  case h_2 => cases e
  rename_i us0 e3
  cases e
  cases t with
  | sh d => cases e1
  | od ks l => cases e1
  | ol l0 =>
    cases e1
    obtain ⟨a, xs, c, rfl, rfl, h1, h2⟩ := h
    obtain ⟨w, b1, c1, d1, f1, rfl, f3, f4⟩ := h2.at e3
    obtain ⟨b, ys, cs, rfl, rfl, g1, g2⟩ := f3
    have hne : b ≠ a := by grind
    have hcs : ∀ x ∈ cs, x ≠ b := by grind
    have hbd : ∀ x ∈ b1 ++ d1, x ≠ b := by grind
    refine ⟨b, ys, cs, g1, g2.len, g2, by simp, fun H1 Q es q => ?_, fun H2 us' ys' h2' hr => ?_⟩
    · exact .inl ⟨a, xs, k, .ref b, rfl, rfl, .of (es _ _ h1), by unfold L2.atI; rw [h2.len, e2]; exact f1, q⟩
    · have q1 : Rt S (upd H2 b (.lst ys')) (.ol us') (.ref b) (b :: cs) := ⟨b, ys', cs, rfl, rfl, upd_same, hr _ fun x hx => (upd_ne (hcs x hx)).trans (h2' x (by simp [hx]))⟩
      have q2 := f4 S (upd H2 b (.lst ys')) (.ol us') (.ref b) (b :: cs) (fun _ _ h => h) (fun x hx => (upd_ne (hbd x hx)).trans (h2' x (by simp at hx; rcases hx with z | z <;> simp [z]))) q1
      rw [set_self f1] at q2
      exact ⟨a, xs, _, rfl, by simp, by rw [upd_ne (Ne.symm hne), h2' a (by simp)]; exact h1, q2⟩
  | ot l0 =>
    cases e1
    obtain ⟨a, xs, c, rfl, rfl, h1, h2⟩ := h
    obtain ⟨w, b1, c1, d1, f1, rfl, f3, f4⟩ := h2.at e3
    obtain ⟨b, ys, cs, rfl, rfl, g1, g2⟩ := f3
    have hne : b ≠ a := by grind
    have hcs : ∀ x ∈ cs, x ≠ b := by grind
    have hbd : ∀ x ∈ b1 ++ d1, x ≠ b := by grind
    refine ⟨b, ys, cs, g1, g2.len, g2, by simp, fun H1 Q es q => ?_, fun H2 us' ys' h2' hr => ?_⟩
    · exact .inr (.inl ⟨a, xs, k, .ref b, rfl, rfl, .of (es _ _ h1), by unfold L2.atI; rw [h2.len, e2]; exact f1, q⟩)
    · have q1 : Rt S (upd H2 b (.lst ys')) (.ol us') (.ref b) (b :: cs) := ⟨b, ys', cs, rfl, rfl, upd_same, hr _ fun x hx => (upd_ne (hcs x hx)).trans (h2' x (by simp [hx]))⟩
      have q2 := f4 S (upd H2 b (.lst ys')) (.ol us') (.ref b) (b :: cs) (fun _ _ h => h) (fun x hx => (upd_ne (hbd x hx)).trans (h2' x (by simp at hx; rcases hx with z | z <;> simp [z]))) q1
      rw [set_self f1] at q2
      exact ⟨a, xs, _, rfl, by simp, by rw [upd_ne (Ne.symm hne), h2' a (by simp)]; exact h1, q2⟩
theorem GX.kidL {K : PySem.W.Frag} {k : Int} {j : Nat} (g : GX W S0 ρ σ (t :: tm) (v :: vm) H) (e : t.kidL k = some (j, us)) : ∃ b ys, H b = some (.lst ys) ∧ ys.length = us.length ∧
    (∀ (H1 : Hp) (Q : VK), Same H H1 → Q (.ref b) H1 → rIx K v (.int k) H1 Q) ∧
    (∀ H2 us' ys', Same H H2 → (∀ S H cs, Rtl S H us ys cs → Rtl S H us' ys' cs) → GX W S0 ρ σ (t.putK j (.ol us') :: tm) (v :: vm) (upd H2 b (.lst ys'))) := by
  obtain ⟨S, as, bs, g⟩ := g
  obtain ⟨v', r, c1, c2, h3, rfl, h4, h5⟩ := g.rt
  simp only [List.cons.injEq] at h3
  obtain ⟨rfl, rfl⟩ := h3
  have nd := g.nd
  have fs := g.fs
  have fw := g.fw
  obtain ⟨b, ys, cs, k1, k2, k3, k4, k5, k6⟩ := h4.kidL (K := K) (by grind) e
  refine ⟨b, ys, k1, k2, k5, fun H2 us' ys' es hr => ?_⟩
  have q := k6 H2 us' ys' (fun a ha => same_at es (h4.there a ha)) fun H' hh => hr S H' cs (k3.mono (fun _ _ h => h) hh)
  have hb : S b = none := fs b (by grind)
  have hw : W b = none := fw b (by grind)
  have keep : ∀ x, x ≠ b → H x ≠ none → (upd H2 b (.lst ys')) x = H x := fun x hx hn => (upd_ne hx).trans (same_at es hn)
  refine ⟨S, as, c1 ++ c2, g.s0, fun x o h => ?_, fun x o h => ?_, g.nw, g.re.mono (fun _ _ h => h) fun x hx => keep x (by grind) (g.re.there x hx), ⟨v, vm, c1, c2, rfl, rfl, q, h5.mono (fun _ _ h => h) fun x hx => keep x (by grind) (h5.there x hx)⟩, nd, fs, fw⟩
  · rw [upd_ne (by rintro rfl; rw [hb] at h; cases h)]; exact es _ _ (g.sh x o h)
  · rw [upd_ne (by rintro rfl; rw [hw] at h; cases h)]; exact es _ _ (g.wh x o h)
/-- x[ix].append(e), e a scalar -/
def mApp1 (i : Nat) (ix e : PM) : SM := fun ρ => match ρ[i]?, ix ρ, e ρ with
  | some (some t), some (.int k), some d => match t.kidL k with
    | some (j, us) => if us.length < lim ∧ d.scal = true then .nx (ρ.set i (some (t.putK j (.ol (us ++ [.sh d]))))) else .bad
    | none => .bad
  | _, _, _ => .bad
theorem ss_app1 {K : PySem.W.Frag} {i : Nat} {ti te : TE} {ix e : PM} (hx : SP ti ix) (he : SP te e) : SS ct Wx pin (tDrop (tBM K "list" rAppend (tOp (rIx K) (tVar i) ti) (tCons te tNil))) (mApp1 i ix e) := fun W S0 σ0 ρ σ H D g p k => by
  unfold mApp1 at k
  split at k
  case h_2 => exact k.elim
  rename_i t kk d e1 e2 e3
  split at k
  case h_2 => exact k.elim
  rename_i j us e4
  obtain ⟨⟨hz, hs⟩, k⟩ := SK_ite k
  have rv := g.rv
  obtain ⟨v, hv, g1⟩ := g.take e1
  refine ⟨v, hv, hx ρ σ H rv _ e2 _ fun y H1 es1 r1 => ?_⟩
  cases r1
  obtain ⟨b, ys, k1, k2, k3, k4⟩ := g1.kidL (K := K) e4
  refine k3 H1 _ es1 ⟨.inl ⟨rfl, ys, .of (es1 _ _ k1)⟩, he ρ σ H1 (rv.ext es1) _ e3 _ fun z H2 es2 r2 => ?_⟩
  have es := es1.trans es2
  refine ⟨b, ys, z, rfl, rfl, es _ _ k1, lim_lt (by omega), ?_⟩
  have g3 := k4 H2 (us ++ [.sh d]) (ys ++ [z]) es fun S H cs h => by
    have h6 : Rtl S H [T.sh d] [z] [] := ⟨z, [], [], [], rfl, rfl, ⟨rfl, r2.scal hs⟩, rfl, rfl⟩
    have := h.append h6
    simpa using this
  have g4 := g3.back hv
  rw [List.set_set] at g4
  exact k _ _ g4 p
/-- x[ix][jx] = e, e a scalar in a scalar's place -/
def mStore1 (i : Nat) (ix : PM) (e jx : PM) : SM := fun ρ => match ρ[i]?, ix ρ, e ρ, jx ρ with
  | some (some t), some (.int k), some d, some (.int m) => match t.kidL k with
    | some (j, us) => match ixN us.length m with
      | some l => match us[l]? with
        | some (.sh _) => if d.scal = true then .nx (ρ.set i (some (t.putK j (.ol (us.set l (.sh d)))))) else .bad
        | _ => .bad
      | none => .bad
    | none => .bad
  | _, _, _, _ => .bad
theorem ss_store1 {K : PySem.W.Frag} {i : Nat} {ti te tj : TE} {ix e jx : PM} (hx : SP ti ix) (he : SP te e) (hj : SP tj jx) : SS ct Wx pin (tAsg te (gSub (tOp (rIx K) (tVar i) ti) tj rSetL)) (mStore1 i ix e jx) := fun W S0 σ0 ρ σ H D g p k => by
  unfold mStore1 at k
  split at k
  case h_2 => exact k.elim
  rename_i t kk d m e1 e2 e3 e5
  split at k
  case h_2 => exact k.elim
  rename_i j us e4
  split at k
  case h_2 => exact k.elim
  rename_i l e6
  split at k
  case h_2 => exact k.elim
  rename_i d0 e7
  obtain ⟨hs, k⟩ := SK_ite k
  have rv := g.rv
  obtain ⟨v, hv, g1⟩ := g.take e1
  refine he ρ σ H rv _ e3 _ fun z H0 es0 r0 => ?_
  refine ⟨v, hv, hx ρ σ H0 (rv.ext es0) _ e2 _ fun y H1 es1 r1 => ?_⟩
  cases r1
  obtain ⟨b, ys, k1, k2, k3, k4⟩ := g1.kidL (K := K) e4
  have es01 := es0.trans es1
  refine k3 H1 _ es01 (hj ρ σ H1 (rv.ext es01) _ e5 _ fun y2 H2 es2 r2 => ?_)
  cases r2
  have es := es01.trans es2
  refine ⟨b, ys, m, l, rfl, rfl, es _ _ k1, by rw [k2]; exact e6, ?_⟩
  have g3 := k4 H2 (us.set l (.sh d)) (ys.set l z) es fun S H cs h => by
    obtain ⟨w, b1, c1, d1, f1, rfl, f3, f4⟩ := h.at e7
    obtain ⟨rfl, _⟩ := f3
    exact f4 S H (.sh d) z [] (fun _ _ h => h) (fun _ _ => rfl) ⟨rfl, r0.scal hs⟩
  have g4 := g3.back hv
  rw [List.set_set] at g4
  exact k _ _ g4 p
end
end Z

namespace Z
noncomputable section
open PySem L2
variable {ct : CT} {Wx : XW} {W S0 S H H' : Hp} {ρ : Env} {σ σ0 : St} {t u : T} {ts us tm : List T} {v w : V} {vs ws vm : List V} {as bs : List Addr} {i : Nat} {d : D} {pin : List Nat} {D0 : Ends}
/-- x[lo:hi] at a place, of a list or a tuple -/
def eSlU (a : Env → Option T) (lo hi : Env → Option (Option Int)) : EM := fun ρ => match a ρ with
  | some (.sh (.tup ds)) => optO ((lo ρ).bind fun l => (hi ρ).bind fun h => some (.sh (.tup (cutD ds l h)))) ρ
  | _ => eSl a lo hi ρ
@[simp ↓] theorem eSlU_run (a : Env → Option T) (lo hi : Env → Option (Option Int)) (ρ : Env) : eSlU a lo hi ρ = (match a ρ with
  | some (.sh (.tup ds)) => optO ((lo ρ).bind fun l => (hi ρ).bind fun h => some (.sh (.tup (cutD ds l h)))) ρ
  | _ => eSl a lo hi ρ) := rfl
theorem se_slU {K : PySem.W.Frag} {ta : TE} {tl th : TO} {a : Env → Option T} {lo hi : Env → Option (Option Int)} (ha : SV ta a) (hl : SPO tl lo) (hh : SPO th hi) : SE ct Wx (tSl (fun x lo hi H Q => rSlL K x lo hi H Q ∨ rSlA K x lo hi H Q) ta tl th) (eSlU a lo hi) := fun W S0 ρ σ tm vm H Q g k => by
  unfold eSlU at k
  split at k
  case h_2 =>
    obtain ⟨z, e, k⟩ := P_opt k
    obtain ⟨t, e1, e⟩ := some_bind e
    obtain ⟨ds, e2, e⟩ := some_bind e
    obtain ⟨l, e3, e⟩ := some_bind e
    obtain ⟨h, e4, e⟩ := some_bind e
    cases e
    obtain ⟨S, as, bs, g⟩ := g
    refine ha W S0 S ρ σ tm vm H as bs g t e1 _ fun v H1 s1 ⟨cs, c1, c2⟩ => ?_
    have g1 := g.ext s1
    obtain ⟨p, xs, rfl, h1, h2⟩ := c2.shs g1.sh e2
    refine hl ρ σ H1 (GX.rv ⟨S, as, bs, g1⟩) l e3 _ fun H2 s2 => hh ρ σ H2 (GX.rv ⟨S, as, bs, g1.ext s2⟩) h e4 _ fun H3 s3 => ?_
    exact .inl ⟨p, xs, rfl, .of (s3 _ _ (s2 _ _ h1)), fun q hq => k _ _ ((((g1.ext s2).ext s3).pushSs h2.cut).newL (by simp [h2.cut.len]) hq)⟩
  rename_i ds e1
  obtain ⟨z, e, k⟩ := P_opt k
  obtain ⟨l, e3, e⟩ := some_bind e
  obtain ⟨h, e4, e⟩ := some_bind e
  cases e
  obtain ⟨S, as, bs, g⟩ := g
  refine ha W S0 S ρ σ tm vm H as bs g _ e1 _ fun v H1 s1 ⟨cs, c1, c2⟩ => ?_
  have g1 := g.ext s1
  obtain ⟨_, p, xs, rfl, h1, h2⟩ := c2
  refine hl ρ σ H1 (GX.rv ⟨S, as, bs, g1⟩) l e3 _ fun H2 s2 => hh ρ σ H2 (GX.rv ⟨S, as, bs, g1.ext s2⟩) h e4 _ fun H3 s3 => ?_
  have hx : H3 p = some (.tup xs) := s3 _ _ (s2 _ _ (g1.sh _ _ h1))
  refine .inr ⟨p, xs, rfl, .of hx, fun hw => ?_, fun _ q hq => ?_⟩
  · have hd : cutD ds l h = ds := by
      unfold cutD
      rw [h2.len] at hw
      rw [hw.1, hw.2]
      simp
    rw [hd] at k
    exact k _ _ (((g1.ext s2).ext s3).pushS ⟨p, xs, rfl, h1, h2⟩)
  · have g4 := ((((g1.ext s2).ext s3).pushSs (h2.cut (lo := l) (hi := h))).newT (by simp [h2.cut.len]) hq).frz
    have e5 : (T.ot ((cutD ds l h).map .sh)).d = .tup (cutD ds l h) := by
      show D.tup (dl _) = _
      rw [dl_eq, List.map_map]
      congr 1
      exact List.map_id'' (fun _ => rfl) _
    rw [e5] at g4
    exact k _ _ g4
/-- x[::-1], x a list -/
def eRevL (a : Env → Option T) : EM := fun ρ => optO ((a ρ).bind fun t => t.shs.bind fun ds => some (.ol (ds.reverse.map .sh))) ρ
@[simp ↓] theorem eRevL_run (a : Env → Option T) (ρ : Env) : eRevL a ρ = optO ((a ρ).bind fun t => t.shs.bind fun ds => some (.ol (ds.reverse.map .sh))) ρ := rfl
theorem se_revL {K : PySem.W.Frag} {ta : TE} {a : Env → Option T} (ha : SV ta a) : SE ct Wx (tRevL K ta) (eRevL a) := fun W S0 ρ σ tm vm H Q g k => by
  obtain ⟨z, e, k⟩ := P_opt k
  obtain ⟨t, e1, e⟩ := some_bind e
  obtain ⟨ds, e2, e⟩ := some_bind e
  cases e
  obtain ⟨S, as, bs, g⟩ := g
  refine ha W S0 S ρ σ tm vm H as bs g t e1 _ fun v H1 s1 ⟨cs, c1, c2⟩ => ?_
  have g1 := g.ext s1
  obtain ⟨p, xs, rfl, h1, h2⟩ := c2.shs g1.sh e2
  exact ⟨p, xs, rfl, .of h1, fun q hq => k _ _ ((g1.pushSs h2.rev).newL (by simp [h2.rev.len]) hq)⟩
@[simp ↓] theorem mApp1_run (i : Nat) (ix e : PM) (ρ : Env) : mApp1 i ix e ρ = (match ρ[i]?, ix ρ, e ρ with
  | some (some t), some (.int k), some d => match t.kidL k with
    | some (j, us) => if us.length < lim ∧ d.scal = true then .nx (ρ.set i (some (t.putK j (.ol (us ++ [.sh d]))))) else .bad
    | none => .bad
  | _, _, _ => .bad) := rfl
@[simp ↓] theorem mStore1_run (i : Nat) (ix e jx : PM) (ρ : Env) : mStore1 i ix e jx ρ = (match ρ[i]?, ix ρ, e ρ, jx ρ with
  | some (some t), some (.int k), some d, some (.int m) => match t.kidL k with
    | some (j, us) => match ixN us.length m with
      | some l => match us[l]? with
        | some (.sh _) => if d.scal = true then .nx (ρ.set i (some (t.putK j (.ol (us.set l (.sh d)))))) else .bad
        | _ => .bad
      | none => .bad
    | none => .bad
  | _, _, _, _ => .bad) := rfl
theorem kidL_1 {t0 : T} {us : List T} : (T.ot [t0, .ol us]).kidL 1 = some (1, us) := rfl
theorem putK_1 {t0 u : T} {us : List T} : (T.ot [t0, .ol us]).putK 1 u = .ot [t0, u] := rfl
end
end Z

namespace Z
noncomputable section
open PySem L2
variable {ct : CT} {Wx : XW} {W S0 S H H' : Hp} {ρ : Env} {σ σ0 : St} {t u : T} {ts us tm : List T} {v w : V} {vs ws vm : List V} {as bs : List Addr} {i : Nat} {d : D} {pin : List Nat} {D0 : Ends}
/-! ### a call whose arguments are read where they stand, and whose answer is all new -/
mutual
def T.fresh : T → Bool
  | .sh d => d.scal
  | .ol l => freshL l
  | .ot l => freshL l
  | .od _ l => freshL l
def freshL : List T → Bool
  | [] => true
  | t :: l => t.fresh && freshL l
end
mutual
theorem Rt.fresh {S S' H : Hp} : ∀ {t : T} {v : V} {as : List Addr}, t.fresh = true → Rt S H t v as → Rt S' H t v as
  | .sh d, _, _, e, ⟨h1, h2⟩ => ⟨h1, h2.scal e⟩
  | .ol l, _, _, e, ⟨a, vs, bs, h1, h2, h3, h4⟩ => ⟨a, vs, bs, h1, h2, h3, Rtl.fresh e h4⟩
  | .ot l, _, _, e, ⟨a, vs, bs, h1, h2, h3, h4⟩ => ⟨a, vs, bs, h1, h2, h3, Rtl.fresh e h4⟩
  | .od _ l, _, _, e, ⟨a, vs, bs, h1, h2, h3, h5, h4⟩ => ⟨a, vs, bs, h1, h2, h3, h5, Rtl.fresh e h4⟩
theorem Rtl.fresh {S S' H : Hp} : ∀ {l : List T} {vs : List V} {as : List Addr}, freshL l = true → Rtl S H l vs as → Rtl S' H l vs as
  | [], _, _, _, h => h
  | t :: l, _, _, e, ⟨v, r, b, c, h1, h2, h3, h4⟩ => by
    simp only [freshL, Bool.and_eq_true] at e
    exact ⟨v, r, b, c, h1, h2, Rt.fresh e.1 h3, Rtl.fresh e.2 h4⟩
end
@[simp] theorem fresh_ints (l : List Int) : (T.ol (l.map ig)).fresh = true := by
  have : freshL (l.map ig) = true := by
    induction l with
    | nil => rfl
    | cons a l ih => simp [freshL, T.fresh, ih]
  simpa [T.fresh] using this
def eCallB (n : Nat) (F : FM) (a : AM) : EM := fun ρ => match a ρ with
  | some ds => if ds.length = n then (match F (ds.map T.sh) with
    | .ok t ts' => if ts'.length = n ∧ t.fresh = true then .ok t ρ else .bad
    | _ => .bad) else .bad
  | none => .bad
@[simp ↓] theorem eCallB_run (n : Nat) (F : FM) (a : AM) (ρ : Env) : eCallB n F a ρ = (match a ρ with
  | some ds => if ds.length = n then (match F (ds.map T.sh) with
    | .ok t ts' => if ts'.length = n ∧ t.fresh = true then .ok t ρ else .bad
    | _ => .bad) else .bad
  | none => .bad) := rfl
theorem se_callB {n : Nat} {F : FM} {E : St → XK} {ta : TA} {a : AM} (ha : SPA ta a) : SE ct Wx (tCallS (spM ct n F) E ta) (eCallB n F a) := fun W S0 ρ σ tm vm H Q g k => by
  unfold eCallB at k
  split at k
  case h_2 => exact k.elim
  rename_i ds e0
  obtain ⟨hn, k⟩ := P_ite k
  refine ha ρ σ H g.rv ds e0 _ fun vs H1 e1 r1 => ⟨by rw [r1.len]; exact hn, ds.map T.sh, H1, H1, r1.gx, ?_⟩
  generalize F (ds.map T.sh) = o at k ⊢
  cases o with
  | bad => exact k.elim
  | ex x => exact k.elim
  | ok t ts' =>
    obtain ⟨⟨hl, hf⟩, k⟩ := P_ite k
    refine ⟨hl, fun v H' g2 => k v H' ?_⟩
    obtain ⟨S, as, bs, g⟩ := g
    obtain ⟨S2, as2, bs2, g2⟩ := g2
    have ea : as2 = [] := g2.re.2
    subst ea
    have g1 := g.ext (e1.trans g2.wh)
    obtain ⟨v', r, c1, c2, h3, rfl, h4, h5⟩ := g2.rt
    simp only [List.cons.injEq] at h3
    obtain ⟨rfl, rfl⟩ := h3
    have nd2 := g2.nd
    have fw2 := g2.fw
    have nd := g.nd
    have fs := g.fs
    have fw := g.fw
    have hnone : ∀ a ∈ c1, H a = none := fun a ha => by
      have h0 := fw2 a (by simp [ha])
      cases q : H a with
      | none => rfl
      | some o => rw [e1 a o q] at h0; cases h0
    have hne : ∀ a ∈ c1, ∀ x, (x ∈ as ∨ x ∈ bs) → a ≠ x := fun a ha x hx z => by
      subst z
      have h0 := hnone a ha
      rcases hx with h | h
      · exact g.re.there a h h0
      · exact g.rt.there a h h0
    refine ⟨S, as, c1 ++ bs, g1.s0, g1.sh, g1.wh, g1.nw, g1.re, ⟨v, vm, c1, bs, rfl, rfl, h4.fresh hf, g1.rt⟩, by grind, ?_, ?_⟩
    · intro a ha
      rcases List.mem_append.mp ha with h | h
      · exact fs a (by grind)
      · rcases List.mem_append.mp h with h | h
        · have h0 := hnone a h
          cases q : S a with
          | none => rfl
          | some o => rw [g.sh a o q] at h0; cases h0
        · exact fs a (by grind)
    · intro a ha
      rcases List.mem_append.mp ha with h | h
      · exact fw a (by grind)
      · rcases List.mem_append.mp h with h | h
        · have h0 := hnone a h
          cases q : W a with
          | none => rfl
          | some o => rw [g.wh a o q] at h0; cases h0
        · exact fw a (by grind)
/-- x[lo:], lo with effects -/
def eSlF (a lo : EM) : EM := fun ρ => (a ρ).bnd fun t ρ => (lo ρ).bnd fun u ρ => optO (t.els.bind fun ds => u.d.intO.bind fun k => some (.ol (cutD ds (some k) none))) ρ
@[simp ↓] theorem eSlF_run (a lo : EM) (ρ : Env) : eSlF a lo ρ = ((a ρ).bnd fun t ρ => (lo ρ).bnd fun u ρ => optO (t.els.bind fun ds => u.d.intO.bind fun k => some (.ol (cutD ds (some k) none))) ρ) := rfl
theorem se_slF {K : PySem.W.Frag} {ta tl : TE} {a lo : EM} (ha : SE ct Wx ta a) (hl : SE ct Wx tl lo) : SE ct Wx (tSl (rSlL K) ta (tPart tl) tNoPart) (eSlF a lo) := fun W S0 ρ σ tm vm H Q g k => by
  refine ha W S0 ρ σ tm vm H _ g ((Out.P_bnd.mp k).mono (fun t ρ1 k1 v H1 g1 => ?_) fun _ _ h => h)
  refine hl W S0 ρ1 σ (t :: tm) (v :: vm) H1 _ g1 ((Out.P_bnd.mp k1).mono (fun u ρ2 k2 w H2 g2 => ?_) fun _ _ h => XE.pop (ts := [t]) (vs := [v]) h rfl)
  obtain ⟨z, e, k⟩ := P_opt k2
  obtain ⟨ts, e2, e⟩ := some_bind e
  obtain ⟨i, e3, e⟩ := some_bind e
  cases e
  have q := g2.tmp
  rw [intO_int e3] at q
  cases q
  refine ⟨i, rfl, ?_⟩
  obtain ⟨p, xs, rfl, h1, h2, g3⟩ := g2.pop1.els e2
  refine ⟨p, xs, rfl, .of h1, fun q hq => k _ _ ?_⟩
  have g4 := g3.sub (us := cutD ts (some i) none) (ws := cutV xs (some i) none) h2 fun S H b hb => hb.cut
  exact g4.newL (by unfold cutD cutV; simp [h2]) hq
end
end Z

namespace Z
noncomputable section
open PySem L2
/-! ### repr of whatever is plain data -/
section
variable {X : Cx}
def rReprV (K : PySem.W.Frag) : List V → Hp → VK → Prop := fun xs H Q => rRepr K xs H Q ∨ (∃ i, xs = [.int i] ∧ i.natAbs.log2 < 1920 ∧ Q (.str (toString i)) H) ∨ (∃ b, xs = [.bl b] ∧ Q (.str (if b then "True" else "False")) H) ∨ (xs = [.non] ∧ Q (.str "None") H) ∨ (∃ z, xs = [.str z] ∧ (reprText z).length ≤ sizeLine ∧ Q (.str (reprText z)) H)
theorem call_reprV (hg : X.A.guards = some []) (hu : X.A.units + 64 < cLine) : CallR X (.builtin "repr") (rReprV X.K) := by
  intro pins s σ H xs us Q I r h
  rcases h with h | ⟨i, rfl, hz, q⟩ | ⟨b, rfl, q⟩ | ⟨rfl, q⟩ | ⟨z, rfl, hz, q⟩
  · exact call_reprD hg hu pins s σ H xs us Q I r h
  · obtain ⟨u, rfl, t, rfl⟩ := vals1 r
    exact PySem.P.repr_of_int hz ⟨.str _, H, I.tok _, ⟨_, rfl⟩, q⟩
  · obtain ⟨u, rfl, ru⟩ := vals1 r
    obtain rfl : u = Value.bool b := ru
    exact PySem.P.repr_of_bool ⟨.str _, H, I.tok _, ⟨_, rfl⟩, q⟩
  · obtain ⟨u, rfl, ru⟩ := vals1 r
    obtain rfl : u = Value.none := ru
    exact PySem.P.repr_of_none ⟨.str _, H, I.tok _, ⟨_, rfl⟩, q⟩
  · obtain ⟨u, rfl, t, rfl⟩ := vals1 r
    exact PySem.P.repr_of_str ⟨.str _, H, I.tok _, ⟨_, rfl⟩, q⟩ hz
end
def oReprV : D → Option D := fun d => match d with
  | .int i => if i.natAbs.log2 < 1920 then some (.str (toString i)) else none
  | .bl b => some (.str (if b then "True" else "False"))
  | .non => some (.str "None")
  | .str z => if (reprText z).length ≤ sizeLine then some (.str (reprText z)) else none
  | d => oRepr d
theorem cs_reprV {K : PySem.W.Frag} : CallS (rReprV K) (o1 oReprV) := fun H ds vs d h e Q q => by
  have e' := e
  obtain ⟨x, rfl, e⟩ := o1_some e
  cases x with
  | int i =>
    obtain ⟨v, rfl, hv⟩ := rpl1 h
    obtain ⟨h1, e⟩ := ite_some e
    cases e
    cases hv
    exact .inr (.inl ⟨i, rfl, h1, q _ H (fun _ _ h => h) rfl⟩)
  | bl b =>
    obtain ⟨v, rfl, hv⟩ := rpl1 h
    cases e
    cases hv
    exact .inr (.inr (.inl ⟨b, rfl, q _ H (fun _ _ h => h) rfl⟩))
  | non =>
    obtain ⟨v, rfl, hv⟩ := rpl1 h
    cases e
    cases hv
    exact .inr (.inr (.inr (.inl ⟨rfl, q _ H (fun _ _ h => h) rfl⟩)))
  | str z =>
    obtain ⟨v, rfl, hv⟩ := rpl1 h
    obtain ⟨h1, e⟩ := ite_some e
    cases e
    cases hv
    exact .inr (.inr (.inr (.inr ⟨z, rfl, h1, q _ H (fun _ _ h => h) rfl⟩)))
  | lst l => exact .inl (cs_repr H [.lst l] vs d h e' Q q)
  | tup l => exact .inl (cs_repr H [.tup l] vs d h e' Q q)
  | dic ks l => exact .inl (cs_repr H [.dic ks l] vs d h e' Q q)
end
end Z

namespace Z
noncomputable section
open PySem L2
/-! ### defs that ask repr, called by others -/
section
open PySem.Spec PyProof.Rows
variable {ct : CT} {P : Program} {w : World} {K : PySem.W.Frag} {mg : Str → Option Value} {base : Heap}
theorem fn_mkG {x qual : Str} {st : Stmt} {f : Addr} {fd : FuncData} {N ps : List Str} {k : Nat} {m : SM} (F : Fun K x qual st f fd) (Sc : FnScope N ps (defScope st))
    (hbody : ∀ (cdv : Value) (A : Around), A.guards = some [] → ∀ (outer : List PySem.Env) (s : Shared) (H : Hp) (E : XK), Room k (A.deeper (envOfC qual (defScope st) s.heap.objs.size f cdv)) →
      ∃ t, PSs (cxOf (L2.CX P w) P w K mg base N qual (defScope st) f cdv A outer s H E) (defBody st) t ∧ SS ct (fun c d _ H => E c d H) [] t m) : FnG P w K mg base (L2.CX P w) (k + 1) f fd ps (spM ct ps.length (mFun ps.length N.length m)) := by
  refine fnG_mk F Sc (fun vs H Q E h => h.1) fun cdv A hg outer s H vs Q E hr h => ?_
  obtain ⟨t, ht, hs⟩ := hbody cdv A hg outer s H E hr
  refine ⟨t, ht, ?_⟩
  obtain ⟨hl, ts, W, S, g, k1⟩ := h
  unfold mFun at k1
  by_cases hc : ts.length = ps.length ∧ ts.all T.isSh = true
  case neg => rw [if_neg hc] at k1; exact k1.elim
  rw [if_pos hc] at k1
  obtain ⟨S1, as, bs, hu, g1⟩ := g.up
  obtain ⟨ds, rfl⟩ := allSh hc.2
  obtain ⟨hr1, rfl⟩ := g1.rt.toRpl'
  have g2 := GX.start (N := N) ⟨S1, as, [], g1⟩ (by rw [hl, hc.1])
  rw [hc.1] at g2
  refine hs W S1 (start N vs) _ _ H _ g2 Pin.refl ?_
  have fin : ∀ (t : T) (v : V) (ρ : Env) (σ : L2.St) (H' : Hp), GX W S1 ρ σ [t] [v] H' → GX W S [] [] (t :: ds.map .sh) (v :: vs) H' := fun t v ρ σ H' g3 => by
    obtain ⟨S2, as2, bs2, g4⟩ := g3.noEnv
    exact (g4.endS (hr1.mono g4.s0)).join hu
  generalize m _ = o at k1 ⊢
  cases o with
  | bad => exact k1
  | nx ρ => exact fun σ' H' g3 _ => k1.2 .non H' (fin (.sh .non) .non ρ σ' H' (g3.pushC (S := H') (d := .non) (v := .non) rfl rfl))
  | rt t ρ => exact fun v σ' H' g3 _ => k1.2 v H' (fin t v ρ σ' H' g3)
  | bk ρ => exact k1.elim
  | ct ρ => exact k1.elim
  | ex x ρ => exact fun c d σ' H' g3 _ hx => k1 c d H' (g3.noEnv.join hu) hx
theorem fn_mkGI {x qual : Str} {st : Stmt} {f : Addr} {fd : FuncData} {N ps : List Str} {k : Nat} {m : SM} (F : Fun K x qual st f fd) (Sc : FnScope N ps (defScope st)) (hps : 0 < ps.length)
    (hbody : ∀ (cdv : Value) (A : Around), A.guards = some [] → ∀ (outer : List PySem.Env) (s : Shared) (H : Hp) (E : XK), Room k (A.deeper (envOfC qual (defScope st) s.heap.objs.size f cdv)) →
      ∃ t, PSs (cxOf (L2.CX P w) P w K mg base N qual (defScope st) f cdv A outer s H E) (defBody st) t ∧ SS ct (fun c d _ H => E c d H) [0] t m) : FnG P w K mg base (L2.CX P w) (k + 1) f fd ps (spM ct ps.length (mFunI ps.length N.length m)) := by
  refine fnG_mk F Sc (fun vs H Q E h => h.1) fun cdv A hg outer s H vs Q E hr h => ?_
  obtain ⟨t, ht, hs⟩ := hbody cdv A hg outer s H E hr
  refine ⟨t, ht, ?_⟩
  obtain ⟨hl, ts, W, S, g, k1⟩ := h
  unfold mFunI at k1
  by_cases hc : ts.length = ps.length ∧ ts.tail.all T.isSh = true
  case neg => rw [if_neg hc] at k1; exact k1.elim
  rw [if_pos hc] at k1
  match ts, vs, hl, hc with
  | [], _, _, hc => simp at hc; omega
  | _ :: _, [], hl, _ => simp at hl; omega
  | t0 :: ts, v0 :: vs, hl, hc =>
  obtain ⟨ds, hds⟩ := allSh hc.2
  simp only [List.tail_cons] at hds
  subst hds
  obtain ⟨S1, as, bs, hu, g1⟩ := g.up
  have hr1 : Rpl S1 ds vs := by
    obtain ⟨v', r, b, c, h3, _, _, h5⟩ := g1.rt
    cases h3
    exact h5.toRpl'.1
  have g2 := GX.start (N := N) ⟨S1, as, bs, g1⟩ (by rw [hl, hc.1])
  rw [hc.1] at g2
  refine hs W S1 (start N (v0 :: vs)) _ _ H _ g2 Pin.refl ?_
  have hst : (start N (v0 :: vs))[0]? = some (some v0) := rfl
  have fin : ∀ (t : T) (v : V) (ρ : Env) (σ : L2.St) (H' : Hp) (t1 : T), ρ[0]? = some (some t1) → Pin [0] (start N (v0 :: vs)) σ → GX W S1 ρ σ [t] [v] H' → GX W S [] [] (t :: t1 :: ds.map .sh) (v :: v0 :: vs) H' := fun t v ρ σ H' t1 e p g3 => by
    obtain ⟨v1, e1, g4⟩ := g3.take e
    have e2 := p 0 (by simp)
    rw [hst, e1] at e2
    cases e2
    have g5 := GX.rot (ts := [t1]) (vs := [v0]) g4.noEnv rfl
    obtain ⟨S2, as2, bs2, g6⟩ := g5
    exact (g6.endS (hr1.mono g6.s0)).join hu
  generalize m _ = o at k1 ⊢
  cases o with
  | bad => exact k1
  | nx ρ =>
    simp only at k1
    split at k1
    · rename_i t1 e
      exact fun σ' H' g3 p => k1.2 .non H' (fin (.sh .non) .non ρ σ' H' t1 e p (g3.pushC (S := H') (d := .non) (v := .non) rfl rfl))
    · exact k1.elim
  | rt t ρ =>
    simp only at k1
    split at k1
    · rename_i t1 e
      exact fun v σ' H' g3 p => k1.2 v H' (fin t v ρ σ' H' t1 e p g3)
    · exact k1.elim
  | bk ρ => exact k1.elim
  | ct ρ => exact k1.elim
  | ex x ρ => exact fun c d σ' H' g3 _ hx => k1 c d H' (g3.noEnv.join hu) hx
def FnGd (P : Program) (w : World) (K : PySem.W.Frag) (mg : Str → Option Value) (base : Heap) (x : Str) (k : Nat) (ps : List Str) (sp : Sp) : Prop :=
  ∃ (f : Addr) (fd : FuncData), FnG P w K mg base (L2.CX P w) k f fd ps sp ∧ mg x = some (.ref f) ∧ PySem.W.keepIn K (.ref f) = true ∧ Binds K fd ps []
theorem fnG_def {x : Str} {st : Stmt} {N ps : List Str} {k : Nat} {m : SM} (F : Dd K mg x st ps) (Sc : FnScope N ps (defScope st))
    (hbody : ∀ (f : Addr) (cdv : Value) (A : Around), A.guards = some [] → ∀ (outer : List PySem.Env) (s : Shared) (H : Hp) (E : XK), Room k (A.deeper (envOfC x (defScope st) s.heap.objs.size f cdv)) →
      ∃ t, PSs (cxOf (L2.CX P w) P w K mg base N x (defScope st) f cdv A outer s H E) (defBody st) t ∧ SS ct (fun c d _ H => E c d H) [] t m) : FnGd P w K mg base x (k + 1) ps (spM ct ps.length (mFun ps.length N.length m)) := by
  obtain ⟨f, fd, F, hm, hb⟩ := F
  exact ⟨f, fd, fn_mkG F Sc (hbody f), hm, F.kp, hb⟩
theorem fnG_defI {x : Str} {st : Stmt} {N ps : List Str} {k : Nat} {m : SM} (F : Dd K mg x st ps) (Sc : FnScope N ps (defScope st)) (hps : 0 < ps.length)
    (hbody : ∀ (f : Addr) (cdv : Value) (A : Around), A.guards = some [] → ∀ (outer : List PySem.Env) (s : Shared) (H : Hp) (E : XK), Room k (A.deeper (envOfC x (defScope st) s.heap.objs.size f cdv)) →
      ∃ t, PSs (cxOf (L2.CX P w) P w K mg base N x (defScope st) f cdv A outer s H E) (defBody st) t ∧ SS ct (fun c d _ H => E c d H) [0] t m) : FnGd P w K mg base x (k + 1) ps (spM ct ps.length (mFunI ps.length N.length m)) := by
  obtain ⟨f, fd, F, hm, hb⟩ := F
  exact ⟨f, fd, fn_mkGI F Sc hps (hbody f), hm, F.kp, hb⟩
end
section
open PySem.Spec PyProof.Rows
variable {X : Cx} {CX : CXT} {k : Nat} {f : Addr} {fd : FuncData} {ps : List Str} {sp : Sp} {E : L2.St → XK} {x : Str} {e : Expr} {es : List Expr} {p pos : Pos} {t : TA}
theorem run_fnG {pins : List (Addr × Obj)} {σ : L2.St} {H : Hp} {s : Shared} {Q : VK} {us : List Value} {vs : List V} (F : FnG X.prog X.w X.K X.mg X.base CX k f fd ps sp) (hg : X.A.guards = some []) (hl : us.length = ps.length) (hr : Room k X.A) (hb : Binds X.K fd ps []) (hx : PassesAt CX X σ (E σ))
    (I : Inv X pins σ H s) (r : Vals vs us) (h : sp vs H Q (E σ)) : wpAny (model X.prog X.w) X.A (call (.ref f) us) (EP X pins σ Q) X.xe s := by
  have b := hb s us I.kIn (by rw [List.append_nil]; exact hl)
  rw [List.append_nil] at b
  refine wpAny_call (codeAny_mono (F.run X.A hg hr X.stack s H I.env0 ⟨us, []⟩ us vs b r Q (E σ) h) fun r s' hq => ?_)
  cases r with
  | error e => exact hx pins H s e s' I hq
  | ok fl =>
    cases fl with
    | ret u => exact I.after hq
    | next => exact False.elim hq
    | brk => exact False.elim hq
    | cont => exact False.elim hq
theorem pe_callSG (F : FnG X.prog X.w X.K X.mg X.base CX k f fd ps sp) (hgd : X.A.guards = some []) (hl : ∀ vs H Q E, sp vs H Q E → vs.length = ps.length) (hr : Room k X.A) (hg : Gl X x) (hm : X.mg x = some (.ref f)) (hk : PySem.W.keepIn X.K (.ref f) = true) (hb : Binds X.K fd ps []) (hx : ∀ σ, PassesAt CX X σ (E σ))
    (ha : PA X (e :: es) t) (hdb : (x == ("__debug__" : Str)) = false := by decide) (he : starEach (e :: es) X.env = (false, eval e X.env) :: starEach es X.env := by rfl) (hpl : (backTo pos (starEach es X.env)).any (·.1) = false := by rfl) :
    PE X (.Call (.Name x p) (e :: es) [] pos) (tCallS sp E t) := by
  refine ⟨fun pins s σ H Q I h => ?_⟩
  refine wpAny_Call_Name_kw (ld_glob I hg hm ?_ hdb)
  refine PySem.W.callWith_K (h₀ := X.base) I.ok.mod.kin hk (thn (ha.run pos pins s σ H _ I h) fun us s1 ⟨vs, H1, I1, r, q⟩ => ⟨I1.kIn, ?_⟩) he hpl
  exact run_fnG F hgd (by show us.length = _; rw [← r.length]; exact hl _ _ _ _ q) hr hb (hx σ) I1 r q
end
end
end Z

namespace Z
noncomputable section
open PySem L2
variable {ct : CT} {Wx : XW} {W S0 S H H' : Hp} {ρ : Env} {σ σ0 : St} {t u : T} {ts us tm : List T} {v w : V} {vs ws vm : List V} {as bs : List Addr} {i : Nat} {d : D} {pin : List Nat} {D0 : Ends}
/-- x[:hi], hi with effects -/
def eSlT (a hi : EM) : EM := fun ρ => (a ρ).bnd fun t ρ => (hi ρ).bnd fun u ρ => optO (t.els.bind fun ds => u.d.intO.bind fun k => some (.ol (cutD ds none (some k)))) ρ
@[simp ↓] theorem eSlT_run (a hi : EM) (ρ : Env) : eSlT a hi ρ = ((a ρ).bnd fun t ρ => (hi ρ).bnd fun u ρ => optO (t.els.bind fun ds => u.d.intO.bind fun k => some (.ol (cutD ds none (some k)))) ρ) := rfl
theorem se_slT {K : PySem.W.Frag} {ta tl : TE} {a hi : EM} (ha : SE ct Wx ta a) (hl : SE ct Wx tl hi) : SE ct Wx (tSl (rSlL K) ta tNoPart (tPart tl)) (eSlT a hi) := fun W S0 ρ σ tm vm H Q g k => by
  refine ha W S0 ρ σ tm vm H _ g ((Out.P_bnd.mp k).mono (fun t ρ1 k1 v H1 g1 => ?_) fun _ _ h => h)
  refine hl W S0 ρ1 σ (t :: tm) (v :: vm) H1 _ g1 ((Out.P_bnd.mp k1).mono (fun u ρ2 k2 w H2 g2 => ?_) fun _ _ h => XE.pop (ts := [t]) (vs := [v]) h rfl)
  obtain ⟨z, e, k⟩ := P_opt k2
  obtain ⟨ts, e2, e⟩ := some_bind e
  obtain ⟨i, e3, e⟩ := some_bind e
  cases e
  have q := g2.tmp
  rw [intO_int e3] at q
  cases q
  refine ⟨i, rfl, ?_⟩
  obtain ⟨p, xs, rfl, h1, h2, g3⟩ := g2.pop1.els e2
  refine ⟨p, xs, rfl, .of h1, fun q hq => k _ _ ?_⟩
  have g4 := g3.sub (us := cutD ts none (some i)) (ws := cutV xs none (some i)) h2 fun S H b hb => hb.cut
  exact g4.newL (by unfold cutD cutV; simp [h2]) hq
end
end Z

namespace Z
noncomputable section
open PySem L2 PyProof.Rows
section
variable {X : Cx}
/-- sorted(xs), xs of data that are alike, any length -/
def rSortedD (K : PySem.W.Frag) : List V → Hp → VK → Prop := fun xs H Q => ∃ (a : Addr) (ps : List (V × PyData)), xs = [.ref a] ∧ SqL K H a (ps.map Prod.fst) ∧ (∀ p ∈ ps, Dp K H p.1 p.2) ∧
  PySem.W.AllAlike (ps.map Prod.snd) ∧ PySem.W.Sortable (ps.map Prod.snd) ∧ (∀ p ∈ ps, p.2.depth ≤ 60) ∧ ∀ q : Addr, H q = none → Q (.ref q) (upd H q (.lst ((ps.mergeSort (PySem.W.dataLe false Prod.snd)).map Prod.fst)))
theorem vals_each : ∀ {ps : List (V × PyData)} {us : List Value}, Vals (ps.map Prod.fst) us → PySem.W.EachIs (fun v (p : V × PyData) => RelV p.1 v) us ps
  | [], us, r => by
    rw [List.map_nil] at r
    cases r
    exact .nil
  | p :: ps, us, r => by
    rw [List.map_cons] at r
    cases r with
    | cons h q => exact .cons h (vals_each q)
theorem each_vals : ∀ {ps : List (V × PyData)} {us : List Value}, PySem.W.EachIs (fun v (p : V × PyData) => RelV p.1 v) us ps → Vals (ps.map Prod.fst) us
  | [], _, .nil => .nil
  | _ :: _, _, .cons h q => .cons h (each_vals q)
theorem each_with {α β : Type} {R : α → β → Prop} {P : β → Prop} : ∀ {as : List α} {bs : List β}, PySem.W.EachIs R as bs → (∀ b ∈ bs, P b) → PySem.W.EachIs (fun a b => R a b ∧ P b) as bs
  | _, _, .nil, _ => .nil
  | _, _, .cons h q, k => .cons ⟨h, k _ List.mem_cons_self⟩ (each_with q fun b hb => k b (List.mem_cons_of_mem _ hb))
theorem call_sortedD (hu : X.A.units + 65 < cLine) : CallR X (.builtin "sorted") (rSortedD X.K) := by
  intro pins s σ H vs us Q I r h
  obtain ⟨a, ps, rfl, hs, hd, hal, hsk, hdp, q⟩ := h
  obtain ⟨its, rv, hl, hz⟩ := I.list hs
  rw [Vals.ref1 r]
  have e := vals_each rv
  refine PySem.W.sorted_data (R := fun v (p : V × PyData) => RelV p.1 v) (bs := ps) (enc := Prod.snd) hl.isList e ?_ hal hsk ?_ ?_ fun out h1 h2 => ?_
  · exact (each_with e hd).mono fun v p ⟨h1, h2⟩ => Dp.reads I p.2 p.1 v h2 h1
  · rw [List.length_map] at hz; exact hz
  · intro p hp
    have := hdp p hp
    omega
  · have hv := each_vals h2
    obtain ⟨ep, he'⟩ := PyProof.Rows.sortedAll_at s.heap its out.toArray
    have hlen : ((ps.mergeSort (PySem.W.dataLe false Prod.snd)).map Prod.fst).length ≤ sizeLine := by
      rw [List.length_map, List.length_mergeSort]
      rw [List.length_map] at hz
      exact hz
    exact ⟨.ref _, upd H (s.heap.objs.size + 1) (.lst ((ps.mergeSort (PySem.W.dataLe false Prod.snd)).map Prod.fst)), I.laid (t' := s.toks) (fun _ _ => PyProof.Rows.sortedAll_old) (Nat.le_succ _) ⟨hlen, out, ep, hv, he'⟩, rfl, q _ (I.hok.fresh (Nat.le_succ _))⟩
end
theorem pyl_map : ∀ l : List D, pyl l = l.map D.py
  | [] => rfl
  | d :: l => by simp only [pyl, List.map_cons, pyl_map l]
def srtD (l : List D) : List D := l.mergeSort (PySem.W.dataLe false D.py)
def SrtOk (l : List D) : Prop := datl 59 l = true ∧ PySem.W.AllAlike (l.map D.py) ∧ PySem.W.Sortable (l.map D.py)
instance (l : List D) : Decidable (SrtOk l) := Classical.propDecidable _
def sortT : List T → Option T
  | [t] => match t.d with
    | .lst l => if SrtOk l then some (.ol ((srtD l).map .sh)) else none
    | _ => none
  | _ => none
theorem datl_mem {n : Nat} : ∀ {l : List D} {d : D}, datl n l = true → d ∈ l → d.dat n = true
  | a :: l, d, h, hd => by
    simp only [datl, Bool.and_eq_true] at h
    rcases List.mem_cons.mp hd with rfl | hd
    · exact h.1
    · exact datl_mem h.2 hd
theorem Rpl.zip_of {S : Hp} : ∀ {ps : List (D × V)}, (∀ p ∈ ps, Rp S p.1 p.2) → Rpl S (ps.map Prod.fst) (ps.map Prod.snd)
  | [], _ => by simp [Rpl]
  | p :: ps, h => ⟨p.2, ps.map Prod.snd, rfl, h p List.mem_cons_self, Rpl.zip_of fun q hq => h q (List.mem_cons_of_mem _ hq)⟩
theorem Rpl.zip_mem {S : Hp} : ∀ {l : List D} {vs : List V}, Rpl S l vs → ∀ p ∈ l.zip vs, Rp S p.1 p.2
  | [], _, _, p, h => by simp at h
  | d :: l, _, ⟨v, r, e, h1, h2⟩, p, h => by
    subst e
    rw [List.zip_cons_cons] at h
    rcases List.mem_cons.mp h with rfl | h
    · exact h1
    · exact Rpl.zip_mem h2 p h
theorem Rtl.ofShs {S H : Hp} : ∀ {l : List D} {vs : List V} {b : List Addr}, Rtl S H (l.map .sh) vs b → b = [] ∧ Rpl S l vs
  | [], _, _, ⟨h1, h2⟩ => ⟨h2, h1⟩
  | d :: l, _, _, ⟨v, r, b, c, e1, e2, ⟨e3, h3⟩, h4⟩ => by
    obtain ⟨q1, q2⟩ := Rtl.ofShs h4
    subst e3 q1
    exact ⟨e2, v, r, e1, h3, q2⟩
theorem Rtl.toShs {S H : Hp} : ∀ {l : List D} {vs : List V}, Rpl S l vs → Rtl S H (l.map .sh) vs []
  | [], _, h => ⟨h, rfl⟩
  | d :: l, _, ⟨v, r, e, h1, h2⟩ => ⟨v, r, [], [], e, rfl, ⟨rfl, h1⟩, Rtl.toShs h2⟩
theorem ce_sorted {K : PySem.W.Frag} : CallE (rSortedD K) sortT := fun W S0 ρ σ tm vm H ts vs z Q g e0 e k => by
  match ts, vs, e0, e, g with
  | [t], [v], _, e, g =>
    unfold sortT at e
    simp only at e
    split at e
    case h_2 => cases e
    rename_i l hl
    obtain ⟨⟨h1, h2, h3⟩, e⟩ := ite_some e
    cases e
    have g1 := g.frz
    rw [hl] at g1
    obtain ⟨a, xs, rfl, ha, hlen, g2⟩ := g1.els (ts := l.map .sh) rfl
    have hrp : Rpl H l xs := by
      have := g2.tmps (by simpa using hlen)
      rw [dl_eq, List.map_map] at this
      have q : l.map (T.d ∘ T.sh) = l := List.map_id'' (fun _ => rfl) l
      rwa [q] at this
    rw [List.length_map] at hlen
    obtain ⟨zs, hzs⟩ : ∃ zs, zs = l.zip xs := ⟨_, rfl⟩
    have hz1 : zs.map Prod.fst = l := by rw [hzs]; exact List.map_fst_zip (by omega)
    have hz2 : zs.map Prod.snd = xs := by rw [hzs]; exact List.map_snd_zip (by omega)
    have hzr : ∀ p ∈ zs, Rp H p.1 p.2 := by rw [hzs]; exact hrp.zip_mem
    have hzd : ∀ p ∈ zs, p.1.dat 59 = true := fun p hp => datl_mem h1 (by rw [← hz1]; exact List.mem_map.mpr ⟨p, hp, rfl⟩)
    have e1 : (zs.map fun p => (p.2, p.1.py)).map Prod.fst = xs := by rw [List.map_map]; exact hz2
    have e2 : (zs.map fun p => (p.2, p.1.py)).map Prod.snd = l.map D.py := by rw [List.map_map, ← hz1, List.map_map]; rfl
    refine ⟨a, zs.map fun p => (p.2, p.1.py), rfl, by rw [e1]; exact .of ha, fun p hp => ?_, by rw [e2]; exact h2, by rw [e2]; exact h3, fun p hp => ?_, fun q hq => ?_⟩
    · obtain ⟨p', hp', rfl⟩ := List.mem_map.mp hp
      exact (hzr p' hp').dp (hzd p' hp')
    · obtain ⟨p', hp', rfl⟩ := List.mem_map.mp hp
      have := (dat_lay (hzd p' hp')).2
      show p'.1.py.depth ≤ 60
      omega
    · have m1 : ((zs.map fun p => (p.2, p.1.py)).mergeSort (PySem.W.dataLe false Prod.snd)).map Prod.fst = (zs.mergeSort (PySem.W.dataLe false fun p => p.1.py)).map Prod.snd := by
        rw [← List.map_mergeSort (f := fun p : D × V => (p.2, p.1.py)) (r := PySem.W.dataLe false fun p : D × V => p.1.py) (s := PySem.W.dataLe false Prod.snd) (fun a _ b _ => rfl), List.map_map]
        rfl
      have m2 : srtD l = (zs.mergeSort (PySem.W.dataLe false fun p => p.1.py)).map Prod.fst := by
        unfold srtD
        rw [← hz1, ← List.map_mergeSort (f := (Prod.fst : D × V → D)) (r := PySem.W.dataLe false fun p : D × V => p.1.py) (s := PySem.W.dataLe false D.py) (fun a _ b _ => rfl)]
      rw [m1]
      refine k _ _ ?_
      have g3 := g2.sub (us := (srtD l).map .sh) (ws := (zs.mergeSort (PySem.W.dataLe false fun p => p.1.py)).map Prod.snd) (by simpa using hlen) fun S H' b hb => by
        obtain ⟨rfl, hr⟩ := Rtl.ofShs hb
        refine ⟨[], Rtl.toShs ?_, fun h => h, fun x h => h⟩
        rw [m2]
        refine Rpl.zip_of fun p hp => ?_
        have hp' := List.mem_mergeSort.mp hp
        rw [hzs] at hp'
        exact hr.zip_mem p hp'
      exact g3.newL (by rw [m2]; simp) hq
end
end Z

namespace Z
noncomputable section
open PySem L2 PyProof.Rows
/-! ### x is True, x is False, for any x -/
def rIsB : R2 := fun x y H Q => ∃ b, y = .bl b ∧ Q (.bl (decide (x = .bl b))) H
def rIsNotB : R2 := fun x y H Q => ∃ b, y = .bl b ∧ Q (.bl (!decide (x = .bl b))) H
section
variable {X : Cx}
theorem op_isB : OpR X (compareOp .Is) rIsB := by
  intro pins s σ H x y v u Q I rx ry h
  obtain ⟨b, rfl, q⟩ := h
  cases (show u = Value.bool b from ry)
  have other : plainIs v (.bool b) = true → v ≠ .bool b → x ≠ .bl b → wpAny (model X.prog X.w) X.A (compareOp .Is v (.bool b)) (EP X pins σ Q) X.xe s := fun hp hv hx =>
    wpAny_is_other hp hv ⟨.bl false, H, I, rfl, by simpa [hx] using q⟩
  cases x
  case bl a =>
    cases (show v = Value.bool a from rx)
    by_cases e : a = b
    · subst e
      exact wpAny_is_self rfl ⟨.bl true, H, I, rfl, by simpa using q⟩
    · exact wpAny_is_other rfl (fun z => e (Value.bool.inj z)) ⟨.bl false, H, I, rfl, by simpa [e] using q⟩
  all_goals first
    | (cases rx; exact other rfl (fun z => nomatch z) (fun z => nomatch z))
    | (obtain ⟨t, rfl⟩ := rx; exact other rfl (fun z => nomatch z) (fun z => nomatch z))
theorem op_isNotB : OpR X (compareOp .IsNot) rIsNotB := by
  intro pins s σ H x y v u Q I rx ry h
  obtain ⟨b, rfl, q⟩ := h
  cases (show u = Value.bool b from ry)
  have other : plainIs v (.bool b) = true → v ≠ .bool b → x ≠ .bl b → wpAny (model X.prog X.w) X.A (compareOp .IsNot v (.bool b)) (EP X pins σ Q) X.xe s := fun hp hv hx =>
    wpAny_isNot_other hp hv ⟨.bl true, H, I, rfl, by simpa [hx] using q⟩
  cases x
  case bl a =>
    cases (show v = Value.bool a from rx)
    by_cases e : a = b
    · subst e
      exact wpAny_isNot_self rfl ⟨.bl false, H, I, rfl, by simpa using q⟩
    · exact wpAny_isNot_other rfl (fun z => e (Value.bool.inj z)) ⟨.bl true, H, I, rfl, by simpa [e] using q⟩
  all_goals first
    | (cases rx; exact other rfl (fun z => nomatch z) (fun z => nomatch z))
    | (obtain ⟨t, rfl⟩ := rx; exact other rfl (fun z => nomatch z) (fun z => nomatch z))
end
def D.isBl : D → Bool → Bool
  | .bl a, b => a == b
  | _, _ => false
theorem isBl_V {S : Hp} {d : D} {v : V} {b : Bool} (h : Rp S d v) : decide (v = .bl b) = d.isBl b := by
  cases d with
  | non => cases h; rfl
  | bl a => cases h; cases a <;> cases b <;> rfl
  | int i => cases h; rfl
  | str s => cases h; rfl
  | lst l => obtain ⟨a, vs, rfl, _⟩ := h; rfl
  | tup l => obtain ⟨a, vs, rfl, _⟩ := h; rfl
  | dic ks l => obtain ⟨a, vs, rfl, _⟩ := h; rfl
def oIsB (neg : Bool) : D → D → Option D := fun x y => match y with
  | .bl b => some (.bl (if neg then !x.isBl b else x.isBl b))
  | _ => none
theorem os_isB : OpS rIsB (oIsB false) := fun H dx dy x y d hx hy e Q q => by
  cases dy <;> first | (cases e; done) | skip
  cases e
  cases hy
  refine ⟨_, rfl, ?_⟩
  rw [isBl_V hx]
  exact q _ H (fun _ _ h => h) rfl
theorem os_notB : OpS rIsNotB (oIsB true) := fun H dx dy x y d hx hy e Q q => by
  cases dy <;> first | (cases e; done) | skip
  cases e
  cases hy
  refine ⟨_, rfl, ?_⟩
  rw [isBl_V hx]
  exact q _ H (fun _ _ h => h) rfl
@[simp] theorem isB_run (x : D) (b : Bool) : oIsB false x (.bl b) = some (.bl (x.isBl b)) := rfl
@[simp] theorem isBl_bl (a b : Bool) : (D.bl a).isBl b = (a == b) := rfl
@[simp] theorem isBl_int (i : Int) (b : Bool) : (D.int i).isBl b = false := rfl
@[simp] theorem isBl_str (i : Str) (b : Bool) : (D.str i).isBl b = false := rfl
@[simp] theorem isBl_non (b : Bool) : D.non.isBl b = false := rfl
@[simp] theorem isBl_lst (l : List D) (b : Bool) : (D.lst l).isBl b = false := rfl
@[simp] theorem isBl_tup (l : List D) (b : Bool) : (D.tup l).isBl b = false := rfl
/-! ### < of data that are alike -/
def rLtD (K : PySem.W.Frag) : R2 := fun x y H Q => ∃ d e, Dp K H x d ∧ Dp K H y e ∧ PySem.W.alike d e = true ∧ d ≠ .none ∧ d.depth ≤ 60 ∧ Q (.bl (PySem.W.dataLt d e)) H
theorem op_ltD {X : Cx} (hu : X.A.units + 65 < cLine) : OpR X (compareOp .Lt) (rLtD X.K) := by
  intro pins s σ H x y v u Q I rx ry h
  obtain ⟨d, e, h1, h2, h3, h4, h5, q⟩ := h
  obtain ⟨as, r1⟩ := Dp.reads I d x v h1 rx
  obtain ⟨bs, r2⟩ := Dp.reads I e y u h2 ry
  have R := PySem.W.rcLt_alike d e X.A s v u as bs r1 r2 h3 h4 (by omega)
  exact R X.prog X.w X.xe (EP X pins σ Q) ⟨.bl _, H, I, rfl, q⟩
def LtOk (x y : D) : Prop := x.dat 60 = true ∧ y.dat 60 = true ∧ PySem.W.alike x.py y.py = true ∧ x.py ≠ .none
instance (x y : D) : Decidable (LtOk x y) := Classical.propDecidable _
def oLtD : D → D → Option D := fun x y => if LtOk x y then some (.bl (PySem.W.dataLt x.py y.py)) else none
theorem os_ltD {K : PySem.W.Frag} : OpS (rLtD K) oLtD := fun H dx dy x y d hx hy e Q q => by
  obtain ⟨⟨h1, h2, h3, h4⟩, e⟩ := ite_some e
  cases e
  exact ⟨_, _, hx.dp h1, hy.dp h2, h3, h4, (dat_lay h1).2, q _ H (fun _ _ h => h) rfl⟩
@[simp] theorem ltD_int (a b : Int) : oLtD (.int a) (.int b) = some (.bl (decide (a < b))) := by
  unfold oLtD
  rw [if_pos ⟨rfl, rfl, rfl, by simp [D.py]⟩]
  congr 2
  exact PySem.W.dataLt_int a b
theorem ltD_ints (a b : List Int) : oLtD (.lst (a.map .int)) (.lst (b.map .int)) = some (.bl (decide (a < b))) := by
  have hp : ∀ l : List Int, pyl (l.map D.int) = l.map PyData.int := fun l => by
    rw [pyl_map, List.map_map]; rfl
  have ha : PySem.W.alike (D.lst (a.map .int)).py (D.lst (b.map .int)).py = true := by
    show PySem.W.alikeAll (pyl (a.map D.int)) (pyl (b.map D.int)) = true
    rw [hp, hp]
    exact PySem.W.alike_ints a b
  unfold oLtD
  rw [if_pos ⟨dat_ints a, dat_ints b, ha, by simp [D.py]⟩]
  congr 2
  show PySem.W.dataLt (.list (pyl (a.map D.int))) (.list (pyl (b.map D.int))) = _
  rw [PySem.W.dataLt_list, hp, hp]
  exact PySem.W.dataLt_ints a b
/-! ### sorted ints, sorted rows -/
def isrt (l : List Int) : List Int := l.mergeSort fun a b => decide (a ≤ b)
theorem srt_ints (l : List Int) : srtD (l.map .int) = (isrt l).map .int := by
  unfold srtD isrt
  have := PySem.W.dataLe_int (β := Int) (fun b => b)
  exact (List.map_mergeSort (s := PySem.W.dataLe false D.py) fun a _ b _ => (congrFun (congrFun this a) b).symm).symm
theorem srtOk_ints (l : List Int) : SrtOk (l.map .int) := by
  refine ⟨dat_ints l, ?_, ?_⟩
  · rw [List.map_map]
    exact PySem.W.AllAlike.of fun _ _ => rfl
  · rw [List.map_map]
    exact PySem.W.Sortable.others fun _ => ⟨fun h => (nomatch h), fun _ h => (nomatch h)⟩
def rsrt (l : List (List Int)) : List (List Int) := l.mergeSort fun a b => decide (a ≤ b)
theorem srt_rows (l : List (List Int)) : srtD (l.map D.ints) = (rsrt l).map D.ints := by
  unfold srtD rsrt
  refine (List.map_mergeSort (s := PySem.W.dataLe false D.py) fun a _ b _ => ?_).symm
  have := PySem.W.dataLe_rows (β := List Int) (fun b => b)
  have hp : ∀ l : List Int, pyl (l.map D.int) = l.map PyData.int := fun l => by
    rw [pyl_map, List.map_map]; rfl
  have h2 := congrFun (congrFun this a) b
  rw [← h2]
  show (!PySem.W.dataLt (.list (b.map .int)) (.list (a.map .int))) = !PySem.W.dataLt (.list (pyl (b.map D.int))) (.list (pyl (a.map D.int)))
  rw [hp, hp]
theorem srtOk_rows (l : List (List Int)) : SrtOk (l.map D.ints) := by
  refine ⟨?_, ?_, ?_⟩
  · induction l with
    | nil => rfl
    | cons a l ih =>
      simp only [List.map_cons, datl, ih, Bool.and_true]
      exact dat_ints a
  · rw [List.map_map]
    refine PySem.W.AllAlike.of fun a b => ?_
    show PySem.W.alikeAll (pyl (a.map D.int)) (pyl (b.map D.int)) = true
    rw [pyl_map, pyl_map, List.map_map, List.map_map]
    exact PySem.W.alike_ints a b
  · rw [List.map_map]
    exact PySem.W.Sortable.others fun _ => ⟨fun h => (nomatch h), fun _ h => (nomatch h)⟩
theorem sortT_run (t : T) : sortT [t] = match t.d with
  | .lst l => if SrtOk l then some (.ol ((srtD l).map .sh)) else none
  | _ => none := rfl
@[simp] theorem sortT_ints {t : T} {l : List Int} (h : t.d = .lst (l.map .int)) : sortT [t] = some (.ol ((isrt l).map ig)) := by
  rw [sortT_run, h]
  simp only
  rw [if_pos (srtOk_ints l), srt_ints, map_sh_int]
@[simp] theorem sortT_rows {t : T} {l : List (List Int)} (h : t.d = .lst (l.map D.ints)) : sortT [t] = some (.ol ((rsrt l).map rg)) := by
  rw [sortT_run, h]
  simp only
  rw [if_pos (srtOk_rows l), srt_rows, map_sh_ints]
end
end Z

namespace Z
noncomputable section
open PySem L2
variable {ct : CT} {Wx : XW} {W S0 S H H' : Hp} {ρ : Env} {σ σ0 : St} {t u : T} {ts us tm its : List T} {v w : V} {vs ws vm : List V} {as bs : List Addr} {i : Nat} {d : D} {pin : List Nat} {D0 : Ends} {J : It}
/-! ### comprehensions of two clauses -/
theorem wipe_sub {σ : St} {a b : List Nat} (h : ∀ i ∈ b, i ∈ a) : wipe (wipe σ b) a = wipe σ a := by
  apply List.ext_getElem?
  intro j
  by_cases hj : j ∈ a
  · by_cases hl : j < σ.length
    · rw [wipe_in hj (by simpa [wipe_length] using hl), wipe_in hj hl]
    · rw [List.getElem?_eq_none (by rw [wipe_length, wipe_length]; omega), List.getElem?_eq_none (by rw [wipe_length]; omega)]
  · rw [wipe_get hj, wipe_get hj, wipe_get fun h' => hj (h _ h')]
theorem lc_J1 {g : TG} {tt : TT} {te : TE} {slots : List Nat} {σ : St} {H0 : Hp} {D : Addr} {Qd : Hp → Prop} (jo : JOk S J its) (Pv : Nat → Hp → Prop) (h0 : Pv 0 H0) (hS : ∀ i H, Pv i H → Same S H)
    (hs : ∀ i t x H H', its[i]? = some t → Pv i H → ((H' = H ∧ ∃ d, t = .sh d ∧ Rp S d x) ∨ ∃ p es vs, t = .ot (es.map .sh) ∧ x = .ref p ∧ H p = none ∧ H' = upd H p (.tup vs) ∧ Rpl S es vs) → g x (wipe σ slots) H' fun σ2 H2 => wipe σ2 slots = wipe σ slots ∧ tt σ2 H2 fun b H3 =>
      if b = true then te σ2 H3 fun y H4 => ∃ acc, H4 D = some (.lst acc) ∧ acc.length < sizeLine ∧ Pv (i + 1) (upd H4 D (.lst (acc ++ [y]))) else Pv (i + 1) H3) (hd : ∀ H, Pv its.length H → Qd H) :
    ∃ W : Nat → Nat → Hp → Prop, (∃ m, W 0 m H0) ∧ ∀ i m H, W i m H →
      (J.stop i H ∧ Qd H) ∨ (J.go i H ∧ ∃ Nx : Hp → Prop, (∀ H', Nx H' → ∃ m', m' < m ∧ W (i + 1) m' H') ∧ ∀ x H', J.yld i H x H' → g x (wipe σ slots) H' fun σ2 H2 => wipe σ2 slots = wipe σ slots ∧ tt σ2 H2 fun b H3 =>
        if b = true then te σ2 H3 fun y H4 => ∃ acc, H4 D = some (.lst acc) ∧ acc.length < sizeLine ∧ Nx (upd H4 D (.lst (acc ++ [y]))) else Nx H3) := by
  refine ⟨fun i m H => m = its.length - i ∧ i ≤ its.length ∧ Pv i H, ⟨its.length, by simp, Nat.zero_le _, h0⟩, ?_⟩
  rintro i m H ⟨rfl, hi, p⟩
  have e := hS i H p
  by_cases hlt : i < its.length
  · refine .inr ⟨jo.go i H e hlt, Pv (i + 1), fun H' p' => ⟨its.length - (i + 1), by omega, rfl, hlt, p'⟩, fun x H' y => ?_⟩
    obtain ⟨t, e1, y⟩ := jo.yld i H x H' e hlt y
    exact hs i t x H H' e1 p y
  · have e2 : i = its.length := by omega
    subst e2
    exact .inl ⟨jo.stop _ H e (Nat.le_refl _), hd H p⟩
def lcL2 (slots slots1 : List Nat) (b : BM) (tst : EMb) (src1 : IM) (b1 : BM) (tst1 : EMb) (elt : EM) : List T → List T → Env → Out (List T)
  | [], acc, ρ => .ok acc ρ
  | t :: ts, acc, ρ => match b t ρ with
    | none => .bad
    | some ρ => (tst ρ).bnd fun c ρ => if c = true then (src1 ρ).bnd fun its1 ρ => (lcL slots1 b1 tst1 elt its1 acc (wipeE ρ slots1)).bnd fun acc ρ => lcL2 slots slots1 b tst src1 b1 tst1 elt ts acc (wipeE ρ slots)
        else lcL2 slots slots1 b tst src1 b1 tst1 elt ts acc (wipeE ρ slots)
def eLC2 (slots slots1 : List Nat) (src : IM) (b : BM) (tst : EMb) (src1 : IM) (b1 : BM) (tst1 : EMb) (elt : EM) : EM := fun ρ => (src ρ).bnd fun its ρ1 => ((lcL2 slots slots1 b tst src1 b1 tst1 elt its [] (wipeE ρ1 slots)).nox).bnd fun acc ρ2 => .ok (.ol acc) (keepE ρ1 slots (wipeE ρ2 slots))
@[simp ↓] theorem eLC2_run (slots slots1 : List Nat) (src : IM) (b : BM) (tst : EMb) (src1 : IM) (b1 : BM) (tst1 : EMb) (elt : EM) (ρ : Env) : eLC2 slots slots1 src b tst src1 b1 tst1 elt ρ = ((src ρ).bnd fun its ρ1 => ((lcL2 slots slots1 b tst src1 b1 tst1 elt its [] (wipeE ρ1 slots)).nox).bnd fun acc ρ2 => .ok (.ol acc) (keepE ρ1 slots (wipeE ρ2 slots))) := rfl
theorem se_lc2 {slots slots1 : List Nat} {wi wi1 : TI} {g g1 : TG} {tt tt1 : TT} {te : TE} {src src1 : IM} {b b1 : BM} {tst tst1 : EMb} {elt : EM} (hsub : ∀ i ∈ slots1, i ∈ slots) (hi : SI ct Wx wi src) (hg : SG slots g b) (ht : SET ct NoX tt tst) (hi1 : SI ct NoX wi1 src1) (hg1 : SG slots1 g1 b1) (ht1 : SET ct NoX tt1 tst1) (he : SE ct NoX te elt) :
    SE ct Wx (tLc2 wi g tt wi1 g1 tt1 te slots slots1) (eLC2 slots slots1 src b tst src1 b1 tst1 elt) := fun W S0 ρ σ tm vm H Q gx k => by
  refine hi W S0 ρ σ tm vm H _ gx ((Out.P_bnd.mp k).mono (fun its ρ1 k1 J S H1 hu g1' jo => ?_) fun _ _ h => h)
  have k2 := P_nox (Ψ' := fun _ _ => False) (Out.P_bnd.mp k1)
  intro D hD
  obtain ⟨S1, as, bs, hu1, g1'⟩ := g1'.up
  have hk : ∀ (i : Nat) d, ρ1[i]? = some (some (.sh d)) → ∃ v, σ[i]? = some (some v) ∧ Rp S1 d v := fun i d e => by
    obtain ⟨v, b, c, d', e1, _, ⟨_, e3⟩, _⟩ := g1'.re.at e
    exact ⟨v, e1, e3⟩
  have g2 : GX W S1 (wipeE ρ1 slots) (wipe σ slots) (.ol [] :: tm) (.ref D :: vm) (upd H1 D (.lst [])) := GX.wipe (GX.newL (ts := []) (vs := []) ⟨S1, as, bs, g1'⟩ rfl hD)
  let Pv : Nat → Hp → Prop := fun i H' => i ≤ its.length ∧ ∃ ρ' acc, GX W S1 ρ' (wipe σ slots) (.ol acc :: tm) (.ref D :: vm) H' ∧ (lcL2 slots slots1 b tst src1 b1 tst1 elt (its.drop i) acc ρ').P (fun acc ρ2 => ∀ H', GX W S1 (wipeE ρ2 slots) (wipe σ slots) (.ol acc :: tm) (.ref D :: vm) H' → Q (.ref D) H') (fun _ _ => False)
  have hP0 : Pv 0 (upd H1 D (.lst [])) := ⟨Nat.zero_le _, _, [], g2, k2.mono (fun acc ρ2 k3 H' g3 => k3 (.ref D) H' ((GX.keep g3 hk).join (hu.trans hu1))) fun _ _ h => h⟩
  refine ⟨fun i m H => m = its.length - i ∧ i ≤ its.length ∧ Pv i H, ⟨its.length, by simp, Nat.zero_le _, hP0⟩, ?_⟩
  rintro i m H ⟨rfl, hile, p⟩
  have e : Same S H := fun a o h => by
    obtain ⟨_, ρ', acc, g', _⟩ := p
    exact g'.under a o (hu1.1 a o h)
  by_cases hlt : i < its.length
  · refine .inr ⟨jo.go i H e hlt, Pv (i + 1), fun H' p' => ⟨its.length - (i + 1), by omega, rfl, hlt, p'⟩, fun x H2 y => ?_⟩
    obtain ⟨t, e1, y⟩ := jo.yld i H x H2 e hlt y
    obtain ⟨hle, ρ', acc, g', k'⟩ := p
    rw [List.drop_eq_getElem_cons hlt, (List.getElem?_eq_some_iff.mp e1).2] at k'
    unfold lcL2 at k'
    split at k'
    · exact k'.elim
    rename_i ρ2 e2
    have y' : ((H2 = H ∧ ∃ d, t = .sh d ∧ Rp S1 d x) ∨ ∃ p es vs, t = .ot (es.map .sh) ∧ x = .ref p ∧ H p = none ∧ H2 = upd H p (.tup vs) ∧ Rpl S1 es vs) := by
      rcases y with ⟨h1, d, h2, h3⟩ | ⟨p, es, vs, h1, h2, h3, h4, h5⟩
      · exact .inl ⟨h1, d, h2, h3.mono hu1.1⟩
      · exact .inr ⟨p, es, vs, h1, h2, h3, h4, h5.mono hu1.1⟩
    refine hg W S1 ρ' _ _ _ H2 t x ρ2 (g'.item y') e2 _ fun σ2 g3 ew => ?_
    rw [wipe_wipe] at ew
    refine ⟨ew, ht W S1 ρ2 σ2 _ _ H2 _ g3 ((Out.P_bnd.mp k').mono (fun c ρ3 k3 H3 g4 => ?_) fun _ _ h => h.elim)⟩
    cases c with
    | false =>
      refine ⟨hlt, wipeE ρ3 slots, acc, ?_, k3⟩
      have := GX.wipe (slots := slots) g4
      rw [ew] at this
      exact this
    | true =>
      rw [if_pos rfl] at k3 ⊢
      refine hi1 W S1 ρ3 σ2 _ _ H3 _ g4 ((Out.P_bnd.mp k3).mono (fun its1 ρ4 k4 J1 S2 H4 hu2 g5 jo1 => ?_) fun _ _ h => h.elim)
      obtain ⟨S3, as3, bs3, hu3, g5⟩ := g5.up
      have g6 : GX W S3 (wipeE ρ4 slots1) (wipe σ2 slots1) (.ol acc :: tm) (.ref D :: vm) H4 := GX.wipe ⟨S3, as3, bs3, g5⟩
      refine lc_J1 (S := S2) jo1 (fun j H' => j ≤ its1.length ∧ ∃ ρ' acc, GX W S3 ρ' (wipe σ2 slots1) (.ol acc :: tm) (.ref D :: vm) H' ∧ (lcL slots1 b1 tst1 elt (its1.drop j) acc ρ').P (fun acc ρ2 => ∀ H', GX W S3 ρ2 (wipe σ2 slots1) (.ol acc :: tm) (.ref D :: vm) H' → Pv (i + 1) H') (fun _ _ => False)) ?_ ?_ ?_ ?_
      · refine ⟨Nat.zero_le _, _, acc, g6, (Out.P_bnd.mp k4).mono (fun acc ρ5 k5 H' g7 => ?_) fun _ _ h => h⟩
        refine ⟨hlt, wipeE ρ5 slots, acc, ?_, k5⟩
        have := GX.wipe (slots := slots) g7
        rw [wipe_sub hsub, ew] at this
        exact this.join (hu2.trans hu3)
      · exact fun j H' ⟨_, ρ', acc, g', _⟩ a o h => g'.under a o (hu3.1 a o h)
      · rintro j t x H' H2 e ⟨hle, ρ', acc, g', k'⟩ y
        have hlt := (List.getElem?_eq_some_iff.mp e).1
        rw [List.drop_eq_getElem_cons hlt, (List.getElem?_eq_some_iff.mp e).2] at k'
        unfold lcL at k'
        split at k'
        · exact k'.elim
        rename_i ρ2 e2
        have y' : ((H2 = H' ∧ ∃ d, t = .sh d ∧ Rp S3 d x) ∨ ∃ p es vs, t = .ot (es.map .sh) ∧ x = .ref p ∧ H' p = none ∧ H2 = upd H' p (.tup vs) ∧ Rpl S3 es vs) := by
          rcases y with ⟨h1, d, h2, h3⟩ | ⟨p, es, vs, h1, h2, h3, h4, h5⟩
          · exact .inl ⟨h1, d, h2, h3.mono hu3.1⟩
          · exact .inr ⟨p, es, vs, h1, h2, h3, h4, h5.mono hu3.1⟩
        refine hg1 W S3 ρ' _ _ _ H2 t x ρ2 (g'.item y') e2 _ fun σ3 g2 ew1 => ?_
        rw [wipe_wipe] at ew1
        refine ⟨ew1, ht1 W S3 ρ2 σ3 _ _ H2 _ g2 ((Out.P_bnd.mp k').mono (fun c ρ3 k3 H3 g3 => ?_) fun _ _ h => h.elim)⟩
        cases c with
        | false =>
          refine ⟨hlt, wipeE ρ3 slots1, acc, ?_, k3⟩
          have := GX.wipe (slots := slots1) g3
          rw [ew1] at this
          exact this
        | true =>
          rw [if_pos rfl] at k3
          refine he W S3 ρ3 σ3 _ _ H3 _ g3 ((Out.P_bnd.mp k3).mono (fun u ρ4 k4 yv H4 g4 => ?_) fun _ _ h => h.elim)
          obtain ⟨hz, k4⟩ := P_ite k4
          have g5 : GX W S3 ρ4 σ3 (.ol acc :: u :: tm) (.ref D :: yv :: vm) H4 := GX.rot (ts := [u]) (vs := [yv]) g4 rfl
          obtain ⟨a, xs, e5, h1, h2, mk⟩ := g5.mutL
          cases e5
          refine ⟨xs, h1, lim_lt (by omega), hlt, wipeE ρ4 slots1, acc ++ [u], ?_, k4⟩
          have g6 := mk (acc ++ [u]) tm (xs ++ [yv]) vm (fun S H b c hb hc => by
            obtain ⟨v', r, c1, c2, h3, rfl, h4, h5⟩ := hc
            cases h3
            have h6 : Rtl S H [u] [yv] c1 := ⟨yv, [], c1, [], rfl, by simp, h4, rfl, rfl⟩
            exact ⟨b ++ c1, c2, hb.append h6, h5, by grind, by grind⟩)
          have := GX.wipe (slots := slots1) g6
          rw [ew1] at this
          exact this
      · rintro H' ⟨_, ρ', acc, g', k'⟩
        rw [List.drop_eq_nil_of_le (Nat.le_refl _)] at k'
        exact k' H' g'
  · have e2 : i = its.length := by omega
    subst e2
    refine .inl ⟨jo.stop _ H e (Nat.le_refl _), ?_⟩
    obtain ⟨_, ρ', acc, g', k'⟩ := p
    rw [List.drop_eq_nil_of_le (Nat.le_refl _)] at k'
    refine k' H ?_
    have := GX.wipe (slots := slots) g'
    rw [wipe_wipe] at this
    exact this
end
end Z

namespace Z
noncomputable section
open PySem PySem.W L2
variable {ct : CT} {Wx : XW} {W S0 S H H' : Hp} {ρ : Env} {σ σ0 : St} {t u : T} {ts us tm : List T} {v w : V} {vs ws vm : List V} {as bs : List Addr} {i : Nat} {d : D} {pin : List Nat} {D0 : Ends}
/-! ### isinstance(e, (C, D, ..)) -/
def rIsXT (K : Frag) (cls : Value) (d : Option Addr) (a : Addr) : List V → Hp → VK → Prop := fun xs H Q => ∃ (D tp : Addr) (cs : List V) (us : List Value) (b : Bool), cls = .ref D ∧ XcC K D ∧
  (d = none ∨ ∃ dd fs, d = some dd ∧ H dd = some (.xd fs)) ∧ xs = [.ref a, .ref tp] ∧ H tp = some (.tup cs) ∧ Paired ClsV cs us ∧ PySem.W.kitAny K (.ref D) us = some b ∧ Q (.bl b) H
theorem call_isXT {X : Cx} {a : Addr} {cls : Value} {d : Option Addr} {oe : Obj} {pn : List (Addr × Obj)} (hz : Zc cls d oe) (hf : ∃ vs, oe.data = .fields vs) : CallR (X.suite a ((a, oe) :: pn)) (.builtin "isinstance") (rIsXT X.K cls d a) := by
  intro pins s σ H xs us Q I r h
  obtain ⟨D, tp, cs, ws, b, rfl, C, hd, rfl, hT, kk, e, q⟩ := h
  match us, r with
  | [ux, ut], .cons rx (.cons rt .nil) =>
    obtain rfl : ux = Value.ref a := rx
    obtain rfl : ut = Value.ref tp := rt
    obtain ⟨_, its, rv, o, h1, h2, n, h3⟩ := (show ObjOk X.prog X.w H s.heap tp (.tup cs) from I.hok tp _ hT)
    have e3 := ClsV.all kk rv
    subst e3
    obtain ⟨oc, od', dt, sl⟩ := o
    simp only at h2 h3
    subst h2 h3
    obtain ⟨hget, _⟩ := I.pin (a, oe) (List.mem_append.mpr (.inl List.mem_cons_self))
    obtain ⟨vs, hv⟩ := hf
    have nc : PySem.W.notCls oe = true := by unfold PySem.W.notCls; rw [hv]
    rcases hd with rfl | ⟨dd, fs, rfl, hdd⟩
    · have J : PySem.W.InstAt s.heap a oe D none := ⟨hget, hz.1, nc, by rw [hz.2]; trivial⟩
      exact PySem.W.kia_tup (PySem.W.kitx_exc C.cl C.ga C.gg C.sb C.ca C.sp C.tk C.mo) I.kIn J h1 e (fun z => nomatch z) fun tk => ⟨.bl b, H, I.kept (t' := tk) fun _ _ z => z, rfl, q⟩
    · have hx : ObjOk X.prog X.w H s.heap dd (.xd fs) := I.hok dd _ hdd
      obtain ⟨mA, hns, hr⟩ := hx
      obtain ⟨od, ho, hl⟩ := lookIn_ns hns
      have J : PySem.W.InstAt s.heap a oe D (some od) := ⟨hget, hz.1, nc, by rw [hz.2]; exact ho⟩
      exact PySem.W.kia_tup (PySem.W.kitx_exc C.cl C.ga C.gg C.sb C.ca C.sp C.tk C.mo) I.kIn J h1 e (fun z => nomatch z) fun tk => ⟨.bl b, H, I.kept (t' := tk) fun _ _ z => z, rfl, q⟩
def IsL (K : Frag) (ct : CT) (ns : List Str) (Cs : List Addr) : Prop := ∀ y D, ct y = some D → PySem.W.kitAny K (.ref D) (Cs.map Value.ref) = some (ns.any fun n => relX y n)
theorem isL_nil {K : Frag} {ct : CT} : IsL K ct [] [] := fun _ _ _ => kitAny_nil
theorem isL_cons {K : Frag} {mg : Str → Option Value} {ct : CT} {n : Str} {C : Addr} {ns : List Str} {Cs : List Addr} (h : Xc K mg ct n C) (t : IsL K ct ns Cs) : IsL K ct (n :: ns) (C :: Cs) := fun y D e => by
  rw [List.map_cons, List.any_cons]
  refine kitAny_cons (h.is y D e).2 (fun hb => ?_) fun hb => ?_
  · rw [hb, Bool.false_or]; exact t y D e
  · rw [hb]; rfl
theorem cls_refs : ∀ Cs : List Addr, Paired ClsV (Cs.map V.ref) (Cs.map Value.ref)
  | [] => .nil
  | C :: Cs => .cons (.own C) (cls_refs Cs)
def eXisT (ns : List Str) (x : Exn) : EM := fun ρ => .ok (.sh (.bl (ns.any fun n => relX x.cls n))) ρ
@[simp ↓] theorem eXisT_run (ns : List Str) (x : Exn) (ρ : Env) : eXisT ns x ρ = .ok (.sh (.bl (ns.any fun n => relX x.cls n))) ρ := rfl
theorem xe_isT {K : Frag} {Cs : List Addr} {a : Addr} {ns : List Str} {x : Exn} {cls : Value} {d : Option Addr} {ta : TA} (hl : Cs.length ≤ lim) (hta : ∀ σ H (Q : List V → Hp → Prop), Q (Cs.map V.ref) H → ta σ H Q) (xc : ∀ y D, ct y = some D → XcC K D) (tab : IsL K ct ns Cs) :
    SEx (XaA ct x cls d a i) ct Wx (tCB (rIsXT K cls d a) (tCons (tVar i) (tCons (tTup ta) tNil))) (eXisT ns x) := fun W S0 ρ σ tm vm H Q hA g k => by
  obtain ⟨e1, hx⟩ := hA
  obtain ⟨D, hD, rfl, _, h4⟩ := id hx
  have t1 := xc _ _ hD
  have t2 := tab _ _ hD
  refine ⟨.ref a, e1, hta _ _ _ ⟨lim_le (by simpa using hl), fun p hp => ?_⟩⟩
  have es : Same H (upd H p (.tup (Cs.map V.ref))) := same_new hp
  refine ⟨D, p, Cs.map V.ref, Cs.map Value.ref, ns.any fun n => relX x.cls n, rfl, t1, ?_, rfl, upd_same, cls_refs Cs, t2, k _ _ ((g.ext es).pushC (S := H) rfl rfl)⟩
  rcases h4 with ⟨_, h⟩ | ⟨dd, vs, h5, h6, _⟩
  · exact .inl h
  · exact .inr ⟨dd, _, h5, es _ _ (g.outer _ _ h6)⟩
end
end Z

namespace Z
open PySem PySem.Calls PyProof.Rows
section
variable {prog : Program} {w : World} {A : Around} {E : Value → Shared → Prop} {s : Shared}
/-- list(it), it a fresh walk backwards over a list -/
theorem list_of_rev {r l : Addr} {xs : Array Value} {Q : Value → Shared → Prop} (hh : A.handled = none) (hr : s.heap.IsRevIter r l ((xs.size : Int) - 1)) (hl : s.heap.IsList l xs) (hne : l ≠ r) (hn : xs.size ≤ sizeLine)
    (done : ∀ (h' : Heap) (tk : Nat) (out : Array Value) (c : Nat), (∀ b o, b ≠ r → s.heap.get? b = some o → h'.get? b = some o) → h'.get? s.heap.objs.size = some (seqObj "list" out c) → ItemsOf (fun i v => xs[xs.size - 1 - i]? = some v) out xs.size → Q (.ref s.heap.objs.size) { s with heap := h', toks := tk }) :
    wpAny (model prog w) A (call (.type "list") [.ref r]) Q E s := by
  obtain ⟨N, hN⟩ : ∃ N, N = s.heap.objs.size := ⟨_, rfl⟩
  have walk := (Walks.listRev (prog := prog) (w := w) (A := A.in1.in1) hh r l hne xs).toS
  obtain ⟨o1, ho1, q1⟩ := id hr
  obtain ⟨o2, ho2, q2⟩ := id hl
  have n1 : N ≠ r := by rw [hN]; exact Nat.ne_of_gt (Heap.lt_size ho1)
  have n2 : N ≠ l := by rw [hN]; exact Nat.ne_of_gt (Heap.lt_size ho2)
  have nf : N ∉ [r, l] := by simp [n1, n2]
  refine callType_codes (Q₁ := fun v t => v = .ref N ∧ t = { s with heap := s.heap.push { cls := .type "list", data := .seq #[] } }) F.called_list (F.typeCall_list_1 _) F.entry_list_init (code_list_new _ ⟨by rw [hN], rfl⟩) ?_
  rintro _ _ ⟨rfl, rfl⟩
  have g0 : (s.heap.push { cls := .type "list", data := .seq #[] }).get? N = some { cls := .type "list", data := .seq #[] } := by rw [hN]; exact Heap.get?_push_size _ rfl
  refine ⟨⟨_, g0, rfl⟩, F.args_list_init_2 _ _, ?_⟩
  show wpAny _ A.in1.in1 (Builtin.List.listItems (.ref N) >>= fun old => Builtin.List.listUpdate (.ref N) (fun _ => #[]) >>= fun _ => letGo old.toList.reverse >>= fun _ => Builtin.List.listExtendWith (.ref N) (.ref r) .none) _ _ _
  refine wpAny_bind ?_
  unfold Builtin.List.listItems Builtin.List.listUpdate
  refine wpAny_bind (wpAny_seqItems g0 rfl <| wpAny_pure ?_)
  refine wpAny_bind (wpAny_updateSeq g0 rfl <| wpAny_bind (wpAny_letGo ?_))
  have g1 := Heap.get?_update_self (Obj.mapSeq fun _ : Array Value => (#[] : Array Value)) g0 rfl
  obtain ⟨K, hK⟩ : ∃ K, K = (s.heap.push { cls := .type "list", data := .seq #[] }).update N (Obj.mapSeq fun _ => #[]) := ⟨_, rfl⟩
  have keep : ∀ b o, b ≠ N → (s.heap.get? b = some o) → K.get? b = some o := fun b o hb e => by
    rw [hK, Heap.get?_update_other _ _ (Ne.symm hb)]
    exact Heap.get?_push_of_some _ e
  rw [← hK] at g1 ⊢
  have r1 : K.IsRevIter r l ((xs.size : Int) - 1) := hr.at fun o e => keep _ o (Ne.symm n1) e
  have l1 : K.IsList l xs := by
    obtain ⟨o, e, z⟩ := hl
    exact ⟨o, keep _ o (Ne.symm n2) e, z⟩
  have ty : ({ s with heap := K } : Shared).TypeIs (.ref r) "list_reverseiterator" := Heap.IsRevIter.typeIs (s := { s with heap := K }) r1
  have nsame : Builtin.List.listSameRef (.ref N) (.ref r) = false := by simp [Builtin.List.listSameRef, n1]
  unfold Builtin.List.listExtendWith
  refine wpAny_bind (wpAny_typeOf ty ?_)
  rw [nsame, if_neg (show ¬ _ by decide)]
  refine wpAny_bind (wpAny_pyIter_revIter (s := { s with heap := K }) r1 <| wpAny_bind (wpAny_holding ?_))
  unfold Builtin.List.listLengthHint
  refine wpAny_bind (wpAny_specialOf ty RT.nolen_lri ?_)
  show wpAny _ _ (specialOf (Value.ref r) (Str.ofString "__length_hint__") >>= _) _ _ _
  refine wpAny_bind (wpAny_specialOf ty RT.hint_lri ?_)
  generalize idh : ("list_reverseiterator.__length_hint__" : String) = nm
  wp_delta
  rw [show splitId nm = some ("list_reverseiterator", "__length_hint__") by subst idh; decide +kernel]
  subst idh
  refine wpAny_bind (wpAny_isInstance (b := true) ty (by rw [isSubtype_type]; kernel_rfl) <| wpAny_pure ?_)
  rw [if_neg (show ¬ _ by decide)]
  have z0 : ((xs.size : Nat) : Int) - 1 - ((0 : Nat) : Int) = (xs.size : Int) - 1 := by omega
  refine wpAny_pure ⟨plainId_quiet F.plain_extend_loop _, ?_⟩
  refine codeAny_extend_loopS walk hn _ nf _ xs.size 0 _ _ _ rfl (Nat.zero_le _) ⟨Nat.zero_le _, by rw [z0]; exact r1, l1⟩ g1 (ItemsOf.nil _) ?_
  intro t out c hm ht hi
  refine ⟨rfl, ?_⟩
  rw [Moved.eq_with hm, hN]
  refine done t.heap t.toks out c (fun b o hb e => ?_) (by rw [← hN]; exact ht) hi
  have hbN : b ≠ N := by rw [hN]; exact Nat.ne_of_lt (Heap.lt_size e)
  exact hm.heap b o (by simp [hb, hbN]) (keep b o hbN e)
end
end Z
namespace Z
noncomputable section
open PySem PySem.Calls PySem.Spec L2
open PyProof.Rows (Call_ args_cons args_nil)
/-- list(reversed(a list)) -/
def tListRev (K : PySem.W.Frag) (te : TE) : TE := fun σ H Q => te σ H fun x H1 => ∃ (p : Addr) (ys : List V), x = .ref p ∧ SqL K H1 p ys ∧ ∀ l, H1 l = none → Q (.ref l) (upd H1 l (.lst ys.reverse))
theorem back_vals {ys : List V} {us : List Value} {out : Array Value} (r : Vals ys us) (h : ItemsOf (fun i v => us.toArray[us.toArray.size - 1 - i]? = some v) out us.toArray.size) : Vals ys.reverse out.toList := RT.vals_rev r h
theorem pe_listRev {X : Cx} {e : Expr} {te : TE} {p p2 pos pos2 : Pos} (hc : X.calm = true) (hg : Gl X "list") (hm : X.mg "list" = none) (hg2 : Gl X "reversed") (hm2 : X.mg "reversed" = none) (he : PE X e te) (hs : starEach [e] X.env = (false, eval e X.env) :: starEach [] X.env := by rfl)
    (hs2 : starEach [.Call (.Name "reversed" p2) [e] [] pos2] X.env = (false, eval (.Call (.Name "reversed" p2) [e] [] pos2) X.env) :: starEach [] X.env := by rfl) : PE X (.Call (.Name "list" p) [.Call (.Name "reversed" p2) [e] [] pos2] [] pos) (tListRev X.K te) := by
  constructor
  intro pins s σ H Q I h
  refine Call_ (ld_blt I hg hm (show bootBuiltins "list" = some (.type "list") by decide +kernel) ?_)
  refine PyProof.Rows.callWith_type1 (args_cons (Call_ (ld_blt I hg2 hm2 PyProof.Rows.boot_reversed ?_)) hs2) hs2 rfl
  refine PyProof.Rows.callWith_type1 (args_cons (thn (he.run pins s σ H _ I h) ?_) hs) hs rfl
  rintro u t ⟨v, H1, J, r1, a, ys, rfl, hq, q⟩
  refine args_nil ?_
  obtain rfl : u = Value.ref a := r1
  obtain ⟨us, rv, pl, hz⟩ := J.list hq
  have hl := pl.isList
  obtain ⟨ol, hol, _⟩ := id hl
  have ha : a ≠ t.heap.objs.size := Nat.ne_of_lt (Heap.lt_size hol)
  have hn : us.toArray.size ≤ sizeLine := by rw [List.size_toArray, ← rv.length]; exact hz
  refine call_reversed_list hl (args_nil ?_)
  obtain ⟨B, hB⟩ : ∃ B, B = t.heap.push (revObj a ((us.toArray.size : Int) - 1)) := ⟨_, rfl⟩
  rw [← hB]
  have kB : ∀ b o, t.heap.get? b = some o → B.get? b = some o := fun b o e => by rw [hB]; exact Heap.get?_push_of_some _ e
  have J2 : Inv X pins σ H1 { t with heap := B } := J.kept (t' := t.toks) kB
  have fp := J.fpOk (H' := H1) (b := t.heap.objs.size) (Nat.le_refl _) (J.hok.fresh (Nat.le_refl _))
  have rB : B.IsRevIter t.heap.objs.size a ((us.toArray.size : Int) - 1) := ⟨_, by rw [hB]; exact Heap.get?_push_size _ rfl, rfl, rfl⟩
  have lB : B.IsList a us.toArray := by rw [hB]; exact hl.push _
  refine list_of_rev (s := { t with heap := B }) (J.ok.hd hc) rB lB ha hn fun h' tk out c hk hN hi => ?_
  refine ⟨.ref B.objs.size, upd H1 B.objs.size (.lst ys.reverse), ?_, rfl, q _ (J2.hok.fresh (Nat.le_refl _))⟩
  refine J2.turnedNew (ch := [t.heap.objs.size]) (t' := tk) (fun b o hb e => hk b o (by simpa using hb) e) (fun b hb => ?_) (Nat.le_refl _) ⟨by rw [List.length_reverse]; exact hz, out.toList, c, back_vals rv hi, ?_⟩
  · rw [List.mem_singleton.mp hb]; exact fp
  · rw [Array.toArray_toList]; exact hN
variable {ct : CT} {Wx : XW} {W S0 S H H' : Hp} {ρ : Env} {σ σ0 : St} {t u : T} {ts us tm : List T} {v w : V} {vs ws vm : List V} {as bs : List Addr} {i : Nat} {d : D}
def eListRev (a : EM) : EM := fun ρ => (a ρ).bnd fun t ρ => optO (t.d.lstO.bind fun ds => some (.ol (ds.reverse.map .sh))) ρ
@[simp ↓] theorem eListRev_run (a : EM) (ρ : Env) : eListRev a ρ = (a ρ).bnd fun t ρ => optO (t.d.lstO.bind fun ds => some (.ol (ds.reverse.map .sh))) ρ := rfl
theorem se_listRev {K : PySem.W.Frag} {ta : TE} {a : EM} (ha : SE ct Wx ta a) : SE ct Wx (tListRev K ta) (eListRev a) := fun W S0 ρ σ tm vm H Q g k => by
  refine ha W S0 ρ σ tm vm H _ g ((Out.P_bnd.mp k).mono (fun t ρ1 k1 v H1 g1 => ?_) fun _ _ h => h)
  obtain ⟨z, e, k1⟩ := P_opt k1
  obtain ⟨ds, e1, e⟩ := some_bind e
  cases e
  have g2 := g1.frz
  have e3 : t.d = .lst ds := by
    revert e1
    cases t.d <;> intro e1 <;> first | (cases e1; done) | (cases e1; rfl)
  rw [e3] at g2
  obtain ⟨p, xs, rfl, h1, h2, g3⟩ := g2.els (ts := ds.map .sh) rfl
  refine ⟨p, xs, rfl, .of h1, fun q hq => k1 _ _ ?_⟩
  have g4 := g3.sub (us := ds.reverse.map .sh) (ws := xs.reverse) h2 fun S H' b hb => by
    obtain ⟨rfl, hr⟩ := Rtl.ofShs hb
    exact ⟨[], Rtl.toShs hr.rev, fun h => h, fun x h => h⟩
  exact g4.newL (by simpa using h2) hq
end
end Z

namespace Z
open PySem PySem.SeqAt
open AutoSeq1 (wpAny_loadPart')
open MeetsSeq MeetsSeq2 MeetsSeq3 SeqRoads2
/-- y > x gives k, and nothing changes -/
def Above (A : Around) (s : Shared) (y x : Value) (k : Bool) : Prop := ∀ (prog : Program) (w : World) (E Q : Value → Shared → Prop), Q (.bool k) s → wpAny (model prog w) A (richCompare .Gt y x) Q E s
/-- what the places from i on say: where the items differ the first such place, else the lengths -/
def aboveFrom (e r : Nat → Bool) (fin : Bool) (i m : Nat) : Bool := firstLt e r fin ((List.range m).drop i)
theorem aboveFrom_end {e r : Nat → Bool} {fin : Bool} {i m : Nat} (h : m ≤ i) : aboveFrom e r fin i m = fin := by
  unfold aboveFrom
  rw [List.drop_of_length_le (by simpa using h)]
  rfl
theorem aboveFrom_step {e r : Nat → Bool} {fin : Bool} {i m : Nat} (h : i < m) : aboveFrom e r fin i m = if e i = true then aboveFrom e r fin (i + 1) m else r i := by
  unfold aboveFrom
  have q : (List.range m).drop i = i :: (List.range m).drop (i + 1) := by
    rw [List.drop_eq_getElem_cons (by simpa using h)]
    simp
  rw [q]
  rfl
theorem above_loop (u v : Addr) (xs ys : Array Value) (n m : Nat) (du dv : Option Addr) (su sv : Array (Option Value)) (e r : Nat → Bool) (k : Nat) : ∀ i : Nat, min xs.size ys.size - i = k →
    Meets (Builtin.«list.__eq__.loop» ⟨[.ref u, .ref v, rawInt i, rawInt 4], []⟩) (fun A R s => s.heap.get? u = some { cls := .type "list", dict := du, data := .seq xs n, slots := su } ∧ s.heap.get? v = some { cls := .type "list", dict := dv, data := .seq ys m, slots := sv } ∧
      (∀ j (hx : j < xs.size) (hy : j < ys.size), EqAt A.in1 s xs[j] ys[j] (e j)) ∧ (∀ j (hx : j < xs.size) (hy : j < ys.size), e j = false → Above A.in1 s xs[j] ys[j] (r j)) ∧
      R (.ok (.ret (.bool (aboveFrom e r (decide (ys.size < xs.size)) i (min xs.size ys.size))))) s) := by
  induction k with
  | zero =>
    intro i hk prog w A R s hyp
    obtain ⟨hp, g, d, tk, os⟩ := s
    obtain ⟨hu, hv, he, hr, fin⟩ := hyp
    rw [aboveFrom_end (by omega)] at fin
    wp_walk using wpAny_loadPart' hu, wpAny_loadPart' hv
    by_cases c : xs.size ≤ i
    · have a1 : xs[((i : Nat) : Int).toNat]? = none := by simp; omega
      rw [a1]
      wp_walk using wpAny_loadPart' hu, wpAny_loadPart' hv
      exact fin
    · have a1 : xs[((i : Nat) : Int).toNat]? = some (xs[i]'(by omega)) := by simp [show i < xs.size by omega]
      have a2 : ys[((i : Nat) : Int).toNat]? = none := by simp; omega
      rw [a1, a2]
      wp_walk using wpAny_loadPart' hu, wpAny_loadPart' hv
      exact fin
  | succ k ih =>
    intro i hk prog w A R s hyp
    obtain ⟨hp, g, d, tk, os⟩ := s
    obtain ⟨hu, hv, he, hr, fin⟩ := hyp
    rw [aboveFrom_step (by omega)] at fin
    wp_walk using wpAny_loadPart' hu, wpAny_loadPart' hv
    have c1 : i < xs.size := by omega
    have c2 : i < ys.size := by omega
    have a1 : xs[((i : Nat) : Int).toNat]? = some (xs[i]'c1) := by simp [c1]
    have a2 : ys[((i : Nat) : Int).toNat]? = some (ys[i]'c2) := by simp [c2]
    have up : ((i : Int) + 1) = ((i + 1 : Nat) : Int) := by omega
    rw [a1, a2]
    refine wpAny_bind (he i c1 c2 prog w _ _ ?_)
    cases q : e i with
    | true =>
      rw [q, if_pos rfl] at fin
      wp_walk
      rw [up]
      refine ⟨plainId_quiet plain_eq_loop _, codeAny_builtin entry_eq_loop ?_⟩
      rw [Around.under_plainId plain_eq_loop _]
      exact ih (i + 1) (by omega) prog w A R _ ⟨hu, hv, he, hr, fin⟩
    | false =>
      rw [q, if_neg Bool.false_ne_true] at fin
      have gi := hr i c1 c2 q prog w
      wp_walk using wpAny_loadPart' hu, wpAny_loadPart' hv
      rw [a1, a2]
      wp_walk using gi
      exact fin
theorem above_lists_meets (u v : Addr) (xs ys : Array Value) (n m : Nat) (du dv : Option Addr) (su sv : Array (Option Value)) (e r : Nat → Bool) :
    Meets (Builtin.«list.__gt__» ⟨[.ref u, .ref v], []⟩) (fun A R s => s.heap.get? u = some { cls := .type "list", dict := du, data := .seq xs n, slots := su } ∧ s.heap.get? v = some { cls := .type "list", dict := dv, data := .seq ys m, slots := sv } ∧
      (∀ j (hx : j < xs.size) (hy : j < ys.size), EqAt A.in1 s xs[j] ys[j] (e j)) ∧ (∀ j (hx : j < xs.size) (hy : j < ys.size), e j = false → Above A.in1 s xs[j] ys[j] (r j)) ∧
      R (.ok (.ret (.bool (aboveFrom e r (decide (ys.size < xs.size)) 0 (min xs.size ys.size))))) s) := by
  intro prog w A R s hyp
  obtain ⟨hp, g, d, tk, os⟩ := s
  obtain ⟨hu, hv, he, hr, fin⟩ := hyp
  have isl := AutoSeq1.sub_list_list
  wp_walk using wpAny_loadPart' hu, wpAny_loadPart' hv
  refine ⟨plainId_quiet plain_eq_loop _, codeAny_builtin entry_eq_loop ?_⟩
  rw [Around.under_plainId plain_eq_loop _]
  exact above_loop u v xs ys n m du dv su sv e r _ 0 rfl prog w A R _ ⟨hu, hv, he, hr, fin⟩
theorem Above.lists {A : Around} {s : Shared} {u v : Addr} {xs ys : Array Value} {e r : Nat → Bool} (hu : s.heap.IsList u xs) (hv : s.heap.IsList v ys) (room : A.units < cLine) (he : ∀ j (hx : j < xs.size) (hy : j < ys.size), EqAt A.in1 s xs[j] ys[j] (e j))
    (hr : ∀ j (hx : j < xs.size) (hy : j < ys.size), e j = false → Above A.in1 s xs[j] ys[j] (r j)) : Above A s (.ref u) (.ref v) (aboveFrom e r (decide (ys.size < xs.size)) 0 (min xs.size ys.size)) := fun prog w E Q fin => by
  obtain ⟨⟨c1, d1, x1, s1⟩, o1, k1, n1, b1⟩ := id hu
  obtain ⟨⟨c2, d2, x2, s2⟩, o2, k2, n2, b2⟩ := id hv
  simp only at k1 b1 k2 b2
  subst k1 b1 k2 b2
  refine richCompare_meets_room (op := .Gt) ⟨_, o1, rfl⟩ ⟨_, o2, rfl⟩ F.slot_list_gt F.entry_list_gt ?_ (above_lists_meets u v xs ys n1 n2 d1 d2 s1 s2 e r) ?_ room
  · exact F.args_list_gt_2 _ _
  · exact ⟨o1, o2, he, hr, (fun x => nomatch x), fin⟩
end Z

namespace Z
noncomputable section
open PySem PySem.SeqAt L2
theorem drop_at {α : Type} {l : List α} {i : Nat} (h : i < l.length) : l.drop i = l[i] :: l.drop (i + 1) := List.drop_eq_getElem_cons h
theorem above_ints (ns ms : List Int) : ∀ k i, min ns.length ms.length - i = k → aboveFrom (fun j => decide (ns.getD j 0 = ms.getD j 0)) (fun j => decide (ms.getD j 0 < ns.getD j 0)) (decide (ms.length < ns.length)) i (min ns.length ms.length) = if i ≤ min ns.length ms.length then decide (ms.drop i < ns.drop i) else decide (ms.length < ns.length)
  | 0, i, h => by
    rw [aboveFrom_end (by omega)]
    split
    · have : i = min ns.length ms.length := by omega
      by_cases c : ms.length < ns.length
      · have h1 : ms.drop i = [] := List.drop_of_length_le (by omega)
        have h2 : ([] : List Int) < ns.drop i := by rw [drop_at (l := ns) (i := i) (by omega)]; exact List.nil_lt_cons _ _
        rw [h1]
        simp [c, h2]
      · have h1 : ns.drop i = [] := List.drop_of_length_le (by omega)
        rw [h1]
        simp [c]
    · rfl
  | k + 1, i, h => by
    have c1 : i < ns.length := by omega
    have c2 : i < ms.length := by omega
    have ih := above_ints ns ms k (i + 1) (by omega)
    rw [if_pos (by omega)] at ih
    rw [aboveFrom_step (by omega), ih, if_pos (show i ≤ min ns.length ms.length by omega), drop_at c1, drop_at c2]
    have e1 : ns.getD i 0 = ns[i] := by rw [List.getD_eq_getElem?_getD, List.getElem?_eq_getElem c1]; rfl
    have e2 : ms.getD i 0 = ms[i] := by rw [List.getD_eq_getElem?_getD, List.getElem?_eq_getElem c2]; rfl
    simp only [e1, e2]
    clear ih h e1 e2
    generalize ns[i] = a
    generalize ms[i] = b
    generalize ns.drop (i + 1) = A
    generalize ms.drop (i + 1) = B
    by_cases q : a = b
    · simp [q]
    · have q' : ¬ b = a := fun z => q z.symm
      simp [q, q', List.cons_lt_cons_iff]
def rGtD (K : PySem.W.Frag) : R2 := fun x y H Q => (∃ i j, x = .int i ∧ y = .int j ∧ Q (.bl (decide (j < i))) H) ∨
  ∃ (a b : Addr) (ns ms : List Int), x = .ref a ∧ y = .ref b ∧ SqL K H a (ns.map V.int) ∧ SqL K H b (ms.map V.int) ∧ Q (.bl (decide (ms < ns))) H
theorem int_of_vals {ns : List Int} {us : List Value} (r : Vals (ns.map V.int) us) {j : Nat} (h : j < us.length) : ∃ t, us[j] = Value.int (ns.getD j 0) t := by
  have hl := r.length
  rw [List.length_map] at hl
  obtain ⟨u, e, q⟩ := Vals.get r (i := j) (x := V.int (ns.getD j 0)) (by
    rw [List.getElem?_map, List.getD_eq_getElem?_getD, List.getElem?_eq_getElem (by omega)]; rfl)
  obtain ⟨t, rfl⟩ := q
  exact ⟨t, (List.getElem?_eq_some_iff.mp e).2⟩
theorem op_gtD {X : Cx} (hu : X.A.units + 65 < cLine) : OpR X (compareOp .Gt) (rGtD X.K) := by
  intro pins s σ H x y v u Q I rx ry h
  rcases h with ⟨i, j, rfl, rfl, q⟩ | ⟨a, b, ns, ms, rfl, rfl, ha, hb, q⟩
  · obtain ⟨t, rfl⟩ := rx
    obtain ⟨t', rfl⟩ := ry
    exact PyProof.Rows.gt_int ⟨.bl _, H, I, rfl, q⟩
  · obtain rfl : v = Value.ref a := rx
    obtain rfl : u = Value.ref b := ry
    obtain ⟨us, r1, p1, _⟩ := I.list ha
    obtain ⟨ws, r2, p2, _⟩ := I.list hb
    have l1 := r1.length
    have l2 := r2.length
    rw [List.length_map] at l1 l2
    have R := Above.lists (A := X.A) (s := s) (e := fun j => decide (ns.getD j 0 = ms.getD j 0)) (r := fun j => decide (ms.getD j 0 < ns.getD j 0)) p1.isList p2.isList (by omega) (fun j hx hy => by
      obtain ⟨t, e1⟩ := int_of_vals r1 (j := j) (by simpa using hx)
      obtain ⟨t', e2⟩ := int_of_vals r2 (j := j) (by simpa using hy)
      simp only [List.getElem_toArray, e1, e2]
      have z : (ns.getD j 0 == ms.getD j 0) = decide (ns.getD j 0 = ms.getD j 0) := by rw [Bool.eq_iff_iff]; simp
      rw [← z]
      exact SeqAt.EqAt.int_int _ _ _ _) (fun j hx hy _ => by
      obtain ⟨t, e1⟩ := int_of_vals r1 (j := j) (by simpa using hx)
      obtain ⟨t', e2⟩ := int_of_vals r2 (j := j) (by simpa using hy)
      simp only [List.getElem_toArray, e1, e2]
      exact fun prog w E Q h => PyProof.Rows.gt_int h)
    have z := above_ints ns ms _ 0 rfl
    rw [if_pos (Nat.zero_le _)] at z
    simp only [List.size_toArray, ← l1, ← l2] at R
    rw [z] at R
    exact R X.prog X.w X.xe (EP X pins σ Q) ⟨.bl _, H, I, rfl, by simpa using q⟩
def intsD : List D → Option (List Int)
  | [] => some []
  | .int i :: l => (intsD l).map (i :: ·)
  | _ => none
theorem intsD_map : ∀ l : List Int, intsD (l.map .int) = some l
  | [] => rfl
  | i :: l => by simp only [List.map_cons, intsD, intsD_map l]; rfl
theorem intsD_some : ∀ {l : List D} {is : List Int}, intsD l = some is → l = is.map .int
  | [], _, h => by cases h; rfl
  | d :: l, is, h => by
    cases d <;> first | (cases h; done) | skip
    simp only [intsD] at h
    obtain ⟨js, e, rfl⟩ := Option.map_eq_some_iff.mp h
    rw [intsD_some e]
    rfl
def oGtD : D → D → Option D := fun x y => match x, y with
  | .int i, .int j => some (.bl (decide (j < i)))
  | .lst l, .lst m => (intsD l).bind fun ns => (intsD m).map fun ms => .bl (decide (ms < ns))
  | _, _ => none
theorem rpl_ints {S : Hp} : ∀ {is : List Int} {vs : List V}, Rpl S (is.map D.int) vs → vs = is.map V.int
  | [], _, h => h
  | i :: is, _, ⟨v, r, e, h1, h2⟩ => by
    rw [e, rpl_ints h2]
    cases h1
    rfl
theorem os_gtD {K : PySem.W.Frag} : OpS (rGtD K) oGtD := fun H dx dy x y d hx hy e Q q => by
  cases dx <;> cases dy <;> first | (cases e; done) | skip
  · cases e
    cases hx
    cases hy
    exact .inl ⟨_, _, rfl, rfl, q _ H (fun _ _ h => h) rfl⟩
  · obtain ⟨ns, e1, e⟩ := some_bind e
    obtain ⟨ms, e2, rfl⟩ := Option.map_eq_some_iff.mp e
    obtain ⟨a, vs, rfl, h1, h2⟩ := hx
    obtain ⟨b, ws, rfl, h3, h4⟩ := hy
    rw [intsD_some e1] at h2
    rw [intsD_some e2] at h4
    have := rpl_ints h2
    subst this
    have := rpl_ints h4
    subst this
    exact .inr ⟨a, b, ns, ms, rfl, rfl, .of h1, .of h3, q _ H (fun _ _ h => h) rfl⟩
@[simp] theorem gtD_int (a b : Int) : oGtD (.int a) (.int b) = some (.bl (decide (b < a))) := rfl
theorem gtD_ints (a b : List Int) : oGtD (.lst (a.map .int)) (.lst (b.map .int)) = some (.bl (decide (b < a))) := by
  simp [oGtD, intsD_map]
end
end Z

namespace Z
noncomputable section
open PySem L2
variable {ct : CT} {Wx : XW} {W S0 S H H' : Hp} {ρ : Env} {σ σ0 : St} {t u : T} {ts us tm its : List T} {v w : V} {vs ws vm : List V} {as bs : List Addr} {i : Nat} {d : D} {pin : List Nat} {D0 : Ends} {J : It}
theorem wipe_of_sub {σ σ2 : St} {a b : List Nat} (hs : ∀ i ∈ b, i ∈ a) (h : wipe σ2 b = wipe σ b) : wipe σ2 a = wipe σ a := by
  rw [← wipe_sub (σ := σ2) hs, ← wipe_sub (σ := σ) hs, h]
theorem sg_sub {slots slots0 : List Nat} {g : TG} {b : BM} (hs : ∀ i ∈ slots0, i ∈ slots) (h : SG slots0 g b) : SG slots g b := fun W S0 ρ σ tm vm H t v ρ' gx e Q q => h W S0 ρ σ tm vm H t v ρ' gx e Q fun σ' g' ew => q σ' g' (wipe_of_sub hs ew)
/-! ### a kid of an owned list or tuple, bound to a name of its own for a while -/
theorem GX.openKid {K : PySem.W.Frag} {R N j : Nat} {l : List T} (g : GX W S0 ρ σ tm vm H) (e : ρ[R]? = some (some t)) (ek : t.kidsO = some l) (ej : l[j]? = some u) (hN : R ≠ N) (hNl : N < ρ.length) :
    ∃ v w W1 S1, σ[R]? = some (some v) ∧ (∀ k, ixN l.length k = some j → ∀ (H1 : Hp) (Q : VK), Same H H1 → Q w H1 → rIx K v (.int k) H1 Q) ∧ GX W1 S1 ((ρ.set R none).set N (some u)) (σ.set N (some w)) tm vm H ∧
      ∀ ρ' σ' tm' vm' H' u', GX W1 S1 ρ' σ' tm' vm' H' → ρ'[R]? = some none → σ'[R]? = some (some v) → ρ'[N]? = some (some u') → σ'[N]? = some (some w) → GX W S0 ((ρ'.set N none).set R (some (t.putK j u'))) σ' tm' vm' H' := by
  obtain ⟨S, as, bs, g⟩ := g
  obtain ⟨v, b, c, d, e1, rfl, e3, mk, mk0⟩ := g.re.at e
  have nd := g.nd
  have fs := g.fs
  have fw := g.fw
  -- the list's own object, the kid, and the others
  obtain ⟨a, xs, w, b1, c1, d1, hv, hc, hw, kid, ix, back⟩ : ∃ (a : Addr) (xs : List V) (w : V) (b1 c1 d1 : List Addr), v = .ref a ∧ c = a :: (b1 ++ c1 ++ d1) ∧ xs[j]? = some w ∧ Rt S H u w c1 ∧
      (∀ k, ixN l.length k = some j → ∀ (H1 : Hp) (Q : VK), Same H H1 → Q w H1 → rIx K v (.int k) H1 Q) ∧
      ∀ S' H' u' c', Same S S' → (∀ x ∈ a :: (b1 ++ d1), H' x = H x) → Rt S' H' u' w c' → Rt S' H' (t.putK j u') v (a :: (b1 ++ c' ++ d1)) := by
    cases t with
    | sh d => cases ek
    | od ks l => cases ek
    | ol l0 =>
      cases ek
      obtain ⟨a, xs, c0, rfl, rfl, h1, h2⟩ := e3
      obtain ⟨w, b1, c1, d1, f1, rfl, f3, f4⟩ := h2.at ej
      refine ⟨a, xs, w, b1, c1, d1, rfl, rfl, f1, f3, fun k hk H1 Q es q => ?_, fun S' H' u' c' es hh hu => ?_⟩
      · exact .inl ⟨a, xs, k, w, rfl, rfl, .of (es _ _ h1), by unfold L2.atI; rw [h2.len, hk]; exact f1, q⟩
      · have q2 := f4 S' H' u' w c' es (fun x hx => hh x (by simp at hx ⊢; exact .inr hx)) hu
        rw [set_self f1] at q2
        exact ⟨a, xs, _, rfl, rfl, (hh a (by simp)).trans h1, q2⟩
    | ot l0 =>
      cases ek
      obtain ⟨a, xs, c0, rfl, rfl, h1, h2⟩ := e3
      obtain ⟨w, b1, c1, d1, f1, rfl, f3, f4⟩ := h2.at ej
      refine ⟨a, xs, w, b1, c1, d1, rfl, rfl, f1, f3, fun k hk H1 Q es q => ?_, fun S' H' u' c' es hh hu => ?_⟩
      · exact .inr (.inl ⟨a, xs, k, w, rfl, rfl, .of (es _ _ h1), by unfold L2.atI; rw [h2.len, hk]; exact f1, q⟩)
      · have q2 := f4 S' H' u' w c' es (fun x hx => hh x (by simp at hx ⊢; exact .inr hx)) hu
        rw [set_self f1] at q2
        exact ⟨a, xs, _, rfl, rfl, (hh a (by simp)).trans h1, q2⟩
  subst hv hc
  have hP : ∀ x ∈ a :: (b1 ++ d1), H x ≠ none := by
    have h0 := e3.there
    intro x hx
    exact h0 x (by grind)
  let W1 : Hp := fun x => if x ∈ a :: (b1 ++ d1) then H x else W x
  have w1P : ∀ x ∈ a :: (b1 ++ d1), W1 x = H x := fun x hx => if_pos hx
  have w1N : ∀ x, x ∉ a :: (b1 ++ d1) → W1 x = W x := fun x hx => if_neg hx
  have r1 := mk0 S H (some (.ref a)) (fun _ _ h => h) (fun _ _ => rfl)
  rw [set_self e1] at r1
  have g1 : GX W1 S (ρ.set R none) σ (u :: tm) (w :: vm) H := by
    refine ⟨S, b ++ d, c1 ++ bs, fun _ _ h => h, g.sh, fun x o h => ?_, fun _ _ h => h, r1, ⟨w, vm, c1, bs, rfl, rfl, kid, g.rt⟩, by grind, by grind, fun x hx => ?_⟩
    · by_cases q : x ∈ a :: (b1 ++ d1)
      · rw [← w1P x q]; exact h
      · rw [w1N x q] at h; exact g.wh x o h
    · have q : x ∉ a :: (b1 ++ d1) := by grind
      rw [w1N x q]
      exact fw x (by grind)
  refine ⟨.ref a, w, W1, S, e1, ix, g1.putA N, fun ρ' σ' tm' vm' H' u' g2 f1 f2 f3 f4 => ?_⟩
  obtain ⟨S2, as2, bs2, g2⟩ := g2
  obtain ⟨w', b2, c2, d2, q1, rfl, q3, _, q5⟩ := g2.re.at f3
  rw [f4] at q1
  cases q1
  have nd2 := g2.nd
  have fs2 := g2.fs
  have fw2 := g2.fw
  have keep : ∀ x ∈ a :: (b1 ++ d1), H' x = H x := fun x hx => by
    have := same_at g2.wh (show W1 x ≠ none by rw [w1P x hx]; exact hP x hx)
    rw [this, w1P x hx]
  have nP : ∀ x ∈ a :: (b1 ++ d1), x ∉ b2 ++ c2 ++ d2 ++ bs2 := fun x hx h => by
    have := fw2 x h
    rw [w1P x hx] at this
    exact hP x hx this
  have ndP : (a :: (b1 ++ d1)).Nodup := by grind
  have hB := back S2 H' u' c2 g2.s0 keep q3
  have r2 := q5 S2 H' (some w) (fun _ _ h => h) (fun _ _ => rfl)
  rw [set_self f4] at r2
  have g3 : GX W S0 (ρ'.set N none) σ' (t.putK j u' :: tm') (.ref a :: vm') H' := by
    refine ⟨S2, b2 ++ d2, (a :: (b1 ++ c2 ++ d1)) ++ bs2, fun x o h => g2.s0 x o (g.s0 x o h), g2.sh, fun x o h => ?_, fun x hw hs => ?_, r2, ⟨.ref a, vm', _, bs2, rfl, rfl, hB, g2.rt⟩, ?_, fun x hx => ?_, fun x hx => ?_⟩
    · have q : x ∉ a :: (b1 ++ d1) := fun q => by
        rw [fw x (by grind)] at h; cases h
      exact g2.wh x o (by rw [w1N x q]; exact h)
    · have q : x ∉ a :: (b1 ++ d1) := fun q => hw (fw x (by grind))
      exact g.nw x hw (g2.nw x (by rw [w1N x q]; exact hw) hs)
    · have q : ((a :: (b1 ++ d1)) ++ (b2 ++ c2 ++ d2 ++ bs2)).Nodup := List.nodup_append.mpr ⟨ndP, nd2, fun x hx y hy e => nP x hx (by rw [e]; exact hy)⟩
      refine (List.Perm.nodup_iff (List.perm_iff_count.mpr fun x => ?_)).mp q
      simp only [List.count_append, List.count_cons]
      omega
    · by_cases q : x ∈ a :: (b1 ++ d1)
      · cases z : S2 x with
        | none => rfl
        | some o =>
          have := g2.nw x (by rw [w1P x q]; exact hP x q) (by rw [z]; simp)
          exact absurd (fs x (by grind)) this
      · exact fs2 x (by grind)
    · by_cases q : x ∈ a :: (b1 ++ d1)
      · exact fw x (by grind)
      · rw [← w1N x q]
        exact fw2 x (by grind)
  have hR : σ'[R]? = some (some (.ref a)) := f2
  exact g3.back hR
end
end Z

namespace Z
noncomputable section
open PySem L2
variable {ct : CT} {Wx : XW} {W S0 S H H' : Hp} {ρ : Env} {σ σ0 : St} {t u : T} {ts us tm : List T} {v w : V} {vs ws vm : List V} {as bs : List Addr} {i : Nat} {d : D} {pin : List Nat} {D0 : Ends}
/-! ### r = x[e]; then r changes: the kid is lent to r and put back at the end of the rest -/
def mOpen (R N : Nat) (e : EM) (b : SM) : SM := fun ρ => match ρ[R]? with
  | some (some _) => (e ρ).st fun q ρ1 => match q.d.intO, ρ1[R]? with
    | some k, some (some t) => match t.kidsO with
      | some l => match ixN l.length k with
        | some j => match l[j]? with
          | some u => if N < ρ1.length then (match b ((ρ1.set R none).set N (some u)) with
            | .nx ρ2 => match ρ2[R]?, ρ2[N]? with
              | some none, some (some u') => .nx ((ρ2.set N none).set R (some (t.putK j u')))
              | _, _ => .bad
            | _ => .bad) else .bad
          | none => .bad
        | none => .bad
      | none => .bad
    | _, _ => .bad
  | _ => .bad
theorem ss_open {K : PySem.W.Frag} {R N : Nat} {te : TE} {e : EM} {tb : TS} {b : SM} (he : SE ct Wx te e) (hb : SS ct Wx (R :: N :: pin) tb b) (hR : R ≠ N) (hN : N ∉ pin) : SS ct Wx pin (tSeq (tAsg (tOp (rIx K) (tVar R) te) (gName N)) tb) (mOpen R N e b) := fun W S0 σ0 ρ σ H D g p k => by
  unfold mOpen at k
  split at k
  case h_2 => exact k.elim
  rename_i t0 e0
  obtain ⟨v0, hv0, _⟩ := g.take e0
  refine ⟨v0, hv0, he W S0 ρ σ [] [] H _ g ((SK.st p k).mono (fun q ρ1 k1 y H1 g1 => ?_) fun _ _ h => h)⟩
  split at k1
  case h_2 => exact k1.elim
  rename_i kk t e1 e2
  split at k1
  case h_2 => exact k1.elim
  rename_i l e3
  split at k1
  case h_2 => exact k1.elim
  rename_i j e4
  split at k1
  case h_2 => exact k1.elim
  rename_i u e5
  have r := g1.tmp
  rw [intO_int e1] at r
  cases r
  by_cases hl : N < ρ1.length
  case neg => rw [if_neg hl] at k1; exact k1.elim
  rw [if_pos hl] at k1
  obtain ⟨v, w, W1, S1, f1, f2, f3, f4⟩ := g1.pop1.openKid (K := K) e2 e3 e5 hR hl
  rw [hv0] at f1
  cases f1
  refine f2 kk e4 H1 _ (fun _ _ h => h) ?_
  have hσ : N < σ.length := by rw [g1.lenE]; exact hl
  have hRN : (σ.set N (some w))[R]? = some (some v0) := by rw [List.getElem?_set_ne (fun e => hR e.symm)]; exact hv0
  have hNN : (σ.set N (some w))[N]? = some (some w) := by rw [List.getElem?_set_self hσ]
  refine hb W1 S1 (σ.set N (some w)) _ (σ.set N (some w)) H1 D f3 Pin.refl ?_
  generalize b ((ρ1.set R none).set N (some u)) = o at k1
  cases o with
  | nx ρ2 =>
    simp only at k1
    split at k1
    case h_2 => exact k1.elim
    rename_i u' h1 h2
    intro σ2 H2 g2 p2
    refine k1 σ2 H2 (f4 ρ2 σ2 [] [] H2 u' g2 h1 ((p2 R (by simp)).trans hRN) h2 ((p2 N (by simp)).trans hNN)) fun i hi => ?_
    rw [p2 i (by simp [hi]), List.getElem?_set_ne (fun e => hN (by rw [e]; exact hi))]
    exact p i hi
  | _ => exact k1.elim
/-- x[e] = c, c a scalar read ahead, e with effects -/
def mStoreE (i : Nat) (c : PM) (e : EM) : SM := fun ρ => match c ρ, ρ[i]? with
  | some d, some (some (.ol _)) => if d.scal = true then (e ρ).st fun q ρ1 => match ρ1[i]?, q.d.intO with
    | some (some (.ol ts)), some k => match ixN ts.length k with
      | some j => .nx (ρ1.set i (some (.ol (ts.set j (.sh d)))))
      | none => .bad
    | _, _ => .bad else .bad
  | _, _ => .bad
theorem ss_storeE {i : Nat} {tc te : TE} {c : PM} {e : EM} (hc : SP tc c) (he : SE ct Wx te e) : SS ct Wx pin (tAsg tc (gSub (tVar i) te rSetL)) (mStoreE i c e) := fun W S0 σ0 ρ σ H D g p k => by
  unfold mStoreE at k
  split at k
  case h_2 => exact k.elim
  rename_i d ts0 e1 e0
  obtain ⟨hs, k⟩ := SK_ite k
  refine hc ρ σ H g.rv _ e1 _ fun z H0 es0 r0 => ?_
  have g0 := g.ext es0
  obtain ⟨a0, xs0, ea, h0, _⟩ := g0.refL e0
  refine ⟨.ref a0, ea, he W S0 ρ σ [] [] H0 _ g0 ((SK.st p k).mono (fun q ρ1 k1 y H1 g1 => ?_) fun _ _ h => h)⟩
  split at k1
  case h_2 => exact k1.elim
  rename_i ts kk e2 e3
  split at k1
  case h_2 => exact k1.elim
  rename_i j e4
  have r := g1.tmp
  rw [intO_int e3] at r
  cases r
  obtain ⟨x, hx1, g2⟩ := g1.pop1.take e2
  rw [ea] at hx1
  cases hx1
  obtain ⟨a, xs, q5, h1, h2, mk⟩ := g2.mutL
  cases q5
  refine ⟨a0, xs, kk, j, rfl, rfl, h1, by rw [h2]; exact e4, ?_⟩
  have hj : j < ts.length := (ixN_seq e4).2.1
  have g3 := mk (ts.set j (.sh d)) [] (xs.set j z) [] (fun S H b c hb hc => by
    obtain ⟨h3, rfl⟩ := hc
    obtain ⟨w, b1, d1, d2, q1, rfl, q2, q3⟩ := hb.at (List.getElem?_eq_getElem hj)
    exact ⟨b1 ++ [] ++ d2, [], q3 S H (.sh d) z [] (fun _ _ h => h) (fun _ _ => rfl) ⟨rfl, r0.scal hs⟩, ⟨rfl, rfl⟩, by grind, by grind⟩)
  have g4 := g3.back ea
  rw [List.set_set] at g4
  exact k1 _ _ g4 p
end
end Z

namespace Z
noncomputable section
open PySem L2
variable {ct : CT} {Wx : XW} {W S0 S H H' : Hp} {ρ : Env} {σ σ0 : St} {t u : T} {l ts us tm its : List T} {v w : V} {vs ws vm : List V} {as bs : List Addr} {i : Nat} {d : D} {pin : List Nat} {D0 : Ends} {J : It}
/-! ### walks that lend each kid to a name and take it back -/
theorem GX.swap {A B : List T} {vA vB : List V} (g : GX W S0 ρ σ (A ++ B) (vA ++ vB) H) (e : vA.length = A.length) (f : vB.length = B.length) : GX W S0 ρ σ (B ++ A) (vB ++ vA) H := by
  have g1 : GX W S0 ρ σ ((A ++ B) ++ []) ((vA ++ vB) ++ []) H := by simpa using g
  have g2 := g1.sub (us := B ++ A) (ws := vB ++ vA) (by simp [e, f]) fun S H b hb => by
    obtain ⟨c, d, rfl, h1, h2⟩ := hb.split e
    exact ⟨d ++ c, h2.append h1, by grind, by grind⟩
  simpa using g2
/-- the temporaries are set aside -/
theorem GX.hide (g : GX W S0 ρ σ tm vm H) : ∃ W1 S1, GX W1 S1 ρ σ [] [] H ∧ ∀ ρ' σ' H', GX W1 S1 ρ' σ' [] [] H' → GX W S0 ρ' σ' tm vm H' := by
  obtain ⟨S, as, bs, g⟩ := g
  have nd := g.nd
  have fs := g.fs
  have fw := g.fw
  have hP : ∀ x ∈ bs, H x ≠ none := g.rt.there
  let W1 : Hp := fun x => if x ∈ bs then H x else W x
  have w1P : ∀ x ∈ bs, W1 x = H x := fun x hx => if_pos hx
  have w1N : ∀ x, x ∉ bs → W1 x = W x := fun x hx => if_neg hx
  refine ⟨W1, S, ⟨S, as, [], fun _ _ h => h, g.sh, fun x o h => ?_, fun _ _ h => h, g.re, ⟨rfl, rfl⟩, by grind, by grind, fun x hx => ?_⟩, fun ρ' σ' H' g2 => ?_⟩
  · by_cases q : x ∈ bs
    · rw [← w1P x q]; exact h
    · rw [w1N x q] at h; exact g.wh x o h
  · have q : x ∉ bs := by grind
    rw [w1N x q]
    exact fw x (by grind)
  obtain ⟨S2, as2, bs2, g2⟩ := g2
  obtain ⟨_, rfl⟩ := g2.rt
  have nd2 := g2.nd
  have fs2 := g2.fs
  have fw2 := g2.fw
  rw [List.append_nil] at nd2
  have keep : ∀ x ∈ bs, H' x = H x := fun x hx => by
    have := same_at g2.wh (show W1 x ≠ none by rw [w1P x hx]; exact hP x hx)
    rw [this, w1P x hx]
  have dis : ∀ x ∈ as2, x ∉ bs := fun x hx hb => by
    have := fw2 x (by simp [hx])
    rw [w1P x hb] at this
    exact hP x hb this
  refine ⟨S2, as2, bs, fun x o h => g2.s0 x o (g.s0 x o h), g2.sh, fun x o h => ?_, fun x hw hs => ?_, g2.re, g.rt.mono g2.s0 keep, ?_, fun x hx => ?_, fun x hx => ?_⟩
  · have q : x ∉ bs := fun q => by rw [fw x (by simp [q])] at h; cases h
    exact g2.wh x o (by rw [w1N x q]; exact h)
  · have q : x ∉ bs := fun q => hw (fw x (by simp [q]))
    exact g.nw x hw (g2.nw x (by rw [w1N x q]; exact hw) hs)
  · exact List.nodup_append.mpr ⟨nd2, (List.nodup_append.mp nd).2.1, fun x hx y hy e => dis x hx (by rw [e]; exact hy)⟩
  · by_cases q : x ∈ bs
    · cases z : S2 x with
      | none => rfl
      | some o =>
        have := g2.nw x (by rw [w1P x q]; exact hP x q) (by rw [z]; simp)
        exact absurd (fs x (by simp [q])) this
    · exact fs2 x (by grind)
  · by_cases q : x ∈ bs
    · exact fw x (by simp [q])
    · rw [← w1N x q]
      exact fw2 x (by grind)
def T.setK : T → List T → T
  | .ol _, l => .ol l
  | .ot _, l => .ot l
  | t, _ => t
@[simp] theorem setK_ol (l m : List T) : (T.ol l).setK m = .ol m := rfl
@[simp] theorem setK_ot (l m : List T) : (T.ot l).setK m = .ot m := rfl
/-- the kids of an owned temporary, and how they are gathered again -/
theorem GX.explode (g : GX W S0 ρ σ (t :: tm) (v :: vm) H) (ek : t.kidsO = some l) : ∃ a xs W1 S1, v = .ref a ∧ (H a = some (.lst xs) ∨ H a = some (.tup xs)) ∧ W1 a = H a ∧ xs.length = l.length ∧ GX W1 S1 ρ σ (l ++ tm) (xs ++ vm) H ∧
    ∀ ρ' σ' tm' vm' H' l', l'.length = l.length → GX W1 S1 ρ' σ' (l' ++ tm') (xs ++ vm') H' → GX W S0 ρ' σ' (t.setK l' :: tm') (v :: vm') H' := by
  obtain ⟨S, as, bs, g⟩ := g
  obtain ⟨v', r, c1, c2, h3, rfl, h4, h6⟩ := g.rt
  cases h3
  have nd := g.nd
  have fs := g.fs
  have fw := g.fw
  obtain ⟨a, xs, b, o, rfl, rfl, hH, ho, h5, bk⟩ : ∃ (a : Addr) (xs : List V) (b : List Addr) (o : HO), v = .ref a ∧ c1 = a :: b ∧ H a = some o ∧ (o = .lst xs ∨ o = .tup xs) ∧ Rtl S H l xs b ∧ ∀ S' H' l' b', H' a = some o → Rtl S' H' l' xs b' → Rt S' H' (t.setK l') (.ref a) (a :: b') := by
    cases t with
    | sh d => cases ek
    | od ks l => cases ek
    | ol l0 =>
      cases ek
      obtain ⟨a, xs, b, rfl, rfl, h1, h2⟩ := h4
      exact ⟨a, xs, b, _, rfl, rfl, h1, .inl rfl, h2, fun S' H' l' b' q1 q2 => ⟨a, xs, b', rfl, rfl, q1, q2⟩⟩
    | ot l0 =>
      cases ek
      obtain ⟨a, xs, b, rfl, rfl, h1, h2⟩ := h4
      exact ⟨a, xs, b, _, rfl, rfl, h1, .inr rfl, h2, fun S' H' l' b' q1 q2 => ⟨a, xs, b', rfl, rfl, q1, q2⟩⟩
  have hSa : S a = none := fs a (by simp)
  have hWa : W a = none := fw a (by simp)
  have sW : ∀ x, x ≠ a → also W H a x = W x := fun x h => also_ne h
  have wSame : Same W (also W H a) := fun x o h => by
    rw [sW x (by rintro rfl; rw [hWa] at h; cases h)]; exact h
  refine ⟨a, xs, also W H a, S, rfl, by rcases ho with rfl | rfl; exact .inl hH; exact .inr hH, also_at, h5.len, ?_, fun ρ' σ' tm' vm' H' l' hl' g' => ?_⟩
  · refine ⟨S, as, b ++ c2, fun _ _ h => h, g.sh, fun x o h => ?_, fun _ _ h => h, g.re, h5.append h6, by grind, fun x hx => fs x (by grind), fun x hx => ?_⟩
    · by_cases q : x = a
      · subst q; rw [also_at] at h; exact h
      · rw [sW x q] at h; exact g.wh x o h
    · rw [sW x (by rintro rfl; grind)]; exact fw x (by grind)
  · obtain ⟨S', as', bs', g'⟩ := g'
    obtain ⟨b', c', rfl, q1, q2⟩ := g'.rt.split (show xs.length = l'.length by rw [hl']; exact h5.len)
    have hHa : H' a = some o := g'.wh a _ (by rw [also_at]; exact hH)
    have hS'a : S' a = none := by
      cases q : S' a with
      | none => rfl
      | some o' => exact absurd hSa (g'.nw a (by rw [also_at, hH]; simp) (by rw [q]; simp))
    have nd' := g'.nd
    have fw' := g'.fw
    have fs' := g'.fs
    have hne : ∀ x ∈ as' ++ (b' ++ c'), x ≠ a := fun x hx q => by
      have := fw' x hx
      rw [q, also_at, hH] at this; cases this
    refine ⟨S', as', (a :: b') ++ c', fun x o h => g'.s0 x o (g.s0 x o h), g'.sh, fun x o h => g'.wh x o (wSame x o h), fun x h k => ?_, g'.re, ⟨.ref a, vm', a :: b', c', rfl, rfl, bk S' H' l' b' hHa q1, q2⟩, by grind, by grind, fun x hx => ?_⟩
    · refine g.nw x h (g'.nw x ?_ k)
      intro q
      cases hq : W x with
      | none => exact h hq
      | some o => rw [wSame x o hq] at q; cases q
    · by_cases q : x = a
      · rw [q]; exact hWa
      · have := fw' x (by grind)
        rw [sW x q] at this; exact this
/-- the walk over kids: what they and the names are after it -/
def forM (N : Nat) (body : SM) : List T → Env → Option (List T × Env)
  | [], ρ => some ([], ρ)
  | u :: us, ρ => match body (ρ.set N (some u)) with
    | .nx ρ2 => match ρ2[N]? with
      | some (some u') => (forM N body us (ρ2.set N none)).map fun p => (u' :: p.1, p.2)
      | _ => none
    | _ => none
theorem forM_len {N : Nat} {body : SM} : ∀ {l : List T} {ρ : Env} {p : List T × Env}, forM N body l ρ = some p → p.1.length = l.length
  | [], _, _, e => by cases e; rfl
  | u :: us, ρ, p, e => by
    unfold forM at e
    split at e
    case h_2 => cases e
    split at e
    case h_2 => cases e
    obtain ⟨q, e1, rfl⟩ := Option.map_eq_some_iff.mp e
    simp [forM_len e1]
/-- one state of the walk: kids that were lent already, kids to come -/
def Lent (W1 S1 : Hp) (pin : List Nat) (σ0 : St) (R : Option (Nat × V)) (N : Nat) (body : SM) (l : List T) (xs : List V) (p : List T × Env) (n : Nat) (σ' : St) (H' : Hp) : Prop := ∃ ρ' done l2, n ≤ l.length ∧ done.length = n ∧ GX W1 S1 ρ' σ' (l.drop n ++ done) (xs.drop n ++ xs.take n) H' ∧
  (∀ i v, R = some (i, v) → σ'[i]? = some (some v)) ∧ Pin pin σ0 σ' ∧ N < ρ'.length ∧ forM N body (l.drop n) ρ' = some l2 ∧ p = (done ++ l2.1, l2.2)
theorem lent_step {W1 S1 : Hp} {R : Option (Nat × V)} {pinR : List Nat} {N : Nat} {tb : TS} {body : SM} {xs : List V} {p : List T × Env} {n : Nat} {σ' : St} {H' : Hp} {x : V} {D : Ends} (hb : SS ct Wx (N :: pinR) tb body) (hRp : ∀ i v, R = some (i, v) → i ∈ pinR ∧ i ≠ N) (hpp : ∀ i ∈ pin, i ∈ pinR) (hN : N ∉ pin) (hxl : xs.length = l.length) (hx : xs[n]? = some x) (h : Lent W1 S1 pin σ0 R N body l xs p n σ' H') :
    tb { D with nx := Lent W1 S1 pin σ0 R N body l xs p (n + 1), ct := Lent W1 S1 pin σ0 R N body l xs p (n + 1), bk := D.nx } (σ'.set N (some x)) H' := by
  obtain ⟨ρ', done, l2, hn, hd, g, hR, pp, hNl, e, ep⟩ := h
  have hlt : n < xs.length := (List.getElem?_eq_some_iff.mp hx).1
  have hxe : xs[n] = x := (List.getElem?_eq_some_iff.mp hx).2
  have hll : n < l.length := by omega
  rw [List.drop_eq_getElem_cons hll, List.drop_eq_getElem_cons hlt, hxe] at g
  rw [List.drop_eq_getElem_cons hll] at e
  unfold forM at e
  split at e
  case h_2 => cases e
  rename_i ρ2 e1
  split at e
  case h_2 => cases e
  rename_i u' e2
  obtain ⟨q, e3, rfl⟩ := Option.map_eq_some_iff.mp e
  have g1 : GX W1 S1 ρ' σ' (l[n] :: (l.drop (n + 1) ++ done)) (x :: (xs.drop (n + 1) ++ xs.take n)) H' := g
  have hσl : N < σ'.length := by rw [g1.lenE]; exact hNl
  obtain ⟨W2, S2, g3, back⟩ := (g1.put hNl).hide
  refine hb W2 S2 (σ'.set N (some x)) _ (σ'.set N (some x)) H' _ g3 Pin.refl ?_
  rw [e1]
  intro σ3 H3 g4 p3
  obtain ⟨w, hw, g5⟩ := (back ρ2 σ3 H3 g4).take e2
  have hwx : w = x := by
    have := p3 N (by simp)
    rw [hw, List.getElem?_set_self hσl] at this
    exact Option.some.inj (Option.some.inj this)
  subst hwx
  have hlen := g5.len
  have g6 := GX.swap (A := [u']) (B := l.drop (n + 1) ++ done) (vA := [w]) (vB := xs.drop (n + 1) ++ xs.take n) g5 rfl (by simp; omega)
  have hne : ∀ i ∈ pin, i ≠ N := fun i hi e => hN (by rw [← e]; exact hi)
  refine ⟨ρ2.set N none, done ++ [u'], q, hll, by simp [hd], ?_, fun i v hv => ?_, fun i hi => ?_, ?_, e3, ?_⟩
  · have ht : xs.take (n + 1) = xs.take n ++ [w] := by rw [List.take_add_one, hx]; rfl
    rw [ht]
    simpa using g6
  · obtain ⟨h1, h2⟩ := hRp i v hv
    rw [p3 i (by simp [h1]), List.getElem?_set_ne (Ne.symm h2)]
    exact hR i v hv
  · rw [p3 i (by simp [hpp i hi]), List.getElem?_set_ne (Ne.symm (hne i hi))]
    exact pp i hi
  · have l1 := g4.lenE
    have l2 : N < σ3.length := (List.getElem?_eq_some_iff.mp hw).1
    rw [List.length_set]; omega
  · rw [ep]; simp
def mForM (R N : Nat) (body : SM) : SM := fun ρ => match ρ[R]? with
  | some (some t) => match t.kidsO with
    | some l => if N < ρ.length then (match forM N body l (ρ.set R none) with
      | some p => .nx (p.2.set R (some (t.setK p.1)))
      | none => .bad) else .bad
    | none => .bad
  | _ => .bad
theorem ss_forM {K : PySem.W.Frag} {R N : Nat} {tb : TS} {body : SM} (hb : SS ct Wx (N :: R :: pin) tb body) (hR : R ≠ N) (hN : N ∉ pin) : SS ct Wx pin (tFor (iSeq K (tVar R)) (gName N) tb) (mForM R N body) := fun W S0 σ0 ρ σ H D gx p k => by
  unfold mForM at k
  split at k
  case h_2 => exact k.elim
  rename_i t e0
  split at k
  case h_2 => exact k.elim
  rename_i l ek
  by_cases hNl : N < ρ.length
  case neg => rw [if_neg hNl] at k; exact k.elim
  rw [if_pos hNl] at k
  split at k
  case h_2 => exact k.elim
  rename_i pr ef
  obtain ⟨v, hv, g1⟩ := gx.take e0
  obtain ⟨a, xs, W1, S1, rfl, hH, hW1, hxl, g2, back⟩ := g1.explode ek
  have g2' : GX W1 S1 (ρ.set R none) σ l xs H := by simpa using g2
  have h0 : Lent W1 S1 pin σ0 (some (R, .ref a)) N body l xs pr 0 σ H := ⟨_, [], pr, Nat.zero_le _, rfl, by simpa using g2', fun i v h => by cases h; exact hv, p, by simpa using hNl, ef, by simp⟩
  have hst : ∀ n x σ' H', xs[n]? = some x → Lent W1 S1 pin σ0 (some (R, .ref a)) N body l xs pr n σ' H' → gName N x σ' H' fun σ2 H2 => tb { D with nx := Lent W1 S1 pin σ0 (some (R, .ref a)) N body l xs pr (n + 1), ct := Lent W1 S1 pin σ0 (some (R, .ref a)) N body l xs pr (n + 1), bk := D.nx } σ2 H2 := fun n x σ' H' hx h => lent_step hb (fun i v e => by cases e; exact ⟨by simp, hR⟩) (fun i hi => by simp [hi]) hN hxl hx h
  have hend : ∀ σ' H', Lent W1 S1 pin σ0 (some (R, .ref a)) N body l xs pr xs.length σ' H' → D.nx σ' H' := fun σ' H' ⟨ρ', done, l2, _, hd, g, hRv, pp, _, e, ep⟩ => by
    rw [hxl] at hd
    rw [List.drop_eq_nil_of_le (by omega)] at g e
    rw [List.drop_eq_nil_of_le (by omega), List.take_of_length_le (by omega)] at g
    cases e
    subst ep
    have g3 := back ρ' σ' [] [] H' done hd (by simpa using g)
    have g4 := g3.back (hRv R _ rfl)
    simp only [List.append_nil] at k
    exact k σ' H' g4 pp
  have hl : ∀ n σ' H', Lent W1 S1 pin σ0 (some (R, .ref a)) N body l xs pr n σ' H' → H' a = H a := fun n σ' H' ⟨ρ', done, l2, _, _, g, _⟩ => by
    rw [← hW1]
    refine same_at (fun x o h => g.outer x o h) ?_
    rw [hW1]; rcases hH with h | h <;> rw [h] <;> simp
  refine ⟨.ref a, hv, a, rfl, ?_⟩
  rcases hH with hH | hH
  · exact .inl ⟨⟨xs, .of hH⟩, for_list (xs := xs) _ h0 (fun n σ' H' _ h => .of (by rw [hl n σ' H' h]; exact hH)) hst hend⟩
  · exact .inr ⟨⟨xs, .of hH⟩, for_tup (xs := xs) _ h0 (fun n σ' H' _ h => .of (by rw [hl n σ' H' h]; exact hH)) hst hend⟩
def mForT (N : Nat) (e : EM) (body : SM) : SM := fun ρ => (e ρ).st fun t ρ1 => match t.kidsO with
  | some l => if N < ρ1.length then (match forM N body l ρ1 with
    | some p => .nx p.2
    | none => .bad) else .bad
  | none => .bad
theorem ss_forT {K : PySem.W.Frag} {N : Nat} {te : TE} {e : EM} {tb : TS} {body : SM} (he : SE ct Wx te e) (hb : SS ct Wx (N :: pin) tb body) (hN : N ∉ pin) : SS ct Wx pin (tFor (iSeq K te) (gName N) tb) (mForT N e body) := fun W S0 σ0 ρ σ H D gx p k => by
  refine he W S0 ρ σ [] [] H _ gx ((SK.st p k).mono (fun t ρ1 k1 v H1 g1 => ?_) fun _ _ h => h)
  split at k1
  case h_2 => exact k1.elim
  rename_i l ek
  by_cases hNl : N < ρ1.length
  case neg => rw [if_neg hNl] at k1; exact k1.elim
  rw [if_pos hNl] at k1
  split at k1
  case h_2 => exact k1.elim
  rename_i pr ef
  obtain ⟨a, xs, W1, S1, rfl, hH, hW1, hxl, g2, back⟩ := g1.explode ek
  have g2' : GX W1 S1 ρ1 σ l xs H1 := by simpa using g2
  have h0 : Lent W1 S1 pin σ0 none N body l xs pr 0 σ H1 := ⟨_, [], pr, Nat.zero_le _, rfl, by simpa using g2', fun i v h => (nomatch h), p, hNl, ef, by simp⟩
  have hst : ∀ n x σ' H', xs[n]? = some x → Lent W1 S1 pin σ0 none N body l xs pr n σ' H' → gName N x σ' H' fun σ2 H2 => tb { D with nx := Lent W1 S1 pin σ0 none N body l xs pr (n + 1), ct := Lent W1 S1 pin σ0 none N body l xs pr (n + 1), bk := D.nx } σ2 H2 := fun n x σ' H' hx h => lent_step hb (fun i v e => (nomatch e)) (fun i hi => hi) hN hxl hx h
  have hend : ∀ σ' H', Lent W1 S1 pin σ0 none N body l xs pr xs.length σ' H' → D.nx σ' H' := fun σ' H' ⟨ρ', done, l2, _, hd, g, hRv, pp, _, e, ep⟩ => by
    rw [hxl] at hd
    rw [List.drop_eq_nil_of_le (by omega)] at g e
    rw [List.drop_eq_nil_of_le (by omega), List.take_of_length_le (by omega)] at g
    cases e
    subst ep
    have g3 := back ρ' σ' [] [] H' done hd (by simpa using g)
    exact k1 σ' H' g3.pop1 pp
  have hl : ∀ n σ' H', Lent W1 S1 pin σ0 none N body l xs pr n σ' H' → H' a = H1 a := fun n σ' H' ⟨ρ', done, l2, _, _, g, _⟩ => by
    rw [← hW1]
    refine same_at (fun x o h => g.outer x o h) ?_
    rw [hW1]; rcases hH with h | h <;> rw [h] <;> simp
  refine ⟨a, rfl, ?_⟩
  rcases hH with hH | hH
  · exact .inl ⟨⟨xs, .of hH⟩, for_list (xs := xs) _ h0 (fun n σ' H' _ h => .of (by rw [hl n σ' H' h]; exact hH)) hst hend⟩
  · exact .inr ⟨⟨xs, .of hH⟩, for_tup (xs := xs) _ h0 (fun n σ' H' _ h => .of (by rw [hl n σ' H' h]; exact hH)) hst hend⟩
end
end Z

namespace Z
noncomputable section
open PySem L2 PyProof.Rows
/-! ### sorted, where what is sorted stays owned -/
def srtT (ts : List T) : List T := ts.mergeSort (PySem.W.dataLe false fun t => t.d.py)
def sortO : List T → Option T
  | [t] => t.els.bind fun ts => if SrtOk (dl ts) then some (.ol (srtT ts)) else none
  | _ => none
theorem srtT_d (ts : List T) : dl (srtT ts) = srtD (dl ts) := by
  unfold srtT srtD
  rw [dl_eq, dl_eq]
  exact List.map_mergeSort (f := T.d) (r := PySem.W.dataLe false fun t : T => t.d.py) (s := PySem.W.dataLe false D.py) fun a _ b _ => rfl
theorem srtT_perm (ts : List T) : (srtT ts).Perm ts := List.mergeSort_perm ts _
theorem Rtl.perm {S H : Hp} {ps qs : List (T × V)} (h : ps.Perm qs) : ∀ {b : List Addr}, Rtl S H (ps.map Prod.fst) (ps.map Prod.snd) b → ∃ c, c.Perm b ∧ Rtl S H (qs.map Prod.fst) (qs.map Prod.snd) c := by
  induction h with
  | nil => exact fun {b} k => ⟨b, List.Perm.refl _, k⟩
  | cons p _ ih =>
    rintro b ⟨v, r, c, d, e1, rfl, h3, h4⟩
    cases e1
    obtain ⟨d', q1, q2⟩ := ih h4
    exact ⟨c ++ d', List.Perm.append_left c q1, ⟨_, _, c, d', rfl, rfl, h3, q2⟩⟩
  | swap p q l =>
    rintro b ⟨v, r, c, d, e1, rfl, h3, ⟨v2, r2, c2, d2, e2, rfl, h5, h6⟩⟩
    cases e1
    cases e2
    refine ⟨c2 ++ (c ++ d2), ?_, ⟨_, _, c2, c ++ d2, rfl, rfl, h5, ⟨_, _, c, d2, rfl, rfl, h3, h6⟩⟩⟩
    rw [← List.append_assoc, ← List.append_assoc]
    exact List.Perm.append_right d2 List.perm_append_comm
  | trans _ _ i1 i2 =>
    intro b k
    obtain ⟨c, q1, q2⟩ := i1 k
    obtain ⟨d, q3, q4⟩ := i2 q2
    exact ⟨d, q3.trans q1, q4⟩
theorem ce_sortedO {K : PySem.W.Frag} : CallE (rSortedD K) sortO := fun W S0 ρ σ tm vm H ts vs z Q g e0 e k => by
  match ts, vs, e0, e, g with
  | [t], [v], _, e, g =>
    obtain ⟨us, hu, e⟩ := some_bind e
    obtain ⟨⟨h1, h2, h3⟩, e⟩ := ite_some e
    cases e
    obtain ⟨a, xs, rfl, ha, hlen, g2⟩ := GX.els g hu
    have hrp : Rpl H (dl us) xs := g2.tmps hlen
    obtain ⟨zs, hzs⟩ : ∃ zs, zs = us.zip xs := ⟨_, rfl⟩
    have hz1 : zs.map Prod.fst = us := by rw [hzs]; exact List.map_fst_zip (by omega)
    have hz2 : zs.map Prod.snd = xs := by rw [hzs]; exact List.map_snd_zip (by omega)
    have hzr : ∀ p ∈ zs, Rp H p.1.d p.2 := fun p hp => by
      have h4 : (p.1.d, p.2) ∈ (dl us).zip xs := by
        rw [dl_eq, List.zip_map_left]
        rw [hzs] at hp
        exact List.mem_map.mpr ⟨p, hp, rfl⟩
      exact hrp.zip_mem _ h4
    have hzd : ∀ p ∈ zs, p.1.d.dat 59 = true := fun p hp => datl_mem h1 (by
      rw [dl_eq, ← hz1, List.map_map]
      exact List.mem_map.mpr ⟨p, hp, rfl⟩)
    have e1 : (zs.map fun p => (p.2, p.1.d.py)).map Prod.fst = xs := by rw [List.map_map]; exact hz2
    have e2 : (zs.map fun p => (p.2, p.1.d.py)).map Prod.snd = (dl us).map D.py := by
      rw [dl_eq, List.map_map, ← hz1, List.map_map, List.map_map]; rfl
    refine ⟨a, zs.map fun p => (p.2, p.1.d.py), rfl, by rw [e1]; exact .of ha, fun p hp => ?_, by rw [e2]; exact h2, by rw [e2]; exact h3, fun p hp => ?_, fun q hq => ?_⟩
    · obtain ⟨p', hp', rfl⟩ := List.mem_map.mp hp
      exact (hzr p' hp').dp (hzd p' hp')
    · obtain ⟨p', hp', rfl⟩ := List.mem_map.mp hp
      have := (dat_lay (hzd p' hp')).2
      show p'.1.d.py.depth ≤ 60
      omega
    · obtain ⟨ss, hss⟩ : ∃ ss, ss = zs.mergeSort (PySem.W.dataLe false fun p => p.1.d.py) := ⟨_, rfl⟩
      have m1 : ((zs.map fun p => (p.2, p.1.d.py)).mergeSort (PySem.W.dataLe false Prod.snd)).map Prod.fst = ss.map Prod.snd := by
        rw [hss, ← List.map_mergeSort (f := fun p : T × V => (p.2, p.1.d.py)) (r := PySem.W.dataLe false fun p : T × V => p.1.d.py) (s := PySem.W.dataLe false Prod.snd) (fun a _ b _ => rfl), List.map_map]
        rfl
      have m2 : srtT us = ss.map Prod.fst := by
        unfold srtT
        rw [hss, ← hz1, ← List.map_mergeSort (f := (Prod.fst : T × V → T)) (r := PySem.W.dataLe false fun p : T × V => p.1.d.py) (s := PySem.W.dataLe false fun t : T => t.d.py) (fun a _ b _ => rfl)]
      rw [m1]
      refine k _ _ ?_
      have hp : zs.Perm ss := by rw [hss]; exact (List.mergeSort_perm zs _).symm
      have g3 := g2.sub (us := srtT us) (ws := ss.map Prod.snd) hlen fun S H' b hb => by
        rw [m2]
        have hb' : Rtl S H' (zs.map Prod.fst) (zs.map Prod.snd) b := by rw [hz1, hz2]; exact hb
        obtain ⟨c, q1, q2⟩ := Rtl.perm hp hb'
        exact ⟨c, q2, fun h => q1.nodup_iff.mpr h, fun x hx => q1.mem_iff.mp hx⟩
      exact g3.newL (by rw [m2]; simp) hq
end
end Z

namespace Z
noncomputable section
open PySem L2
variable {ct : CT} {Wx : XW} {pin : List Nat}
/-! ### a kid lent for some statements alone -/
theorem ss_openC1 {K : PySem.W.Frag} {R N : Nat} {te : TE} {e : EM} {s1 rest : TS} {b c : SM} (he : SE ct Wx te e) (hb : SS ct Wx (R :: N :: pin) s1 b) (hc : SS ct Wx pin rest c) (hR : R ≠ N) (hN : N ∉ pin) : SS ct Wx pin (tSeq (tAsg (tOp (rIx K) (tVar R) te) (gName N)) (tSeq s1 rest)) (mSeq (mOpen R N e b) c) :=
  show SS ct Wx pin (tSeq (tSeq (tAsg (tOp (rIx K) (tVar R) te) (gName N)) s1) rest) _ from ss_seq (ss_open he hb hR hN) hc
theorem ss_openC2 {K : PySem.W.Frag} {R N : Nat} {te : TE} {e : EM} {s1 s2 rest : TS} {b c : SM} (he : SE ct Wx te e) (hb : SS ct Wx (R :: N :: pin) (tSeq s1 s2) b) (hc : SS ct Wx pin rest c) (hR : R ≠ N) (hN : N ∉ pin) : SS ct Wx pin (tSeq (tAsg (tOp (rIx K) (tVar R) te) (gName N)) (tSeq s1 (tSeq s2 rest))) (mSeq (mOpen R N e b) c) :=
  show SS ct Wx pin (tSeq (tSeq (tAsg (tOp (rIx K) (tVar R) te) (gName N)) (tSeq s1 s2)) rest) _ from ss_seq (ss_open he hb hR hN) hc
end
end Z

namespace Z
noncomputable section
open PySem L2
variable {ct : CT} {Wx : XW} {W S0 S H H' : Hp} {ρ : Env} {σ σ0 : St} {t u : T} {l ts us tm its : List T} {v w : V} {vs ws vm : List V} {as bs : List Addr} {i : Nat} {d : D} {pin : List Nat} {D0 : Ends}
/-! ### max(xs), xs a list of ints -/
def maxI : List Int → Int
  | [] => 0
  | a :: l => l.foldl max a
theorem foldl_max (l : List Int) : ∀ a : Int, a ≤ l.foldl max a ∧ (∀ y ∈ l, y ≤ l.foldl max a) ∧ (l.foldl max a = a ∨ l.foldl max a ∈ l) := by
  induction l with
  | nil => exact fun a => ⟨Int.le_refl a, fun _ h => (nomatch h), .inl rfl⟩
  | cons b l ih =>
    intro a
    obtain ⟨h1, h2, h3⟩ := ih (max a b)
    rw [List.foldl_cons]
    refine ⟨by omega, fun y hy => ?_, ?_⟩
    · rcases List.mem_cons.mp hy with rfl | hy
      · omega
      · exact h2 y hy
    · rcases h3 with h3 | h3
      · by_cases c : a ≤ b
        · right; rw [h3, Int.max_eq_right c]; exact List.mem_cons_self
        · left; rw [h3]; omega
      · exact .inr (List.mem_cons_of_mem _ h3)
theorem maxI_spec {ns : List Int} {m : Int} (hm : m ∈ ns) (hx : ∀ y ∈ ns, y ≤ m) : maxI ns = m := by
  cases ns with
  | nil => cases hm
  | cons a l =>
    obtain ⟨h1, h2, h3⟩ := foldl_max l a
    show l.foldl max a = m
    have a1 : l.foldl max a ≤ m := by
      rcases h3 with h3 | h3
      · rw [h3]; exact hx a List.mem_cons_self
      · exact hx _ (List.mem_cons_of_mem _ h3)
    have a2 : m ≤ l.foldl max a := by
      rcases List.mem_cons.mp hm with rfl | hm
      · exact h1
      · exact h2 m hm
    omega
def oMaxL : D → Option D
  | .lst l => (intsOf l).bind fun bs => if 0 < bs.length then some (.int (maxI bs)) else none
  | _ => none
theorem cs_maxL {K : PySem.W.Frag} : CallS (rMax K) (o1 oMaxL) := fun H ds vs d h e Q q => by
  obtain ⟨x, rfl, e⟩ := o1_some e
  obtain ⟨v, rfl, hv⟩ := rpl1 h
  clear h
  cases x <;> first | (cases e; done) | skip
  obtain ⟨bs, e1, e⟩ := some_bind e
  obtain ⟨hb, e⟩ := ite_some e
  cases e
  obtain ⟨a, ws, rfl, h1, h2⟩ := hv
  refine ⟨a, bs, rfl, .of (by rw [← intsOf_rp e1 h2]; exact h1), hb, fun m hm hx => ?_⟩
  have := q (.int (maxI bs)) H (fun _ _ h => h) rfl
  rw [maxI_spec hm hx] at this
  exact this
/-! ### dicts that a name owns -/
def keyD : D → Option Key
  | .int i => some (.inl i)
  | .str s => some (.inr s)
  | _ => none
theorem keyD_rp {k : Key} (e : keyD d = some k) (h : Rp H d v) : v = kV k := by
  cases d <;> first | (cases e; done) | skip
  · cases e; exact h
  · cases e; exact h
def hasK (ks : List Key) (k : Key) : Bool := ks.any fun j => decide (j = k)
theorem any_zip {k : Key} : ∀ {ks : List Key} {vs : List V}, ks.length = vs.length → ((ks.zip vs).any fun kv => decide (kv.1 = k)) = hasK ks k
  | [], _, _ => by simp [hasK]
  | a :: ks, [], h => by simp at h
  | a :: ks, v :: vs, h => by
    have ih := any_zip (k := k) (ks := ks) (vs := vs) (by simpa using h)
    rw [List.zip_cons_cons, List.any_cons, ih]
    rfl
/-- x in d -/
def pDIn (neg : Bool) (a b : PM) : PM := fun ρ => match a ρ, b ρ with
  | some x, some (.dic ks _) => (keyD x).map fun k => .bl (if neg then !hasK ks k else hasK ks k)
  | _, _ => none
theorem sp_dIn {ta tb : TE} {a b : PM} (ha : SP ta a) (hb : SP tb b) : SP (tDIn ta tb) (pDIn false a b) := fun ρ σ H g d h Q q => by
  unfold pDIn at h
  split at h
  case h_2 => cases h
  rename_i x ks l e1 e2
  obtain ⟨k, e3, rfl⟩ := Option.map_eq_some_iff.mp h
  refine ha ρ σ H g x e1 _ fun v H1 s1 r1 => hb ρ σ H1 (g.ext s1) _ e2 _ fun w H2 s2 r2 => ?_
  obtain ⟨a, vs, rfl, hH, hl, hr⟩ := r2
  have hk := keyD_rp e3 r1
  subst hk
  refine ⟨a, _, rfl, DGet.k hH, ?_⟩
  rw [← valV_any, any_zip (by rw [hr.len]; exact hl)]
  exact q _ H2 (s1.trans s2) rfl
theorem sp_dNotIn {ta tb : TE} {a b : PM} (ha : SP ta a) (hb : SP tb b) : SP (tDNotIn ta tb) (pDIn true a b) := fun ρ σ H g d h Q q => by
  unfold pDIn at h
  split at h
  case h_2 => cases h
  rename_i x ks l e1 e2
  obtain ⟨k, e3, rfl⟩ := Option.map_eq_some_iff.mp h
  refine ha ρ σ H g x e1 _ fun v H1 s1 r1 => hb ρ σ H1 (g.ext s1) _ e2 _ fun w H2 s2 r2 => ?_
  obtain ⟨a, vs, rfl, hH, hl, hr⟩ := r2
  have hk := keyD_rp e3 r1
  subst hk
  refine ⟨a, _, rfl, DGet.k hH, ?_⟩
  rw [← valV_any, any_zip (by rw [hr.len]; exact hl)]
  exact q _ H2 (s1.trans s2) rfl
/-- {} -/
def eNewD : EM := fun ρ => .ok (.od [] []) ρ
theorem se_newD : SE ct Wx tDNewK eNewD := fun W S0 ρ σ tm vm H Q g k => fun p hp => k (.ref p) _ (GX.newD (ts := []) (vs := []) (ks := []) g rfl rfl hp)
/-- d[k] = c, k new, c a scalar -/
def mPutD (i : Nat) (kx c : PM) : SM := fun ρ => match ρ[i]?, kx ρ, c ρ with
  | some (some (.od ks ts)), some x, some d => match keyD x with
    | some k => if hasK ks k = false ∧ d.scal = true ∧ ts.length < lim then .nx (ρ.set i (some (.od (ks ++ [k]) (ts ++ [.sh d])))) else .bad
    | none => .bad
  | _, _, _ => .bad
theorem ss_putD {i : Nat} {tk tc : TE} {kx c : PM} (hk : SP tk kx) (hc : SP tc c) : SS ct Wx pin (sDPut (tVar i) tk tc) (mPutD i kx c) := fun W S0 σ0 ρ σ H D g p k => by
  unfold mPutD at k
  split at k
  case h_2 => exact k.elim
  rename_i ks ts x d e1 e2 e3
  split at k
  case h_2 => exact k.elim
  rename_i kk e4
  obtain ⟨⟨hn, hs, hz⟩, k⟩ := SK_ite k
  obtain ⟨vd, hv, g1⟩ := g.take e1
  refine hc ρ σ H g.rv _ e3 _ fun z H1 s1 r1 => ⟨vd, hv, ?_⟩
  refine hk ρ σ H1 (g.rv.ext s1) _ e2 _ fun y H2 s2 r2 => ?_
  have hy := keyD_rp e4 r2
  subst hy
  obtain ⟨a, xs, rfl, h1, h2, h3, mk⟩ := ((g1.ext s1).ext s2).mutD
  have hval : valV (ks.zip xs) kk = none := by
    have := valV_any kk (ks.zip xs)
    rw [any_zip (by omega), hn] at this
    cases q : valV (ks.zip xs) kk with
    | none => rfl
    | some _ => rw [q] at this; cases this
  refine ⟨a, _, rfl, DPut.k h1 (lim_lt (by rw [List.length_zip]; omega)), ?_⟩
  rw [putK_new _ hval]
  have g3 := mk (ks ++ [kk]) (ts ++ [.sh d]) [] (xs ++ [z]) [] (by simp [h2]) (fun S H b c hb hc => by
    obtain ⟨h4, rfl⟩ := hc
    have h6 : Rtl S H [T.sh d] [z] [] := ⟨z, [], [], [], rfl, rfl, ⟨rfl, r1.scal hs⟩, rfl, rfl⟩
    exact ⟨b ++ [], [], hb.append h6, ⟨rfl, rfl⟩, by simp, by simp⟩)
  have e5 : (ks ++ [kk]).zip (xs ++ [z]) = ks.zip xs ++ [(kk, z)] := by rw [List.zip_append (by omega)]; rfl
  rw [e5] at g3
  have g4 := g3.back hv
  rw [List.set_set] at g4
  exact k _ _ g4 p
end
end Z

namespace Z
noncomputable section
open PySem L2
variable {ct : CT} {Wx : XW} {W S0 S H H' : Hp} {ρ : Env} {σ σ0 : St} {t u : T} {l ts us tm its : List T} {v w : V} {vs ws vm : List V} {as bs : List Addr} {i : Nat} {d : D} {pin : List Nat} {D0 : Ends} {J : It}
/-- the kids of an owned temporary, and how they are gathered again -/
theorem GX.explode2 (g : GX W S0 ρ σ (t :: tm) (v :: vm) H) (ek : t.kidsO = some l) : ∃ a xs W1 S1, v = .ref a ∧ (H a = some (.lst xs) ∨ H a = some (.tup xs)) ∧ W1 a = H a ∧ xs.length = l.length ∧ GX W1 S1 ρ σ (l ++ tm) (xs ++ vm) H ∧
    (∀ ρ' σ' tm' vm' H' l', l'.length = l.length → GX W1 S1 ρ' σ' (l' ++ tm') (xs ++ vm') H' → GX W S0 ρ' σ' (t.setK l' :: tm') (v :: vm') H') ∧ (∀ ρ' σ' tm' vm' H', GX W1 S1 ρ' σ' tm' vm' H' → GX W S0 ρ' σ' tm' vm' H') := by
  obtain ⟨S, as, bs, g⟩ := g
  obtain ⟨v', r, c1, c2, h3, rfl, h4, h6⟩ := g.rt
  cases h3
  have nd := g.nd
  have fs := g.fs
  have fw := g.fw
  obtain ⟨a, xs, b, o, rfl, rfl, hH, ho, h5, bk⟩ : ∃ (a : Addr) (xs : List V) (b : List Addr) (o : HO), v = .ref a ∧ c1 = a :: b ∧ H a = some o ∧ (o = .lst xs ∨ o = .tup xs) ∧ Rtl S H l xs b ∧ ∀ S' H' l' b', H' a = some o → Rtl S' H' l' xs b' → Rt S' H' (t.setK l') (.ref a) (a :: b') := by
    cases t with
    | sh d => cases ek
    | od ks l => cases ek
    | ol l0 =>
      cases ek
      obtain ⟨a, xs, b, rfl, rfl, h1, h2⟩ := h4
      exact ⟨a, xs, b, _, rfl, rfl, h1, .inl rfl, h2, fun S' H' l' b' q1 q2 => ⟨a, xs, b', rfl, rfl, q1, q2⟩⟩
    | ot l0 =>
      cases ek
      obtain ⟨a, xs, b, rfl, rfl, h1, h2⟩ := h4
      exact ⟨a, xs, b, _, rfl, rfl, h1, .inr rfl, h2, fun S' H' l' b' q1 q2 => ⟨a, xs, b', rfl, rfl, q1, q2⟩⟩
  have hSa : S a = none := fs a (by simp)
  have hWa : W a = none := fw a (by simp)
  have sW : ∀ x, x ≠ a → also W H a x = W x := fun x h => also_ne h
  have wSame : Same W (also W H a) := fun x o h => by
    rw [sW x (by rintro rfl; rw [hWa] at h; cases h)]; exact h
  refine ⟨a, xs, also W H a, S, rfl, by rcases ho with rfl | rfl; exact .inl hH; exact .inr hH, also_at, h5.len, ?_, fun ρ' σ' tm' vm' H' l' hl' g' => ?_, fun ρ' σ' tm' vm' H' g' => ?_⟩
  · refine ⟨S, as, b ++ c2, fun _ _ h => h, g.sh, fun x o h => ?_, fun _ _ h => h, g.re, h5.append h6, by grind, fun x hx => fs x (by grind), fun x hx => ?_⟩
    · by_cases q : x = a
      · subst q; rw [also_at] at h; exact h
      · rw [sW x q] at h; exact g.wh x o h
    · rw [sW x (by rintro rfl; grind)]; exact fw x (by grind)
  · obtain ⟨S', as', bs', g'⟩ := g'
    obtain ⟨b', c', rfl, q1, q2⟩ := g'.rt.split (show xs.length = l'.length by rw [hl']; exact h5.len)
    have hHa : H' a = some o := g'.wh a _ (by rw [also_at]; exact hH)
    have hS'a : S' a = none := by
      cases q : S' a with
      | none => rfl
      | some o' => exact absurd hSa (g'.nw a (by rw [also_at, hH]; simp) (by rw [q]; simp))
    have nd' := g'.nd
    have fw' := g'.fw
    have fs' := g'.fs
    have hne : ∀ x ∈ as' ++ (b' ++ c'), x ≠ a := fun x hx q => by
      have := fw' x hx
      rw [q, also_at, hH] at this; cases this
    refine ⟨S', as', (a :: b') ++ c', fun x o h => g'.s0 x o (g.s0 x o h), g'.sh, fun x o h => g'.wh x o (wSame x o h), fun x h k => ?_, g'.re, ⟨.ref a, vm', a :: b', c', rfl, rfl, bk S' H' l' b' hHa q1, q2⟩, by grind, by grind, fun x hx => ?_⟩
    · refine g.nw x h (g'.nw x ?_ k)
      intro q
      cases hq : W x with
      | none => exact h hq
      | some o => rw [wSame x o hq] at q; cases q
    · by_cases q : x = a
      · rw [q]; exact hWa
      · have := fw' x (by grind)
        rw [sW x q] at this; exact this
  · obtain ⟨S', as', bs', g'⟩ := g'
    refine ⟨S', as', bs', fun x o h => g'.s0 x o (g.s0 x o h), g'.sh, fun x o h => g'.wh x o (wSame x o h), fun x h k => ?_, g'.re, g'.rt, g'.nd, g'.fs, fun x hx => ?_⟩
    · refine g.nw x h (g'.nw x ?_ k)
      intro q
      cases hq : W x with
      | none => exact h hq
      | some o => rw [wSame x o hq] at q; cases q
    · have := g'.fw x hx
      cases hq : W x with
      | none => rfl
      | some o => rw [wSame x o hq] at this; cases this
/-! ### a comprehension over an owned temporary whose kids move -/
def lcM (N : Nat) (tst : EMb) (elt : EM) : List T → List T → Env → Out (List T)
  | [], acc, ρ => .ok acc ρ
  | u :: us, acc, ρ => (tst (ρ.set N (some u))).bnd fun c ρ => if c = true then (elt ρ).bnd fun z ρ => if acc.length < lim ∧ N < ρ.length then lcM N tst elt us (acc ++ [z]) (wipeE ρ [N]) else .bad
      else if N < ρ.length then lcM N tst elt us acc (wipeE ρ [N]) else .bad
def eLCM (N : Nat) (e : EM) (tst : EMb) (elt : EM) : EM := fun ρ => (e ρ).bnd fun t ρ1 => match t with
  | .ol l => if N < ρ1.length then ((lcM N tst elt l [] (wipeE ρ1 [N])).nox).bnd fun acc ρ2 => .ok (.ol acc) (keepE ρ1 [N] (wipeE ρ2 [N])) else .bad
  | _ => .bad
theorem se_lcM {K : PySem.W.Frag} {N : Nat} {te0 : TE} {e : EM} {tt : TT} {te : TE} {tst : EMb} {elt : EM} (h0 : SE ct Wx te0 e) (ht : SET ct NoX tt tst) (he : SE ct NoX te elt) : SE ct Wx (tLc (iSeq K te0) (gName N) tt te [N]) (eLCM N e tst elt) := fun W S0 ρ σ tm vm H Q gx k => by
  refine h0 W S0 ρ σ tm vm H _ gx ((Out.P_bnd.mp k).mono (fun t ρ1 k1 v H1 g1 => ?_) fun _ _ h => h)
  split at k1
  case h_2 => exact k1.elim
  rename_i l
  obtain ⟨hN, k1⟩ := P_ite k1
  have k2 := P_nox (Ψ' := fun _ _ => False) (Out.P_bnd.mp k1)
  obtain ⟨a0, xs0, hva, hH0, _, _⟩ := GX.els g1 (ts := l) rfl
  obtain ⟨a, xs, W1, S1, hvb, hH, hW1, hxl, g2, _, out⟩ := g1.explode2 (l := l) rfl
  have haa : a0 = a := by rw [hva] at hvb; cases hvb; rfl
  subst haa
  have hHl : H1 a0 = some (.lst xs) := by
    rcases hH with h | h
    · exact h
    · rw [h] at hH0; cases hH0
  clear hH
  refine ⟨a0, hvb, .inl ⟨⟨xs, .of hHl⟩, ?_⟩⟩
  intro D hD
  obtain ⟨S2, as, bs, hu1, g3⟩ := g2.up
  have hk : ∀ (j : Nat) d, ρ1[j]? = some (some (.sh d)) → ∃ v, σ[j]? = some (some v) ∧ Rp S2 d v := fun j d e => by
    obtain ⟨v, b, c, d', e1, _, ⟨_, e3⟩, _⟩ := g3.re.at e
    exact ⟨v, e1, e3⟩
  have g4 : GX W1 S2 (wipeE ρ1 [N]) (wipe σ [N]) (.ol [] :: (l ++ tm)) (.ref D :: (xs ++ vm)) (upd H1 D (.lst [])) := GX.wipe (GX.newL (ts := []) (vs := []) ⟨S2, as, bs, g3⟩ rfl hD)
  refine lc_list (xs := xs) (fun n H' => n ≤ l.length ∧ ∃ ρ' acc, GX W1 S2 ρ' (wipe σ [N]) (.ol acc :: (l.drop n ++ tm)) (.ref D :: (xs.drop n ++ vm)) H' ∧ N < ρ'.length ∧ (lcM N tst elt (l.drop n) acc ρ').P (fun acc ρ2 => ∀ H', GX W1 S2 (wipeE ρ2 [N]) (wipe σ [N]) (.ol acc :: tm) (.ref D :: vm) H' → Q (.ref D) H') (fun _ _ => False)) ?_ ?_ ?_ ?_
  · refine ⟨Nat.zero_le _, _, [], by simpa using g4, by show N < ((wipeE ρ1 [N])).length; simpa [wipeE] using hN, k2.mono (fun acc ρ2 k3 H' g5 => ?_) fun _ _ h => h⟩
    exact k3 (.ref D) H' (out _ _ _ _ _ ((GX.keep g5 hk).join hu1))
  · rintro n H' _ ⟨_, ρ', acc, g', _⟩
    refine .of ?_
    have := g'.outer a0 (.lst xs) (by rw [hW1]; exact hHl)
    exact this
  · rintro n x H' hx ⟨hle, ρ', acc, g', hNl, k'⟩
    have hlt : n < xs.length := (List.getElem?_eq_some_iff.mp hx).1
    have hxe : xs[n] = x := (List.getElem?_eq_some_iff.mp hx).2
    have hll : n < l.length := by omega
    rw [List.drop_eq_getElem_cons hll, List.drop_eq_getElem_cons hlt, hxe] at g'
    rw [List.drop_eq_getElem_cons hll] at k'
    unfold lcM at k'
    have g5 : GX W1 S2 ρ' (wipe σ [N]) (l[n] :: ([.ol acc] ++ (l.drop (n + 1) ++ tm))) (x :: ([.ref D] ++ (xs.drop (n + 1) ++ vm))) H' := GX.rot (ts := [.ol acc]) (vs := [.ref D]) g' rfl
    have g6 := g5.put hNl
    have ew : wipe ((wipe σ [N]).set N (some x)) [N] = wipe σ [N] := by rw [wipe_set (by simp), wipe_wipe]
    refine ⟨by rw [ew], ht W1 S2 _ _ _ _ H' _ g6 ((Out.P_bnd.mp k').mono (fun c ρ3 k3 H3 g7 => ?_) fun _ _ h => h.elim)⟩
    cases c with
    | false =>
      obtain ⟨hN3, k3⟩ := P_ite (show (if N < ρ3.length then lcM N tst elt (l.drop (n + 1)) acc (wipeE ρ3 [N]) else .bad).P _ _ from k3)
      refine ⟨hll, wipeE ρ3 [N], acc, ?_, by simpa [wipeE] using hN3, k3⟩
      have := GX.wipe (slots := [N]) g7
      rw [ew] at this
      exact this
    | true =>
      rw [if_pos rfl] at k3 ⊢
      refine he W1 S2 ρ3 _ _ _ H3 _ g7 ((Out.P_bnd.mp k3).mono (fun z ρ4 k4 yv H4 g8 => ?_) fun _ _ h => h.elim)
      obtain ⟨⟨hz, hN4⟩, k4⟩ := P_ite k4
      have g9 : GX W1 S2 ρ4 ((wipe σ [N]).set N (some x)) (.ol acc :: z :: (l.drop (n + 1) ++ tm)) (.ref D :: yv :: (xs.drop (n + 1) ++ vm)) H4 := GX.rot (ts := [z]) (vs := [yv]) g8 rfl
      obtain ⟨a', xs', e5, h1, h2, mk⟩ := g9.mutL
      cases e5
      refine ⟨xs', h1, lim_lt (by omega), hll, wipeE ρ4 [N], acc ++ [z], ?_, by simpa [wipeE] using hN4, k4⟩
      have g10 := mk (acc ++ [z]) (l.drop (n + 1) ++ tm) (xs' ++ [yv]) (xs.drop (n + 1) ++ vm) (fun S H b c hb hc => by
        obtain ⟨v', r, c1, c2, h3, rfl, h4, h5⟩ := hc
        cases h3
        have h6 : Rtl S H [z] [yv] c1 := ⟨yv, [], c1, [], rfl, by simp, h4, rfl, rfl⟩
        exact ⟨b ++ c1, c2, hb.append h6, h5, by grind, by grind⟩)
      have := GX.wipe (slots := [N]) g10
      rw [ew] at this
      exact this
  · rintro H' ⟨_, ρ', acc, g', _, k'⟩
    rw [List.drop_eq_nil_of_le (by omega)] at g' k'
    rw [List.drop_eq_nil_of_le (Nat.le_refl _)] at g'
    refine k' H' ?_
    have := GX.wipe (slots := [N]) g'
    rw [wipe_wipe] at this
    exact this
end
end Z

namespace Z
noncomputable section
open PySem L2
variable {ct : CT} {Wx : XW} {W S0 S H H' : Hp} {ρ : Env} {σ σ0 : St} {t u : T} {l ts us tm its : List T} {v w : V} {vs ws vm : List V} {as bs : List Addr} {i : Nat} {d : D} {pin : List Nat} {D0 : Ends}
/-! ### xs[k] op= e -/
def rGetL (K : PySem.W.Frag) : V → V → Hp → VK → Prop := fun o i H Q => ∃ p xs k v, o = .ref p ∧ i = .int k ∧ SqL K H p xs ∧ atI xs k = some v ∧ Q v H
theorem get_list {X : Cx} : PGet X (rGetL X.K) := by
  intro pins s σ H o i ov iv Q I ro ri h
  obtain ⟨p, xs, k, z, rfl, rfl, hq, he, q⟩ := h
  cases ro
  obtain ⟨t, rfl⟩ := ri
  obtain ⟨its, r, pl, hz⟩ := I.list hq
  obtain ⟨j, h1, h2, h3, h4, h5⟩ := atI_get he
  obtain ⟨w, ew, rw'⟩ := r.get h2
  have hl := r.length
  have hn := line63
  have fin : EP X pins σ Q w s := ⟨z, H, I, rw', q⟩
  by_cases h0 : 0 ≤ k
  · have hj : k.toNat = j := by
      rw [seqIndex_of h0 h5] at h1
      exact Option.some.inj h1
    exact wpAny_getItem_list pl.isList h0 (by omega) (by rw [hj]; simpa using ew) fin
  · have hj : (k + (its.toArray.size : Int)).toNat = j := by
      rw [seqIndex_neg (by omega) h4] at h1
      rw [List.size_toArray, ← hl]
      exact Option.some.inj h1
    exact wpAny_getItem_list_neg pl.isList (by omega) (by rw [List.size_toArray, ← hl]; exact h4) (by omega) (by rw [hj]; simpa using ew) fin
/-- xs[k] += e: xs at a name, ints -/
def mAugS (i : Nat) (kx : PM) (f : Int → Int → Int) (e : PM) : SM := fun ρ => match ρ[i]?, kx ρ, e ρ with
  | some (some (.ol ts)), some (.int k), some (.int y) => match ixN ts.length k with
    | some j => match ts[j]? with
      | some (.sh (.int x)) => .nx (ρ.set i (some (.ol (ts.set j (.sh (.int (f x y)))))))
      | _ => .bad
    | none => .bad
  | _, _, _ => .bad
theorem ss_augS {K : PySem.W.Frag} {i : Nat} {ti te : TE} {kx e : PM} {f : Int → Int → Int} (hx : SP ti kx) (he : SP te e) : SS ct Wx pin (tAugS (tVar i) ti te (rGetL K) (ipI f) rSetL) (mAugS i kx f e) := fun W S0 σ0 ρ σ H D g p k => by
  unfold mAugS at k
  split at k
  case h_2 => exact k.elim
  rename_i ts kk y e1 e2 e3
  split at k
  case h_2 => exact k.elim
  rename_i j e4
  split at k
  case h_2 => exact k.elim
  rename_i x e5
  obtain ⟨v0, hv0, r0⟩ := g.rv i _ e1
  obtain ⟨vd, hv, g1⟩ := g.take e1
  rw [hv0] at hv
  cases hv
  refine ⟨v0, hv0, hx ρ σ H g.rv _ e2 _ fun z H1 s1 r1 => ?_⟩
  cases r1
  obtain ⟨a, xs, rfl, h1, h2, mk⟩ := (g1.ext s1).mutL
  obtain ⟨a', xs', ea, h1', hr⟩ := r0.mono s1
  cases ea
  rw [h1] at h1'
  cases h1'
  have hj : j < ts.length := (ixN_seq e4).2.1
  have hd : (dl ts)[j]? = some (.int x) := by rw [dl_eq, List.getElem?_map, e5]; rfl
  obtain ⟨w, ew, rw'⟩ := hr.get hd
  cases rw'
  refine ⟨a, xs, kk, .int x, rfl, rfl, .of h1, ?_, he ρ σ H1 (g.rv.ext s1) _ e3 _ fun z H2 s2 r2 => ?_⟩
  · unfold atI
    rw [h2, e4]
    exact ew
  cases r2
  obtain ⟨a2, xs2, ea, h12, h22, mk2⟩ := ((g1.ext s1).ext s2).mutL
  cases ea
  refine ⟨x, y, rfl, rfl, a, xs2, kk, j, rfl, rfl, h12, by rw [h22]; exact e4, ?_⟩
  have g3 := mk2 (ts.set j (.sh (.int (f x y)))) [] (xs2.set j (.int (f x y))) [] (fun S H b c hb hc => by
    obtain ⟨_, rfl⟩ := hc
    obtain ⟨w, b1, d1, d2, k1, rfl, k2, k3⟩ := hb.at (List.getElem?_eq_getElem hj)
    refine ⟨b1 ++ [] ++ d2, [], k3 S H (.sh (.int (f x y))) (.int (f x y)) [] (fun _ _ h => h) (fun _ _ => rfl) ⟨rfl, rfl⟩, ⟨rfl, rfl⟩, by grind, by grind⟩)
  have g4 := g3.back hv0
  rw [List.set_set] at g4
  exact k _ _ g4 p
/-- whole numbers, the product not too great -/
def ipM : TIp := fun x y H Q => ∃ i j, x = .int i ∧ y = .int j ∧ smallM i j ∧ Q (.int (i * j)) H
theorem ip_mulM {X : Cx} : PIp X .Mult ipM := by
  intro pins s σ H x y v u Q I r1 r2 h
  obtain ⟨i, j, e1, e2, hs, q⟩ := h
  subst e1; subst e2
  obtain ⟨t, rfl⟩ := r1
  obtain ⟨t', rfl⟩ := r2
  refine PyProof.Rows.imul_int ⟨.int _, H, I.tok _, ⟨_, rfl⟩, q⟩ ?_
  rcases hs with h | h | h
  · exact CMul.ok (.inl h)
  · exact CMul.ok (.inr h)
  · exact CMulW.ok h
/-- x *= e -/
def mAugM (i : Nat) (e : EM) : SM := fun ρ => match ρ[i]? with
  | some (some (.sh (.int a))) => (e ρ).st fun t ρ => match t.d.intO with
    | some b => if smallM a b then .nx (ρ.set i (some (.sh (.int (a * b))))) else .bad
    | none => .bad
  | _ => .bad
theorem ss_augM {i : Nat} {te : TE} {e : EM} (he : SE ct Wx te e) (hi : i ∉ pin) : SS ct Wx pin (tAug i te ipM) (mAugM i e) := fun W S0 σ0 ρ σ H D g p k => by
  unfold mAugM at k
  split at k
  case h_2 => exact k.elim
  rename_i a e0
  obtain ⟨v0, hv0, r0⟩ := g.rv i _ e0
  cases r0
  refine ⟨_, hv0, he W S0 ρ σ [] [] H _ g ((SK.st p k).mono (fun t ρ1 k1 v H1 g1 => ?_) fun _ _ h => h)⟩
  split at k1
  case h_2 => exact k1.elim
  rename_i b e1
  obtain ⟨hs, k1⟩ := SK_ite k1
  have q := g1.tmp
  rw [intO_int e1] at q
  refine ⟨a, b, rfl, q, hs, k1 _ _ ?_ (p.set hi)⟩
  exact GX.putA (g1.pop1.pushC (S := H1) (d := .int (a * b)) (v := .int (a * b)) rfl rfl) i
end
end Z

namespace Z
noncomputable section
open PySem L2
variable {ct : CT} {Wx : XW} {W S0 S H H' : Hp} {ρ : Env} {σ σ0 : St} {t u : T} {l ts us tm its : List T} {v w : V} {vs ws vm : List V} {as bs : List Addr} {i : Nat} {d : D} {pin : List Nat} {D0 : Ends} {K : PySem.W.Frag}
/-! ### d.get(k, x) -/
def valD (ks : List Key) (l : List D) (k : Key) : Option D := ((ks.zip l).find? fun p => decide (p.1 = k)).map (·.2)
theorem valD_rp {k : Key} : ∀ {ks : List Key} {l : List D} {vs : List V}, ks.length = l.length → Rpl H l vs → (valD ks l k = none ∧ valV (ks.zip vs) k = none) ∨ ∃ d v, valD ks l k = some d ∧ valV (ks.zip vs) k = some v ∧ Rp H d v
  | [], [], vs, _, _ => .inl ⟨rfl, by simp [valV]⟩
  | [], _ :: _, _, h, _ => by simp at h
  | _ :: _, [], _, h, _ => by simp at h
  | a :: ks, d :: l, vs, h, r => by
    obtain ⟨v, vs', rfl, r1, r2⟩ := r
    by_cases e : a = k
    · exact .inr ⟨d, v, by simp [valD, e], by simp [valV, e], r1⟩
    · rcases valD_rp (k := k) (by simpa using h) r2 with ⟨h1, h2⟩ | ⟨d', v', h1, h2, h3⟩
      · exact .inl ⟨by simpa [valD, e] using h1, by simpa [valV, e] using h2⟩
      · exact .inr ⟨d', v', by simpa [valD, e] using h1, by simpa [valV, e] using h2, h3⟩
def pDGet2 (a b c : PM) : PM := fun ρ => match a ρ, b ρ, c ρ with
  | some (.dic ks l), some x, some dx => if ks.length = l.length then (keyD x).map fun k => (valD ks l k).getD dx else none
  | _, _, _ => none
theorem sp_dGet2 {ta tb tc : TE} {a b c : PM} (ha : SP ta a) (hb : SP tb b) (hc : SP tc c) : SP (tDGet2 ta tb tc) (pDGet2 a b c) := fun ρ σ H g d h Q q => by
  unfold pDGet2 at h
  split at h
  case h_2 => cases h
  rename_i ks l x dx e1 e2 e3
  obtain ⟨hl0, h⟩ := ite_some h
  obtain ⟨k, e4, rfl⟩ := Option.map_eq_some_iff.mp h
  refine ha ρ σ H g _ e1 _ fun w H1 s1 r1 => ?_
  obtain ⟨p, vs, rfl, hH, hl, hr⟩ := r1
  refine ⟨p, rfl, .inl ⟨_, .inl hH⟩, hb ρ σ H1 (g.ext s1) x e2 _ fun v H2 s2 r2 => hc ρ σ H2 (g.ext (s1.trans s2)) dx e3 _ fun z H3 s3 r3 => ?_⟩
  have hk := keyD_rp e4 r2
  subst hk
  refine ⟨_, DGet.k ((s2.trans s3) _ _ hH), ?_⟩
  rcases valD_rp (k := k) hl0 (hr.mono (s2.trans s3)) with ⟨h1, h2⟩ | ⟨d', v', h1, h2, h3⟩
  · exact q _ H3 ((s1.trans s2).trans s3) (by rw [h1, h2]; exact r3)
  · exact q _ H3 ((s1.trans s2).trans s3) (by rw [h1, h2]; exact h3)
/-! ### d[k] = c, k new or there -/
def putL {α : Type} (ks : List Key) (l : List α) (k : Key) (u : α) : List α := (ks.zip l).map fun p => if p.1 = k then u else p.2
theorem putL_len {α : Type} {ks : List Key} {l : List α} {k : Key} {u : α} (h : ks.length = l.length) : (putL ks l k u).length = l.length := by
  unfold putL
  rw [List.length_map, List.length_zip]
  omega
theorem putL_zip {k : Key} {z : V} : ∀ {ks : List Key} {xs : List V}, ks.length = xs.length → ((ks.zip xs).map fun kv => if kv.1 = k then (kv.1, z) else kv) = ks.zip (putL ks xs k z)
  | [], _, _ => rfl
  | _ :: _, [], h => by simp at h
  | a :: ks, x :: xs, h => by
    have ih := putL_zip (k := k) (z := z) (ks := ks) (xs := xs) (by simpa using h)
    unfold putL at ih ⊢
    simp only [List.zip_cons_cons, List.map_cons, ih]
    by_cases e : a = k <;> simp [e]
theorem Rtl.putS {k : Key} {z : V} (hz : Rp S d z) : ∀ {ks : List Key} {ts : List T} {xs : List V} {b : List Addr}, ks.length = ts.length → ts.all T.isSh = true → Rtl S H ts xs b → b = [] ∧ Rtl S H (putL ks ts k (.sh d)) (putL ks xs k z) []
  | [], [], xs, b, _, _, h => by
    obtain ⟨rfl, rfl⟩ := h
    exact ⟨rfl, rfl, rfl⟩
  | [], _ :: _, _, _, h, _, _ => by simp at h
  | _ :: _, [], _, _, h, _, _ => by simp at h
  | a :: ks, t :: ts, xs, b, h, hs, r => by
    obtain ⟨v, r', c1, c2, rfl, rfl, r1, r2⟩ := r
    simp only [List.all_cons, Bool.and_eq_true] at hs
    obtain ⟨rfl, ih⟩ := Rtl.putS hz (by simpa using h) hs.2 r2
    cases t with
    | sh d' =>
      obtain ⟨rfl, r1⟩ := r1
      refine ⟨rfl, ?_⟩
      show Rtl S H (_ :: _) (_ :: _) _
      refine ⟨_, _, [], [], rfl, rfl, ?_, ih⟩
      by_cases e : a = k
      · simp only [e, if_true]; exact ⟨rfl, hz⟩
      · simp only [e, if_false]; exact ⟨rfl, r1⟩
    | _ => simp [T.isSh] at hs
def mPutG (i : Nat) (kx c : PM) : SM := fun ρ => match ρ[i]?, kx ρ, c ρ with
  | some (some (.od ks ts)), some x, some d => match keyD x with
    | some k => if d.scal = true ∧ ts.length < lim ∧ ks.length = ts.length ∧ ts.all T.isSh = true then (if hasK ks k = true then .nx (ρ.set i (some (.od ks (putL ks ts k (.sh d))))) else .nx (ρ.set i (some (.od (ks ++ [k]) (ts ++ [.sh d]))))) else .bad
    | none => .bad
  | _, _, _ => .bad
theorem ss_putG {i : Nat} {tk tc : TE} {kx c : PM} (hk : SP tk kx) (hc : SP tc c) : SS ct Wx pin (sDPut (tVar i) tk tc) (mPutG i kx c) := fun W S0 σ0 ρ σ H D g p k => by
  by_cases hn : ∀ ks ts, ρ[i]? = some (some (.od ks ts)) → ∀ x kk, kx ρ = some x → keyD x = some kk → hasK ks kk = false
  · refine ss_putD (ct := ct) (Wx := Wx) hk hc W S0 σ0 ρ σ H D g p ?_
    unfold mPutG at k
    split at k
    case h_2 => exact k.elim
    rename_i ks ts x d e1 e2 e3
    split at k
    case h_2 => exact k.elim
    rename_i kk e4
    have h1 := hn ks ts e1 x kk e2 e4
    obtain ⟨⟨hs, hz, _, _⟩, k⟩ := SK_ite k
    rw [if_neg (by rw [h1]; decide)] at k
    have hD : mPutD i kx c ρ = .nx (ρ.set i (some (.od (ks ++ [kk]) (ts ++ [.sh d])))) := by
      unfold mPutD
      rw [e1, e2, e3]
      show (match keyD x with | some k => (if hasK ks k = false ∧ d.scal = true ∧ ts.length < lim then SOut.nx (ρ.set i (some (T.od (ks ++ [k]) (ts ++ [T.sh d])))) else .bad) | none => .bad) = _
      rw [e4]
      exact if_pos ⟨h1, hs, hz⟩
    rw [hD]
    exact k
  · have hex : ∃ ks ts x kk, ρ[i]? = some (some (.od ks ts)) ∧ kx ρ = some x ∧ keyD x = some kk ∧ hasK ks kk = true := by
      apply Classical.byContradiction
      intro q
      apply hn
      intro ks ts e1 x kk e2 e3
      cases e4 : hasK ks kk with
      | false => rfl
      | true => exact absurd ⟨ks, ts, x, kk, e1, e2, e3, e4⟩ q
    obtain ⟨ks0, ts0, x0, kk0, a1, a2, a3, a4⟩ := hex
    unfold mPutG at k
    split at k
    case h_2 => exact k.elim
    rename_i ks ts x d e1 e2 e3
    rw [a1] at e1; cases e1
    rw [a2] at e2; cases e2
    rw [a3] at k
    simp only at k
    obtain ⟨⟨hs, hz, hl, hsh⟩, k⟩ := SK_ite k
    rw [if_pos a4] at k
    obtain ⟨vd, hv, g1⟩ := g.take a1
    refine hc ρ σ H g.rv _ e3 _ fun z H1 s1 r1 => ⟨vd, hv, ?_⟩
    refine hk ρ σ H1 (g.rv.ext s1) _ a2 _ fun y H2 s2 r2 => ?_
    have hy := keyD_rp a3 r2
    subst hy
    obtain ⟨a, xs, rfl, h1, h2, h3, mk⟩ := ((g1.ext s1).ext s2).mutD
    refine ⟨a, _, rfl, DPut.k h1 (lim_lt (by rw [List.length_zip]; omega)), ?_⟩
    have e5 : putK (ks0.zip xs) kk0 z = ks0.zip (putL ks0 xs kk0 z) := by
      unfold putK
      rw [any_zip (by omega), if_pos a4, putL_zip (by omega)]
    rw [e5]
    have g3 := mk ks0 (putL ks0 ts0 kk0 (.sh d)) [] (putL ks0 xs kk0 z) [] (by rw [putL_len hl]; exact hl) (fun S H b c hb hc => by
      obtain ⟨h4, rfl⟩ := hc
      obtain ⟨rfl, h6⟩ := Rtl.putS (k := kk0) (r1.scal hs) hl hsh hb
      exact ⟨[], [], h6, ⟨rfl, rfl⟩, by simp, by simp⟩)
    have g4 := g3.back hv
    rw [List.set_set] at g4
    exact k _ _ g4 p
end
end Z

namespace Z
noncomputable section
open PySem L2
variable {ct : CT} {Wx : XW} {W S0 S H H' : Hp} {ρ : Env} {σ σ0 : St} {t u : T} {l ts us tm its : List T} {v w : V} {vs ws vm : List V} {as bs : List Addr} {i : Nat} {d : D} {pin : List Nat} {D0 : Ends} {K : PySem.W.Frag}
/-! ### for k, v in d.items(): d at a name; behind the loop the name holds nothing -/
theorem GX.asideD {ks : List Key} (g : GX W S0 ρ σ tm vm H) (e : ρ[i]? = some (some (.od ks ts))) : ∃ a xs S, σ[i]? = some (some (.ref a)) ∧ H a = some (.dK (ks.zip xs)) ∧ ks.length = ts.length ∧ xs.length = ts.length ∧ Rpl S (ts.map T.d) xs ∧ Up W S0 S ∧ S a = none ∧ W a = none ∧
    ∀ o : HO, GX (also W (upd H a o) a) S (ρ.set i none) σ tm vm (upd H a o) ∧
    (∀ ρ' σ' tm' vm' H' u', GX (also W (upd H a o) a) S ρ' σ' tm' vm' H' → H' a = some o ∧ GX W S0 ρ' σ' tm' vm' (upd H' a u')) := by
  obtain ⟨v, e1, g1⟩ := g.take e
  obtain ⟨S, as, bs, g1⟩ := g1
  obtain ⟨v', r, c1, c2, h3, rfl, ⟨a, xs, b, rfl, rfl, h4, h7, h5⟩, h6⟩ := g1.rt
  cases h3
  have nd := g1.nd
  have fs := g1.fs
  have fw := g1.fw
  have eS : Same S (more S H b) := more_same (by grind)
  have hr : Rpl (more S H b) (ts.map T.d) xs := h5.fzs eS fun x hx o h => by rw [more_in hx]; exact h
  have ha : a ∉ b := by grind
  have hSa : S a = none := fs a (by grind)
  have hWa : W a = none := fw a (by grind)
  have hMa : more S H b a = none := by rw [more_out ha]; exact hSa
  have hup : Up W S0 (more S H b) := ⟨g1.s0.trans eS, fun x h k => by
    by_cases q : x ∈ b
    · exact absurd (fw x (by grind)) h
    · rw [more_out q] at k; exact g1.nw x h k⟩
  refine ⟨a, xs, more S H b, e1, h4, h7, h5.len, hr, hup, hMa, hWa, fun o => ?_⟩
  have sW : ∀ x, x ≠ a → also W (upd H a o) a x = W x := fun x h => also_ne h
  have wSame : Same W (also W (upd H a o) a) := fun x o' h => by
    rw [sW x (by rintro rfl; rw [hWa] at h; cases h)]; exact h
  have hat : also W (upd H a o) a a = some o := by rw [also_at]; exact if_pos rfl
  have hne : ∀ x, x ≠ a → upd H a o x = H x := fun x h => if_neg h
  refine ⟨?_, fun ρ' σ' tm' vm' H' u' g' => ?_⟩
  · refine ⟨more S H b, as, c2, fun _ _ h => h, fun x o' h => ?_, fun x o' h => ?_, fun _ _ h => h, g1.re.mono eS fun x hx => hne x (by grind), h6.mono eS fun x hx => hne x (by grind), by grind, fun x hx => ?_, fun x hx => ?_⟩
    · rw [hne x (by rintro rfl; rw [hMa] at h; cases h)]
      exact more_sub g1.sh x o' h
    · by_cases q : x = a
      · subst q; rw [hat] at h; cases h; exact if_pos rfl
      · rw [sW x q] at h; rw [hne x q]; exact g1.wh x o' h
    · have q : x ∉ b := by grind
      rw [more_out q]; exact fs x (by grind)
    · rw [sW x (by rintro rfl; grind)]; exact fw x (by grind)
  · obtain ⟨S', as', bs', g'⟩ := g'
    have hHa : H' a = some o := g'.wh a _ hat
    have hS'a : S' a = none := by
      cases q : S' a with
      | none => rfl
      | some o' => exact absurd hMa (g'.nw a (by rw [hat]; simp) (by rw [q]; simp))
    have fw' := g'.fw
    have hnm : ∀ x ∈ as' ++ bs', x ≠ a := fun x hx q => by
      have := fw' x hx
      rw [q, hat] at this; cases this
    have hne' : ∀ x, x ≠ a → upd H' a u' x = H' x := fun x h => if_neg h
    refine ⟨hHa, S', as', bs', hup.1.trans g'.s0, fun x o' h => ?_, fun x o' h => ?_, fun x h k => ?_, g'.re.mono (fun _ _ h => h) fun x hx => hne' x (hnm x (by simp [hx])), g'.rt.mono (fun _ _ h => h) fun x hx => hne' x (hnm x (by simp [hx])), g'.nd, g'.fs, fun x hx => ?_⟩
    · rw [hne' x (by rintro rfl; rw [hS'a] at h; cases h)]
      exact g'.sh x o' h
    · rw [hne' x (by rintro rfl; rw [hWa] at h; cases h)]
      exact g'.wh x o' (wSame x o' h)
    · refine hup.2 x h (g'.nw x ?_ k)
      intro q
      cases hq : W x with
      | none => exact h hq
      | some o => rw [wSame x o hq] at q; cases q
    · have := fw' x hx
      cases hq : W x with
      | none => rfl
      | some o => rw [wSame x o hq] at this; cases this
def kD : Key → D
  | .inl n => .int n
  | .inr s => .str s
def itemsT : List Key → List D → List T
  | k :: ks, d :: ds => .ot [.sh (kD k), .sh d] :: itemsT ks ds
  | _, _ => []
theorem kD_rp (k : Key) : Rp H (kD k) (kV k) := by cases k <;> rfl
theorem itemsT_get : ∀ {ks : List Key} {ds : List D} {n : Nat} {k : Key} {d : D}, ks[n]? = some k → ds[n]? = some d → (itemsT ks ds)[n]? = some (.ot [.sh (kD k), .sh d])
  | k :: ks, d :: ds, 0, _, _, h1, h2 => by
    cases h1; cases h2; rfl
  | k :: ks, d :: ds, n + 1, _, _, h1, h2 => by
    have := itemsT_get (ks := ks) (ds := ds) (n := n) (by simpa using h1) (by simpa using h2)
    simpa [itemsT] using this
  | [], _, _, _, _, h1, _ => by simp at h1
  | _ :: _, [], _, _, _, _, h2 => by simp at h2
theorem itemsT_len : ∀ {ks : List Key} {ds : List D}, ks.length = ds.length → (itemsT ks ds).length = ds.length
  | [], [], _ => rfl
  | k :: ks, d :: ds, h => by
    have := itemsT_len (ks := ks) (ds := ds) (by simpa using h)
    simp [itemsT, this]
  | [], _ :: _, h => by simp at h
  | _ :: _, [], h => by simp at h
def mForI (i : Nat) (b : BM) (body : SM) : SM := fun ρ => match ρ[i]? with
  | some (some (.od ks ts)) => match forL b body (itemsT ks (ts.map T.d)) (ρ.set i none) with
    | .nx ρ' => .nx ρ'
    | _ => .bad
  | _ => .bad
theorem ss_forI {slots : List Nat} {g : TG} {tb : TS} {b : BM} {body : SM} (hg : SG slots g b) (hs : ∀ j ∈ slots, j ∉ pin) (hb : SS ct Wx pin tb body) : SS ct Wx pin (tLock (tFor (iItems (tVar i)) g tb)) (mForI i b body) := fun W S0 σ0 ρ σ H D gx p k => by
  unfold mForI at k
  split at k
  case h_2 => exact k.elim
  rename_i ks ts e0
  obtain ⟨a, xs, S, ea, hH, hl1, hl2, hr, hu, hSa, hWa, as⟩ := gx.asideD e0
  refine ⟨a, _, hH, trivial, fun od => ?_⟩
  obtain ⟨gN, out⟩ := as (.frz od (.dK (ks.zip xs)))
  refine ⟨.ref a, ea, a, od, ks.zip xs, rfl, if_pos rfl, ?_⟩
  have hlen : (ks.zip xs).length = ts.length := by rw [List.length_zip]; omega
  have hil : (itemsT ks (ts.map T.d)).length = ts.length := by rw [itemsT_len (by simpa using hl1), List.length_map]
  refine ⟨fun n m σ' H' => m = ts.length - n ∧ n ≤ ts.length ∧ ∃ ρ', GX (also W (upd H a (.frz od (.dK (ks.zip xs)))) a) S ρ' σ' [] [] H' ∧ Pin pin σ0 σ' ∧ (match forL b body ((itemsT ks (ts.map T.d)).drop n) ρ' with
      | .nx ρ' => SK ct Wx W S0 pin σ0 D (.nx ρ')
      | _ => False), ⟨_, rfl, Nat.zero_le _, _, gN, p, ?_⟩, ?_⟩
  · simp only [List.drop_zero]
    generalize forL b body (itemsT ks (ts.map T.d)) (ρ.set i none) = o at k ⊢
    cases o <;> exact k
  · rintro n m σ' H' ⟨rfl, hn, ρ', g', p', k'⟩
    have hat := (out _ _ _ _ _ (.dK (ks.zip xs)) g').1
    by_cases hlt : n < ts.length
    · refine .inr ⟨⟨hat, by omega⟩, fun σ2 H2 => n + 1 ≤ ts.length ∧ ∃ ρ', GX (also W (upd H a (.frz od (.dK (ks.zip xs)))) a) S ρ' σ2 [] [] H2 ∧ Pin pin σ0 σ2 ∧ (match forL b body ((itemsT ks (ts.map T.d)).drop (n + 1)) ρ' with
          | .nx ρ' => SK ct Wx W S0 pin σ0 D (.nx ρ')
          | _ => False), fun σ2 H2 q => ⟨_, Nat.sub_succ_lt_self _ _ hlt, rfl, q⟩, ?_⟩
      rintro x H2 ⟨q, kk, v, hkv, rfl, hq, rfl⟩
      have hk1 : ks[n]? = some kk ∧ xs[n]? = some v := by
        rw [List.getElem?_zip_eq_some] at hkv
        exact hkv
      obtain ⟨w, e2, e3⟩ := hr.get (i := n) (d := (ts[n]).d) (by simp [hlt])
      rw [hk1.2] at e2
      cases e2
      have hit := itemsT_get hk1.1 (ds := ts.map T.d) (d := (ts[n]).d) (by simp [hlt])
      have hlt' : n < (itemsT ks (ts.map T.d)).length := by omega
      rw [List.drop_eq_getElem_cons hlt', (List.getElem?_eq_some_iff.mp hit).2] at k'
      unfold forL at k'
      generalize hbt : b (.ot [.sh (kD kk), .sh (ts[n]).d]) ρ' = ob at k'
      cases ob with
      | none => exact k'.elim
      | some ρ2 =>
        simp only at k'
        obtain ⟨S1, as1, bs1, g1⟩ := g'
        obtain ⟨S2, as2, bs2, g2⟩ := g1.pushS (e3.mono g1.s0)
        have g3 := g2.pushS (kD_rp (H := S2) kk)
        have g4 := GX.newT (ts := [.sh (kD kk), .sh (ts[n]).d]) (vs := [kV kk, v]) (tm := []) (vm := []) (p := q) g3 rfl hq
        refine hg _ S ρ' σ' [] [] _ _ _ ρ2 g4 hbt _ fun σ2 g5 ew => ?_
        refine hb _ S σ0 ρ2 σ2 _ _ g5 (p'.wipe ew hs) ?_
        generalize body ρ2 = o at k'
        cases o with
        | bad => exact k'
        | nx ρ3 => exact fun σ3 H3 g6 p3 => ⟨hlt, ρ3, g6, p3, k'⟩
        | ct ρ3 => exact fun σ3 H3 g6 p3 => ⟨hlt, ρ3, g6, p3, k'⟩
        | bk ρ3 => exact fun σ3 H3 g6 p3 => ⟨(out _ _ _ _ _ (.dK (ks.zip xs)) g6).1, k' σ3 _ (out _ _ _ _ _ _ g6).2 p3⟩
        | rt t' ρ3 => exact k'.elim
        | ex x' ρ3 => exact k'.elim
    · have hn2 : n = ts.length := by omega
      subst hn2
      refine .inl ⟨⟨hat, by omega⟩, ?_⟩
      rw [List.drop_eq_nil_of_le (by omega)] at k'
      exact ⟨hat, k' σ' _ (out _ _ _ _ _ _ g').2 p'⟩
end
end Z

namespace Z
noncomputable section
open PySem L2
variable {ct : CT} {Wx : XW} {W S0 S H H' : Hp} {ρ : Env} {σ σ0 : St} {t u : T} {l ts us tm its : List T} {v w : V} {vs ws vm : List V} {as bs : List Addr} {i j : Nat} {d : D} {pin : List Nat} {D0 : Ends} {K : PySem.W.Frag}
/-! ### [x, y, e]: the names x and y are read first and moved when e was reckoned -/
def eLate2 (i j : Nat) (e : EM) : EMs := fun ρ => match ρ[i]?, ρ[j]? with
  | some (some _), some (some _) => (e ρ).bnd fun t ρ1 => match ρ1[i]? with
    | some (some ti) => (match (ρ1.set i none)[j]? with
      | some (some tj) => .ok [ti, tj, t] ((ρ1.set i none).set j none)
      | _ => .bad)
    | _ => .bad
  | _, _ => .bad
theorem sea_late2 {te : TE} {e : EM} (he : SE ct Wx te e) : SEA ct Wx (tCons (tVar i) (tCons (tVar j) (tCons te tNil))) (eLate2 i j e) := fun W S0 ρ σ tm vm H Q g k => by
  unfold eLate2 at k
  split at k
  case h_2 => exact k.elim
  rename_i ti0 tj0 e1 e2
  obtain ⟨vi, hvi, _⟩ := g.rv i _ e1
  obtain ⟨vj, hvj, _⟩ := g.rv j _ e2
  refine ⟨vi, hvi, vj, hvj, he W S0 ρ σ tm vm H _ g ((Out.P_bnd.mp k).mono (fun t ρ1 k1 v H1 g1 => ?_) fun _ _ h => h)⟩
  split at k1
  case h_2 => exact k1.elim
  rename_i ti e3
  split at k1
  case h_2 => exact k1.elim
  rename_i tj e4
  obtain ⟨vi', hvi', g2⟩ := g1.take e3
  rw [hvi] at hvi'
  cases hvi'
  obtain ⟨vj', hvj', g3⟩ := g2.take e4
  rw [hvj] at hvj'
  cases hvj'
  have g4 := GX.unrot (ts := [ti]) (vs := [vi]) (tm := t :: tm) (vm := v :: vm) g3 rfl
  exact k1 [vi, vj, v] H1 rfl g4
/-! ### reading where nothing is owned by the one who reads -/
/-- a frame in which a name either holds data or is not looked at -/
theorem Re.look {H : Hp} : ∀ {ρ : Env} {σ : St}, ρ.length = σ.length → (∀ t ∈ ρ, t = none ∨ ∃ d, t = some (.sh d)) → (∀ (i : Nat) d, ρ[i]? = some (some (.sh d)) → ∃ v, σ[i]? = some (some v) ∧ Rp H d v) → Re H H ρ σ []
  | [], [], _, _, _ => ⟨rfl, rfl⟩
  | [], _ :: _, h, _, _ => by simp at h
  | _ :: _, [], h, _, _ => by simp at h
  | t :: ρ, o :: σ, hl, ht, hr => by
    have ih := Re.look (H := H) (ρ := ρ) (σ := σ) (by simpa using hl) (fun u hu => ht u (List.mem_cons_of_mem _ hu)) (fun i d e => hr (i + 1) d (by simpa using e))
    rcases ht t List.mem_cons_self with rfl | ⟨d, rfl⟩
    · exact ⟨o, σ, rfl, ih⟩
    · obtain ⟨v, e, r⟩ := hr 0 d rfl
      have e' : o = some v := by simpa using e
      subst e'
      exact ⟨v, σ, [], [], rfl, rfl, ⟨rfl, r⟩, ih⟩
theorem GX.look {H : Hp} {ρ : Env} {σ : St} (hl : ρ.length = σ.length) (ht : ∀ t ∈ ρ, t = none ∨ ∃ d, t = some (.sh d)) (hr : ∀ (i : Nat) d, ρ[i]? = some (some (.sh d)) → ∃ v, σ[i]? = some (some v) ∧ Rp H d v) : GX H H ρ σ [] [] H :=
  ⟨H, [], [], fun _ _ h => h, fun _ _ h => h, fun _ _ h => h, fun _ _ h => h, Re.look hl ht hr, ⟨rfl, rfl⟩, by simp, fun a ha => (by simp at ha), fun a ha => (by simp at ha)⟩
end
end Z

namespace Cl
noncomputable section
open PySem L2 Z
def b_law_pool_1 : SM := (mSeq (mAppG 1 (eP (pOp oMod (pCB (o1 oInt) (aCons (pV 3) aNil)) (pC (.int 60))))) (mSeq (mSet 3 (eP (pCB (o1 oInt) (aCons (pOp oDiv (pV 3) (pC (.int 60))) aNil)))) (mIf (eT (pB (pOp oEq (pV 3) (pC (.int 0))))) mBk mNil)))
def b_law_pool_2 : SM := (mSeq (mSet 3 (eP (pCB (o1 oInt) (aCons (pV 2) aNil)))) (mIf (eT (pB (pOp oGe (pV 3) (pOp oPow (pC (.int 10)) (pC (.int 18)))))) (mFor (iR1 (eCons (eP (pC (.int 60))) eNil)) (bName 4) b_law_pool_1) (mSet 1 (eOp eAddT (eV 1) (eLst (eCons (eP (pOp oMod (pCB (o1 oInt) (aCons (pV 3) aNil)) (pC (.int 60)))) (eCons (eP (pOp oMod (pCB (o1 oInt) (aCons (pOp oDiv (pV 3) (pC (.int 60))) aNil)) (pC (.int 60)))) eNil)))))))
def b_law_pool_3 : SM := (mSet 5 (eP (pOp oMod (pOp oAdd (pOp oMul (pV 5) (pC (.int 31))) (pCB (o1 oInt) (aCons (pV 2) aNil))) (pC (.int 2147483647)))))
def b_law_pool_4 : SM := (mSeq (mSet 5 (eP (pOp oMod (pOp oAdd (pOp oMul (pV 5) (pC (.int 48271))) (pC (.int 11))) (pC (.int 2147483647))))) (mAppG 1 (eP (pOp oMod (pCB (o1 oInt) (aCons (pOp oDiv (pV 5) (pC (.int 97))) aNil)) (pC (.int 60))))))
def m_law_pool (ns : List Int) : SM := (mSeq (mSet 1 (eLst eNil)) (mSeq (mForS ns (bName 2) b_law_pool_2) (mSeq (mSet 5 (eP (pC (.int 17)))) (mSeq (mForS ns (bName 2) b_law_pool_3) (mSeq (mFor (iR1 (eCons (eP (pC (.int 300))) eNil)) (bName 4) b_law_pool_4) (mRet (eM 1)))))))
def F_law_pool : List Int → FOut := mFunS 6 m_law_pool
def m_law_stream (ns : List Int) : SM := mRet (eOp eAddT (eLst (eCons (eP (pC (.int 1))) eNil)) (eCallS F_law_pool ns))
def F_law_stream : List Int → FOut := mFunS 1 m_law_stream
def m_law_pick : SM := (mSeq (mSet 2 (eGet (vIx (vV 0) (pC (.int 0))))) (mSeq (mStore 0 (eP (pOp oAdd (pV 2) (pC (.int 1)))) (pC (.int 0))) (mSeq (mIf (eT (pB (pOp oEq (pOp oIx (pV 0) (pC (.int 0))) (pCB (o1 oLen) (aCons (pV 0) aNil))))) (mStore 0 (eP (pC (.int 1))) (pC (.int 0))) mNil) (mRet (eP (pOp oMod (pCB (o1 oInt) (aCons (pOp oIx (pV 0) (pV 2)) aNil)) (pV 1)))))))
def F_law_pick : FM := mFunI 2 3 m_law_pick
def b_law_turning_1 : SM := (mSeq (mSet 5 (eCallI 2 0 F_law_pick (eCons (eP (pCB (o1 oLen) (aCons (pV 2) aNil))) eNil))) (mSeq (mAppG 3 (eGet (vIx (vV 2) (pV 5)))) (mSet 2 (eOp eAddT (eSl (vV 2) oNo (oYes (pV 5))) (eSl (vV 2) (oYes (pOp oAdd (pV 5) (pC (.int 1)))) oNo)))))
def m_law_turning : SM := (mSeq (mPar 2 3 (eCons (eRg1 (pV 1)) (eCons (eLst eNil) eNil))) (mSeq (mFor (iR1 (eCons (eV 1) eNil)) (bName 4) b_law_turning_1) (mRet (eM 3))))
def F_law_turning : FM := mFunI 2 6 m_law_turning
/-! ### the pool -/
def Pool (t : T) : Prop := ∃ (c : Int) (r : List Int), t = T.ints (c :: r) ∧ 1 ≤ c ∧ c ≤ r.length ∧ (∀ x ∈ r, 0 ≤ x ∧ x < 60) ∧ r.length ≤ 10000
theorem pick_ok {t : T} {m : Int} (hp : Pool t) (hm : 1 ≤ m) : ∃ t' x, Pool t' ∧ 0 ≤ x ∧ x < m ∧ x < 60 ∧ F_law_pick [t, si m] = .ok (si x) [t', si m] := by
  obtain ⟨c, r, rfl, h1, h2, h3, h4⟩ := hp
  let c' : Int := if c + 1 = (r.length : Int) + 1 then 1 else c + 1
  have hx : ∃ x, (c' :: r).getD c.toNat 0 = x ∧ 0 ≤ x ∧ x < 60 := by
    refine ⟨_, rfl, ?_⟩
    obtain ⟨k, hk⟩ : ∃ k, c.toNat = k + 1 := ⟨c.toNat - 1, by omega⟩
    rw [hk, List.getD_cons_succ]
    have : k < r.length := by omega
    rw [List.getD_eq_getElem?_getD, List.getElem?_eq_getElem this]
    exact h3 _ (List.getElem_mem this)
  obtain ⟨x, ex, hx0, hx1⟩ := hx
  have ea : atI ((c' :: r).map D.int) c = some (.int x) := by rw [atI_D _ (by omega) (by simp; omega), ex]
  refine ⟨T.ints (c' :: r), x % m, ⟨c', r, rfl, ?_, ?_, h3, h4⟩, Int.emod_nonneg _ (by omega), Int.emod_lt_of_pos _ (by omega), ?_, ?_⟩
  · show 1 ≤ if c + 1 = (r.length : Int) + 1 then 1 else c + 1
    split <;> omega
  · show (if c + 1 = (r.length : Int) + 1 then 1 else c + 1) ≤ (r.length : Int)
    split <;> omega
  · have h5 : x % m ≤ x := by
      by_cases q : x < m
      · rw [Int.emod_eq_of_lt hx0 q]; exact Int.le_refl _
      · have := Int.emod_lt_of_pos x (show 0 < m by omega); omega
    omega
  · by_cases hc : c + 1 = (r.length : Int) + 1
    · have e' : c' = 1 := if_pos hc
      rw [e'] at ea ⊢
      simp at ea
      simp [F_law_pick, m_law_pick, hc, ea, mod_int (show 0 < m by omega)]
    · have e' : c' = c + 1 := if_neg hc
      rw [e'] at ea ⊢
      simp at ea
      simp [F_law_pick, m_law_pick, hc, ea, mod_int (show 0 < m by omega)]
theorem inR60 : InR 60 := InR.of (by decide) (by decide)
theorem inR300 : InR 300 := InR.of (by decide) (by decide)
theorem pow18 : oPow (.int 10) (.int 18) = some (.int 1000000000000000000) := pow_int ⟨by decide, by decide, by decide⟩
theorem mod60 (x : Int) : 0 ≤ x % 60 ∧ x % 60 < 60 := ⟨Int.emod_nonneg _ (by decide), Int.emod_lt_of_pos _ (by decide)⟩
def Small (P : List Int) : Prop := ∀ x ∈ P, 0 ≤ x ∧ x < 60
theorem Small.app {P : List Int} {x : Int} (h : Small P) (hx : 0 ≤ x ∧ x < 60) : Small (P ++ [x]) := fun y hy => by
  rcases List.mem_append.mp hy with h1 | h1
  · exact h y h1
  · rw [List.mem_singleton.mp h1]; exact hx
theorem pool_ok (ns : List Int) (hn : ns.length ≤ 63) : ∃ P, Small P ∧ 300 ≤ P.length ∧ P.length ≤ 5000 ∧ F_law_pool ns = .ok (T.ints P) [] := by
  have md : ∀ x : Int, oMod (.int x) (.int 60) = some (.int (x % 60)) := fun x => mod_int (by decide)
  have dv : ∀ x : Int, oDiv (.int x) (.int 60) = some (.int (x / 60)) := fun x => div_int (by decide) (by decide)
  obtain ⟨ρ1, e1, P1, j2, j3, j4, rfl, s1, l1⟩ : ∃ ρ', forL (bName 2) b_law_pool_2 (ns.map ig) [none, some (.ol []), none, none, none, none] = .nx ρ' ∧ ∃ P j2 j3 j4, ρ' = [none, some (.ol (P.map ig)), j2, j3, j4, none] ∧ Small P ∧ P.length ≤ 60 * ns.length := by
    refine (forN_inv (fun k ρ => ∃ P j2 j3 j4, ρ = [none, some (.ol (P.map ig)), j2, j3, j4, none] ∧ Small P ∧ P.length ≤ 60 * k) ⟨[], none, none, none, rfl, fun _ h => (nomatch h), by simp⟩ ?_).imp fun ρ' h => ⟨h.1, by simpa using h.2⟩
    rintro k t ρ e ⟨P, j2, j3, j4, rfl, hs, hl⟩
    rw [List.getElem?_map] at e
    obtain ⟨c, ec, rfl⟩ := Option.map_eq_some_iff.mp e
    have hk : k < ns.length := (List.getElem?_eq_some_iff.mp ec).1
    by_cases hc : 1000000000000000000 ≤ c
    · obtain ⟨ρ2, e2, P2, x3, x4, rfl, hs2, hl2⟩ : ∃ ρ', forL (bName 4) b_law_pool_1 (rangeT 0 60) [none, some (.ol (P.map ig)), some (si c), some (si c), j4, none] = .nx ρ' ∧ ∃ P2 x3 x4, ρ' = [none, some (.ol (P2.map ig)), some (si c), x3, x4, none] ∧ Small P2 ∧ P2.length ≤ 60 * (k + 1) := by
        refine forL_brk (fun j ρ => ∃ P2 y x4, ρ = [none, some (.ol (P2.map ig)), some (si c), some (si y), x4, none] ∧ Small P2 ∧ P2.length ≤ 60 * k + j) (fun ρ' => ∃ P2 x3 x4, ρ' = [none, some (.ol (P2.map ig)), some (si c), x3, x4, none] ∧ Small P2 ∧ P2.length ≤ 60 * (k + 1)) ⟨P, c, j4, rfl, hs, hl⟩ ?_ ?_
        · rintro j t ρ e ⟨P2, y, x4, rfl, hs2, hl2⟩
          obtain ⟨hj, rfl⟩ := rangeT_get e
          have hz : P2.length < lim := by unfold lim; omega
          by_cases hy : y / 60 = 0
          · refine ⟨_, [none, some (.ol ((P2 ++ [y % 60]).map ig)), some (si c), some (si (y / 60)), some (si (0 + j)), none], rfl, .inr ⟨?_, P2 ++ [y % 60], _, _, rfl, hs2.app (mod60 _), by simp; omega⟩⟩
            simp [b_law_pool_1, md, dv, hy, hz]
          · refine ⟨_, [none, some (.ol ((P2 ++ [y % 60]).map ig)), some (si c), some (si (y / 60)), some (si (0 + j)), none], rfl, .inl ⟨.inl ?_, P2 ++ [y % 60], _, _, rfl, hs2.app (mod60 _), by simp; omega⟩⟩
            simp [b_law_pool_1, md, dv, hy, hz]
        · rintro ρ ⟨P2, y, x4, rfl, hs2, hl2⟩
          rw [rangeT_len] at hl2
          exact ⟨P2, _, _, rfl, hs2, by omega⟩
      refine ⟨_, .inl ?_, P2, some (si c), x3, x4, rfl, hs2, hl2⟩
      simp [b_law_pool_2, pow18, hc, inR60, -rangeT_iota, e2]
    · refine ⟨_, .inl ?_, P ++ [c % 60, c / 60 % 60], some (si c), some (si c), j4, rfl, ?_, by simp; omega⟩
      · have hz : P.length + 2 ≤ lim := by unfold lim; omega
        have ha := addT_lst (t := .sh (.lst (P.map .int))) (u := .ol [si (c % 60), si (c / 60 % 60)]) (els_sh _) (els_ol _) (by simpa using hz)
        simp at ha
        simp [b_law_pool_2, pow18, hc, md, dv, ha]
      · have := (hs.app (mod60 c)).app (mod60 (c / 60))
        simpa using this
  obtain ⟨ρ2, e2, s, j2', rfl⟩ : ∃ ρ', forL (bName 2) b_law_pool_3 (ns.map ig) [none, some (.ol (P1.map ig)), j2, j3, j4, some (si 17)] = .nx ρ' ∧ ∃ s j2', ρ' = [none, some (.ol (P1.map ig)), j2', j3, j4, some (si s)] := by
    refine forN_inv (fun k ρ => ∃ s j2', ρ = [none, some (.ol (P1.map ig)), j2', j3, j4, some (si s)]) ⟨17, j2, rfl⟩ ?_
    rintro k t ρ e ⟨s, j2', rfl⟩
    rw [List.getElem?_map] at e
    obtain ⟨c, ec, rfl⟩ := Option.map_eq_some_iff.mp e
    refine ⟨_, .inl ?_, (s * 31 + c) % 2147483647, some (si c), rfl⟩
    simp [b_law_pool_3, mul_int (small_r (i := s) (j := 31) ⟨by decide, by decide⟩), mod_int (i := s * 31 + c) (j := 2147483647) (by decide)]
  obtain ⟨ρ3, e3, P3, s', j4', rfl, s3, l3⟩ : ∃ ρ', forL (bName 4) b_law_pool_4 (rangeT 0 300) [none, some (.ol (P1.map ig)), j2', j3, j4, some (si s)] = .nx ρ' ∧ ∃ P3 s' j4', ρ' = [none, some (.ol (P3.map ig)), j2', j3, j4', some (si s')] ∧ Small P3 ∧ P3.length = P1.length + 300 := by
    refine (forN_inv (fun k ρ => ∃ P3 s' j4', ρ = [none, some (.ol (P3.map ig)), j2', j3, j4', some (si s')] ∧ Small P3 ∧ P3.length = P1.length + k) ⟨P1, s, j4, rfl, s1, rfl⟩ ?_).imp fun ρ' h => ⟨h.1, by simpa [rangeT_len] using h.2⟩
    rintro k t ρ e ⟨P3, s', j4', rfl, s3, l3⟩
    obtain ⟨hk, rfl⟩ := rangeT_get e
    have hz : P3.length < lim := by unfold lim; omega
    refine ⟨_, .inl ?_, P3 ++ [(s' * 48271 + 11) % 2147483647 / 97 % 60], (s' * 48271 + 11) % 2147483647, some (si (0 + k)), rfl, s3.app (mod60 _), by simp; omega⟩
    simp [b_law_pool_4, mul_int (small_r (i := s') (j := 48271) ⟨by decide, by decide⟩), mod_int (i := s' * 48271 + 11) (j := 2147483647) (by decide), md, div_int (i := (s' * 48271 + 11) % 2147483647) (j := 97) (by decide) (by decide), hz]
  refine ⟨P3, s3, by omega, by omega, ?_⟩
  show (match m_law_pool ns (List.replicate 6 none) with | .rt t _ => FOut.ok t [] | _ => .bad) = _
  simp only [m_law_pool]
  have ens : (ns.map fun i => T.sh (.int i)) = ns.map ig := rfl
  simp [ens, e1, e2, inR300, -rangeT_iota, e3]
theorem stream_ok (ns : List Int) (hn : ns.length ≤ 63) : ∃ t, Pool t ∧ F_law_stream ns = .ok t [] := by
  obtain ⟨P, h1, h2, h3, e⟩ := pool_ok ns hn
  refine ⟨T.ints (1 :: P), ⟨1, P, rfl, by omega, by omega, h1, by omega⟩, ?_⟩
  show (match m_law_stream ns (List.replicate 1 none) with | .rt t _ => FOut.ok t [] | _ => .bad) = _
  have ha := addT_lst (t := .ol [si 1]) (u := T.ints P) (els_ol _) (els_ol _) (by simp; unfold lim; omega)
  simp at ha
  simp [m_law_stream, e, ha]
end
end Cl

namespace Cl
noncomputable section
open PySem L2 Z
/-! ### drawn turnings -/
def Turn (n : Nat) (p : List Int) : Prop := p.Perm (iota n)
theorem Turn.len {n : Nat} {p : List Int} (h : Turn n p) : p.length = n := by have := List.Perm.length_eq h; simpa using this
theorem Turn.mem {n : Nat} {p : List Int} (h : Turn n p) {x : Int} : x ∈ p ↔ 0 ≤ x ∧ x < n := by rw [List.Perm.mem_iff h, mem_iota]
theorem Turn.at {n : Nat} {p : List Int} (h : Turn n p) {k : Nat} (hk : k < n) : 0 ≤ p.getD k 0 ∧ p.getD k 0 < n := by
  have hl := h.len
  have : p.getD k 0 ∈ p := by
    rw [List.getD_eq_getElem?_getD, List.getElem?_eq_getElem (by omega)]
    exact List.getElem_mem _
  exact h.mem.mp this
theorem take_drop_perm {l : List Int} {a : Nat} (h : a < l.length) (f : List Int) : ((f ++ [l.getD a 0]) ++ (l.take a ++ l.drop (a + 1))).Perm (f ++ l) := by
  have e : l = l.take a ++ l.getD a 0 :: l.drop (a + 1) := by
    rw [List.getD_eq_getElem?_getD, List.getElem?_eq_getElem h]
    simp
  rw [List.append_assoc]
  refine List.Perm.append_left f ?_
  conv => rhs; rw [e]
  rw [List.singleton_append]
  exact List.perm_middle.symm
theorem turning_loop {t : T} {n : Nat} (hp : Pool t) (hn : n ≤ 1000) : ∃ ρ', forL (bName 4) b_law_turning_1 (rangeT 0 n) [some t, some (si n), some (T.ints (iota n)), some (T.ints []), none, none] = .nx ρ' ∧
      ∃ P fnd jx ja, ρ' = [some P, some (si n), some (T.ints []), some (T.ints fnd), jx, ja] ∧ Pool P ∧ fnd.Perm (iota n) ∧ fnd.length = n := by
    refine (forN_inv (fun k ρ => ∃ P lft fnd jx ja, ρ = [some P, some (si n), some (T.ints lft), some (T.ints fnd), jx, ja] ∧ Pool P ∧ (fnd ++ lft).Perm (iota n) ∧ lft.length + k = n ∧ fnd.length = k) ⟨t, iota n, [], none, none, rfl, hp, List.Perm.refl _, by simp, rfl⟩ ?_).imp fun ρ' h => ⟨h.1, ?_⟩
    · rintro k t ρ e ⟨P, lft, fnd, jx, ja, rfl, hP, hpm, hl, hf⟩
      obtain ⟨hk, rfl⟩ := rangeT_get e
      obtain ⟨P', x, hP', hx0, hx1, hx2, e2⟩ := pick_ok (m := (lft.length : Int)) hP (by omega)
      have hx : x.toNat < lft.length := by omega
      refine ⟨_, .inl ?_, P', lft.take x.toNat ++ lft.drop (x.toNat + 1), fnd ++ [lft.getD x.toNat 0], some (si (0 + k)), some (si x), rfl, hP', (take_drop_perm hx fnd).trans hpm, by simp; omega, by simp; omega⟩
      have ha := addT_lst (t := T.ints (lft.take x.toNat)) (u := T.ints (lft.drop (x.toNat + 1))) (els_ol _) (els_ol _) (by simp [lim]; omega)
      have hz : fnd.length < lim := by unfold lim; omega
      have h4 : (x + 1).toNat = x.toNat + 1 := by omega
      simp at ha
      simp [b_law_turning_1, e2, atI_T lft hx0 hx1, cut_to lft hx0 (by omega), cut_from lft (i := x + 1) (by omega) (by omega), h4, ha, hz]
    · obtain ⟨P, lft, fnd, jx, ja, rfl, hP, hpm, hl, hf⟩ := h.2
      rw [rangeT_len] at hl hf
      have : lft = [] := List.length_eq_zero_iff.mp (by omega)
      subst this
      exact ⟨P, fnd, jx, ja, rfl, hP, by simpa using hpm, hf⟩
theorem turning_ok {t : T} {n : Nat} (hp : Pool t) (hn : n ≤ 1000) : ∃ t' p, Pool t' ∧ Turn n p ∧ F_law_turning [t, si n] = .ok (T.ints p) [t', si n] := by
  obtain ⟨ρ', e1, P, fnd, jx, ja, rfl, hP, hpm, hl⟩ := turning_loop hp hn
  refine ⟨P, fnd, hP, hpm, ?_⟩
  have hr : rgOk 0 (n : Int) = true := rgOk_of (by omega) (by omega) (by omega) (by omega)
  have hb : InR (n : Int) := InR.of (by omega) (by omega)
  simp at e1
  simp [F_law_turning, m_law_turning, hr, hb, e1]
end
end Cl

namespace Cl
noncomputable section
open PySem L2 Z
theorem inR_nat {n : Nat} (h : n ≤ 1000000) : InR (n : Int) := InR.of (by omega) (by omega)
theorem getD_set {l : List Int} {i j : Nat} {v : Int} (h : i < l.length) : (l.set i v).getD j 0 = if i = j then v else l.getD j 0 := by
  rw [List.getD_eq_getElem?_getD, List.getD_eq_getElem?_getD, List.getElem?_set]
  by_cases e : i = j
  · subst e; rw [if_pos rfl, if_pos h, if_pos rfl]; rfl
  · rw [if_neg e, if_neg e]
theorem getD_at {l : List Int} {i : Nat} (h : i < l.length) : l.getD i 0 = l[i] := by
  rw [List.getD_eq_getElem?_getD, List.getElem?_eq_getElem h]; rfl
theorem Turn.nodup {n : Nat} {p : List Int} (h : Turn n p) : p.Nodup := by
  rw [List.Perm.nodup_iff h]
  unfold iota
  rw [List.nodup_iff_pairwise_ne, List.pairwise_map]
  exact List.Pairwise.imp (fun {a b} h e => h (by omega)) (List.nodup_range (n := n))
/-- what stands at the places of a row -/
def via (p f : List Int) : List Int := p.map fun x => f.getD x.toNat 0
@[simp] theorem via_len (p f : List Int) : (via p f).length = p.length := by simp [via]
theorem via_get {p f : List Int} {i : Nat} (h : i < p.length) : (via p f).getD i 0 = f.getD (p.getD i 0).toNat 0 := by
  rw [getD_at (by simpa using h), getD_at h]
  simp [via]
theorem via_set {n : Nat} {p f : List Int} (hp : Turn n p) (hf : f.length = n) {i : Nat} (hi : i < n) (v : Int) : via p (f.set (p.getD i 0).toNat v) = (via p f).set i v := by
  have hl := hp.len
  apply List.ext_getElem
  · simp
  · intro j h1 h2
    simp only [via_len] at h1
    have hi' := hp.at hi
    have hj' := hp.at (show j < n by omega)
    have e1 := getD_at (l := via p (f.set (p.getD i 0).toNat v)) (i := j) (by simpa using h1)
    rw [← e1, via_get h1, getD_set (by omega)]
    rw [List.getElem_set]
    by_cases e : i = j
    · subst e; simp
    · have : (p.getD i 0).toNat ≠ (p.getD j 0).toNat := by
        intro q
        have hnd := hp.nodup
        have hpi : p.getD i 0 = p[i] := getD_at (show i < p.length by omega)
        have hpj : p.getD j 0 = p[j] := getD_at h1
        rw [hpi] at hi' q
        rw [hpj] at hj' q
        have q2 : p[i] = p[j] := by omega
        have hpw := List.pairwise_iff_getElem.mp hnd
        rcases Nat.lt_or_gt_of_ne e with c | c
        · exact hpw i j (by omega) h1 c q2
        · exact hpw j i h1 (by omega) c q2.symm
      rw [if_neg this, if_neg e, ← via_get h1, getD_at (by simpa using h1)]
theorem perm_of_via {n : Nat} {p f R : List Int} (hp : Turn n p) (hf : f.length = n) (e : via p f = R) (hR : R.Perm p) : Turn n f := by
  have h1 : via (iota n) f = f := by
    apply List.ext_getElem
    · simp [hf]
    · intro j h1 h2
      have e1 := getD_at (l := via (iota n) f) (i := j) h1
      rw [← e1, via_get (by simpa using h1), iota_getD n j (by simpa using h1)]
      rw [Int.toNat_natCast]
      exact getD_at h2
  have h2 : (via p f).Perm (via (iota n) f) := List.Perm.map _ hp
  rw [h1, e] at h2
  exact h2.symm.trans (hR.trans hp)
/-- a block turned on by one -/
theorem block_perm {R B Q : List Int} {p : List Int} (h : (R ++ B ++ Q).Perm p) : (R ++ (B.drop 1 ++ B.take 1) ++ Q).Perm p := by
  refine List.Perm.trans ?_ h
  refine List.Perm.append_right Q (List.Perm.append_left R ?_)
  have := List.perm_append_comm (l₁ := B.drop 1) (l₂ := B.take 1)
  rwa [List.take_append_drop] at this
theorem drop_split {p : List Int} {a s : Nat} : p.drop a = (p.drop a).take s ++ p.drop (a + s) := by
  have := List.take_append_drop s (p.drop a)
  rw [List.drop_drop] at this
  exact this.symm
end
end Cl

namespace Cl
noncomputable section
open PySem L2 Z
theorem lc_copy {i : Nat} {p : List Int} (hp : p.length ≤ 1000) {elt : EM} (he : elt = eV i) {ρ : Z.Env} (hl : i < ρ.length) (h : ρ[i]? = some none) : lcL [i] (bName i) tAll elt (p.map ig) [] ρ = .ok (p.map ig) ρ := by
  have := lcL_ints (slots := [i]) (b := bName i) (elt := elt) (ρ := ρ) (fun x => x) (p := p) (fun x hx => ⟨ρ.set i (some (si x)), ρ.set i (some (si x)), rfl, by subst he; simp [hl], by
    show (ρ.set i (some (si x))).set i none = ρ
    rw [List.set_set, set_self h]⟩) (by unfold lim; omega)
  simpa using this
end
end Cl

namespace Cl
noncomputable section
open PySem L2 Z
def Row (n : Nat) (p : List Int) : Prop := p.length = n ∧ ∀ x ∈ p, 0 ≤ x ∧ x < n
theorem Turn.row {n : Nat} {p : List Int} (h : Turn n p) : Row n p := ⟨h.len, fun x hx => h.mem.mp hx⟩
theorem Row.at {n : Nat} {p : List Int} (h : Row n p) {k : Nat} (hk : k < n) : 0 ≤ p.getD k 0 ∧ p.getD k 0 < n := by
  have hl := h.1
  rw [getD_at (by omega)]
  exact h.2 _ (List.getElem_mem _)
theorem Row.ati {n : Nat} {p : List Int} (h : Row n p) {x : Int} (h0 : 0 ≤ x) (h1 : x < n) : atI (p.map ig) x = some (.sh (.int (p.getD x.toNat 0))) := atI_T p h0 (by have := h.1; omega)
theorem Row.atd {n : Nat} {p : List Int} (h : Row n p) {x : Int} (h0 : 0 ≤ x) (h1 : x < n) : atI (p.map D.int) x = some (.int (p.getD x.toNat 0)) := atI_D p h0 (by have := h.1; omega)
theorem row_put {n : Nat} {f g : Nat → Int} (hg : ∀ k, k < n → 0 ≤ g k ∧ g k < n) : ∀ m, m ≤ n → Row n (putN n f g m)
  | 0, _ => ⟨by simp [putN], fun x hx => by
      have h := List.mem_replicate.mp (show x ∈ List.replicate n 0 from hx)
      have := h.1
      have := h.2
      omega⟩
  | m + 1, h => by
    have ih := row_put (f := f) hg m (by omega)
    refine ⟨by simp, fun x hx => ?_⟩
    rcases List.mem_or_eq_of_mem_set (show x ∈ (putN n f g m).set (f m).toNat (g m) from hx) with q | q
    · exact ih.2 x q
    · rw [q]; exact hg m (by omega)
theorem row_iota (n : Nat) : Row n (iota n) := ⟨by simp, fun x hx => mem_iota.mp hx⟩
def thenL (p q : List Int) : List Int := p.map fun x => q.getD x.toNat 0
def bkL (n : Nat) (p : List Int) : List Int := putN n (fun k => p.getD k 0) (fun k => (k : Int)) n
def cjL (n : Nat) (p g : List Int) : List Int := putN n (fun k => g.getD k 0) (fun k => g.getD (p.getD k 0).toNat 0) n
theorem then_row {n : Nat} {p q : List Int} (hp : Row n p) (hq : Row n q) : Row n (thenL p q) := ⟨by simp [thenL, hp.1], fun x hx => by
  obtain ⟨y, hy, rfl⟩ := List.mem_map.mp hx
  have := hp.2 y hy
  exact hq.at (by omega)⟩
theorem bk_row {n : Nat} {p : List Int} : Row n (bkL n p) := row_put (fun k hk => ⟨by omega, by omega⟩) n (Nat.le_refl n)
theorem cj_row {n : Nat} {p g : List Int} (hp : Row n p) (hg : Row n g) : Row n (cjL n p g) := row_put (fun k hk => hg.at (by have := hp.at hk; omega)) n (Nat.le_refl n)
theorem lc_then {n : Nat} {p q : List Int} {elt : EM} (he : elt = eGet (vIx (vV 1) (pV 2))) (hp : Row n p) (hq : Row n q) (hn : n ≤ 1000) : lcL [2] (bName 2) tAll elt (p.map ig) [] [some (shi p), some (shi q), none] = .ok ((thenL p q).map ig) [some (shi p), some (shi q), none] := by
  refine lcL_ints (fun x => q.getD x.toNat 0) (fun x hx => ?_) (by unfold lim; have := hp.1; omega)
  have h := hp.2 x hx
  refine ⟨[some (shi p), some (shi q), some (si x)], [some (shi p), some (shi q), some (si x)], rfl, ?_, rfl⟩
  have := hq.ati h.1 h.2
  subst he
  simp [this]
theorem enumI {p : List Int} {k : Nat} {t : T} (h : (enumT 0 (p.map .int))[k]? = some t) : k < p.length ∧ t = .ot [si k, si (p.getD k 0)] := by
  rw [enumT_get, List.getElem?_map, Option.map_map] at h
  obtain ⟨x, e, rfl⟩ := Option.map_eq_some_iff.mp h
  have h1 := (List.getElem?_eq_some_iff.mp e).1
  have h2 := (List.getElem?_eq_some_iff.mp e).2
  refine ⟨h1, ?_⟩
  rw [getD_at h1, h2]
  simp
theorem rep_ok {n : Nat} (hn : n ≤ 1000) : repT (.ol [.sh (.int 0)]) (.sh (.int n)) = some (T.ints (List.replicate n 0)) := repT_zero (by unfold lim; omega)
end
end Cl

namespace Cl
noncomputable section
open PySem L2 Z
def b_law_back_1 : SM := (mStore 1 (eV 2) (pOp oIx (pV 0) (pV 2)))
def m_law_back : SM := (mSeq (mSet 1 (eOp repT (eLst (eCons (eP (pC (.int 0))) eNil)) (eP (pCB (o1 oLen) (aCons (pV 0) aNil))))) (mSeq (mFor (iR1 (eCons (eP (pCB (o1 oLen) (aCons (pV 0) aNil))) eNil)) (bName 2) b_law_back_1) (mRet (eM 1))))
def F_law_back : FM := mFun 1 3 m_law_back
theorem law_back_ok {n : Nat} {p : List Int} (hp : Row n p) (hn : n ≤ 1000) : F_law_back [shi p] = .ok (T.ints (bkL n p)) [shi p] := by
  have hl := hp.1
  obtain ⟨ρ', e, j2, rfl⟩ := forN_inv (i := 2) (body := b_law_back_1) (its := rangeT 0 n) (ρ := [some (shi p), some (.ol ((List.replicate n 0).map ig)), none])
    (fun k ρ => ∃ j2 : Option T, ρ = [some (shi p), some (.ol ((putN n (fun k => p.getD k 0) (fun k => (k : Int)) k).map ig)), j2]) ⟨none, rfl⟩ (by
      rintro k t ρ e ⟨j2, rfl⟩
      obtain ⟨hk, rfl⟩ := rangeT_get e
      have hb := hp.at hk
      have g := ixN_ok (n := n) hb.1 hb.2
      have g3 := hp.atd (x := (k : Int)) (by omega) (by omega)
      refine ⟨_, .inl ?_, some (si (0 + k)), rfl⟩
      simp at g g3
      simp [b_law_back_1, g, g3, putN])
  have hr := rep_ok hn
  rw [rangeT_len] at e
  simp at hr e
  simp [F_law_back, m_law_back, hr, hl, inR_nat (show n ≤ 1000000 by omega), e, bkL]
end
end Cl

namespace Cl
noncomputable section
open PySem L2 Z
def b_law_moved_1 : SM := (mStore 2 (eGet (vIx (vV 1) (pOp oIx (pV 0) (pV 3)))) (pOp oIx (pV 1) (pV 3)))
def m_law_moved : SM := (mSeq (mSet 2 (eOp repT (eLst (eCons (eP (pC (.int 0))) eNil)) (eP (pCB (o1 oLen) (aCons (pV 0) aNil))))) (mSeq (mFor (iR1 (eCons (eP (pCB (o1 oLen) (aCons (pV 0) aNil))) eNil)) (bName 3) b_law_moved_1) (mRet (eM 2))))
def F_law_moved : FM := mFun 2 4 m_law_moved
theorem law_moved_ok {n : Nat} {p g : List Int} (hp : Row n p) (hg : Row n g) (hn : n ≤ 1000) : F_law_moved [shi p, shi g] = .ok (T.ints (cjL n p g)) [shi p, shi g] := by
  have hl := hp.1
  obtain ⟨ρ', e, j2, rfl⟩ := forN_inv (i := 3) (body := b_law_moved_1) (its := rangeT 0 n) (ρ := [some (shi p), some (shi g), some (.ol ((List.replicate n 0).map ig)), none])
    (fun k ρ => ∃ j2 : Option T, ρ = [some (shi p), some (shi g), some (.ol ((putN n (fun k => g.getD k 0) (fun k => g.getD (p.getD k 0).toNat 0) k).map ig)), j2]) ⟨none, rfl⟩ (by
      rintro k t ρ e ⟨j2, rfl⟩
      obtain ⟨hk, rfl⟩ := rangeT_get e
      have hb := hp.at hk
      have hb2 := hg.at hk
      have g1 := ixN_ok (n := n) hb2.1 hb2.2
      have g2 := hg.ati hb.1 hb.2
      have g3 := hg.atd (x := (k : Int)) (by omega) (by omega)
      have g4 := hp.atd (x := (k : Int)) (by omega) (by omega)
      refine ⟨_, .inl ?_, some (si (0 + k)), rfl⟩
      simp at g1 g2 g3 g4
      simp [b_law_moved_1, g1, g2, g3, g4, putN])
  have hr := rep_ok hn
  rw [rangeT_len] at e
  simp at hr e
  simp [F_law_moved, m_law_moved, hr, hl, inR_nat (show n ≤ 1000000 by omega), e, cjL]
end
end Cl

set_option maxHeartbeats 2000000
namespace Cl
noncomputable section
open PySem L2 Z
theorem boolsOf_map : ∀ l : List Bool, boolsOf (l.map D.bl) = some l
  | [] => rfl
  | b :: l => by
    have := boolsOf_map l
    simp [boolsOf, this]
theorem intsT_map : ∀ l : List Int, intsT (l.map ig) = some l
  | [] => rfl
  | i :: l => by
    have := intsT_map l
    simp [intsT, this]
theorem lcL_xs {α : Type} {slots : List Nat} {b : BM} {elt : EM} {ρ : Z.Env} (g f : α → T) : ∀ {xs : List α} {acc : List T}, (∀ x ∈ xs, ∃ ρ1 ρ2, b (g x) ρ = some ρ1 ∧ elt ρ1 = .ok (f x) ρ2 ∧ wipeE ρ2 slots = ρ) → acc.length + xs.length ≤ lim → lcL slots b tAll elt (xs.map g) acc ρ = .ok (acc ++ xs.map f) ρ
  | [], acc, _, _ => by simp [lcL]
  | x :: xs, acc, h, hz => by
    obtain ⟨ρ1, ρ2, e1, e2, e3⟩ := h x List.mem_cons_self
    simp only [List.length_cons] at hz
    have hi : acc.length < lim := by omega
    have ih := lcL_xs g f (xs := xs) (acc := acc ++ [f x]) (fun y hy => h y (List.mem_cons_of_mem _ hy)) (by simp only [List.length_append, List.length_cons, List.length_nil]; omega)
    rw [List.map_cons, lcL, e1]
    simp only [tAll, Out.bnd, if_pos, e2, if_pos hi, e3]
    rw [ih]
    simp
theorem wipe_one {i : Nat} {ρ : Z.Env} {o : Option T} (hn : ρ[i]? = some none) : wipeE (ρ.set i o) [i] = ρ := by
  show (ρ.set i o).set i none = ρ
  rw [List.set_set, set_self hn]
theorem lc_bools {i : Nat} {elt : EM} {ρ : Z.Env} {l : List D} (f : D → Bool) (hn : ρ[i]? = some none) (h : ∀ d ∈ l, elt (ρ.set i (some (.sh d))) = .ok (.sh (.bl (f d))) (ρ.set i (some (.sh d)))) {acc : List T} (hz : acc.length + l.length ≤ lim) : lcL [i] (bName i) tAll elt (l.map .sh) acc ρ = .ok (acc ++ l.map fun d => .sh (.bl (f d))) ρ :=
  lcL_xs T.sh (fun d => .sh (.bl (f d))) (fun d hd => ⟨_, _, rfl, h d hd, wipe_one hn⟩) hz
theorem all_bools {α : Type} (l : List α) (f : α → Bool) : oAll (.lst (dl (l.map fun d => T.sh (.bl (f d))))) = some (.bl (l.all f)) := by
  have h2 : dl (l.map fun d => T.sh (.bl (f d))) = (l.map f).map D.bl := by rw [dl_eq, List.map_map, List.map_map]; rfl
  have h3 := boolsOf_map (l.map f)
  rw [h2]
  simp only [oAll, h3, Option.map_some, List.all_map]
  rfl
theorem sz_lim {n : Nat} (h : n ≤ 100000) : n ≤ lim := by unfold lim; omega
theorem eqN {a b : Nat} : ((a : Int) == (b : Int)) = decide (a = b) := by
  by_cases h : a = b
  · subst h; simp
  · have h' : ¬ (a : Int) = b := by omega
    simp [h, h']
theorem cut_from' {α : Type} (l : List α) {i : Int} (h0 : 0 ≤ i) : cutD l (some i) none = l.drop i.toNat := by
  by_cases h : i ≤ l.length
  · exact cut_from l h0 h
  · rw [List.drop_of_length_le (by omega)]
    unfold cutD HT.sIx
    simp only
    rw [if_neg (by omega), Nat.min_eq_right (by omega)]
    simp
def ascB {α : Type} [LT α] [DecidableLT α] : List α → Bool
  | [] => true
  | [_] => true
  | a :: b :: l => decide (a < b) && ascB (b :: l)
theorem asc_zip {α : Type} [LT α] [DecidableLT α] : ∀ l : List α, ((l.zip (l.drop 1)).all fun p => decide (p.1 < p.2)) = ascB l
  | [] => rfl
  | [_] => rfl
  | a :: b :: l => by
    have := asc_zip (b :: l)
    simp only [List.drop_succ_cons, List.drop_zero] at this
    simp only [List.drop_succ_cons, List.drop_zero, List.zip_cons_cons, List.all_cons, ascB, this]
@[simp ↓] theorem mOpen_run (R N : Nat) (e : EM) (b : SM) (ρ : Z.Env) : mOpen R N e b ρ = (match ρ[R]? with
  | some (some _) => (e ρ).st fun q ρ1 => match q.d.intO, ρ1[R]? with
    | some k, some (some t) => match t.kidsO with
      | some l => match ixN l.length k with
        | some j => match l[j]? with
          | some u => if N < ρ1.length then (match b ((ρ1.set R none).set N (some u)) with
            | .nx ρ2 => match ρ2[R]?, ρ2[N]? with
              | some none, some (some u') => .nx ((ρ2.set N none).set R (some (t.putK j u')))
              | _, _ => .bad
            | _ => .bad) else .bad
          | none => .bad
        | none => .bad
      | none => .bad
    | _, _ => .bad
  | _ => .bad) := rfl
@[simp ↓] theorem mStoreE_run (i : Nat) (c : PM) (e : EM) (ρ : Z.Env) : mStoreE i c e ρ = (match c ρ, ρ[i]? with
  | some d, some (some (.ol _)) => if d.scal = true then (e ρ).st fun q ρ1 => match ρ1[i]?, q.d.intO with
    | some (some (.ol ts)), some k => match ixN ts.length k with
      | some j => .nx (ρ1.set i (some (.ol (ts.set j (.sh d)))))
      | none => .bad
    | _, _ => .bad else .bad
  | _, _ => .bad) := rfl
@[simp] theorem kidsO_ol (l : List T) : (T.ol l).kidsO = some l := rfl
@[simp] theorem putK_ol (l : List T) (j : Nat) (u : T) : (T.ol l).putK j u = .ol (l.set j u) := rfl
theorem draw_lc {α : Type} (Pa : α → Prop) (g : α → T) {i m : Nat} {elt : EM} (E : T → Z.Env) (hn : ∀ t, (E t)[i]? = some none) (h : ∀ t (k : Nat), k < m → Pool t → ∃ t' a, Pool t' ∧ Pa a ∧ elt ((E t).set i (some (si k))) = .ok (g a) ((E t').set i (some (si k)))) (hm : m ≤ 100000) {t : T} (ht : Pool t) :
    ∃ (t' : T) (l : List α), Pool t' ∧ (∀ a ∈ l, Pa a) ∧ l.length = m ∧ lcL [i] (bName i) tAll elt ((iota m).map ig) [] (E t) = .ok (l.map g) (E t') := by
  obtain ⟨acc, ρ', e, t', l, h1, h2, h3, rfl, rfl⟩ := lcL_inv (slots := [i]) (b := bName i) (tst := tAll) (elt := elt) (its := (iota m).map ig) (acc := []) (ρ := E t) (fun k acc ρ => ∃ (t' : T) (l : List α), Pool t' ∧ (∀ a ∈ l, Pa a) ∧ l.length = k ∧ acc = l.map g ∧ ρ = E t')
    ⟨t, [], ht, fun _ h => (nomatch h), rfl, rfl, rfl⟩ (by
      rintro k u acc ρ e ⟨t', l, h1, h2, h3, rfl, rfl⟩
      have hk : k < m := by
        have := (List.getElem?_eq_some_iff.mp e).1
        simpa using this
      have hu : u = si k := by
        rw [List.getElem?_map, iota_get m k hk] at e
        exact (Option.some.inj e).symm
      subst hu
      obtain ⟨t2, a, g2, pa, e2⟩ := h t' k hk h1
      refine ⟨_, _, rfl, .inl ⟨g a, _, rfl, e2, by simp; unfold lim; omega, t2, l ++ [a], g2, fun b hb => ?_, by simp [h3], by simp, wipe_one (hn t2)⟩⟩
      rcases List.mem_append.mp hb with q | q
      · exact h2 b q
      · rw [List.mem_singleton.mp q]; exact pa)
  exact ⟨t', l, h1, h2, by simpa using h3, e⟩
theorem lcL_fl {α : Type} {slots : List Nat} {b : BM} {tst : EMb} {elt : EM} {ρ : Z.Env} (g f : α → T) (p : α → Bool) : ∀ {xs : List α} {acc : List T}, (∀ x ∈ xs, ∃ ρ1, b (g x) ρ = some ρ1 ∧ tst ρ1 = .ok (p x) ρ1 ∧ (p x = true → elt ρ1 = .ok (f x) ρ1) ∧ wipeE ρ1 slots = ρ) → acc.length + xs.length ≤ lim → lcL slots b tst elt (xs.map g) acc ρ = .ok (acc ++ (xs.filter p).map f) ρ
  | [], acc, _, _ => by simp [lcL]
  | x :: xs, acc, h, hz => by
    obtain ⟨ρ1, e1, e2, e3, e4⟩ := h x List.mem_cons_self
    simp only [List.length_cons] at hz
    rw [List.map_cons, lcL, e1]
    simp only [Out.bnd, e2]
    cases c : p x with
    | true =>
      have hi : acc.length < lim := by omega
      have ih := lcL_fl (b := b) (tst := tst) (elt := elt) (slots := slots) (ρ := ρ) g f p (xs := xs) (acc := acc ++ [f x]) (fun y hy => h y (List.mem_cons_of_mem _ hy)) (by simp only [List.length_append, List.length_cons, List.length_nil]; omega)
      simp only [if_true, e3 c, if_pos hi, e4, ih, List.filter_cons, c]
      simp
    | false =>
      have ih := lcL_fl (b := b) (tst := tst) (elt := elt) (slots := slots) (ρ := ρ) g f p (xs := xs) (acc := acc) (fun y hy => h y (List.mem_cons_of_mem _ hy)) (by omega)
      simp only [e4, ih, List.filter_cons, c]
      simp
theorem nd_iota (n : Nat) : (iota n).Nodup := by
  unfold iota
  rw [List.nodup_iff_pairwise_ne, List.pairwise_map]
  exact List.Pairwise.imp (fun {a b} h e => h (by omega)) (List.nodup_range (n := n))
theorem nat_of {z : Int} (h : 0 ≤ z) : ∃ m : Nat, z = m := ⟨z.toNat, by omega⟩
theorem asc_pw {α : Type} [LT α] [DecidableLT α] (htr : ∀ a b c : α, a < b → b < c → a < c) : ∀ {l : List α}, ascB l = true → l.Pairwise (· < ·)
  | [], _ => List.Pairwise.nil
  | [a], _ => by simp
  | a :: b :: l, h => by
    simp only [ascB, Bool.and_eq_true, decide_eq_true_eq] at h
    have ih := asc_pw htr h.2
    refine List.pairwise_cons.mpr ⟨fun c hc => ?_, ih⟩
    rcases List.mem_cons.mp hc with rfl | hc
    · exact h.1
    · exact htr _ _ _ h.1 ((List.pairwise_cons.mp ih).1 c hc)
theorem pw_asc {α : Type} [LT α] [DecidableLT α] : ∀ {l : List α}, l.Pairwise (· < ·) → ascB l = true
  | [], _ => rfl
  | [a], _ => rfl
  | a :: b :: l, h => by
    obtain ⟨h1, h2⟩ := List.pairwise_cons.mp h
    simp only [ascB, Bool.and_eq_true, decide_eq_true_eq]
    exact ⟨h1 b List.mem_cons_self, pw_asc h2⟩
theorem asc_nd {l : List Int} (h : ascB l = true) : l.Nodup := by
  have := asc_pw (α := Int) (fun a b c => Int.lt_trans) h
  exact List.Pairwise.imp (fun {a b} q e => by omega) this
theorem eq_ss {s t : Str} (hs : PyData.strOk s = true) (ht : PyData.strOk t = true) : oEq (.str s) (.str t) = some (.bl (decide (s = t))) := by
  have h1 : (D.str s).dat 60 = true := hs
  have h2 : (D.str t).dat 60 = true := ht
  unfold oEq
  rw [if_pos ⟨h1, h2⟩]
  simp only [D.py, PyData.eqv, Option.some.injEq, D.bl.injEq]
  by_cases h : s = t
  · simp [h]
  · simp [h]
theorem at_all {P : T → Prop} {l : List T} (h : ∀ u ∈ l, P u) {x : Int} (x0 : 0 ≤ x) (x1 : x < l.length) : ∃ u, P u ∧ atI l x = some u := by
  refine ⟨l[x.toNat]'(by omega), h _ (List.getElem_mem _), ?_⟩
  rw [atI_ok x0 x1, List.getElem?_eq_getElem]
theorem dl_sh (l : List D) : dl (l.map T.sh) = l := by rw [dl_eq, List.map_map]; exact List.map_id l
end
end Cl

set_option maxHeartbeats 2000000
namespace Cl
noncomputable section
open PySem L2 Z
def t_law_unlike_1 : EMb := (eT (qOr (pB (pOp oEq (pV 1) (pC (.int 0)))) (pB (pOp oNe (pOp oIx (pV 0) (pV 1)) (pOp oIx (pV 0) (pOp oSub (pV 1) (pC (.int 1))))))))
def x_law_unlike_2 : EM := (eGet (vIx (vV 0) (pV 1)))
def m_law_unlike : SM := (mRet (eLC [1] (iR1 (eCons (eP (pCB (o1 oLen) (aCons (pV 0) aNil))) eNil)) (bName 1) t_law_unlike_1 x_law_unlike_2))
def F_law_unlike : FM := mFun 1 2 m_law_unlike
def unlA {α : Type} [DecidableEq α] : α → List α → List α
  | _, [] => []
  | p, a :: m => if a = p then unlA a m else a :: unlA a m
def unl {α : Type} [DecidableEq α] : List α → List α
  | [] => []
  | a :: m => a :: unlA a m
theorem unlA_snoc {α : Type} [DecidableEq α] (a : α) : ∀ (m : List α) (p : α), unlA p (m ++ [a]) = unlA p m ++ if (p :: m).getLast? = some a then [] else [a]
  | [], p => by
    by_cases h : a = p
    · subst h; simp [unlA]
    · have h' : ¬ p = a := fun e => h e.symm
      simp [unlA, h, h']
  | b :: m, p => by
    have ih := unlA_snoc a m b
    have e : (p :: b :: m).getLast? = (b :: m).getLast? := by simp [List.getLast?_cons]
    rw [e]
    by_cases h : b = p
    · simp only [List.cons_append, unlA, if_pos h, ih]
    · simp only [List.cons_append, unlA, if_neg h, ih]
theorem unl_snoc {α : Type} [DecidableEq α] (a : α) : ∀ m : List α, unl (m ++ [a]) = unl m ++ if m.getLast? = some a then [] else [a]
  | [] => by simp [unl, unlA]
  | p :: m => by
    have := unlA_snoc a m p
    simp only [List.cons_append, unl, this]
theorem unl_take {α : Type} [DecidableEq α] (l : List α) {k : Nat} (hk : k < l.length) : unl (l.take (k + 1)) = unl (l.take k) ++ if k ≠ 0 ∧ l[k - 1]? = some l[k] then [] else [l[k]] := by
  rw [List.take_add_one, List.getElem?_eq_getElem hk]
  simp only [Option.toList_some, unl_snoc]
  by_cases h0 : k = 0
  · subst h0; simp
  · have e : (l.take k).getLast? = l[k - 1]? := by
      rw [List.getLast?_eq_getElem?, List.length_take, Nat.min_eq_left (by omega), List.getElem?_take]
      rw [if_pos (by omega)]
    simp [e, h0]
theorem unl_ok {α : Type} [DecidableEq α] (emb : α → D) (hne : ∀ a b, oNe (emb a) (emb b) = some (.bl (!decide (a = b)))) {l : List α} (hl : l.length ≤ 100000) : F_law_unlike [.sh (.lst (l.map emb))] = .ok (.ol ((unl l).map fun a => .sh (emb a))) [.sh (.lst (l.map emb))] := by
  obtain ⟨L, hL⟩ : ∃ L, L = l.map emb := ⟨_, rfl⟩
  have hLl : L.length = l.length := by rw [hL, List.length_map]
  have hLk : ∀ j (hj : j < l.length), L[j]? = some (emb l[j]) := fun j hj => by rw [hL, List.getElem?_map, List.getElem?_eq_getElem hj]; rfl
  have lenu : ∀ m : List α, (unl m).length ≤ m.length := by
    have h1 : ∀ (m : List α) (p : α), (unlA p m).length ≤ m.length := fun m => by
      induction m with
      | nil => intro p; simp [unlA]
      | cons b m ih =>
        intro p
        have := ih b
        by_cases h : b = p
        · simp only [unlA, if_pos h, List.length_cons]; omega
        · simp only [unlA, if_neg h, List.length_cons]; omega
    intro m
    cases m with
    | nil => simp [unl]
    | cons a m => have := h1 m a; simp only [unl, List.length_cons]; omega
  obtain ⟨acc, ρ', hc, h1, h2⟩ := lcL_inv (slots := [1]) (b := bName 1) (tst := t_law_unlike_1) (elt := x_law_unlike_2) (its := rangeT 0 l.length) (acc := []) (ρ := [some (.sh (.lst L)), none]) (fun k acc ρ => acc = (unl (l.take k)).map (fun a => .sh (emb a)) ∧ ρ = [some (.sh (.lst L)), none]) ⟨by simp [unl], rfl⟩ (by
    rintro k t acc ρ e ⟨rfl, rfl⟩
    obtain ⟨hk, rfl⟩ := rangeT_get e
    refine ⟨[some (.sh (.lst L)), some (si (0 + (k : Int)))], [some (.sh (.lst L)), some (si (0 + (k : Int)))], rfl, ?_⟩
    have a1 : atI L (k : Int) = some (emb l[k]) := by
      rw [atI_ok (by omega) (by omega), Int.toNat_natCast]; exact hLk _ _
    have a1' : atI (L.map T.sh) (k : Int) = some (.sh (emb l[k])) := by
      rw [atI_ok (by omega) (by simp; omega), Int.toNat_natCast, List.getElem?_map, hLk _ hk]; rfl
    have hlen := lenu (l.take k)
    rw [List.length_take] at hlen
    rw [unl_take l hk]
    by_cases h0 : k = 0
    · subst h0
      refine .inl ⟨.sh (emb l[0]), [some (.sh (.lst L)), some (si (0 + ((0 : Nat) : Int)))], ?_, ?_, by unfold lim; simp [unl], by simp, rfl⟩
      · simp [t_law_unlike_1]
      · simp at a1'
        simp [x_law_unlike_2, a1']
    · have a2 : atI L ((k : Int) - 1) = some (emb l[k - 1]) := by
        rw [atI_ok (by omega) (by omega), show ((k : Int) - 1).toNat = k - 1 by omega]; exact hLk _ _
      have e1 : l[k - 1]? = some l[k - 1] := List.getElem?_eq_getElem (by omega)
      have h0' : ¬ ((k : Int) = 0) := by omega
      by_cases q : l[k] = l[k - 1]
      · have q' : (k ≠ 0 ∧ l[k - 1]? = some l[k]) := ⟨h0, by rw [e1, q]⟩
        refine .inr ⟨?_, by rw [if_pos q']; simp, rfl⟩
        simp [t_law_unlike_1, h0, h0', a1, a2, hne, q]
      · have q' : ¬ (k ≠ 0 ∧ l[k - 1]? = some l[k]) := fun z => q (by rw [e1] at z; exact (Option.some.inj z.2).symm)
        refine .inl ⟨.sh (emb l[k]), [some (.sh (.lst L)), some (si (0 + (k : Int)))], ?_, ?_, by simp only [List.length_map]; unfold lim; omega, by rw [if_neg q']; simp, rfl⟩
        · simp [t_law_unlike_1, h0, h0', a1, a2, hne, q]
        · simp [x_law_unlike_2, a1'])
  subst h1 h2
  rw [rangeT_len, List.take_length] at hc
  have hi := inR_nat (n := l.length) (by omega)
  rw [← hL]
  simp [F_law_unlike, m_law_unlike, hLl, hi, -rangeT_iota, hc]
theorem isrt_perm (l : List Int) : (isrt l).Perm l := List.mergeSort_perm l _
theorem isrt_le (l : List Int) : (isrt l).Pairwise (· ≤ ·) := by
  have := List.pairwise_mergeSort (le := fun a b : Int => decide (a ≤ b)) (fun a b c h1 h2 => by simp at *; omega) (fun a b => by simp; omega) l
  exact List.Pairwise.imp (fun {a b} h => by simpa using h) this
theorem unlA_asc {α : Type} [DecidableEq α] [LT α] [LE α] [DecidableLT α] (hlt : ∀ a b : α, a ≤ b → ¬ a = b → a < b) : ∀ (m : List α) (p : α), (p :: m).Pairwise (· ≤ ·) → ascB (p :: unlA p m) = true
  | [], _, _ => rfl
  | b :: m, p, h => by
    obtain ⟨h1, h2⟩ := List.pairwise_cons.mp h
    have ih := unlA_asc hlt m b h2
    by_cases e : b = p
    · subst e
      simp only [unlA, if_pos rfl]
      exact ih
    · simp only [unlA, if_neg e, ascB, Bool.and_eq_true, decide_eq_true_eq]
      exact ⟨hlt p b (h1 b List.mem_cons_self) fun q => e q.symm, ih⟩
theorem unl_asc {α : Type} [DecidableEq α] [LT α] [LE α] [DecidableLT α] (hlt : ∀ a b : α, a ≤ b → ¬ a = b → a < b) {l : List α} (h : l.Pairwise (· ≤ ·)) : ascB (unl l) = true := by
  cases l with
  | nil => rfl
  | cons a m => exact unlA_asc hlt m a h
theorem unlA_sub {α : Type} [DecidableEq α] : ∀ (m : List α) (p : α), (unlA p m).Sublist m
  | [], _ => List.Sublist.slnil
  | b :: m, p => by
    by_cases e : b = p
    · simp only [unlA, if_pos e]; exact List.Sublist.cons _ (unlA_sub m b)
    · simp only [unlA, if_neg e]; exact List.Sublist.cons₂ _ (unlA_sub m b)
theorem unl_sub {α : Type} [DecidableEq α] (l : List α) : (unl l).Sublist l := by
  cases l with
  | nil => exact List.Sublist.slnil
  | cons a m => exact List.Sublist.cons₂ _ (unlA_sub m a)
theorem unlA_nd {α : Type} [DecidableEq α] : ∀ (m : List α) (p : α), (p :: m).Nodup → unlA p m = m
  | [], _, _ => rfl
  | b :: m, p, h => by
    obtain ⟨h1, h2⟩ := List.nodup_cons.mp h
    have e : ¬ b = p := fun q => h1 (by rw [q]; exact List.mem_cons_self)
    simp only [unlA, if_neg e, unlA_nd m b h2]
theorem unl_nd {α : Type} [DecidableEq α] {l : List α} (h : l.Nodup) : unl l = l := by
  cases l with
  | nil => rfl
  | cons a m => simp only [unl, unlA_nd m a h]
theorem ltI (a b : Int) (h : a ≤ b) (e : ¬ a = b) : a < b := by omega
theorem isrt_nd {l : List Int} (h : l.Nodup) : (isrt l).Pairwise (· < ·) := by
  have h1 := isrt_le l
  have h2 : (isrt l).Nodup := (isrt_perm l).nodup_iff.mpr h
  exact List.Pairwise.imp (fun {a b} q => ltI a b q.1 q.2) (List.Pairwise.and h1 h2)
theorem leT (a b c : List Int) (h : a ≤ b) (k : b ≤ c) : a ≤ c := List.le_trans h k
theorem ltL (a b : List Int) (h : a ≤ b) (e : ¬ a = b) : a < b := by
  by_cases q : a < b
  · exact q
  · exact absurd (List.le_antisymm h (List.not_lt.mp q)) e
theorem rsrt_perm (l : List (List Int)) : (rsrt l).Perm l := List.mergeSort_perm l _
theorem rsrt_le (l : List (List Int)) : (rsrt l).Pairwise (· ≤ ·) := by
  have := List.pairwise_mergeSort (le := fun a b : List Int => decide (a ≤ b)) (fun a b c h1 h2 => by
    simp only [decide_eq_true_eq] at *
    exact leT a b c h1 h2) (fun a b => by
    simp only [Bool.or_eq_true, decide_eq_true_eq]
    exact List.le_total a b) l
  exact List.Pairwise.imp (fun {a b} h => by simpa using h) this
theorem sort_ints (l : List Int) : sortT [T.ints l] = some (T.ints (isrt l)) := by
  show (if SrtOk (dl (l.map ig)) then some (T.ol ((srtD (dl (l.map ig))).map .sh)) else none) = _
  rw [dl_ig, if_pos (srtOk_ints l), srt_ints, List.map_map]
  rfl
theorem sort_rows (l : List (List Int)) : sortT [.ol (l.map fun r => T.sh (D.ints r))] = some (.ol ((rsrt l).map fun r => T.sh (D.ints r))) := by
  have e : dl (l.map fun r => T.sh (D.ints r)) = l.map D.ints := by rw [dl_eq, List.map_map]; rfl
  show (if SrtOk (dl (l.map fun r => T.sh (D.ints r))) then some (T.ol ((srtD (dl (l.map fun r => T.sh (D.ints r)))).map .sh)) else none) = _
  rw [e, if_pos (srtOk_rows l), srt_rows, List.map_map]
  rfl
theorem ne_rows (a b : List Int) : oNe (D.ints a) (D.ints b) = some (.bl (!decide (a = b))) := ne_ints a b
end
end Cl

set_option maxHeartbeats 2000000
namespace Cl
noncomputable section
open PySem L2 Z
def m_law_some : SM := (mSeq (mSet 2 (eCallI 2 0 F_law_turning (eCons (eV 1) eNil))) (mRet (eSlT (eV 2) (eCallI 2 0 F_law_pick (eCons (eP (pOp oAdd (pV 1) (pC (.int 1)))) eNil)))))
def F_law_some : FM := mFunI 2 3 m_law_some
def x_law_rows_1 : EM := (eP (pCB (o2 oMax2) (aCons (pOp oIx (pOp oIx (pV 7) (pV 10)) (pV 12)) (aCons (pOp oIx (pOp oIx (pV 7) (pV 12)) (pV 10)) aNil))))
def x_law_rows_2 : EM := (eLC [12] (iR1 (eCons (eV 1) eNil)) (bName 12) tAll x_law_rows_1)
def x_law_rows_3 : EM := (eCB (cS (o1 oInt)) (eCons (eOp (oS oEq) (eCallI 2 0 F_law_pick (eCons (eV 3) eNil)) (eP (pC (.int 0)))) eNil))
def x_law_rows_4 : EM := (eLC [12] (iR1 (eCons (eV 1) eNil)) (bName 12) tAll x_law_rows_3)
def b_law_rows_5 : SM := (mOpen 7 9 (eCallI 2 0 F_law_pick (eCons (eV 1) eNil)) (mStoreE 9 (pC (.int 1)) (eCallI 2 0 F_law_pick (eCons (eV 1) eNil))))
def x_law_rows_6 : EM := (eP (pCB (o1 oInt) (aCons (pOrV (pOp oEq (pOp oIx (pV 4) (pV 12)) (pOp oAdd (pOp oIx (pV 4) (pV 10)) (pC (.int 1)))) (pAndV (pOp oEq (pV 6) (pC (.int 1))) (pOp oEq (pOp oIx (pV 4) (pV 10)) (pOp oAdd (pOp oIx (pV 4) (pV 12)) (pC (.int 1)))))) aNil)))
def x_law_rows_7 : EM := (eLC [12] (iR1 (eCons (eV 1) eNil)) (bName 12) tAll x_law_rows_6)
def x_law_rows_8 : EM := (eP (pCB (o1 oInt) (aCons (pOp oIx (pV 5) (pOp oMod (pCB (o1 oInt) (aCons (pOp oSub (pOp oIx (pV 4) (pV 12)) (pOp oIx (pV 4) (pV 10))) aNil)) (pV 1))) aNil)))
def x_law_rows_9 : EM := (eLC [12] (iR1 (eCons (eV 1) eNil)) (bName 12) tAll x_law_rows_8)
def x_law_rows_10 : EM := (eOp (oS oEq) (eCallI 2 0 F_law_pick (eCons (eV 3) eNil)) (eP (pC (.int 0))))
def m_law_rows : SM := (mSeq (mUnp (bTup [2, 3, 4]) (eTup (eCons (eCallI 2 0 F_law_pick (eCons (eP (pC (.int 4))) eNil)) (eCons (eOp eAddT (eP (pC (.int 2))) (eCallI 2 0 F_law_pick (eCons (eP (pC (.int 5))) eNil))) (eCons (eCallI 2 0 F_law_turning (eCons (eV 1) eNil)) eNil))))) (mSeq (mIf (eT (pB (pOp oEq (pV 2) (pC (.int 0))))) (mSeq (mSet 5 (eLC [11] (iR1 (eCons (eV 1) eNil)) (bName 11) tAll x_law_rows_10)) (mRet (eLC [10] (iR1 (eCons (eV 1) eNil)) (bName 10) tAll x_law_rows_9))) mNil) (mSeq (mIf (eT (pB (pOp oEq (pV 2) (pC (.int 1))))) (mSeq (mSet 6 (eCallI 2 0 F_law_pick (eCons (eP (pC (.int 2))) eNil))) (mSeq (mSet 7 (eLC [10] (iR1 (eCons (eV 1) eNil)) (bName 10) tAll x_law_rows_7)) (mSeq (mFor (iR1 (eCons (eOp (oS oMul) (eCallI 2 0 F_law_pick (eCons (eP (pC (.int 3))) eNil)) (eP (pCB (o1 oInt) (aCons (pOp oGt (pV 1) (pC (.int 0))) aNil)))) eNil)) (bName 8) b_law_rows_5) (mRet (eM 7))))) mNil) (mSeq (mSet 7 (eLC [10] (iR1 (eCons (eV 1) eNil)) (bName 10) tAll x_law_rows_4)) (mSeq (mIf (eT (pB (pOp oEq (pV 2) (pC (.int 2))))) (mRet (eLC [10] (iR1 (eCons (eV 1) eNil)) (bName 10) tAll x_law_rows_2)) mNil) (mRet (eM 7)))))))
def F_law_rows : FM := mFunI 2 13 m_law_rows
def x_law_sets_1 : EM := (eFz (eCB sortT (eCons (eCallI 2 0 F_law_some (eCons (eV 1) eNil)) eNil)))
def m_law_sets : SM := (mSeq (mSet 2 (eOp ixT (eLst (eCons (eP (pC (.int 0))) (eCons (eP (pC (.int 1))) (eCons (eP (pC (.int 2))) (eCons (eP (pC (.int 3))) (eCons (eP (pC (.int 5))) (eCons (eP (pC (.int 9))) (eCons (eP (pC (.int 60))) eNil)))))))) (eCallI 2 0 F_law_pick (eCons (eP (pC (.int 7))) eNil)))) (mRet (eCall 1 F_law_unlike (eCons (eCB sortT (eCons (eLC [3] (iR1 (eCons (eV 2) eNil)) (bName 3) tAll x_law_sets_1) eNil)) eNil))))
def F_law_sets : FM := mFunI 2 4 m_law_sets
def x_law_thing_1 : EM := (eCallI 2 0 F_law_pick (eCons (eV 3) eNil))
def m_law_thing : SM := (mSeq (mIf (eT (pB (pOp oEq (pV 2) (pC (.int 0))))) (mSeq (mSet 3 (eOp ixT (eLst (eCons (eP (pC (.int 1))) (eCons (eP (pC (.int 2))) (eCons (eP (pC (.int 3))) (eCons (eP (pC (.int 24))) eNil))))) (eCallI 2 0 F_law_pick (eCons (eP (pC (.int 4))) eNil)))) (mRet (eTup (eCons (eP (pC (.str "colours"))) (eCons (eLC [4] (iR1 (eCons (eV 1) eNil)) (bName 4) tAll x_law_thing_1) eNil))))) mNil) (mSeq (mIf (eT (pB (pOp oEq (pV 2) (pC (.int 1))))) (mRet (eTup (eCons (eP (pC (.str "graph"))) (eCons (eCallI 2 0 F_law_rows (eCons (eV 1) eNil)) eNil)))) mNil) (mSeq (mIf (eT (pB (pOp oEq (pV 2) (pC (.int 2))))) (mRet (eTup (eCons (eP (pC (.str "sets"))) (eCons (eCallI 2 0 F_law_sets (eCons (eV 1) eNil)) eNil)))) mNil) (mSeq (mIf (eT (pB (pOp oEq (pV 2) (pC (.int 3))))) (mRet (eTup (eCons (eP (pC (.str "turning"))) (eCons (eCallI 2 0 F_law_turning (eCons (eV 1) eNil)) eNil)))) mNil) (mRet (eTup (eCons (eP (pC (.str "row"))) (eCons (eCallI 2 0 F_law_some (eCons (eV 1) eNil)) eNil))))))))
def F_law_thing : FM := mFunI 3 5 m_law_thing
theorem some_ok {t : T} (ht : Pool t) {n : Nat} (hn : n ≤ 100) : ∃ t' p k, Pool t' ∧ Turn n p ∧ k ≤ n ∧ F_law_some [t, si n] = .ok (T.ints (p.take k)) [t', si n] := by
  obtain ⟨t1, p, g1, hp, e1⟩ := turning_ok ht (n := n) (by omega)
  obtain ⟨t2, x, g2, x0, x1, _, e2⟩ := pick_ok (m := (n : Int) + 1) g1 (by omega)
  have hc := cut_to p x0 (by rw [hp.len]; omega)
  refine ⟨t2, p, x.toNat, g2, hp, by omega, ?_⟩
  simp at e1 e2
  simp [F_law_some, m_law_some, e1, e2, hc]
def Bin (n : Nat) (rows : List (List Int)) : Prop := rows.length = n ∧ ∀ r ∈ rows, r.length = n ∧ ∀ x ∈ r, 0 ≤ x ∧ x < 2
def matR (n : Nat) (ent : Int → Int → Int) : List (List Int) := (iota n).map fun x => (iota n).map (ent x)
theorem matR_bin {n : Nat} {ent : Int → Int → Int} (h : ∀ x y : Int, 0 ≤ x → x < n → 0 ≤ y → y < n → 0 ≤ ent x y ∧ ent x y < 2) : Bin n (matR n ent) := by
  refine ⟨by simp [matR], fun r hr => ?_⟩
  obtain ⟨x, hx, rfl⟩ := List.mem_map.mp hr
  refine ⟨by simp, fun z hz => ?_⟩
  obtain ⟨y, hy, rfl⟩ := List.mem_map.mp hz
  exact h x y (mem_iota.mp hx).1 (mem_iota.mp hx).2 (mem_iota.mp hy).1 (mem_iota.mp hy).2
theorem rows_lc {n : Nat} (hn : n ≤ 100) {ent : Int → Int → Int} {elt elt2 : EM} (h2 : elt2 = eLC [12] (iR1 (eCons (eV 1) eNil)) (bName 12) tAll elt) {e0 e2 e3 e4 e5 e6 e7 e8 e9 e11 : Option T} (h : ∀ x y : Int, 0 ≤ x → x < n → 0 ≤ y → y < n → elt [e0, some (si n), e2, e3, e4, e5, e6, e7, e8, e9, some (si x), e11, some (si y)] = .ok (si (ent x y)) [e0, some (si n), e2, e3, e4, e5, e6, e7, e8, e9, some (si x), e11, some (si y)]) :
    lcL [10] (bName 10) tAll elt2 ((iota n).map ig) [] [e0, some (si n), e2, e3, e4, e5, e6, e7, e8, e9, none, e11, none] = .ok ((matR n ent).map T.ints) [e0, some (si n), e2, e3, e4, e5, e6, e7, e8, e9, none, e11, none] := by
  have hz : (iota n).length ≤ lim := by simp; unfold lim; omega
  have hb := inR_nat (n := n) (by omega)
  have := lcL_T (slots := [10]) (b := bName 10) (elt := elt2) (ρ := [e0, some (si n), e2, e3, e4, e5, e6, e7, e8, e9, none, e11, none]) (fun x => T.ints ((iota n).map (ent x))) (p := iota n) (fun x hx => by
    obtain ⟨x0, x1⟩ := mem_iota.mp hx
    refine ⟨[e0, some (si n), e2, e3, e4, e5, e6, e7, e8, e9, some (si x), e11, none], [e0, some (si n), e2, e3, e4, e5, e6, e7, e8, e9, some (si x), e11, none], rfl, ?_, rfl⟩
    have hi := lcL_ints (slots := [12]) (b := bName 12) (elt := elt) (ρ := [e0, some (si n), e2, e3, e4, e5, e6, e7, e8, e9, some (si x), e11, none]) (ent x) (p := iota n) (fun y hy => by
      obtain ⟨y0, y1⟩ := mem_iota.mp hy
      exact ⟨_, _, rfl, h x y x0 x1 y0 y1, rfl⟩) hz
    subst h2
    simp [hb, hi]) hz
  rw [this]
  unfold matR
  rw [List.map_map]
  rfl
theorem dl_rows (l : List (List Int)) : dl (l.map T.ints) = l.map D.ints := by
  rw [dl_eq, List.map_map]
  apply List.map_congr_left
  intro r _
  simp
def rowAt (rows : List (List Int)) (k : Int) : List Int := rows.getD k.toNat []
theorem rowAt_mem {rows : List (List Int)} {x : Int} (h0 : 0 ≤ x) (h1 : x < rows.length) : rowAt rows x ∈ rows := by
  unfold rowAt
  rw [List.getD_eq_getElem?_getD, List.getElem?_eq_getElem (by omega)]
  exact List.getElem_mem _
theorem rowAt_at {rows : List (List Int)} {x : Int} (h0 : 0 ≤ x) (h1 : x < rows.length) : atI (rows.map D.ints) x = some (D.ints (rowAt rows x)) := by
  rw [atI_ok h0 (by simpa using h1), List.getElem?_map]
  unfold rowAt
  rw [List.getD_eq_getElem?_getD, List.getElem?_eq_getElem (by omega)]
  rfl
theorem Bin.at {n : Nat} {rows : List (List Int)} (h : Bin n rows) {x y : Int} (x0 : 0 ≤ x) (x1 : x < n) (y0 : 0 ≤ y) (y1 : y < n) : atI ((rowAt rows x).map D.int) y = some (.int ((rowAt rows x).getD y.toNat 0)) ∧ 0 ≤ (rowAt rows x).getD y.toNat 0 ∧ (rowAt rows x).getD y.toNat 0 < 2 := by
  have hm := h.2 _ (rowAt_mem (rows := rows) x0 (by rw [h.1]; exact x1))
  refine ⟨atI_D _ y0 (by rw [hm.1]; exact y1), hm.2 _ ?_⟩
  rw [List.getD_eq_getElem?_getD, List.getElem?_eq_getElem (by omega)]
  exact List.getElem_mem _
theorem rows5_ok {n : Nat} (hn : n ≤ 100) (h0 : 0 < n) {c : Nat} {t : T} (ht : Pool t) {rows : List (List Int)} (hr : Bin n rows) {e2 e3 e4 e5 e6 e8 e9 e10 e11 e12 : Option T} :
    ∃ (t' : T) (rows' : List (List Int)) (j8 j9 : Option T), Pool t' ∧ Bin n rows' ∧ forL (bName 8) b_law_rows_5 ((iota c).map ig) [some t, some (si n), e2, e3, e4, e5, e6, some (.ol (rows.map T.ints)), e8, e9, e10, e11, e12] = .nx [some t', some (si n), e2, e3, e4, e5, e6, some (.ol (rows'.map T.ints)), j8, j9, e10, e11, e12] := by
  obtain ⟨ρ', e, t', rows', j8, j9, rfl, h1, h2⟩ := forN_inv (i := 8) (body := b_law_rows_5) (its := (iota c).map ig) (ρ := [some t, some (si n), e2, e3, e4, e5, e6, some (.ol (rows.map T.ints)), e8, e9, e10, e11, e12])
    (fun k ρ => ∃ (t' : T) (rows' : List (List Int)) (j8 j9 : Option T), ρ = [some t', some (si n), e2, e3, e4, e5, e6, some (.ol (rows'.map T.ints)), j8, j9, e10, e11, e12] ∧ Pool t' ∧ Bin n rows')
    ⟨t, rows, e8, e9, rfl, ht, hr⟩ (by
      rintro k u ρ e ⟨t', rows', j8, j9, rfl, h1, h2⟩
      obtain ⟨t2, x, g2, x0, x1, _, e2⟩ := pick_ok (m := (n : Int)) h1 (by omega)
      obtain ⟨t3, y, g3, y0, y1, _, e3⟩ := pick_ok (m := (n : Int)) g2 (by omega)
      have hxl : x.toNat < rows'.length := by rw [h2.1]; omega
      obtain ⟨r, hre⟩ : ∃ r, r = rows'[x.toNat] := ⟨_, rfl⟩
      have hrm := h2.2 r (by rw [hre]; exact List.getElem_mem _)
      have ix : ixN rows'.length x = some x.toNat := ixN_ok x0 (by rw [h2.1]; exact x1)
      have iy : ixN r.length y = some y.toNat := ixN_ok y0 (by rw [hrm.1]; exact y1)
      have hgx : rows'[x.toNat]? = some r := by rw [hre]; exact List.getElem?_eq_getElem hxl
      refine ⟨_, .inl ?_, t3, rows'.set x.toNat (r.set y.toNat 1), some u, none, rfl, g3, by simpa using h2.1, fun r' hr' => ?_⟩
      · simp [b_law_rows_5, e2, e3, ix, iy, hgx]
      · rcases List.mem_or_eq_of_mem_set hr' with q | rfl
        · exact h2.2 r' q
        · refine ⟨by simpa using hrm.1, fun z hz => ?_⟩
          rcases List.mem_or_eq_of_mem_set hz with q | rfl
          · exact hrm.2 z q
          · omega)
  exact ⟨t', rows', j8, j9, h1, h2, e⟩
theorem b01 (b : Bool) : (0 : Int) ≤ (if b then 1 else 0) ∧ (if b then (1 : Int) else 0) < 2 := by cases b <;> simp
@[simp] theorem oInt_bl (b : Bool) : oInt (.bl b) = some (.int (if b then 1 else 0)) := rfl
theorem rows_ok {t : T} (ht : Pool t) {n : Nat} (hn : n ≤ 100) : ∃ t' rows, Pool t' ∧ Bin n rows ∧ F_law_rows [t, si n] = .ok (.ol (rows.map T.ints)) [t', si n] := by
  obtain ⟨t1, kd, g1, kd0, kd1, _, e1⟩ := pick_ok (m := 4) ht (by decide)
  obtain ⟨t2, x, g2, x0, x1, _, e2⟩ := pick_ok (m := 5) g1 (by decide)
  obtain ⟨t3, r, g3, hr, e3⟩ := turning_ok g2 (n := n) (by omega)
  have hrl := hr.len
  have hb := inR_nat (n := n) (by omega)
  have rat : ∀ y : Int, 0 ≤ y → y < n → atI (r.map D.int) y = some (.int (r.getD y.toNat 0)) := fun y y0 y1 => atI_D r y0 (by rw [hrl]; exact y1)
  by_cases c0 : kd = 0
  · subst c0
    obtain ⟨t4, bs, g4, _, hbs, e4⟩ := draw_lc (fun _ : Bool => True) (fun b => T.sh (.bl b)) (i := 11) (m := n) (elt := x_law_rows_10) (fun t => [some t, some (si n), some (si 0), some (si (2 + x)), some (T.ints r), none, none, none, none, none, none, none, none]) (fun _ => rfl) (fun t k hk ht => by
      obtain ⟨t5, z, g5, _, _, _, e5⟩ := pick_ok (m := 2 + x) ht (by omega)
      refine ⟨t5, z == 0, g5, trivial, ?_⟩
      simp [x_law_rows_10, e5]) (by omega) g3
    refine ⟨t4, matR n (fun x y => if bs.getD ((r.getD y.toNat 0 - r.getD x.toNat 0) % n).toNat false then 1 else 0), g4, matR_bin fun _ _ _ _ _ _ => b01 _, ?_⟩
    have e5 := rows_lc hn (ent := fun x y => if bs.getD ((r.getD y.toNat 0 - r.getD x.toNat 0) % n).toNat false then 1 else 0) (elt := x_law_rows_8) (elt2 := x_law_rows_9) rfl (e0 := some t4) (e2 := some (si 0)) (e3 := some (si (2 + x))) (e4 := some (T.ints r)) (e5 := some (.ol (bs.map fun b => T.sh (.bl b)))) (e6 := none) (e7 := none) (e8 := none) (e9 := none) (e11 := none) (fun x y x0 x1 y0 y1 => by
      have a1 := rat x x0 x1
      have a2 := rat y y0 y1
      generalize r.getD y.toNat 0 = u at a2 ⊢
      generalize r.getD x.toNat 0 = v at a1 ⊢
      have hm := mod_int (i := u - v) (j := (n : Int)) (by omega)
      have z0 := Int.emod_nonneg (u - v) (show (n : Int) ≠ 0 by omega)
      have z1 := Int.emod_lt_of_pos (u - v) (show 0 < (n : Int) by omega)
      generalize (u - v) % (n : Int) = z at hm z0 z1 ⊢
      have hd : dl (bs.map fun b => T.sh (.bl b)) = bs.map .bl := by rw [dl_eq, List.map_map]; rfl
      have a3 : atI (bs.map D.bl) z = some (.bl (bs.getD z.toNat false)) := by
        rw [atI_ok z0 (by simp; omega), List.getElem?_map, List.getD_eq_getElem?_getD, List.getElem?_eq_getElem (by omega)]; rfl
      generalize bs.getD z.toNat false = b at a3
      simp [x_law_rows_8, a1, a2, hm, hd, a3])
    simp at e1 e2 e3 e4 e5
    simp [F_law_rows, m_law_rows, e1, e2, e3, hb, e4, e5]
  by_cases c1 : kd = 1
  · subst c1
    obtain ⟨t4, bk, g4, _, _, _, e4⟩ := pick_ok (m := 2) g3 (by decide)
    obtain ⟨t5, tm, g5, tm0, tm1, _, e5⟩ := pick_ok (m := 3) g4 (by decide)
    have e6 := rows_lc hn (ent := fun x y => if (r.getD y.toNat 0 == r.getD x.toNat 0 + 1 || (bk == 1 && r.getD x.toNat 0 == r.getD y.toNat 0 + 1)) then 1 else 0) (elt := x_law_rows_6) (elt2 := x_law_rows_7) rfl (e0 := some t4) (e2 := some (si 1)) (e3 := some (si (2 + x))) (e4 := some (T.ints r)) (e5 := none) (e6 := some (si bk)) (e7 := none) (e8 := none) (e9 := none) (e11 := none) (fun x y x0 x1 y0 y1 => by
      have a1 := rat x x0 x1
      have a2 := rat y y0 y1
      generalize r.getD y.toNat 0 = u at a2 ⊢
      generalize r.getD x.toNat 0 = v at a1 ⊢
      by_cases q1 : u = v + 1
      · simp [x_law_rows_6, a1, a2, q1]
      · by_cases q2 : bk = 1
        · simp [x_law_rows_6, a1, a2, q1, q2]
        · simp [x_law_rows_6, a1, a2, q1, q2])
    have hbin : Bin n (matR n fun x y => if (r.getD y.toNat 0 == r.getD x.toNat 0 + 1 || (bk == 1 && r.getD x.toNat 0 == r.getD y.toNat 0 + 1)) then 1 else 0) := matR_bin fun _ _ _ _ _ _ => b01 _
    generalize (matR n fun x y => if (r.getD y.toNat 0 == r.getD x.toNat 0 + 1 || (bk == 1 && r.getD x.toNat 0 == r.getD y.toNat 0 + 1)) then (1 : Int) else 0) = rows at e6 hbin
    by_cases h0 : 0 < n
    · obtain ⟨t6, rows', j8, j9, g6, hbin', e7⟩ := rows5_ok hn h0 (c := tm.toNat) g5 hbin (e2 := some (si 1)) (e3 := some (si (2 + x))) (e4 := some (T.ints r)) (e5 := none) (e6 := some (si bk)) (e8 := none) (e9 := none) (e10 := none) (e11 := none) (e12 := none)
      refine ⟨t6, rows', g6, hbin', ?_⟩
      have hi : InR tm := InR.of (by omega) (by omega)
      have hmul := mul_int (i := tm) (j := 1) (small_r ⟨by decide, by decide⟩)
      have h0' : (0 : Int) < n := by omega
      simp at e1 e2 e3 e4 e5 e6 e7 hmul
      simp [F_law_rows, m_law_rows, e1, e2, e3, hb, e4, e5, e6, h0, h0', hmul, hi, e7]
    · have hn0 : n = 0 := by omega
      subst hn0
      have hmul := mul_int (i := tm) (j := 0) (small_r ⟨by decide, by decide⟩)
      refine ⟨t5, rows, g5, hbin, ?_⟩
      have hi0 : InR 0 := InR.of (by decide) (by decide)
      have hi00 : iota 0 = [] := rfl
      simp [hi00] at e1 e2 e3 e4 e5 e6 hmul
      simp [F_law_rows, m_law_rows, e1, e2, e3, hb, e4, e5, e6, hmul, hi0, hi00, forL]
  · -- drawn noughts and ones
    obtain ⟨t4, rows, g4, hrows, hl4, e4⟩ := draw_lc (fun r : List Int => r.length = n ∧ ∀ x ∈ r, 0 ≤ x ∧ x < 2) T.ints (i := 10) (m := n) (elt := x_law_rows_4) (fun t => [some t, some (si n), some (si kd), some (si (2 + x)), some (T.ints r), none, none, none, none, none, none, none, none]) (fun _ => rfl) (fun t k hk ht => by
      obtain ⟨t5, l, g5, hl, hl5, e5⟩ := draw_lc (fun z : Int => 0 ≤ z ∧ z < 2) ig (i := 12) (m := n) (elt := x_law_rows_3) (fun t => [some t, some (si n), some (si kd), some (si (2 + x)), some (T.ints r), none, none, none, none, none, some (si k), none, none]) (fun _ => rfl) (fun t k hk ht => by
        obtain ⟨t5, z, g5, _, _, _, e5⟩ := pick_ok (m := 2 + x) ht (by omega)
        refine ⟨t5, if z == 0 then 1 else 0, g5, b01 _, ?_⟩
        simp [x_law_rows_3, e5]) (by omega) ht
      refine ⟨t5, l, g5, ⟨hl5, hl⟩, ?_⟩
      simp at e5
      simp [x_law_rows_4, hb, e5]) (by omega) g3
    have hbin : Bin n rows := ⟨hl4, hrows⟩
    by_cases c2 : kd = 2
    · have e5 := rows_lc hn (ent := fun x y => if (rowAt rows y).getD x.toNat 0 > (rowAt rows x).getD y.toNat 0 then (rowAt rows y).getD x.toNat 0 else (rowAt rows x).getD y.toNat 0) (elt := x_law_rows_1) (elt2 := x_law_rows_2) rfl (e0 := some t4) (e2 := some (si kd)) (e3 := some (si (2 + x))) (e4 := some (T.ints r)) (e5 := none) (e6 := none) (e7 := some (.ol (rows.map T.ints))) (e8 := none) (e9 := none) (e11 := none) (fun x y x0 x1 y0 y1 => by
        have a1 := hbin.at x0 x1 y0 y1
        have a2 := hbin.at y0 y1 x0 x1
        have b1 := rowAt_at (rows := rows) x0 (by rw [hbin.1]; exact x1)
        have b2 := rowAt_at (rows := rows) y0 (by rw [hbin.1]; exact y1)
        have hd := dl_rows rows
        simp at b1 b2 hd
        simp [x_law_rows_1, hd, b1, b2, a1.1, a2.1])
      refine ⟨t4, _, g4, matR_bin (ent := fun x y => if (rowAt rows y).getD x.toNat 0 > (rowAt rows x).getD y.toNat 0 then (rowAt rows y).getD x.toNat 0 else (rowAt rows x).getD y.toNat 0) fun x y x0 x1 y0 y1 => ?_, ?_⟩
      · have a1 := hbin.at x0 x1 y0 y1
        have a2 := hbin.at y0 y1 x0 x1
        split
        · exact a2.2
        · exact a1.2
      · subst c2
        simp at e1 e2 e3 e4 e5
        simp [F_law_rows, m_law_rows, e1, e2, e3, hb, e4, e5]
    · refine ⟨t4, rows, g4, hbin, ?_⟩
      simp at e1 e2 e3 e4
      simp [F_law_rows, m_law_rows, e1, e2, e3, hb, e4, c0, c1, c2]
def Rw (n : Nat) (r : List Int) : Prop := ascB r = true ∧ (∀ x ∈ r, 0 ≤ x ∧ x < n) ∧ r.length ≤ n
theorem srt_rw {n : Nat} {p : List Int} (hp : Turn n p) (k : Nat) : Rw n (isrt (p.take k)) := by
  have hpm := isrt_perm (p.take k)
  have hnd : (p.take k).Nodup := (List.take_sublist k p).nodup hp.nodup
  refine ⟨pw_asc (isrt_nd hnd), fun x hx => hp.mem.mp (List.mem_of_mem_take (hpm.mem_iff.mp hx)), ?_⟩
  rw [hpm.length_eq, List.length_take, hp.len]
  omega
def manyL : List Int := [0, 1, 2, 3, 5, 9, 60]
theorem sets_draw {t : T} (ht : Pool t) {n : Nat} (hn : n ≤ 100) : ∃ t' L, Pool t' ∧ (∀ r ∈ L, Rw n r) ∧ ascB L = true ∧ L.length ≤ 60 ∧ F_law_sets [t, si n] = .ok (.ol (L.map fun r => T.sh (D.ints r))) [t', si n] := by
  obtain ⟨t1, x, g1, x0, x1, _, e1⟩ := pick_ok (m := 7) ht (by decide)
  obtain ⟨m, hm, hat⟩ : ∃ m : Nat, m ≤ 60 ∧ atI [si 0, si 1, si 2, si 3, si 5, si 9, si 60] x = some (si m) := by
    rw [atI_ok x0 (by simpa using x1)]
    have : x.toNat < 7 := by omega
    match x.toNat, this with
    | 0, _ => exact ⟨0, by decide, rfl⟩
    | 1, _ => exact ⟨1, by decide, rfl⟩
    | 2, _ => exact ⟨2, by decide, rfl⟩
    | 3, _ => exact ⟨3, by decide, rfl⟩
    | 4, _ => exact ⟨5, by decide, rfl⟩
    | 5, _ => exact ⟨9, by decide, rfl⟩
    | 6, _ => exact ⟨60, by decide, rfl⟩
  have hb := inR_nat (n := m) (by omega)
  obtain ⟨t2, l, g2, hl, hll, e2⟩ := draw_lc (Rw n) (fun r => T.sh (D.ints r)) (i := 3) (m := m) (elt := x_law_sets_1) (fun t => [some t, some (si n), some (si m), none]) (fun _ => rfl) (fun t k hk ht => by
    obtain ⟨t3, p, j, g3, hp, hj, e3⟩ := some_ok ht hn
    refine ⟨t3, isrt (p.take j), g3, srt_rw hp j, ?_⟩
    have hs := sort_ints (p.take j)
    simp at e3 hs
    simp [x_law_sets_1, e3, hs]) (by omega) g1
  have hp := rsrt_perm l
  have hu := unl_ok D.ints ne_rows (l := rsrt l) (by rw [hp.length_eq]; omega)
  have hsub := unl_sub (rsrt l)
  refine ⟨t2, unl (rsrt l), g2, fun r hr => hl r (hp.mem_iff.mp (hsub.mem hr)), unl_asc ltL (rsrt_le l), ?_, ?_⟩
  · have := hsub.length_le
    rw [hp.length_eq] at this
    omega
  · have hs := sort_rows l
    have hd : dl ((rsrt l).map fun r => T.sh (D.ints r)) = (rsrt l).map D.ints := by rw [dl_eq, List.map_map]; rfl
    obtain ⟨L, hL⟩ : ∃ L, L = rsrt l := ⟨_, rfl⟩
    rw [← hL] at hu hs hd ⊢
    simp at e1 e2 hat hs hu hd
    simp [F_law_sets, m_law_sets, e1, hat, hb, e2, hs, hd, hu]
theorem mostL {x : Int} (x0 : 0 ≤ x) (x1 : x < 4) : ∃ m : Nat, 1 ≤ m ∧ m ≤ 24 ∧ atI [si 1, si 2, si 3, si 24] x = some (si m) := by
  rw [atI_ok x0 (by simpa using x1)]
  have : x.toNat < 4 := by omega
  match x.toNat, this with
  | 0, _ => exact ⟨1, by decide, by decide, rfl⟩
  | 1, _ => exact ⟨2, by decide, by decide, rfl⟩
  | 2, _ => exact ⟨3, by decide, by decide, rfl⟩
  | 3, _ => exact ⟨24, by decide, by decide, rfl⟩
end
end Cl

set_option maxHeartbeats 2000000
namespace Cl
noncomputable section
open PySem L2 Z
def x_law_same_1 (F : FM) : EM := (eP (pCall 2 F (aCons (pOp oIx (pV 0) (pV 2)) (aCons (pOp oIx (pV 1) (pV 2)) aNil))))
def m_law_same (F : FM) : SM := (mSeq (mIf (eT (qOr (pB (pOp (oIsN false) (pV 1) (pC .non))) (qOr (pB (pOp (oIsB false) (pV 1) (pC (.bl true)))) (pB (pOp (oIsB false) (pV 1) (pC (.bl false))))))) (mRet (eP (pOrV (pAndV (pOp (oIsN false) (pV 1) (pC .non)) (pOp (oIsN false) (pV 0) (pC .non))) (pOrV (pAndV (pOp (oIsB false) (pV 1) (pC (.bl true))) (pOp (oIsB false) (pV 0) (pC (.bl true)))) (pAndV (pOp (oIsB false) (pV 1) (pC (.bl false))) (pOp (oIsB false) (pV 0) (pC (.bl false)))))))) mNil) (mSeq (mIf (eT (pB (pIsi Ty.int (pV 1)))) (mRet (eP (pAndV (pIsi Ty.int (pV 0)) (pAndV (pNotV (pIsi Ty.bool (pV 0))) (pOp oEq (pV 0) (pV 1)))))) mNil) (mSeq (mIf (eT (pB (pIsi Ty.str (pV 1)))) (mRet (eP (pAndV (pIsi Ty.str (pV 0)) (pOp oEq (pV 0) (pV 1))))) mNil) (mSeq (mIf (eT (qOr (pB (pOp oNe (pIsi Ty.list (pV 1)) (pIsi Ty.list (pV 0)))) (pB (pOp oNe (pIsi Ty.tuple (pV 1)) (pIsi Ty.tuple (pV 0)))))) (mRet (eP (pC (.bl false)))) mNil) (mRet (eAndV (eP (pOp oEq (pCB (o1 oLen) (aCons (pV 0) aNil)) (pCB (o1 oLen) (aCons (pV 1) aNil)))) (eCB (cS (o1 oAll)) (eCons (eLC [2] (iR1 (eCons (eP (pCB (o1 oLen) (aCons (pV 1) aNil))) eNil)) (bName 2) tAll (x_law_same_1 F)) eNil))))))))
def F_law_same : Nat → FM
  | 0 => fun _ => .bad
  | k + 1 => mFun 2 3 (m_law_same (F_law_same k))
def x_law_copy_1 (F : FM) : EM := (eCall 1 F (eCons (eV 1) eNil))
def x_law_copy_2 (F : FM) : EM := (eCall 1 F (eCons (eV 1) eNil))
def m_law_copy (F : FM) : SM := (mSeq (mIf (eT (pB (pIsi Ty.list (pV 0)))) (mRet (eLC [1] (iE (eV 0)) (bName 1) tAll (x_law_copy_2 F))) mNil) (mSeq (mIf (eT (pB (pIsi Ty.tuple (pV 0)))) (mRet (eCB tupT (eCons (eLC [1] (iE (eV 0)) (bName 1) tAll (x_law_copy_1 F)) eNil))) mNil) (mRet (eM 0))))
def F_law_copy : Nat → FM
  | 0 => fun _ => .bad
  | k + 1 => mFun 1 2 (m_law_copy (F_law_copy k))
mutual
def dep : D → Nat
  | .lst l => depl l + 1
  | .tup l => depl l + 1
  | .dic _ _ => 1000
  | _ => 0
def depl : List D → Nat
  | [] => 0
  | d :: l => max (dep d) (depl l)
end
mutual
def szOk : D → Bool
  | .lst l => decide (l.length ≤ 100000) && szOkl l
  | .tup l => decide (l.length ≤ 100000) && szOkl l
  | .str s => PyData.strOk s
  | .dic _ _ => false
  | _ => true
def szOkl : List D → Bool
  | [] => true
  | d :: l => szOk d && szOkl l
end
theorem depl_mem : ∀ {l : List D} {d : D}, d ∈ l → dep d ≤ depl l
  | a :: l, d, h => by
    simp only [depl]
    rcases List.mem_cons.mp h with rfl | h
    · omega
    · have := depl_mem h; omega
theorem szOkl_mem : ∀ {l : List D} {d : D}, szOkl l = true → d ∈ l → szOk d = true
  | a :: l, d, h, hd => by
    simp only [szOkl, Bool.and_eq_true] at h
    rcases List.mem_cons.mp hd with rfl | hd
    · exact h.1
    · exact szOkl_mem h.2 hd
theorem all_true (n : Nat) : oAll (.lst (List.replicate n (.bl true))) = some (.bl true) := by
  have := boolsOf_map (List.replicate n true)
  rw [List.map_replicate] at this
  simp [oAll, this]
theorem same_comp {k : Nat} (ih : ∀ d : D, dep d < k → szOk d = true → F_law_same k [.sh d, .sh d] = .ok (.sh (.bl true)) [.sh d, .sh d]) {D0 : D} {l : List D} (hD : D0 = .lst l ∨ D0 = .tup l) (hl : depl l < k) (hz : l.length ≤ 100000) (hs : szOkl l = true) :
    lcL [2] (bName 2) tAll (x_law_same_1 (F_law_same k)) ((iota l.length).map ig) [] [some (.sh D0), some (.sh D0), none] = .ok ((iota l.length).map fun _ => .sh (.bl true)) [some (.sh D0), some (.sh D0), none] := by
  refine lcL_T (fun _ => .sh (.bl true)) (fun x hx => ?_) (by simp; unfold lim; omega)
  refine ⟨[some (.sh D0), some (.sh D0), some (si x)], [some (.sh D0), some (.sh D0), some (si x)], rfl, ?_, rfl⟩
  have hm := mem_iota.mp hx
  have hlt : x.toNat < l.length := by omega
  have ea : atI l x = some l[x.toNat] := by rw [atI_ok hm.1 hm.2, List.getElem?_eq_getElem hlt]
  have hd := ih l[x.toNat] (by have := depl_mem (List.getElem_mem hlt); omega) (szOkl_mem hs (List.getElem_mem hlt))
  rcases hD with rfl | rfl <;> simp [x_law_same_1, ea, hd]
theorem same_refl : ∀ (k : Nat) (d : D), dep d < k → szOk d = true → F_law_same k [.sh d, .sh d] = .ok (.sh (.bl true)) [.sh d, .sh d]
  | 0, d, h, _ => by omega
  | k + 1, d, h, hz => by
    cases d with
    | non => simp [F_law_same, m_law_same]
    | bl b => cases b <;> simp [F_law_same, m_law_same]
    | int i => simp [F_law_same, m_law_same]
    | str s =>
      have : oEq (.str s) (.str s) = some (.bl true) := by
        have hs : (D.str s).dat 60 = true := by simpa [szOk, D.dat] using hz
        unfold oEq
        rw [if_pos ⟨hs, hs⟩]
        simp [D.py, PyData.eqv]
      simp [F_law_same, m_law_same, this]
    | lst l =>
      simp only [szOk, Bool.and_eq_true, decide_eq_true_eq] at hz
      have hc := same_comp (fun d h1 h2 => same_refl k d h1 h2) (D0 := .lst l) (.inl rfl) (by simp only [dep] at h; omega) hz.1 hz.2
      have ha := all_true l.length
      have hb := inR_nat (n := l.length) (by omega)
      have e : ((iota l.length).map fun _ => T.sh (D.bl true)) = List.replicate l.length (T.sh (.bl true)) := by
        rw [List.map_const']; simp
      rw [e] at hc
      have e2 : dl (List.replicate l.length (T.sh (.bl true))) = List.replicate l.length (.bl true) := by
        rw [dl_eq, List.map_replicate]; rfl
      simp [F_law_same, m_law_same, hb, hc, e2, ha]
    | tup l =>
      simp only [szOk, Bool.and_eq_true, decide_eq_true_eq] at hz
      have hc := same_comp (fun d h1 h2 => same_refl k d h1 h2) (D0 := .tup l) (.inr rfl) (by simp only [dep] at h; omega) hz.1 hz.2
      have ha := all_true l.length
      have hb := inR_nat (n := l.length) (by omega)
      have e : ((iota l.length).map fun _ => T.sh (D.bl true)) = List.replicate l.length (T.sh (.bl true)) := by
        rw [List.map_const']; simp
      rw [e] at hc
      have e2 : dl (List.replicate l.length (T.sh (.bl true))) = List.replicate l.length (.bl true) := by
        rw [dl_eq, List.map_replicate]; rfl
      simp [F_law_same, m_law_same, hb, hc, e2, ha]
    | dic ks l => simp [szOk] at hz
theorem copy_lc {k : Nat} {elt : EM} (he : elt = eCall 1 (F_law_copy k) (eCons (eV 1) eNil)) (ih : ∀ d : D, dep d < k → szOk d = true → ∃ t, t.d = d ∧ F_law_copy k [.sh d] = .ok t [.sh d]) {l : List D} {e0 : Option T} (hl : depl l < k) (hz : l.length ≤ 100000) (hs : szOkl l = true) :
    ∃ ts : List T, dl ts = l ∧ lcL [1] (bName 1) tAll elt (l.map .sh) [] [e0, none] = .ok ts [e0, none] := by
  subst he
  have key : ∀ d ∈ l, ∃ t, t.d = d ∧ F_law_copy k [.sh d] = .ok t [.sh d] := fun d hd => ih d (by have := depl_mem hd; omega) (szOkl_mem hs hd)
  have := lcL_map (slots := [1]) (b := bName 1) (elt := eCall 1 (F_law_copy k) (eCons (eV 1) eNil)) (ρ := [e0, none]) (fun t => match F_law_copy k [t] with | .ok u _ => u | _ => t) (its := l.map .sh) (acc := []) (fun t ht => by
    obtain ⟨d, hd, rfl⟩ := List.mem_map.mp ht
    obtain ⟨u, _, hu⟩ := key d hd
    refine ⟨[e0, some (.sh d)], [e0, some (.sh d)], rfl, ?_, rfl⟩
    simp [hu]) (by simp; unfold lim; omega)
  refine ⟨_, ?_, by rw [this]⟩
  rw [List.nil_append, dl_eq, List.map_map, List.map_map]
  conv => rhs; rw [← List.map_id l]
  apply List.map_congr_left
  intro d hd
  obtain ⟨u, hu1, hu⟩ := key d hd
  simp [hu, hu1]
theorem copy_ok : ∀ (k : Nat) (d : D), dep d < k → szOk d = true → ∃ t, t.d = d ∧ F_law_copy k [.sh d] = .ok t [.sh d]
  | 0, d, h, _ => by omega
  | k + 1, d, h, hz => by
    cases d with
    | non => exact ⟨.sh .non, rfl, by simp [F_law_copy, m_law_copy]⟩
    | bl b => exact ⟨.sh (.bl b), rfl, by simp [F_law_copy, m_law_copy]⟩
    | int i => exact ⟨si i, rfl, by simp [F_law_copy, m_law_copy]⟩
    | str s => exact ⟨.sh (.str s), rfl, by simp [F_law_copy, m_law_copy]⟩
    | lst l =>
      simp only [szOk, Bool.and_eq_true, decide_eq_true_eq] at hz
      obtain ⟨ts, h1, h2⟩ := copy_lc (elt := x_law_copy_2 (F_law_copy k)) rfl (fun d h1 h2 => copy_ok k d h1 h2) (l := l) (by simp only [dep] at h; omega) hz.1 hz.2 (e0 := some (.sh (.lst l)))
      exact ⟨.ol ts, by simp [h1], by simp [F_law_copy, m_law_copy, h2]⟩
    | tup l =>
      simp only [szOk, Bool.and_eq_true, decide_eq_true_eq] at hz
      obtain ⟨ts, h1, h2⟩ := copy_lc (elt := x_law_copy_1 (F_law_copy k)) rfl (fun d h1 h2 => copy_ok k d h1 h2) (l := l) (by simp only [dep] at h; omega) hz.1 hz.2 (e0 := some (.sh (.tup l)))
      have hlen : ts.length ≤ lim := by
        have := congrArg List.length h1
        rw [dl_eq, List.length_map] at this
        unfold lim
        omega
      have tt : tupT [.ol ts] = some (.ot ts) := by simp [tupT, hlen]
      exact ⟨.ot ts, by simp [h1], by simp [F_law_copy, m_law_copy, D.seq, h2, tt]⟩
    | dic ks l => simp [szOk] at hz
theorem depl_le {l : List D} {m : Nat} (h : ∀ d ∈ l, dep d ≤ m) : depl l ≤ m := by
  induction l with
  | nil => simp [depl]
  | cons a l ih =>
    simp only [depl]
    have h1 := h a List.mem_cons_self
    have h2 := ih fun d hd => h d (List.mem_cons_of_mem _ hd)
    omega
theorem szl_of {l : List D} (h : ∀ d ∈ l, szOk d = true) : szOkl l = true := by
  induction l with
  | nil => rfl
  | cons a l ih => simp [szOkl, h a List.mem_cons_self, ih fun d hd => h d (List.mem_cons_of_mem _ hd)]
def Vk (k : Nat) (d : D) : Prop := dep d ≤ k ∧ szOk d = true
theorem Vk.mono {k j : Nat} {d : D} (h : Vk k d) (e : k ≤ j) : Vk j d := ⟨by have := h.1; omega, h.2⟩
theorem Vk.lst {k : Nat} {l : List D} (h : ∀ d ∈ l, Vk k d) (hl : l.length ≤ 100000) : Vk (k + 1) (.lst l) := by
  have h1 := depl_le fun d hd => (h d hd).1
  have h2 := szl_of fun d hd => (h d hd).2
  exact ⟨by simp only [dep]; omega, by simp [szOk, h2, hl]⟩
theorem Vk.tup {k : Nat} {l : List D} (h : ∀ d ∈ l, Vk k d) (hl : l.length ≤ 100000) : Vk (k + 1) (.tup l) := by
  have h1 := depl_le fun d hd => (h d hd).1
  have h2 := szl_of fun d hd => (h d hd).2
  exact ⟨by simp only [dep]; omega, by simp [szOk, h2, hl]⟩
theorem Vk.int (i : Int) : Vk 0 (.int i) := ⟨by simp [dep], by simp [szOk]⟩
theorem Vk.non : Vk 0 .non := ⟨by simp [dep], by simp [szOk]⟩
theorem Vk.bl (b : Bool) : Vk 0 (.bl b) := ⟨by simp [dep], by simp [szOk]⟩
theorem Vk.str {s : Str} (h : PyData.strOk s = true) : Vk 0 (.str s) := ⟨by simp [dep], by simpa [szOk] using h⟩
theorem Vk.ints (l : List Int) (hl : l.length ≤ 100000) : Vk 1 (D.ints l) := Vk.lst (k := 0) (fun d hd => by
  obtain ⟨x, _, rfl⟩ := List.mem_map.mp hd
  exact Vk.int x) (by simpa using hl)
end
end Cl

set_option maxHeartbeats 2000000
namespace Cl
noncomputable section
open PySem L2 Z
def b_law_spoil_1 (F : FM) : SM := (mDrop (eCallI 1 1 F eNil))
def m_law_spoil (F : FM) : SM := (mSeq (mIf (eT (pB (pIsiM [.list, .tuple] (pV 0)))) (mForM 0 1 (b_law_spoil_1 F)) mNil) (mIf (eT (pB (pIsi Ty.list (pV 0)))) (mAppG 0 (eP (pC (.str "odd")))) mNil))
def F_law_spoil : Nat → FM
  | 0 => fun _ => .bad
  | k + 1 => mFunI 1 2 (m_law_spoil (F_law_spoil k))
@[simp ↓] theorem mForM_run (R N : Nat) (body : SM) (ρ : Z.Env) : mForM R N body ρ = (match ρ[R]? with
  | some (some t) => match t.kidsO with
    | some l => if N < ρ.length then (match forM N body l (ρ.set R none) with
      | some p => .nx (p.2.set R (some (t.setK p.1)))
      | none => .bad) else .bad
    | none => .bad
  | _ => .bad) := rfl
@[simp ↓] theorem mForT_run (N : Nat) (e : EM) (body : SM) (ρ : Z.Env) : mForT N e body ρ = ((e ρ).st fun t ρ1 => match t.kidsO with
  | some l => if N < ρ1.length then (match forM N body l ρ1 with
    | some p => .nx p.2
    | none => .bad) else .bad
  | none => .bad) := rfl
@[simp] theorem kidsO_ot (l : List T) : (T.ot l).kidsO = some l := rfl
/-! ### a value that can be spoilt -/
def Sp (k : Nat) (t : T) : Prop := ∃ t', F_law_spoil k [t] = .ok (.sh .non) [t']
theorem forM_sp {N k : Nat} {body : SM} (hb : body = mDrop (eCallI 1 N (F_law_spoil k) eNil)) {ρ : Z.Env} (hN : ρ[N]? = some none) : ∀ {l : List T}, (∀ u ∈ l, Sp k u) → ∃ l', l'.length = l.length ∧ forM N body l ρ = some (l', ρ)
  | [], _ => ⟨[], rfl, rfl⟩
  | u :: us, h => by
    obtain ⟨l', hl, e⟩ := forM_sp hb hN (l := us) fun v hv => h v (List.mem_cons_of_mem _ hv)
    obtain ⟨u', hu⟩ := h u List.mem_cons_self
    have hlt : N < ρ.length := (List.getElem?_eq_some_iff.mp hN).1
    have b1 : (ρ.set N (some u))[N]? = some (some u) := List.getElem?_set_self hlt
    have b2 : (ρ.set N (some u'))[N]? = some (some u') := List.getElem?_set_self hlt
    have e1 : body (ρ.set N (some u)) = .nx (ρ.set N (some u')) := by
      subst hb
      simp [b1, hu]
    refine ⟨u' :: l', by simp [hl], ?_⟩
    unfold Z.forM
    rw [e1]
    simp only [b2, List.set_set, set_self hN, e, Option.map_some]
theorem Sp.scal {k : Nat} {d : D} (h : d.scal = true) : Sp (k + 1) (.sh d) := by
  refine ⟨.sh d, ?_⟩
  cases d <;> first | (cases h; done) | simp [F_law_spoil, m_law_spoil]
theorem Sp.ol {k : Nat} {l : List T} (h : ∀ u ∈ l, Sp k u) (hl : l.length ≤ 100000) : Sp (k + 1) (.ol l) := by
  obtain ⟨l', hl', e⟩ := forM_sp (N := 1) (body := b_law_spoil_1 (F_law_spoil k)) rfl (ρ := [none, none]) rfl h
  have hz : l'.length < lim := by unfold lim; omega
  refine ⟨.ol (l' ++ [.sh (.str "odd")]), ?_⟩
  simp [F_law_spoil, m_law_spoil, e, hz]
theorem Sp.ot {k : Nat} {l : List T} (h : ∀ u ∈ l, Sp k u) : Sp (k + 1) (.ot l) := by
  obtain ⟨l', hl', e⟩ := forM_sp (N := 1) (body := b_law_spoil_1 (F_law_spoil k)) rfl (ρ := [none, none]) rfl h
  refine ⟨.ot l', ?_⟩
  simp [F_law_spoil, m_law_spoil, e]
theorem Sp.ints {k : Nat} {l : List Int} (hl : l.length ≤ 100000) : Sp (k + 2) (T.ints l) := Sp.ol (fun u hu => by
  obtain ⟨x, _, rfl⟩ := List.mem_map.mp hu
  exact Sp.scal rfl) (by simpa using hl)
theorem Sp.rows {k : Nat} {m : List (List Int)} (hl : m.length ≤ 100000) (hr : ∀ r ∈ m, r.length ≤ 100000) : Sp (k + 3) (.ol (m.map T.ints)) := Sp.ol (fun u hu => by
  obtain ⟨r, hr', rfl⟩ := List.mem_map.mp hu
  exact Sp.ints (hr r hr')) (by simpa using hl)
theorem fresh_ints (l : List Int) : (T.ints l).fresh = true := by
  show freshL (l.map ig) = true
  induction l with
  | nil => rfl
  | cons a l ih => simp only [List.map_cons, freshL, ih, Bool.and_true]; rfl
theorem fresh_rows (m : List (List Int)) : (T.ol (m.map T.ints)).fresh = true := by
  show freshL (m.map T.ints) = true
  induction m with
  | nil => rfl
  | cons a m ih => simp only [List.map_cons, freshL, ih, Bool.and_true]; exact fresh_ints a
end
end Cl

set_option maxHeartbeats 2000000
namespace Cl
noncomputable section
open PySem L2 Z
def b_ways_from_1 : SM := (mIf (eT (qAnd (pB (pOp oLt (pOp oIx (pV 2) (pV 7)) (pC (.int 0)))) (pB (pOp oNe (pV 7) (pV 1))))) (mSeq (mStore 2 (eV 4) (pV 7)) (mAppG 5 (eV 7))) mNil)
def b_ways_from_2 : SM := (mFor (iE (eGet (vIx (vV 0) (pV 6)))) (bName 7) b_ways_from_1)
def t_ways_from_3 : EMb := (eT (qTru (pV 3)))
def b_ways_from_4 : SM := (mSeq (mAug 4 (fun i j => i + j) (eP (pC (.int 1)))) (mSeq (mSet 5 (eLst eNil)) (mSeq (mFor (iE (eV 3)) (bName 6) b_ways_from_2) (mSet 3 (eV 5)))))
def m_ways_from : SM := (mSeq (mPar3 2 3 4 (eCons (eOp repT (eLst (eCons (eP (pUn oNeg (pC (.int 1)))) eNil)) (eP (pCB (o1 oLen) (aCons (pV 0) aNil)))) (eCons (eLst (eCons (eV 1) eNil)) (eCons (eP (pC (.int 0))) eNil)))) (mSeq (whileL t_ways_from_3 b_ways_from_4 1000000) (mRet (eM 2))))
def F_ways_from : FM := mFun 2 8 m_ways_from
def b_law_far_1 : SM := (mIf (eT (qAnd (pB (pOp oEq (pOp oIx (pOp oIx (pV 0) (pV 8)) (pV 9)) (pC (.int 1)))) (qAnd (pB (pOp oNe (pV 9) (pV 3))) (pB (pOp oLt (pOp oIx (pV 4) (pV 9)) (pC (.int 0))))))) (mSeq (mStore 4 (eV 6) (pV 9)) (mAppG 7 (eV 9))) mNil)
def b_law_far_2 : SM := (mFor (iR1 (eCons (eV 1) eNil)) (bName 9) b_law_far_1)
def b_law_far_3 : SM := (mSeq (mSet 7 (eLst eNil)) (mSeq (mFor (iE (eV 5)) (bName 8) b_law_far_2) (mSet 5 (eV 7))))
/-! ### levels of a walk along arcs -/
abbrev WS : Type := List Int × List Int
def stp (many x : Int) (s : WS) (v : Int) : WS := if s.1.getD v.toNat 0 < 0 ∧ ¬ v = x then (s.1.set v.toNat many, s.2 ++ [v]) else s
def eAt (m : List (List Int)) (u v : Int) : Int := (rowAt m u).getD v.toNat 0
def outs (n : Nat) (m : List (List Int)) (u : Int) : List Int := (iota n).filter fun v => eAt m u v == 1
def inL (n : Nat) (m : List (List Int)) (many x : Int) (s : WS) (u : Int) : WS := (outs n m u).foldl (stp many x) s
def levL (n : Nat) (m : List (List Int)) (many x : Int) (f near : List Int) : WS := near.foldl (inL n m many x) (f, [])
/-- how many places are not met -/
def far_ (n : Nat) (x : Int) (f : List Int) : Nat := ((iota n).filter fun v => decide (f.getD v.toNat 0 < 0) && decide (¬ v = x)).length
def WOk (n : Nat) (s : WS) : Prop := s.1.length = n ∧ ∀ v ∈ s.2, 0 ≤ v ∧ v < n
theorem far_set {n : Nat} {x v many : Int} {f : List Int} (hl : f.length = n) (hm : 0 ≤ many) (v0 : 0 ≤ v) (v1 : v < n) (h1 : f.getD v.toNat 0 < 0) (h2 : ¬ v = x) : far_ n x (f.set v.toNat many) + 1 = far_ n x f := by
  have key : ∀ (l : List Int), l.Nodup → (∀ y ∈ l, 0 ≤ y) → (l.filter fun y => decide ((f.set v.toNat many).getD y.toNat 0 < 0) && decide (¬ y = x)).length + (if v ∈ l then 1 else 0) = (l.filter fun y => decide (f.getD y.toNat 0 < 0) && decide (¬ y = x)).length := fun l => by
    induction l with
    | nil => simp
    | cons a l ih =>
      intro hn h0
      obtain ⟨n1, n2⟩ := List.nodup_cons.mp hn
      have ih := ih n2 fun y hy => h0 y (List.mem_cons_of_mem _ hy)
      have a0 := h0 a List.mem_cons_self
      rw [List.filter_cons, List.filter_cons]
      by_cases e : v = a
      · subst e
        rw [if_neg n1] at ih
        rw [getD_set (by omega), if_pos rfl]
        have c1 : (decide (many < 0) && decide (¬ v = x)) = false := by simp; omega
        have c2 : (decide (f.getD v.toNat 0 < 0) && decide (¬ v = x)) = true := by simp only [h1, h2, decide_true, not_false_eq_true, Bool.and_self]
        rw [c1, c2, if_pos List.mem_cons_self]
        simp only [Bool.false_eq_true, if_false, if_true, List.length_cons]
        omega
      · have e2 : ¬ v.toNat = a.toNat := by omega
        rw [getD_set (by omega), if_neg e2]
        have e3 : (v ∈ a :: l) ↔ v ∈ l := by simp [e]
        simp only [e3]
        split
        · simp only [List.length_cons]; omega
        · exact ih
  have := key (iota n) (nd_iota n) fun y hy => (mem_iota.mp hy).1
  rw [if_pos (mem_iota.mpr ⟨v0, v1⟩)] at this
  exact this
theorem stp_ok {n : Nat} {many x v : Int} (hm : 0 ≤ many) {s : WS} (h : WOk n s) (v0 : 0 ≤ v) (v1 : v < n) : WOk n (stp many x s v) ∧ far_ n x (stp many x s v).1 + (stp many x s v).2.length = far_ n x s.1 + s.2.length := by
  unfold stp
  split
  · rename_i c
    refine ⟨⟨by rw [List.length_set]; exact h.1, fun y hy => ?_⟩, ?_⟩
    · rcases List.mem_append.mp hy with q | q
      · exact h.2 y q
      · rw [List.mem_singleton.mp q]; exact ⟨v0, v1⟩
    · have := far_set h.1 hm v0 v1 c.1 c.2
      simp only [List.length_append, List.length_cons, List.length_nil]
      omega
  · exact ⟨h, rfl⟩
theorem fold_ok {n : Nat} {many x : Int} (hm : 0 ≤ many) : ∀ {l : List Int} {s : WS}, WOk n s → (∀ v ∈ l, 0 ≤ v ∧ v < n) → WOk n (l.foldl (stp many x) s) ∧ far_ n x (l.foldl (stp many x) s).1 + (l.foldl (stp many x) s).2.length = far_ n x s.1 + s.2.length
  | [], s, h, _ => ⟨h, rfl⟩
  | v :: l, s, h, hl => by
    obtain ⟨h1, h2⟩ := stp_ok (x := x) hm h (hl v List.mem_cons_self).1 (hl v List.mem_cons_self).2
    obtain ⟨h3, h4⟩ := fold_ok (x := x) hm (l := l) h1 fun y hy => hl y (List.mem_cons_of_mem _ hy)
    exact ⟨h3, h4.trans h2⟩
theorem outs_mem {n : Nat} {m : List (List Int)} {u v : Int} (h : v ∈ outs n m u) : 0 ≤ v ∧ v < n := mem_iota.mp (List.mem_filter.mp h).1
theorem lev_fold {n : Nat} {m : List (List Int)} {many x : Int} (hm : 0 ≤ many) : ∀ {near : List Int} {s : WS}, WOk n s → WOk n (near.foldl (inL n m many x) s) ∧ far_ n x (near.foldl (inL n m many x) s).1 + (near.foldl (inL n m many x) s).2.length = far_ n x s.1 + s.2.length
  | [], s, h => ⟨h, rfl⟩
  | u :: l, s, h => by
    obtain ⟨h1, h2⟩ := fold_ok (x := x) hm (l := outs n m u) h fun v hv => outs_mem hv
    obtain ⟨h3, h4⟩ := lev_fold (x := x) hm (near := l) h1
    exact ⟨h3, h4.trans h2⟩
theorem lev_ok {n : Nat} {m : List (List Int)} {many x : Int} (hm : 0 ≤ many) {f near : List Int} (hf : f.length = n) : WOk n (levL n m many x f near) ∧ far_ n x (levL n m many x f near).1 + (levL n m many x f near).2.length = far_ n x f := by
  have := lev_fold (m := m) (x := x) hm (near := near) (s := (f, [])) ⟨hf, fun v hv => (nomatch hv)⟩
  exact ⟨this.1, by have h2 := this.2; simp only [List.length_nil, Nat.add_zero] at h2; exact h2⟩
theorem none_left {n : Nat} {x : Int} {f : List Int} (h : far_ n x f = 0) {v : Int} (v0 : 0 ≤ v) (v1 : v < n) : ¬ (f.getD v.toNat 0 < 0 ∧ ¬ v = x) := fun q => by
  have h2 : (iota n).filter (fun v => decide (f.getD v.toNat 0 < 0) && decide (¬ v = x)) = [] := List.length_eq_zero_iff.mp h
  have h3 : v ∈ (iota n).filter (fun v => decide (f.getD v.toNat 0 < 0) && decide (¬ v = x)) := List.mem_filter.mpr ⟨mem_iota.mpr ⟨v0, v1⟩, by simp only [q.1, q.2, decide_true, not_false_eq_true, Bool.and_self]⟩
  rw [h2] at h3
  cases h3
theorem fold_still {n : Nat} {many x : Int} {f mo : List Int} (h : far_ n x f = 0) : ∀ {l : List Int}, (∀ v ∈ l, 0 ≤ v ∧ v < n) → l.foldl (stp many x) (f, mo) = (f, mo)
  | [], _ => rfl
  | v :: l, hl => by
    have e : stp many x (f, mo) v = (f, mo) := if_neg (none_left h (hl v List.mem_cons_self).1 (hl v List.mem_cons_self).2)
    rw [List.foldl_cons, e]
    exact fold_still h fun y hy => hl y (List.mem_cons_of_mem _ hy)
theorem lev_still {n : Nat} {m : List (List Int)} {many x : Int} {f mo : List Int} (h : far_ n x f = 0) : ∀ near : List Int, near.foldl (inL n m many x) (f, mo) = (f, mo)
  | [] => rfl
  | u :: l => by
    have e : inL n m many x (f, mo) u = (f, mo) := fold_still h fun v hv => outs_mem hv
    rw [List.foldl_cons, e]
    exact lev_still h l
/-- the law's rounds -/
def rndL (n : Nat) (m : List (List Int)) (x : Int) : Nat → Int → List Int → List Int → List Int
  | 0, _, f, _ => f
  | j + 1, many, f, near => rndL n m x j (many + 1) (levL n m many x f near).1 (levL n m many x f near).2
/-- the program's rounds -/
def runL (n : Nat) (m : List (List Int)) (x : Int) : Nat → Int → List Int → List Int → Option (List Int)
  | _, _, f, [] => some f
  | 0, _, _, _ => none
  | j + 1, many, f, u :: near => runL n m x j (many + 1) (levL n m (many + 1) x f (u :: near)).1 (levL n m (many + 1) x f (u :: near)).2
theorem rnd_nil (n : Nat) (m : List (List Int)) (x : Int) : ∀ j many (f : List Int), rndL n m x j many f [] = f
  | 0, _, _ => rfl
  | j + 1, many, f => rnd_nil n m x j (many + 1) f
theorem run_nil (n : Nat) (m : List (List Int)) (x : Int) (j : Nat) (many : Int) (f : List Int) : runL n m x j many f [] = some f := by cases j <;> rfl
theorem run_rnd {n : Nat} {m : List (List Int)} {x : Int} : ∀ (j : Nat) (many : Int) (f near : List Int), 0 ≤ many → f.length = n → far_ n x f ≤ j → runL n m x (j + 2) many f near = some (rndL n m x j (many + 1) f near)
  | j, many, f, [], _, _, _ => by rw [run_nil, rnd_nil]
  | 0, many, f, u :: near, hm, hf, hc => by
    have h0 : far_ n x f = 0 := by omega
    have e : levL n m (many + 1) x f (u :: near) = (f, []) := lev_still h0 _
    show runL n m x 1 (many + 1) (levL n m (many + 1) x f (u :: near)).1 (levL n m (many + 1) x f (u :: near)).2 = _
    rw [e, run_nil]
    rfl
  | j + 1, many, f, u :: near, hm, hf, hc => by
    have hl := lev_ok (m := m) (x := x) (many := many + 1) (by omega) hf (near := u :: near)
    show runL n m x (j + 2) (many + 1) (levL n m (many + 1) x f (u :: near)).1 (levL n m (many + 1) x f (u :: near)).2 = some (rndL n m x j (many + 1 + 1) (levL n m (many + 1) x f (u :: near)).1 (levL n m (many + 1) x f (u :: near)).2)
    generalize hs : levL n m (many + 1) x f (u :: near) = s at hl ⊢
    obtain ⟨f', near'⟩ := s
    cases near' with
    | nil => rw [run_nil, rnd_nil]
    | cons a l =>
      refine run_rnd j (many + 1) f' (a :: l) (by omega) hl.1.1 ?_
      have h2 := hl.2
      simp only [List.length_cons] at h2
      omega
/-! ### the program's walk -/
def lds (n : Nat) (m : List (List Int)) : D := .lst ((iota n).map fun u => D.ints (outs n m u))
theorem in1_ok {n : Nat} (hn : n ≤ 1000) {x many : Int} {s : WS} (hs : WOk n s) {l : List Int} (hl : ∀ v ∈ l, 0 ≤ v ∧ v < n) (hz2 : s.2.length + l.length ≤ 200000) {e0 e3 e6 e7 : Option T} :
    ∃ j7, forL (bName 7) b_ways_from_1 (l.map ig) [e0, some (si x), some (T.ints s.1), e3, some (si many), some (T.ints s.2), e6, e7] = .nx [e0, some (si x), some (T.ints (l.foldl (stp many x) s).1), e3, some (si many), some (T.ints (l.foldl (stp many x) s).2), e6, j7] := by
  induction l generalizing s e7 with
  | nil => exact ⟨e7, rfl⟩
  | cons v l ih =>
    have v0 := hl v List.mem_cons_self
    have hlen : (stp many x s v).2.length ≤ s.2.length + 1 := by unfold stp; split <;> simp
    have hw : WOk n (stp many x s v) := by
      unfold stp
      split
      · refine ⟨by rw [List.length_set]; exact hs.1, fun y hy => ?_⟩
        rcases List.mem_append.mp hy with q | q
        · exact hs.2 y q
        · rw [List.mem_singleton.mp q]; exact v0
      · exact hs
    have a1 := atI_D s.1 v0.1 (by rw [hs.1]; exact v0.2)
    have ix := ixN_ok (n := s.1.length) v0.1 (by rw [hs.1]; exact v0.2)
    have step : b_ways_from_1 [e0, some (si x), some (T.ints s.1), e3, some (si many), some (T.ints s.2), e6, some (si v)] = .nx [e0, some (si x), some (T.ints (stp many x s v).1), e3, some (si many), some (T.ints (stp many x s v).2), e6, some (si v)] := by
      have hlt : s.2.length < lim := by unfold lim; simp at hz2; omega
      unfold stp
      generalize s.1.getD v.toNat 0 = y at a1 ⊢
      by_cases c1 : y < 0
      · by_cases c2 : v = x
        · subst c2
          simp [b_ways_from_1, a1, c1]
        · simp [b_ways_from_1, a1, c1, c2, ix, hlt]
      · simp [b_ways_from_1, a1, c1]
    simp only [List.length_cons] at hz2
    obtain ⟨j7, e⟩ := ih (s := stp many x s v) (e7 := some (si v)) hw (fun y hy => hl y (List.mem_cons_of_mem _ hy)) (by omega)
    refine ⟨j7, ?_⟩
    rw [List.map_cons, Z.forL]
    simp only [bName, List.set_cons_succ, List.set_cons_zero, ig_app, step, e, List.foldl_cons]
end
end Cl

set_option maxHeartbeats 2000000
namespace Cl
noncomputable section
open PySem L2 Z
def b_distances_of_1 : SM := (mSeq (mSet 5 (eCall 2 F_ways_from (eCons (eV 1) (eCons (eV 3) eNil)))) (mSeq (mStore 5 (eGet (vIx (vV 4) (pV 3))) (pV 3)) (mAppG 2 (eV 5))))
def t_distances_of_2 : EMb := (eT (qTru (pV 7)))
def x_distances_of_3 : EM := (eV 6)
def x_distances_of_4 : EM := (eFz (eLC [6, 7] (iEn (eV 4)) (bTup [6, 7]) t_distances_of_2 x_distances_of_3))
def m_distances_of : SM := (mSeq (mPar 1 2 (eCons (eLC [4] (iE (eV 0)) (bName 4) tAll x_distances_of_4) (eCons (eLst eNil) eNil))) (mSeq (mFor (iEn (eV 0)) (bTup [3, 4]) b_distances_of_1) (mRet (eM 2))))
def F_distances_of : FM := mFun 1 8 m_distances_of
theorem lds_at {n : Nat} {m : List (List Int)} {u : Int} (u0 : 0 ≤ u) (u1 : u < n) : atI (((iota n).map fun u => D.ints (outs n m u)).map T.sh) u = some (.sh (D.ints (outs n m u))) := by
  rw [atI_ok u0 (by simpa using u1), List.getElem?_map, List.getElem?_map, iota_get n _ (by omega)]
  simp only [Option.map_some]
  rw [show ((u.toNat : Nat) : Int) = u by omega]
theorem outs_len (n : Nat) (m : List (List Int)) (u : Int) : (outs n m u).length ≤ n := by
  have := List.length_filter_le (fun v => eAt m u v == 1) (iota n)
  rw [iota_len] at this
  exact this
theorem in2_ok {n : Nat} (hn : n ≤ 100) {m : List (List Int)} {x many : Int} (hm : 0 ≤ many) {near : List Int} (hl : ∀ v ∈ near, 0 ≤ v ∧ v < n) : ∀ {s : WS} (_ : WOk n s) (_ : far_ n x s.1 + s.2.length ≤ 100) {e3 e6 e7 : Option T},
    ∃ j6 j7, forL (bName 6) b_ways_from_2 (near.map ig) [some (.sh (lds n m)), some (si x), some (T.ints s.1), e3, some (si many), some (T.ints s.2), e6, e7] = .nx [some (.sh (lds n m)), some (si x), some (T.ints (near.foldl (inL n m many x) s).1), e3, some (si many), some (T.ints (near.foldl (inL n m many x) s).2), j6, j7] := by
  induction near with
  | nil => exact fun {s} _ _ {e3 e6 e7} => ⟨e6, e7, rfl⟩
  | cons u l ih =>
    intro s hs hz e3 e6 e7
    have u0 := hl u List.mem_cons_self
    have ho : ∀ v ∈ outs n m u, 0 ≤ v ∧ v < n := fun v hv => outs_mem hv
    obtain ⟨h1, h2⟩ := fold_ok (x := x) hm (l := outs n m u) hs ho
    have hol := outs_len n m u
    obtain ⟨j7, e⟩ := in1_ok (n := n) (by omega) (x := x) (many := many) hs ho (by omega) (e0 := some (.sh (lds n m))) (e3 := e3) (e6 := some (si u)) (e7 := e7)
    obtain ⟨k6, k7, e2⟩ := ih (fun v hv => hl v (List.mem_cons_of_mem _ hv)) (s := inL n m many x s u) h1 (by rw [show far_ n x (inL n m many x s u).1 + (inL n m many x s u).2.length = far_ n x s.1 + s.2.length from h2]; exact hz) (e3 := e3) (e6 := some (si u)) (e7 := j7)
    refine ⟨k6, k7, ?_⟩
    have hat := lds_at (m := m) u0.1 u0.2
    have step : b_ways_from_2 [some (.sh (lds n m)), some (si x), some (T.ints s.1), e3, some (si many), some (T.ints s.2), some (si u), e7] = .nx [some (.sh (lds n m)), some (si x), some (T.ints (inL n m many x s u).1), e3, some (si many), some (T.ints (inL n m many x s u).2), some (si u), j7] := by
      unfold inL
      generalize outs n m u = o at *
      unfold lds at e ⊢
      generalize ((iota n).map fun u => D.ints (outs n m u)) = LD at *
      simp at hat e
      simp [b_ways_from_2, hat, e]
    rw [List.map_cons, Z.forL]
    simp only [bName, List.set_cons_succ, List.set_cons_zero, ig_app, step, e2, List.foldl_cons]
theorem while_ok {n : Nat} (hn : n ≤ 100) {m : List (List Int)} {x : Int} : ∀ (j : Nat) {many : Int} {f near : List Int} {t3 : T} {e5 e6 e7 : Option T} {r : List Int} {F : Nat}, 0 ≤ many → f.length = n → far_ n x f ≤ 100 → (∀ v ∈ near, 0 ≤ v ∧ v < n) → (t3 = T.ints near ∨ t3 = shi near) → runL n m x j many f near = some r → j < F →
    ∃ ρ', whileL t_ways_from_3 b_ways_from_4 F [some (.sh (lds n m)), some (si x), some (T.ints f), some t3, some (si many), e5, e6, e7] = .nx ρ' ∧ ρ'[2]? = some (some (T.ints r)) ∧ ρ'[0]? = some (some (.sh (lds n m))) ∧ ρ'[1]? = some (some (si x)) := by
  intro j
  induction j with
  | zero =>
    intro many f near t3 e5 e6 e7 r F hm hf hc hl ht hr hF
    obtain ⟨F, rfl⟩ : ∃ F', F = F' + 1 := ⟨F - 1, by omega⟩
    cases near with
    | cons u l => cases hr
    | nil =>
      cases hr
      refine ⟨[some (.sh (lds n m)), some (si x), some (T.ints f), some t3, some (si many), e5, e6, e7], ?_, rfl, rfl, rfl⟩
      rcases ht with rfl | rfl <;> simp [whileL, t_ways_from_3, D.truth]
  | succ j ih =>
    intro many f near t3 e5 e6 e7 r F hm hf hc hl ht hr hF
    obtain ⟨F, rfl⟩ : ∃ F', F = F' + 1 := ⟨F - 1, by omega⟩
    cases near with
    | nil =>
      cases hr
      refine ⟨[some (.sh (lds n m)), some (si x), some (T.ints f), some t3, some (si many), e5, e6, e7], ?_, rfl, rfl, rfl⟩
      rcases ht with rfl | rfl <;> simp [whileL, t_ways_from_3, D.truth]
    | cons u l =>
      have hr : runL n m x j (many + 1) (levL n m (many + 1) x f (u :: l)).1 (levL n m (many + 1) x f (u :: l)).2 = some r := hr
      obtain ⟨h1, h2⟩ := lev_ok (m := m) (x := x) (many := many + 1) (by omega) hf (near := u :: l)
      obtain ⟨j6, j7, e⟩ := in2_ok hn (m := m) (x := x) (many := many + 1) (by omega) hl (s := (f, [])) ⟨hf, fun v hv => (nomatch hv)⟩ (by simpa using hc) (e3 := some (shi (u :: l))) (e6 := e6) (e7 := e7)
      obtain ⟨ρ', e2, q⟩ := ih (many := many + 1) (near := (levL n m (many + 1) x f (u :: l)).2) (t3 := shi (levL n m (many + 1) x f (u :: l)).2) (e5 := some (shi (levL n m (many + 1) x f (u :: l)).2)) (e6 := j6) (e7 := j7) (F := F) (by omega) h1.1 (by omega) h1.2 (.inr rfl) hr (by omega)
      refine ⟨ρ', ?_, q⟩
      have e' : forL (bName 6) b_ways_from_2 ((u :: l).map ig) [some (.sh (lds n m)), some (si x), some (T.ints f), some (shi (u :: l)), some (si (many + 1)), some (T.ints []), e6, e7] = .nx [some (.sh (lds n m)), some (si x), some (T.ints (levL n m (many + 1) x f (u :: l)).1), some (shi (u :: l)), some (si (many + 1)), some (T.ints (levL n m (many + 1) x f (u :: l)).2), j6, j7] := e
      clear e
      generalize levL n m (many + 1) x f (u :: l) = s at e' e2
      obtain ⟨f', near'⟩ := s
      have body : b_ways_from_4 [some (.sh (lds n m)), some (si x), some (T.ints f), some t3, some (si many), e5, e6, e7] = .nx [some (.sh (lds n m)), some (si x), some (T.ints f'), some (shi near'), some (si (many + 1)), some (shi near'), j6, j7] := by
        generalize lds n m = LD at *
        simp at e'
        rcases ht with rfl | rfl <;> simp [b_ways_from_4, e']
      have tst : t_ways_from_3 [some (.sh (lds n m)), some (si x), some (T.ints f), some t3, some (si many), e5, e6, e7] = .ok true [some (.sh (lds n m)), some (si x), some (T.ints f), some t3, some (si many), e5, e6, e7] := by
        rcases ht with rfl | rfl <;> simp [t_ways_from_3, D.truth]
      unfold Z.whileL
      simp only [tst, Out.st, if_true, body]
      exact e2
theorem far_start {n : Nat} {x : Int} (x0 : 0 ≤ x) (x1 : x < n) (f : List Int) : far_ n x f + 1 ≤ n := by
  have h : ((iota n).filter fun v => decide (f.getD v.toNat 0 < 0) && decide (¬ v = x)).length < (iota n).length := by
    rw [List.length_filter_lt_length_iff_exists]
    exact ⟨x, mem_iota.mpr ⟨x0, x1⟩, by simp⟩
  rw [iota_len] at h
  exact h
def wayL (n : Nat) (m : List (List Int)) (x : Int) : List Int := rndL n m x (n - 1) 1 (List.replicate n (-1)) [x]
theorem rnd_len {n : Nat} {m : List (List Int)} {x : Int} : ∀ (j : Nat) {many : Int} {f near : List Int}, 0 ≤ many → f.length = n → (rndL n m x j many f near).length = n
  | 0, _, _, _, _, h => h
  | j + 1, many, f, near, hm, h => rnd_len j (by omega) (lev_ok hm h).1.1
theorem way_len {n : Nat} {m : List (List Int)} {x : Int} : (wayL n m x).length = n := rnd_len _ (by decide) (by simp)
theorem ways_ok {n : Nat} (hn : n ≤ 100) {m : List (List Int)} {x : Int} (x0 : 0 ≤ x) (x1 : x < n) : F_ways_from [.sh (lds n m), si x] = .ok (T.ints (wayL n m x)) [.sh (lds n m), si x] := by
  have hf := far_start x0 x1 (List.replicate n (-1))
  have hrun := run_rnd (n := n) (m := m) (x := x) (n - 1) 0 (List.replicate n (-1)) [x] (by decide) (by simp) (by omega)
  obtain ⟨ρ', e, e2, e0, e1⟩ := while_ok hn (m := m) (x := x) (n - 1 + 2) (many := 0) (f := List.replicate n (-1)) (near := [x]) (t3 := T.ints [x]) (e5 := none) (e6 := none) (e7 := none) (F := 1000000) (by decide) (by simp) (by omega) (fun v hv => by rw [List.mem_singleton.mp hv]; exact ⟨x0, x1⟩) (.inl rfl) hrun (by omega)
  have hrep := repT_one (d := .int (-1)) (n := n) (by unfold lim; omega)
  have hll : oLen (lds n m) = some (.int n) := by simp [lds]
  have h2 : rndL n m x (n - 1) (0 + 1) (List.replicate n (-1)) [x] = wayL n m x := rfl
  rw [h2] at e2
  generalize wayL n m x = W at *
  generalize lds n m = LD at *
  simp at hrep e
  simp [F_ways_from, m_ways_from, hll, hrep, e, e2, e0, e1]
end
end Cl

set_option maxHeartbeats 2000000
namespace Cl
noncomputable section
open PySem L2 Z
def x_law_far_4 : EM := (eP (pUn oNeg (pC (.int 1))))
def b_law_far_5 : SM := (mSeq (mPar 4 5 (eCons (eLC [10] (iR1 (eCons (eV 1) eNil)) (bName 10) tAll x_law_far_4) (eCons (eLst (eCons (eV 3) eNil)) eNil))) (mSeq (mFor (iR2 (eCons (eP (pC (.int 1))) (eCons (eV 1) eNil))) (bName 6) b_law_far_3) (mSeq (mStore 4 (eGet (vIx (vIx (vV 0) (pV 3)) (pV 3))) (pV 3)) (mAppG 2 (eV 4)))))
def m_law_far : SM := (mSeq (mPar 1 2 (eCons (eP (pCB (o1 oLen) (aCons (pV 0) aNil))) (eCons (eLst eNil) eNil))) (mSeq (mFor (iR1 (eCons (eV 1) eNil)) (bName 3) b_law_far_5) (mRet (eM 2))))
def F_law_far : FM := mFun 1 11 m_law_far
def distM (n : Nat) (m : List (List Int)) : List (List Int) := (iota n).map fun x => (wayL n m x).set x.toNat (eAt m x x)
theorem bin_at {n : Nat} {m : List (List Int)} (h : Bin n m) {x y : Int} (x0 : 0 ≤ x) (x1 : x < n) (y0 : 0 ≤ y) (y1 : y < n) : atI ((rowAt m x).map D.int) y = some (.int (eAt m x y)) ∧ 0 ≤ eAt m x y ∧ eAt m x y < 2 := h.at x0 x1 y0 y1
/-! ### leads -/
def outR (n : Nat) (r : List Int) : List Int := (iota n).filter fun v => r.getD v.toNat 0 == 1
theorem zipIdx_eq (r : List Int) : r.zipIdx = (List.range r.length).map fun k => (r.getD k 0, k) := by
  apply List.ext_getElem
  · simp
  · intro k h1 h2
    simp at h1
    simp [List.getElem?_eq_getElem h1]
theorem enum_zip : ∀ (r : List Int) (k : Nat), enumT k (r.map .int) = (r.zipIdx k).map fun p => .ot [si p.2, si p.1]
  | [], _ => rfl
  | a :: r, k => by
    simp only [List.map_cons, enumT, List.zipIdx_cons, enum_zip r (k + 1)]
    rfl
theorem lead_ok {n : Nat} (hn : n ≤ 100) {r : List Int} (hr : r.length = n ∧ ∀ x ∈ r, 0 ≤ x ∧ x < 2) {e0 e1 e2 e3 e5 : Option T} : x_distances_of_4 [e0, e1, e2, e3, some (shi r), e5, none, none] = .ok (.sh (D.ints (outR n r))) [e0, e1, e2, e3, some (shi r), e5, none, none] := by
  have := lcL_fl (slots := [6, 7]) (b := bTup [6, 7]) (tst := t_distances_of_2) (elt := x_distances_of_3) (ρ := [e0, e1, e2, e3, some (shi r), e5, none, none]) (fun k : Nat => .ot [si k, si (r.getD k 0)]) (fun k : Nat => si k) (fun k => r.getD k 0 == 1) (xs := List.range n) (acc := []) (fun k hk => by
    rw [List.mem_range] at hk
    have hm := hr.2 (r.getD k 0) (by rw [getD_at (by omega)]; exact List.getElem_mem _)
    generalize r.getD k 0 = y at hm ⊢
    refine ⟨[e0, e1, e2, e3, some (shi r), e5, some (si k), some (si y)], rfl, ?_, fun _ => ?_, rfl⟩
    · have : y = 0 ∨ y = 1 := by omega
      rcases this with rfl | rfl <;> simp [t_distances_of_2, D.truth]
    · simp [x_distances_of_3]) (by simp; unfold lim; omega)
  have e1' : enumT 0 (r.map .int) = (List.range n).map fun k : Nat => .ot [si k, si (r.getD k 0)] := by
    rw [enum_zip, zipIdx_eq, List.map_map, hr.1]; rfl
  rw [← e1'] at this
  have e2' : ((List.range n).filter fun k => r.getD k 0 == 1).map (fun k : Nat => si k) = (outR n r).map ig := by
    unfold outR iota
    rw [List.filter_map, List.map_map]
    rfl
  rw [e2', List.nil_append] at this
  generalize outR n r = o at *
  simp at this
  simp [x_distances_of_4, this]
theorem leads_eq {n : Nat} {m : List (List Int)} (h : Bin n m) : m.map (outR n) = (iota n).map (outs n m) := by
  apply List.ext_getElem
  · simp [h.1]
  · intro k h1 h2
    simp at h1 h2
    rw [List.getElem_map, List.getElem_map]
    have e : (iota n)[k]'(by simpa using h2) = (k : Int) := by rw [← getD_at, iota_getD n k h2]
    rw [e]
    unfold outR outs eAt rowAt
    rw [Int.toNat_natCast, List.getD_eq_getElem?_getD (l := m), List.getElem?_eq_getElem h1]
    rfl
/-! ### the program's distances -/
theorem dist_ok {n : Nat} (hn : n ≤ 100) {m : List (List Int)} (h : Bin n m) : F_distances_of [.sh (.lst (m.map D.ints))] = .ok (.ol ((distM n m).map fun r => T.sh (D.ints r))) [.sh (.lst (m.map D.ints))] := by
  have hml := h.1
  have e1 := lcL_xs (slots := [4]) (b := bName 4) (elt := x_distances_of_4) (ρ := [some (.sh (.lst (m.map D.ints))), none, none, none, none, none, none, none]) (fun r => T.sh (D.ints r)) (fun r => T.sh (D.ints (outR n r))) (xs := m) (acc := []) (fun r hr => ⟨_, _, rfl, lead_ok hn (h.2 r hr) (e0 := some (.sh (.lst (m.map D.ints)))) (e1 := none) (e2 := none) (e3 := none) (e5 := none), rfl⟩) (by unfold lim; simp; omega)
  have e1a : (m.map fun r => T.sh (D.ints (outR n r))) = ((iota n).map (outs n m)).map fun r => T.sh (D.ints r) := by rw [← leads_eq h, List.map_map]; rfl
  rw [e1a, List.nil_append] at e1
  have hdl : dl (((iota n).map (outs n m)).map fun r => T.sh (D.ints r)) = (iota n).map fun u => D.ints (outs n m u) := by
    rw [dl_eq, List.map_map, List.map_map]; rfl
  have hlds : lds n m = .lst (dl (((iota n).map (outs n m)).map fun r => T.sh (D.ints r))) := by rw [hdl]; rfl
  generalize (((iota n).map (outs n m)).map fun r => T.sh (D.ints r)) = LT at e1 hlds
  obtain ⟨ρ', e, t1, j3, j4, j5, rfl, h1⟩ := forL_inv (b := bTup [3, 4]) (body := b_distances_of_1) (its := enumT 0 (m.map D.ints)) (ρ := [some (.sh (.lst (m.map D.ints))), some (.ol LT), some (.ol []), none, none, none, none, none])
    (fun k ρ => ∃ (t1 : T) (j3 j4 j5 : Option T), ρ = [some (.sh (.lst (m.map D.ints))), some t1, some (.ol ((((iota k).map fun x => (wayL n m x).set x.toNat (eAt m x x))).map fun r => T.sh (D.ints r))), j3, j4, j5, none, none] ∧ (t1 = .ol LT ∨ t1 = .sh (lds n m)))
    ⟨.ol LT, none, none, none, rfl, .inl rfl⟩ (by
      rintro k t ρ e ⟨t1, j3, j4, j5, rfl, h1⟩
      rw [enumT_get, List.getElem?_map, Option.map_map] at e
      obtain ⟨r, er, rfl⟩ := Option.map_eq_some_iff.mp e
      have hk : k < m.length := (List.getElem?_eq_some_iff.mp er).1
      have hkn : (k : Int) < n := by omega
      have hrk : rowAt m k = r := by
        unfold rowAt
        rw [Int.toNat_natCast, List.getD_eq_getElem?_getD, er]; rfl
      have hw := ways_ok hn (m := m) (x := (k : Int)) (by omega) hkn
      have hwl := way_len (n := n) (m := m) (x := (k : Int))
      have ha := (bin_at h (x := (k : Int)) (y := (k : Int)) (by omega) hkn (by omega) hkn).1
      rw [hrk] at ha
      have ha' : atI ((r.map D.int).map T.sh) (k : Int) = some (.sh (.int (eAt m k k))) := by
        have hrl := (h.2 r (List.mem_of_getElem? er)).1
        rw [atI_ok (by omega) (by simp; omega)] at ha ⊢
        rw [List.getElem?_map, ha]; rfl
      have ix := ixN_ok (n := (wayL n m k).length) (i := (k : Int)) (by omega) (by rw [hwl]; exact hkn)
      have hio : iota (k + 1) = iota k ++ [(k : Int)] := by unfold iota; rw [List.range_succ, List.map_append]; rfl
      have hlen : ((((iota k).map fun x => (wayL n m x).set x.toNat (eAt m x x))).map fun r => T.sh (D.ints r)).length = k := by simp
      have hnew : ((((iota (k + 1)).map fun x => (wayL n m x).set x.toNat (eAt m x x))).map fun r => T.sh (D.ints r)) = ((((iota k).map fun x => (wayL n m x).set x.toNat (eAt m x x))).map fun r => T.sh (D.ints r)) ++ [T.sh (D.ints ((wayL n m k).set k (eAt m k k)))] := by
        rw [hio, List.map_append, List.map_append]
        rfl
      rw [hnew]
      generalize ((((iota k).map fun x => (wayL n m x).set x.toNat (eAt m x x))).map fun r => T.sh (D.ints r)) = Q at hlen ⊢
      obtain ⟨W, hW⟩ : ∃ W, W = wayL n m k := ⟨_, rfl⟩
      obtain ⟨z, hz⟩ : ∃ z, z = eAt m k k := ⟨_, rfl⟩
      rw [← hW] at hw hwl ix
      rw [← hz] at ha'
      rw [← hW, ← hz]
      have hq : Q.length < lim := by unfold lim; omega
      refine ⟨[some (.sh (.lst (m.map D.ints))), some t1, some (.ol Q), some (si k), some (shi r), j5, none, none], [some (.sh (.lst (m.map D.ints))), some (.sh (lds n m)), some (.ol (Q ++ [T.sh (D.ints (W.set k z))])), some (si k), some (shi r), some (shi (W.set k z)), none, none], by simp, .inl ?_, .sh (lds n m), some (si k), some (shi r), some (shi (W.set k z)), rfl, .inr rfl⟩
      generalize lds n m = LD at *
      simp at ha' hw ix
      rcases h1 with rfl | rfl
      · simp [b_distances_of_1, ← hlds, hw, ha', ix, hq]
      · simp [b_distances_of_1, hw, ha', ix, hq])
  rw [enumT_len, List.length_map, hml] at e
  show F_distances_of [.sh (.lst (m.map D.ints))] = .ok (.ol ((((iota n).map fun x => (wayL n m x).set x.toNat (eAt m x x))).map fun r => T.sh (D.ints r))) _
  generalize ((((iota n).map fun x => (wayL n m x).set x.toNat (eAt m x x))).map fun r => T.sh (D.ints r)) = Q at e ⊢
  have e2 : (m.map fun r => T.sh (D.ints r)) = (m.map D.ints).map T.sh := by rw [List.map_map]; rfl
  rw [e2] at e1
  generalize m.map D.ints = M at *
  simp [F_distances_of, m_distances_of, e1, e]
end
end Cl

set_option maxHeartbeats 2000000
namespace Cl
noncomputable section
open PySem L2 Z
/-! ### the law's distances -/
def stpE (m : List (List Int)) (u many x : Int) (s : WS) (v : Int) : WS := if (eAt m u v == 1) = true then stp many x s v else s
theorem fold_filter {n : Nat} (m : List (List Int)) (u many x : Int) (s : WS) : (iota n).foldl (stpE m u many x) s = inL n m many x s u := by
  unfold inL outs
  rw [List.foldl_filter]
  rfl
theorem stpE_ok {n : Nat} {m : List (List Int)} {u many x v : Int} (hm : 0 ≤ many) {s : WS} (h : WOk n s) (v0 : 0 ≤ v ∧ v < n) : WOk n (stpE m u many x s v) ∧ (stpE m u many x s v).2.length ≤ s.2.length + 1 := by
  unfold stpE
  split
  · refine ⟨(stp_ok hm h v0.1 v0.2).1, ?_⟩
    unfold stp
    split <;> simp
  · exact ⟨h, by omega⟩
theorem far1_ok {n : Nat} (hn : n ≤ 100) {m : List (List Int)} (hb : Bin n m) {x many u : Int} (hm : 0 ≤ many) (u0 : 0 ≤ u) (u1 : u < n) {l : List Int} (hl : ∀ v ∈ l, 0 ≤ v ∧ v < n) : ∀ {s : WS} (_ : WOk n s) (_ : s.2.length + l.length ≤ 200000) {e2 e5 e9 e10 : Option T},
    ∃ j9, forL (bName 9) b_law_far_1 (l.map ig) [some (.sh (.lst (m.map D.ints))), some (si n), e2, some (si x), some (T.ints s.1), e5, some (si many), some (T.ints s.2), some (si u), e9, e10] = .nx [some (.sh (.lst (m.map D.ints))), some (si n), e2, some (si x), some (T.ints (l.foldl (stpE m u many x) s).1), e5, some (si many), some (T.ints (l.foldl (stpE m u many x) s).2), some (si u), j9, e10] := by
  induction l with
  | nil => exact fun {s} _ _ {e2 e5 e9 e10} => ⟨e9, rfl⟩
  | cons v l ih =>
    intro s hs hz e2 e5 e9 e10
    have v0 := hl v List.mem_cons_self
    simp only [List.length_cons] at hz
    obtain ⟨w1, w2⟩ := stpE_ok (m := m) (u := u) (x := x) hm hs v0
    have a1 := atI_D s.1 v0.1 (by rw [hs.1]; exact v0.2)
    have ix := ixN_ok (n := s.1.length) v0.1 (by rw [hs.1]; exact v0.2)
    have b1 := rowAt_at (rows := m) u0 (by rw [hb.1]; exact u1)
    have b2 := (bin_at hb u0 u1 v0.1 v0.2).1
    obtain ⟨j9, e⟩ := ih (fun y hy => hl y (List.mem_cons_of_mem _ hy)) (s := stpE m u many x s v) w1 (by omega) (e2 := e2) (e5 := e5) (e9 := some (si v)) (e10 := e10)
    refine ⟨j9, ?_⟩
    have hlt : s.2.length < lim := by unfold lim; omega
    have step : b_law_far_1 [some (.sh (.lst (m.map D.ints))), some (si n), e2, some (si x), some (T.ints s.1), e5, some (si many), some (T.ints s.2), some (si u), some (si v), e10] = .nx [some (.sh (.lst (m.map D.ints))), some (si n), e2, some (si x), some (T.ints (stpE m u many x s v).1), e5, some (si many), some (T.ints (stpE m u many x s v).2), some (si u), some (si v), e10] := by
      unfold stpE stp
      generalize s.1.getD v.toNat 0 = y at a1 ⊢
      generalize eAt m u v = z at b2 ⊢
      generalize m.map D.ints = M at b1 ⊢
      simp at b1
      by_cases c0 : z = 1
      · by_cases c1 : y < 0
        · by_cases c2 : v = x
          · subst c2
            simp [b_law_far_1, b1, b2, a1, c0, c1]
          · simp [b_law_far_1, b1, b2, a1, c0, c1, c2, ix, hlt]
        · simp [b_law_far_1, b1, b2, a1, c0, c1]
      · simp [b_law_far_1, b1, b2, a1, c0]
    rw [List.map_cons, Z.forL]
    simp only [bName, List.set_cons_succ, List.set_cons_zero, ig_app, step, e, List.foldl_cons]
theorem far2_ok {n : Nat} (hn : n ≤ 100) {m : List (List Int)} (hb : Bin n m) {x many : Int} (hm : 0 ≤ many) {near : List Int} (hl : ∀ v ∈ near, 0 ≤ v ∧ v < n) : ∀ {s : WS} (_ : WOk n s) (_ : far_ n x s.1 + s.2.length ≤ 100) {e2 e5 e8 e9 e10 : Option T},
    ∃ j8 j9, forL (bName 8) b_law_far_2 (near.map ig) [some (.sh (.lst (m.map D.ints))), some (si n), e2, some (si x), some (T.ints s.1), e5, some (si many), some (T.ints s.2), e8, e9, e10] = .nx [some (.sh (.lst (m.map D.ints))), some (si n), e2, some (si x), some (T.ints (near.foldl (inL n m many x) s).1), e5, some (si many), some (T.ints (near.foldl (inL n m many x) s).2), j8, j9, e10] := by
  induction near with
  | nil => exact fun {s} _ _ {e2 e5 e8 e9 e10} => ⟨e8, e9, rfl⟩
  | cons u l ih =>
    intro s hs hz e2 e5 e8 e9 e10
    have u0 := hl u List.mem_cons_self
    obtain ⟨h1, h2⟩ := fold_ok (x := x) hm (l := outs n m u) hs fun v hv => outs_mem hv
    obtain ⟨j9, e⟩ := far1_ok hn hb (x := x) hm u0.1 u0.2 (l := iota n) (fun v hv => mem_iota.mp hv) hs (by rw [iota_len]; omega) (e2 := e2) (e5 := e5) (e9 := e9) (e10 := e10)
    rw [fold_filter] at e
    obtain ⟨k8, k9, e3⟩ := ih (fun v hv => hl v (List.mem_cons_of_mem _ hv)) (s := inL n m many x s u) h1 (by rw [show far_ n x (inL n m many x s u).1 + (inL n m many x s u).2.length = far_ n x s.1 + s.2.length from h2]; exact hz) (e2 := e2) (e5 := e5) (e8 := some (si u)) (e9 := j9) (e10 := e10)
    refine ⟨k8, k9, ?_⟩
    have hi := inR_nat (n := n) (by omega)
    have step : b_law_far_2 [some (.sh (.lst (m.map D.ints))), some (si n), e2, some (si x), some (T.ints s.1), e5, some (si many), some (T.ints s.2), some (si u), e9, e10] = .nx [some (.sh (.lst (m.map D.ints))), some (si n), e2, some (si x), some (T.ints (inL n m many x s u).1), e5, some (si many), some (T.ints (inL n m many x s u).2), some (si u), j9, e10] := by
      generalize inL n m many x s u = s2 at e ⊢
      generalize m.map D.ints = M at e ⊢
      simp at e
      simp [b_law_far_2, hi, e]
    rw [List.map_cons, Z.forL]
    simp only [bName, List.set_cons_succ, List.set_cons_zero, ig_app, step, e3, List.foldl_cons]
theorem rangeT_succ (lo : Int) (j : Nat) : rangeT lo (j + 1) = si lo :: rangeT (lo + 1) j := by
  unfold rangeT
  rw [List.range_succ_eq_map, List.map_cons, List.map_map]
  congr 1
  · simp
  · apply List.map_congr_left
    intro k _
    simp; omega
theorem far3_ok {n : Nat} (hn : n ≤ 100) {m : List (List Int)} (hb : Bin n m) {x : Int} : ∀ (j : Nat) {many : Int} {f near : List Int} {t5 : T} {e2 e6 e7 e8 e9 e10 : Option T}, 0 ≤ many → f.length = n → far_ n x f ≤ 100 → (∀ v ∈ near, 0 ≤ v ∧ v < n) → (t5 = T.ints near ∨ t5 = shi near) →
    ∃ j5 j6 j7 j8 j9, forL (bName 6) b_law_far_3 (rangeT many j) [some (.sh (.lst (m.map D.ints))), some (si n), e2, some (si x), some (T.ints f), some t5, e6, e7, e8, e9, e10] = .nx [some (.sh (.lst (m.map D.ints))), some (si n), e2, some (si x), some (T.ints (rndL n m x j many f near)), j5, j6, j7, j8, j9, e10] := by
  intro j
  induction j with
  | zero => exact fun {many f near t5 e2 e6 e7 e8 e9 e10} _ _ _ _ _ => ⟨some t5, e6, e7, e8, e9, rfl⟩
  | succ j ih =>
    intro many f near t5 e2 e6 e7 e8 e9 e10 hm hf hc hl ht
    obtain ⟨h1, h2⟩ := lev_ok (m := m) (x := x) hm hf (near := near)
    obtain ⟨k8, k9, e⟩ := far2_ok hn hb (x := x) hm hl (s := (f, [])) ⟨hf, fun v hv => (nomatch hv)⟩ (by simpa using hc) (e2 := e2) (e5 := some (shi near)) (e8 := e8) (e9 := e9) (e10 := e10)
    obtain ⟨j5, j6, j7, j8, j9, e3⟩ := ih (many := many + 1) (near := (levL n m many x f near).2) (t5 := shi (levL n m many x f near).2) (e2 := e2) (e6 := some (si many)) (e7 := some (shi (levL n m many x f near).2)) (e8 := k8) (e9 := k9) (e10 := e10) (by omega) h1.1 (by omega) h1.2 (.inr rfl)
    refine ⟨j5, j6, j7, j8, j9, ?_⟩
    have e' : forL (bName 8) b_law_far_2 (near.map ig) [some (.sh (.lst (m.map D.ints))), some (si n), e2, some (si x), some (T.ints f), some (shi near), some (si many), some (T.ints []), e8, e9, e10] = .nx [some (.sh (.lst (m.map D.ints))), some (si n), e2, some (si x), some (T.ints (levL n m many x f near).1), some (shi near), some (si many), some (T.ints (levL n m many x f near).2), k8, k9, e10] := e
    clear e
    show forL (bName 6) b_law_far_3 (rangeT many (j + 1)) _ = .nx [some (.sh (.lst (m.map D.ints))), some (si n), e2, some (si x), some (T.ints (rndL n m x j (many + 1) (levL n m many x f near).1 (levL n m many x f near).2)), j5, j6, j7, j8, j9, e10]
    have step : b_law_far_3 [some (.sh (.lst (m.map D.ints))), some (si n), e2, some (si x), some (T.ints f), some t5, some (si many), e7, e8, e9, e10] = .nx [some (.sh (.lst (m.map D.ints))), some (si n), e2, some (si x), some (T.ints (levL n m many x f near).1), some (shi (levL n m many x f near).2), some (si many), some (shi (levL n m many x f near).2), k8, k9, e10] := by
      generalize levL n m many x f near = s at e' ⊢
      generalize m.map D.ints = M at e' ⊢
      simp at e'
      rcases ht with rfl | rfl <;> simp [b_law_far_3, e']
    rw [rangeT_succ, Z.forL]
    simp only [bName, List.set_cons_succ, List.set_cons_zero, step, e3]
theorem lfar_ok {n : Nat} (hn : n ≤ 100) {m : List (List Int)} (h : Bin n m) : F_law_far [.sh (.lst (m.map D.ints))] = .ok (.ol ((distM n m).map fun r => T.sh (D.ints r))) [.sh (.lst (m.map D.ints))] := by
  have hml := h.1
  have hi := inR_nat (n := n) (by omega)
  have hi1 : InR 1 := InR.of (by decide) (by decide)
  obtain ⟨ρ', e, j3, j4, j5, j6, j7, j8, j9, rfl⟩ := forN_inv (i := 3) (body := b_law_far_5) (its := rangeT 0 n) (ρ := [some (.sh (.lst (m.map D.ints))), some (si n), some (.ol []), none, none, none, none, none, none, none, none])
    (fun k ρ => ∃ (j3 j4 j5 j6 j7 j8 j9 : Option T), ρ = [some (.sh (.lst (m.map D.ints))), some (si n), some (.ol ((((iota k).map fun x => (wayL n m x).set x.toNat (eAt m x x))).map fun r => T.sh (D.ints r))), j3, j4, j5, j6, j7, j8, j9, none])
    ⟨none, none, none, none, none, none, none, rfl⟩ (by
      rintro k t ρ e ⟨j3, j4, j5, j6, j7, j8, j9, rfl⟩
      obtain ⟨hk, rfl⟩ := rangeT_get e
      have hkn : (k : Int) < n := by omega
      have hio : iota (k + 1) = iota k ++ [(k : Int)] := by unfold iota; rw [List.range_succ, List.map_append]; rfl
      have hlen : ((((iota k).map fun x => (wayL n m x).set x.toNat (eAt m x x))).map fun r => T.sh (D.ints r)).length = k := by simp
      have hnew : ((((iota (k + 1)).map fun x => (wayL n m x).set x.toNat (eAt m x x))).map fun r => T.sh (D.ints r)) = ((((iota k).map fun x => (wayL n m x).set x.toNat (eAt m x x))).map fun r => T.sh (D.ints r)) ++ [T.sh (D.ints ((wayL n m k).set k (eAt m k k)))] := by
        rw [hio, List.map_append, List.map_append]
        rfl
      rw [hnew]
      generalize ((((iota k).map fun x => (wayL n m x).set x.toNat (eAt m x x))).map fun r => T.sh (D.ints r)) = Q at hlen ⊢
      have hwl := way_len (n := n) (m := m) (x := (k : Int))
      have hfs := far_start (x := (k : Int)) (by omega) hkn (List.replicate n (-1))
      obtain ⟨k5, k6, k7, k8, k9, e3⟩ := far3_ok hn h (x := (k : Int)) (n - 1) (many := 1) (f := List.replicate n (-1)) (near := [(k : Int)]) (t5 := T.ints [(k : Int)]) (e2 := some (.ol Q)) (e6 := j6) (e7 := j7) (e8 := j8) (e9 := j9) (e10 := none) (by decide) (by simp) (by omega) (fun v hv => by rw [List.mem_singleton.mp hv]; omega) (.inl rfl)
      rw [show rndL n m k (n - 1) 1 (List.replicate n (-1)) [(k : Int)] = wayL n m k from rfl] at e3
      have b1 := rowAt_at (rows := m) (x := (k : Int)) (by omega) (by rw [h.1]; exact hkn)
      have ha := (bin_at h (x := (k : Int)) (y := (k : Int)) (by omega) hkn (by omega) hkn).1
      have hrl := (h.2 _ (rowAt_mem (rows := m) (x := (k : Int)) (by omega) (by rw [h.1]; exact hkn))).1
      have ha' : atI ((D.ints (rowAt m k) :: []).map T.sh) 0 = some (.sh (D.ints (rowAt m k))) := rfl
      have b1' : atI ((m.map D.ints).map T.sh) (k : Int) = some (.sh (D.ints (rowAt m k))) := by
        rw [atI_ok (by omega) (by simp; omega)] at b1 ⊢
        rw [List.getElem?_map, b1]; rfl
      have ha2 : atI (((rowAt m k).map D.int).map T.sh) (k : Int) = some (.sh (.int (eAt m k k))) := by
        rw [atI_ok (by omega) (by simp; omega)] at ha ⊢
        rw [List.getElem?_map, ha]; rfl
      have ix := ixN_ok (n := (wayL n m k).length) (i := (k : Int)) (by omega) (by rw [hwl]; exact hkn)
      have hrep := lcL_T (slots := [10]) (b := bName 10) (elt := x_law_far_4) (ρ := [some (.sh (.lst (m.map D.ints))), some (si n), some (.ol Q), some (si k), j4, j5, j6, j7, j8, j9, none]) (fun _ => si (-1)) (p := iota n) (fun y _ => ⟨_, [some (.sh (.lst (m.map D.ints))), some (si n), some (.ol Q), some (si k), j4, j5, j6, j7, j8, j9, some (si y)], rfl, by simp [x_law_far_4], rfl⟩) (by rw [iota_len]; unfold lim; omega)
      have hr2 : ((iota n).map fun _ => si (-1)) = List.replicate n (si (-1)) := by rw [List.map_const']; simp
      rw [hr2] at hrep
      obtain ⟨W, hW⟩ : ∃ W, W = wayL n m k := ⟨_, rfl⟩
      obtain ⟨z, hz⟩ : ∃ z, z = eAt m k k := ⟨_, rfl⟩
      rw [← hW] at e3 hwl ix
      rw [← hz] at ha2
      rw [← hW, ← hz]
      have hq : Q.length < lim := by unfold lim; omega
      refine ⟨[some (.sh (.lst (m.map D.ints))), some (si n), some (.ol (Q ++ [T.sh (D.ints (W.set k z))])), some (si k), some (shi (W.set k z)), k5, k6, k7, k8, k9, none], .inl ?_, some (si k), some (shi (W.set k z)), k5, k6, k7, k8, k9, rfl⟩
      have hlo : ((n : Int) - 1).toNat = n - 1 := by omega
      generalize rowAt m k = RR at b1' ha2
      generalize m.map D.ints = M at *
      simp at ha2 ix e3 hrep b1'
      rw [← rangeT_iota] at hrep
      simp [b_law_far_5, hi, hi1, hrep, hlo, -rangeT_iota, e3, b1', ha2, ix, hq])
  rw [rangeT_len] at e
  show F_law_far [.sh (.lst (m.map D.ints))] = .ok (.ol ((((iota n).map fun x => (wayL n m x).set x.toNat (eAt m x x))).map fun r => T.sh (D.ints r))) _
  generalize ((((iota n).map fun x => (wayL n m x).set x.toNat (eAt m x x))).map fun r => T.sh (D.ints r)) = Q at e ⊢
  have hll : (m.map D.ints).length = n := by rw [List.length_map, hml]
  generalize m.map D.ints = M at *
  simp [F_law_far, m_law_far, hll, hi, -rangeT_iota, e]
end
end Cl

set_option maxHeartbeats 2000000
namespace Cl
noncomputable section
open PySem L2 Z
inductive Th where
  | col (l : List Int)
  | gr (m : List (List Int))
  | se (L : List (List Int))
  | tu (p : List Int)
  | ro (r : List Int)
def Th.kn : Th → Str
  | .col _ => "colours"
  | .gr _ => "graph"
  | .se _ => "sets"
  | .tu _ => "turning"
  | .ro _ => "row"
def Th.vd : Th → D
  | .col l => D.ints l
  | .gr m => .lst (m.map D.ints)
  | .se L => .lst (L.map D.ints)
  | .tu p => D.ints p
  | .ro r => D.ints r
def Th.d (t : Th) : D := .tup [.str t.kn, t.vd]
def Th.ok (n : Nat) : Th → Prop
  | .col l => l.length = n
  | .gr m => Bin n m
  | .se L => (∀ r ∈ L, Rw n r) ∧ ascB L = true ∧ L.length ≤ 60
  | .tu p => Turn n p
  | .ro r => (∀ x ∈ r, 0 ≤ x ∧ x < n) ∧ r.length ≤ n
theorem so_colours : PyData.strOk "colours" = true := by decide +kernel
theorem so_graph : PyData.strOk "graph" = true := by decide +kernel
theorem so_sets : PyData.strOk "sets" = true := by decide +kernel
theorem so_turning : PyData.strOk "turning" = true := by decide +kernel
theorem so_row : PyData.strOk "row" = true := by decide +kernel
theorem Th.so (t : Th) : PyData.strOk t.kn = true := by
  cases t
  · exact so_colours
  · exact so_graph
  · exact so_sets
  · exact so_turning
  · exact so_row
def Th.t : Th → T
  | .col l => .ot [.sh (.str "colours"), T.ints l]
  | .gr m => .ot [.sh (.str "graph"), .ol (m.map T.ints)]
  | .se L => .ot [.sh (.str "sets"), .ol (L.map T.ints)]
  | .tu p => .ot [.sh (.str "turning"), T.ints p]
  | .ro r => .ot [.sh (.str "row"), T.ints r]
theorem Th.td (w : Th) : w.t.d = w.d := by
  cases w <;> simp [Th.t, Th.d, Th.kn, Th.vd, ← dl_rows]
theorem Th.v {n : Nat} (hn : n ≤ 100) {w : Th} (h : w.ok n) : Vk 3 w.d := by
  have k1 : Vk 2 (.str w.kn) := (Vk.str w.so).mono (by omega)
  have mats : ∀ m : List (List Int), m.length ≤ 100000 → (∀ r ∈ m, r.length ≤ 100000) → Vk 2 (.lst (m.map D.ints)) := fun m hm hr => Vk.lst (fun d hd => by
    obtain ⟨r, hr', rfl⟩ := List.mem_map.mp hd
    exact Vk.ints r (hr r hr')) (by simpa using hm)
  have k2 : Vk 2 w.vd := by
    cases w with
    | col l => have h : l.length = n := h; exact (Vk.ints l (by omega)).mono (by omega)
    | gr m => have h : Bin n m := h; exact mats m (by rw [h.1]; omega) fun r hr => by rw [(h.2 r hr).1]; omega
    | se L => exact mats L (by have := h.2.2; omega) fun r hr => by have := (h.1 r hr).2.2; omega
    | tu p => have h : Turn n p := h; exact (Vk.ints p (by rw [h.len]; omega)).mono (by omega)
    | ro r => exact (Vk.ints r (by have := h.2; omega)).mono (by omega)
  exact Vk.tup (k := 2) (by simp [k1, k2]) (by simp)
def knL : Nat → Str
  | 0 => "colours"
  | 1 => "graph"
  | 2 => "sets"
  | 3 => "turning"
  | _ => "row"
theorem thing_draw {t : T} (ht : Pool t) {n : Nat} (hn : n ≤ 100) {k : Nat} (hk : k < 5) : ∃ (t' u : T) (w : Th), Pool t' ∧ w.ok n ∧ w.kn = knL k ∧ (∃ ts, u = .ot ts) ∧ u.d = w.d ∧ F_law_thing [t, si n, si k] = .ok u [t', si n, si k] := by
  have hb := inR_nat (n := n) (by omega)
  match k, hk with
  | 0, _ =>
    obtain ⟨t1, x, g1, x0, x1, _, e1⟩ := pick_ok (m := 4) ht (by decide)
    obtain ⟨m, m1, m2, hat⟩ := mostL x0 x1
    obtain ⟨t2, l, g2, hl, hll, e2⟩ := draw_lc (fun z : Int => 0 ≤ z ∧ z < 24) ig (i := 4) (m := n) (elt := x_law_thing_1) (fun t => [some t, some (si n), some (si 0), some (si m), none]) (fun _ => rfl) (fun t k hk ht => by
      obtain ⟨t5, z, g5, z0, z1, _, e5⟩ := pick_ok (m := (m : Int)) ht (by omega)
      refine ⟨t5, z, g5, ⟨z0, by omega⟩, ?_⟩
      simp [x_law_thing_1, e5]) (by omega) g1
    refine ⟨t2, .ot [.sh (.str "colours"), T.ints l], .col l, g2, hll, rfl, ⟨_, rfl⟩, (Th.td (.col l)), ?_⟩
    simp [F_law_thing, m_law_thing, e1, hat, hb, e2]
  | 1, _ =>
    obtain ⟨t1, rows, g1, hr, e1⟩ := rows_ok ht hn
    refine ⟨t1, .ot [.sh (.str "graph"), .ol (rows.map T.ints)], .gr rows, g1, hr, rfl, ⟨_, rfl⟩, (Th.td (.gr rows)), ?_⟩
    simp [F_law_thing, m_law_thing, e1]
  | 2, _ =>
    obtain ⟨t1, L, g1, hr, ha, hl, e1⟩ := sets_draw ht hn
    refine ⟨t1, .ot [.sh (.str "sets"), .ol (L.map fun r => T.sh (D.ints r))], .se L, g1, ⟨hr, ha, hl⟩, rfl, ⟨_, rfl⟩, ?_, ?_⟩
    · have hd : dl (L.map fun r => T.sh (D.ints r)) = L.map D.ints := by rw [dl_eq, List.map_map]; rfl
      show D.tup [_, .lst (dl (L.map fun r => T.sh (D.ints r)))] = _
      rw [hd]; rfl
    · simp at e1
      simp [F_law_thing, m_law_thing, e1]
  | 3, _ =>
    obtain ⟨t1, p, g1, hp, e1⟩ := turning_ok ht (n := n) (by omega)
    refine ⟨t1, .ot [.sh (.str "turning"), T.ints p], .tu p, g1, hp, rfl, ⟨_, rfl⟩, (Th.td (.tu p)), ?_⟩
    simp at e1
    simp [F_law_thing, m_law_thing, e1]
  | 4, _ =>
    obtain ⟨t1, p, j, g1, hp, hj, e1⟩ := some_ok ht hn
    refine ⟨t1, .ot [.sh (.str "row"), T.ints (p.take j)], .ro (p.take j), g1, ⟨fun x hx => hp.mem.mp (List.mem_of_mem_take hx), by rw [List.length_take, hp.len]; omega⟩, rfl, ⟨_, rfl⟩, (Th.td (.ro (p.take j))), ?_⟩
    simp at e1
    simp [F_law_thing, m_law_thing, e1]
theorem sortO_ints (l : List Int) : sortO [T.ints l] = some (T.ints (isrt l)) := by
  have e : srtT (l.map ig) = (isrt l).map ig := by
    unfold srtT isrt
    have := PySem.W.dataLe_int (β := Int) (fun b => b)
    exact (List.map_mergeSort (s := PySem.W.dataLe false fun t : T => t.d.py) fun a _ b _ => (congrFun (congrFun this a) b).symm).symm
  show (if SrtOk (dl (l.map ig)) then some (T.ol (srtT (l.map ig))) else none) = _
  rw [dl_ig, if_pos (srtOk_ints l), e]
theorem sortO_rows (l : List (List Int)) : sortO [.ol (l.map T.ints)] = some (.ol ((rsrt l).map T.ints)) := by
  have hp : ∀ l : List Int, pyl (l.map D.int) = l.map PyData.int := fun l => by
    rw [pyl_map, List.map_map]; rfl
  have e : srtT (l.map T.ints) = (rsrt l).map T.ints := by
    unfold srtT rsrt
    refine (List.map_mergeSort (f := T.ints) (s := PySem.W.dataLe false fun t : T => t.d.py) fun a _ b _ => ?_).symm
    have h2 := congrFun (congrFun (PySem.W.dataLe_rows (β := List Int) (fun b => b)) a) b
    rw [← h2]
    have h3 : ∀ r : List Int, (T.ints r).d.py = .list (r.map PyData.int) := fun r => by
      show (D.lst (dl (r.map ig))).py = _
      rw [dl_ig]
      show PyData.list (pyl (r.map D.int)) = _
      rw [hp]
    show (!PySem.W.dataLt (.list (b.map .int)) (.list (a.map .int))) = !PySem.W.dataLt ((T.ints b).d.py) ((T.ints a).d.py)
    rw [h3, h3]
  show (if SrtOk (dl (l.map T.ints)) then some (T.ol (srtT (l.map T.ints))) else none) = _
  rw [dl_rows, if_pos (srtOk_rows l), e]
end
end Cl

set_option maxHeartbeats 2000000
namespace Cl
noncomputable section
open PySem L2 Z
def x_arcs_of_1 : EM := (eIf (eT (pB (pOp oEq (pV 4) (pV 3)))) (eP (pC (.int 1))) (eP (pC (.int 0))))
def x_arcs_of_2 : EM := (eFz (eLC [4] (iR1 (eCons (eP (pCB (o1 oLen) (aCons (pV 2) aNil))) eNil)) (bName 4) tAll x_arcs_of_1))
def m_arcs_of : SM := (mSeq (mUnp (bTup [1, 2]) (eV 0)) (mSeq (mIf (eT (pB (pOp oEq (pV 1) (pC (.str "graph"))))) (mRet (eM 2)) mNil) (mRet (eLC [3] (iE (eV 2)) (bName 3) tAll x_arcs_of_2))))
def F_arcs_of : FM := mFun 1 5 m_arcs_of
def m_view_of : SM := (mSeq (mIf (eT (pB (pOp (oInB false) (pOp oIx (pV 0) (pC (.int 0))) (pTup (aCons (pC (.str "graph")) (aCons (pC (.str "turning")) aNil)))))) (mRet (eTup (eCons (eP (pC (.str "graph"))) (eCons (eCall 1 F_distances_of (eCons (eCall 1 F_arcs_of (eCons (eV 0) eNil)) eNil)) eNil)))) mNil) (mRet (eM 0)))
def F_view_of : FM := mFun 1 1 m_view_of
theorem atI_last' {α : Type} (l : List α) (a : α) : atI (l ++ [a]) (-1) = some a := by
  unfold atI ixN
  rw [if_neg (by omega), if_pos (by simp; omega)]
  have h : (-1 + (((l ++ [a]).length : Nat) : Int)).toNat = l.length := by simp; omega
  show (l ++ [a])[(-1 + (((l ++ [a]).length : Nat) : Int)).toNat]? = some a
  rw [h]
  simp
theorem in_ints (x : Int) (l : List Int) : oInB false (.int x) (D.ints l) = some (.bl (decide (x ∈ l))) := by
  have h1 : (l.map D.int).all flatD = true := by rw [List.all_map, List.all_eq_true]; intro y _; rfl
  have h2 : ((l.map D.int).any fun y => eqD y (.int x)) = decide (x ∈ l) := by
    rw [List.any_map, Bool.eq_iff_iff, List.any_eq_true, decide_eq_true_iff]
    constructor
    · rintro ⟨y, hy, e⟩
      have : y = x := by simpa [eqD] using e
      rw [← this]; exact hy
    · exact fun h => ⟨x, h, by simp [eqD]⟩
  show (if flatD (.int x) = true ∧ (l.map D.int).all flatD = true then some (D.bl (if false then _ else (l.map D.int).any fun y => eqD y (.int x))) else none) = _
  rw [if_pos ⟨rfl, h1⟩, h2]
  rfl
theorem in_two {s a b : Str} (q : D) (hq : q = .lst [.str a, .str b] ∨ q = .tup [.str a, .str b]) : oInB false (.str s) q = some (.bl (decide (s = a) || decide (s = b))) := by
  have h : ∀ a b : Str, (a == b) = decide (b = a) := fun a b => by
    by_cases c : b = a
    · subst c; simp
    · have : ¬ a = b := fun q => c q.symm
      simp [c, this]
  rcases hq with rfl | rfl <;> (simp [oInB, D.seq, flatD, eqD]; rw [h, h])
theorem c1 : ¬ ("colours" : Str) = "sets" := by decide
theorem c2 : ¬ ("colours" : Str) = "row" := by decide
theorem c3 : ¬ ("graph" : Str) = "sets" := by decide
theorem c4 : ¬ ("graph" : Str) = "row" := by decide
theorem c5 : ¬ ("turning" : Str) = "sets" := by decide
theorem c6 : ¬ ("turning" : Str) = "row" := by decide
theorem c7 : ¬ ("colours" : Str) = "graph" := by decide
theorem c8 : ¬ ("colours" : Str) = "turning" := by decide
theorem c9 : ¬ ("sets" : Str) = "graph" := by decide
theorem c10 : ¬ ("sets" : Str) = "turning" := by decide
theorem c11 : ¬ ("row" : Str) = "graph" := by decide
theorem c12 : ¬ ("row" : Str) = "turning" := by decide
def isSR : Th → Bool
  | .se _ => true
  | .ro _ => true
  | _ => false
def isGT : Th → Bool
  | .gr _ => true
  | .tu _ => true
  | _ => false
theorem sr (w : Th) : (decide (w.kn = "sets") || decide (w.kn = "row")) = isSR w := by cases w <;> simp [Th.kn, isSR, c1, c2, c3, c4, c5, c6]
theorem gt_ (w : Th) : (decide (w.kn = "graph") || decide (w.kn = "turning")) = isGT w := by cases w <;> simp [Th.kn, isGT, c7, c8, c9, c10, c11, c12]
def arcM (p : List Int) : List (List Int) := p.map fun one => (iota p.length).map fun y => if y = one then 1 else 0
theorem arc_bin {n : Nat} {p : List Int} (h : p.length = n) : Bin n (arcM p) := by
  refine ⟨by simp [arcM, h], fun r hr => ?_⟩
  obtain ⟨one, _, rfl⟩ := List.mem_map.mp hr
  refine ⟨by simp [h], fun x hx => ?_⟩
  obtain ⟨y, _, rfl⟩ := List.mem_map.mp hx
  split <;> omega
def Th.vw (n : Nat) : Th → Th
  | .gr m => .gr (distM n m)
  | .tu p => .gr (distM n (arcM p))
  | w => w
theorem dl_shr (L : List (List Int)) : dl (L.map fun r => T.sh (D.ints r)) = L.map D.ints := by rw [dl_eq, List.map_map]; rfl
theorem arcs_gr (m : List (List Int)) : F_arcs_of [.sh (Th.gr m).d] = .ok (.sh (.lst (m.map D.ints))) [.sh (Th.gr m).d] := by
  have q1 := eq_ss so_graph so_graph
  simp [F_arcs_of, m_arcs_of, Th.d, Th.kn, Th.vd, q1]
theorem arcs_tu {n : Nat} (hn : n ≤ 100) {p : List Int} (hp : p.length = n) : F_arcs_of [.sh (Th.tu p).d] = .ok (.ol ((arcM p).map fun r => T.sh (D.ints r))) [.sh (Th.tu p).d] := by
  have q1 := eq_ss so_turning so_graph
  rw [decide_eq_false (show ¬ ("turning" : Str) = "graph" by decide)] at q1
  have hz : (iota p.length).length ≤ lim := by rw [iota_len]; unfold lim; omega
  have hi := inR_nat (n := p.length) (by omega)
  have hc := lcL_T (slots := [3]) (b := bName 3) (elt := x_arcs_of_2) (ρ := [some (.sh (Th.tu p).d), some (.sh (.str "turning")), some (shi p), none, none]) (fun one => T.sh (D.ints ((iota p.length).map fun y => if y = one then 1 else 0))) (p := p) (fun one hone => by
    refine ⟨[some (.sh (Th.tu p).d), some (.sh (.str "turning")), some (shi p), some (si one), none], [some (.sh (Th.tu p).d), some (.sh (.str "turning")), some (shi p), some (si one), none], rfl, ?_, rfl⟩
    have := lcL_ints (slots := [4]) (b := bName 4) (elt := x_arcs_of_1) (ρ := [some (.sh (Th.tu p).d), some (.sh (.str "turning")), some (shi p), some (si one), none]) (fun y => if y = one then 1 else 0) (p := iota p.length) (fun y hy => by
      refine ⟨[some (.sh (Th.tu p).d), some (.sh (.str "turning")), some (shi p), some (si one), some (si y)], [some (.sh (Th.tu p).d), some (.sh (.str "turning")), some (shi p), some (si one), some (si y)], rfl, ?_, rfl⟩
      by_cases c : y = one <;> simp [x_arcs_of_1, c]) hz
    generalize ((iota p.length).map fun y => if y = one then (1 : Int) else 0) = R at this ⊢
    simp at this
    simp [x_arcs_of_2, hi, this]) (by unfold lim; omega)
  have e : (p.map fun one => T.sh (D.ints ((iota p.length).map fun y => if y = one then 1 else 0))) = (arcM p).map fun r => T.sh (D.ints r) := by unfold arcM; rw [List.map_map]; rfl
  rw [e] at hc
  generalize ((arcM p).map fun r => T.sh (D.ints r)) = A at hc ⊢
  simp [Th.d, Th.kn, Th.vd] at hc
  simp [F_arcs_of, m_arcs_of, Th.d, Th.kn, Th.vd, q1, hc]
theorem view_ok {n : Nat} (hn : n ≤ 100) {w : Th} (h : w.ok n) : ∃ u, u.d = (w.vw n).d ∧ F_view_of [.sh w.d] = .ok u [.sh w.d] := by
  have hin := in_two (s := w.kn) (a := "graph") (b := "turning") (.tup [.str "graph", .str "turning"]) (.inr rfl)
  rw [gt_] at hin
  have hix : oIx w.d (.int 0) = some (.str w.kn) := rfl
  cases w with
  | col l =>
    refine ⟨.sh (Th.col l).d, rfl, ?_⟩
    simp only [Th.kn, isGT] at hin hix
    generalize (Th.col l).d = y at hix ⊢
    try simp at hin
    simp [F_view_of, m_view_of, hix, hin]
  | se l =>
    refine ⟨.sh (Th.se l).d, rfl, ?_⟩
    simp only [Th.kn, isGT] at hin hix
    generalize (Th.se l).d = y at hix ⊢
    try simp at hin
    simp [F_view_of, m_view_of, hix, hin]
  | ro l =>
    refine ⟨.sh (Th.ro l).d, rfl, ?_⟩
    simp only [Th.kn, isGT] at hin hix
    generalize (Th.ro l).d = y at hix ⊢
    try simp at hin
    simp [F_view_of, m_view_of, hix, hin]
  | gr m =>
    have h1 := arcs_gr m
    have h2 := dist_ok hn (show Bin n m from h)
    refine ⟨.ot [.sh (.str "graph"), .ol ((distM n m).map fun r => T.sh (D.ints r))], ?_, ?_⟩
    · show D.tup [.str "graph", .lst (dl _)] = D.tup [.str "graph", .lst _]
      rw [dl_shr]
    · generalize ((distM n m).map fun r => T.sh (D.ints r)) = Q at h2 ⊢
      generalize m.map D.ints = M at *
      simp only [Th.kn, isGT] at hin hix
      try simp at hin
      generalize (Th.gr m).d = y at *
      simp [F_view_of, m_view_of, hix, hin, h1, h2]
  | tu p =>
    have h : Turn n p := h
    have h1 := arcs_tu hn h.len
    have h2 := dist_ok hn (arc_bin h.len)
    have h3 := dl_shr (arcM p)
    refine ⟨.ot [.sh (.str "graph"), .ol ((distM n (arcM p)).map fun r => T.sh (D.ints r))], ?_, ?_⟩
    · show D.tup [.str "graph", .lst (dl _)] = D.tup [.str "graph", .lst _]
      rw [dl_shr]
    · generalize ((distM n (arcM p)).map fun r => T.sh (D.ints r)) = Q at h2 ⊢
      generalize ((arcM p).map fun r => T.sh (D.ints r)) = A at *
      generalize (arcM p).map D.ints = M at *
      simp only [Th.kn, isGT] at hin hix
      try simp at hin
      generalize (Th.tu p).d = y at *
      simp [F_view_of, m_view_of, hix, hin, h1, h2, h3]
def entM (M : List (List Int)) (x y : Int) : Int := (rowAt M x).getD y.toNat 0
def eqs (r : List Int) (z : Int) : List Int := ((List.range r.length).filter fun k => r.getD k 0 == z).map fun k : Nat => (k : Int)
def VOk (n : Nat) : Th → Prop
  | .col l => l.length = n
  | .gr M => M.length = n ∧ ∀ r ∈ M, r.length = n
  | .se L => L.length ≤ 60
  | .tu _ => False
  | .ro r => r.length ≤ n
theorem dist_mat (n : Nat) (m : List (List Int)) : (distM n m).length = n ∧ ∀ r ∈ distM n m, r.length = n := ⟨by simp [distM], fun r hr => by
  obtain ⟨x, _, rfl⟩ := List.mem_map.mp hr
  rw [List.length_set, way_len]⟩
theorem vw_ok {n : Nat} {w : Th} (h : w.ok n) : VOk n (w.vw n) := by
  cases w with
  | col l => exact h
  | gr m => exact dist_mat n m
  | se L => exact h.2.2
  | tu p => exact dist_mat n (arcM p)
  | ro r => exact h.2
theorem mat_at {n : Nat} {M : List (List Int)} (h : M.length = n ∧ ∀ r ∈ M, r.length = n) {x y : Int} (x0 : 0 ≤ x ∧ x < n) (y0 : 0 ≤ y ∧ y < n) : ∃ r, atI ((M.map D.ints).map T.sh) x = some (.sh (D.ints r)) ∧ atI ((r.map D.int).map T.sh) y = some (.sh (.int (entM M x y))) ∧ atI (M.map D.ints) x = some (D.ints r) ∧ atI (r.map D.int) y = some (.int (entM M x y)) := by
  have h1 := rowAt_at (rows := M) x0.1 (by rw [h.1]; exact x0.2)
  have h2 := h.2 _ (rowAt_mem (rows := M) x0.1 (by rw [h.1]; exact x0.2))
  have h3 := atI_D (rowAt M x) y0.1 (by rw [h2]; exact y0.2)
  refine ⟨rowAt M x, ?_, ?_, h1, h3⟩
  · rw [atI_ok x0.1 (by simp; rw [h.1]; exact x0.2)] at h1 ⊢
    rw [List.getElem?_map, h1]; rfl
  · rw [atI_ok y0.1 (by simp; rw [h2]; exact y0.2)] at h3 ⊢
    rw [List.getElem?_map, h3]; rfl
end
end Cl

set_option maxHeartbeats 2000000
namespace Cl
noncomputable section
open PySem L2 Z
def x_law_view_1 : EM := (eP (pCB (o1 oInt) (aCons (pOp oEq (pV 4) (pOp oIx (pV 2) (pV 3))) aNil)))
def x_law_view_2 : EM := (eFz (eLC [4] (iR1 (eCons (eP (pCB (o1 oLen) (aCons (pV 2) aNil))) eNil)) (bName 4) tAll x_law_view_1))
def m_law_view : SM := (mSeq (mUnp (bTup [1, 2]) (eV 0)) (mSeq (mIf (eT (pB (pOp oEq (pV 1) (pC (.str "graph"))))) (mRet (eTup (eCons (eP (pC (.str "graph"))) (eCons (eCall 1 F_law_far (eCons (eV 2) eNil)) eNil)))) mNil) (mSeq (mIf (eT (pB (pOp oEq (pV 1) (pC (.str "turning"))))) (mRet (eTup (eCons (eP (pC (.str "graph"))) (eCons (eCall 1 F_law_far (eCons (eLC [3] (iR1 (eCons (eP (pCB (o1 oLen) (aCons (pV 2) aNil))) eNil)) (bName 3) tAll x_law_view_2) eNil)) eNil)))) mNil) (mRet (eM 0)))))
def F_law_view : FM := mFun 1 5 m_law_view
theorem iota_map {α : Type} {n : Nat} {p : List Int} (h : p.length = n) (f : Int → α) : ((iota n).map fun x => f (p.getD x.toNat 0)) = p.map f := by
  apply List.ext_getElem
  · simp [h]
  · intro k h1 h2
    simp at h1 h2
    rw [List.getElem_map, List.getElem_map]
    have e : (iota n)[k]'(by simpa using h1) = (k : Int) := by rw [← getD_at, iota_getD n k h1]
    rw [e, Int.toNat_natCast, getD_at h2]
theorem lview_ok {n : Nat} (hn : n ≤ 100) {w : Th} (h : w.ok n) : ∃ u, u.d = (w.vw n).d ∧ F_law_view [.sh w.d] = .ok u [.sh w.d] := by
  cases w with
  | col l =>
    have q1 := eq_ss so_colours so_graph
    have q2 := eq_ss so_colours so_turning
    rw [decide_eq_false c7] at q1
    rw [decide_eq_false c8] at q2
    exact ⟨.sh (Th.col l).d, rfl, by simp [F_law_view, m_law_view, Th.d, Th.kn, Th.vd, q1, q2]⟩
  | se l =>
    have q1 := eq_ss so_sets so_graph
    have q2 := eq_ss so_sets so_turning
    rw [decide_eq_false c9] at q1
    rw [decide_eq_false c10] at q2
    exact ⟨.sh (Th.se l).d, rfl, by simp [F_law_view, m_law_view, Th.d, Th.kn, Th.vd, q1, q2]⟩
  | ro l =>
    have q1 := eq_ss so_row so_graph
    have q2 := eq_ss so_row so_turning
    rw [decide_eq_false c11] at q1
    rw [decide_eq_false c12] at q2
    exact ⟨.sh (Th.ro l).d, rfl, by simp [F_law_view, m_law_view, Th.d, Th.kn, Th.vd, q1, q2]⟩
  | gr m =>
    have q1 := eq_ss so_graph so_graph
    have h2 := lfar_ok hn (show Bin n m from h)
    refine ⟨.ot [.sh (.str "graph"), .ol ((distM n m).map fun r => T.sh (D.ints r))], ?_, ?_⟩
    · show D.tup [.str "graph", .lst (dl _)] = D.tup [.str "graph", .lst _]
      rw [dl_shr]
    · generalize ((distM n m).map fun r => T.sh (D.ints r)) = Q at h2 ⊢
      simp only [Th.d, Th.kn, Th.vd]
      generalize m.map D.ints = M at *
      simp [F_law_view, m_law_view, q1, h2]
  | tu p =>
    have h : Turn n p := h
    have hpl := h.len
    have q1 := eq_ss so_turning so_graph
    have q2 := eq_ss so_turning so_turning
    rw [decide_eq_false (show ¬ ("turning" : Str) = "graph" by decide)] at q1
    have h2 := lfar_ok hn (arc_bin h.len)
    have h3 := dl_shr (arcM p)
    have hi := inR_nat (n := p.length) (by omega)
    have hz : (iota p.length).length ≤ lim := by rw [iota_len]; unfold lim; omega
    have hc := lcL_T (slots := [3]) (b := bName 3) (elt := x_law_view_2) (ρ := [some (.sh (Th.tu p).d), some (.sh (.str "turning")), some (shi p), none, none]) (fun x => T.sh (D.ints ((iota p.length).map fun y => if y = p.getD x.toNat 0 then 1 else 0))) (p := iota p.length) (fun x hx => by
      obtain ⟨x0, x1⟩ := mem_iota.mp hx
      have ha := atI_D p x0 x1
      refine ⟨[some (.sh (Th.tu p).d), some (.sh (.str "turning")), some (shi p), some (si x), none], [some (.sh (Th.tu p).d), some (.sh (.str "turning")), some (shi p), some (si x), none], rfl, ?_, rfl⟩
      generalize p.getD x.toNat 0 = one at ha ⊢
      have := lcL_ints (slots := [4]) (b := bName 4) (elt := x_law_view_1) (ρ := [some (.sh (Th.tu p).d), some (.sh (.str "turning")), some (shi p), some (si x), none]) (fun y => if y = one then 1 else 0) (p := iota p.length) (fun y hy => by
        refine ⟨[some (.sh (Th.tu p).d), some (.sh (.str "turning")), some (shi p), some (si x), some (si y)], [some (.sh (Th.tu p).d), some (.sh (.str "turning")), some (shi p), some (si x), some (si y)], rfl, ?_, rfl⟩
        by_cases c : y = one
        · subst c
          simp [x_law_view_1, ha]
        · simp [x_law_view_1, ha, c]) hz
      generalize ((iota p.length).map fun y => if y = one then (1 : Int) else 0) = R at this ⊢
      simp at this
      simp [x_law_view_2, hi, this]) hz
    have e : ((iota p.length).map fun x => T.sh (D.ints ((iota p.length).map fun y => if y = p.getD x.toNat 0 then 1 else 0))) = (arcM p).map fun r => T.sh (D.ints r) := by
      unfold arcM
      rw [List.map_map, ← iota_map (rfl : p.length = p.length)]
      rfl
    rw [e] at hc
    refine ⟨.ot [.sh (.str "graph"), .ol ((distM n (arcM p)).map fun r => T.sh (D.ints r))], ?_, ?_⟩
    · show D.tup [.str "graph", .lst (dl _)] = D.tup [.str "graph", .lst _]
      rw [dl_shr]
    · generalize ((distM n (arcM p)).map fun r => T.sh (D.ints r)) = Q at h2 ⊢
      generalize ((arcM p).map fun r => T.sh (D.ints r)) = A at *
      generalize (arcM p).map D.ints = M at *
      simp [Th.d, Th.kn, Th.vd] at hc
      simp [F_law_view, m_law_view, Th.d, Th.kn, Th.vd, q1, q2, hi, hc, h2, h3]
end
end Cl

set_option maxHeartbeats 2000000
namespace Cl
noncomputable section
open PySem L2 Z
def at_ (p : List Int) (k : Nat) : Nat := (p.getD k 0).toNat
theorem Row.at_lt {n : Nat} {p : List Int} (h : Row n p) {k : Nat} (hk : k < n) : at_ p k < n := by
  have := h.at hk
  unfold at_; omega
theorem Row.at_eq {n : Nat} {p : List Int} (h : Row n p) {k : Nat} (hk : k < n) : p.getD k 0 = (at_ p k : Int) := by
  have := h.at hk
  unfold at_; omega
theorem row_ext {n : Nat} {p q : List Int} (hp : Row n p) (hq : Row n q) (h : ∀ k, k < n → at_ p k = at_ q k) : p = q := by
  apply List.ext_getElem
  · rw [hp.1, hq.1]
  · intro k h1 h2
    have hk : k < n := by rw [← hp.1]; exact h1
    rw [← getD_at h1, ← getD_at h2, hp.at_eq hk, hq.at_eq hk, h k hk]
theorem at_then {n : Nat} {p q : List Int} (hp : Row n p) {k : Nat} (hk : k < n) : at_ (thenL p q) k = at_ q (at_ p k) := by
  unfold at_ thenL
  rw [show p.map (fun x => q.getD x.toNat 0) = via p q from rfl, via_get (by rw [hp.1]; exact hk)]
theorem at_iota {n k : Nat} (hk : k < n) : at_ (iota n) k = k := by
  unfold at_
  rw [iota_getD n k hk]
  rfl
theorem then_assoc {n : Nat} {p q r : List Int} (hp : Row n p) (hq : Row n q) (hr : Row n r) : thenL (thenL p q) r = thenL p (thenL q r) :=
  row_ext (then_row (then_row hp hq) hr) (then_row hp (then_row hq hr)) fun k hk => by
    rw [at_then (then_row hp hq) hk, at_then hp hk, at_then hp hk, at_then hq (hp.at_lt hk)]
theorem then_iota {n : Nat} {p : List Int} (hp : Row n p) : thenL p (iota n) = p :=
  row_ext (then_row hp (row_iota n)) hp fun k hk => by rw [at_then hp hk, at_iota (hp.at_lt hk)]
theorem iota_then {n : Nat} {p : List Int} (hp : Row n p) : thenL (iota n) p = p :=
  row_ext (then_row (row_iota n) hp) hp fun k hk => by rw [at_then (row_iota n) hk, at_iota hk]
theorem turn_iota (n : Nat) : Turn n (iota n) := List.Perm.refl _
theorem at_inj {n : Nat} {p : List Int} (hp : Turn n p) {i j : Nat} (hi : i < n) (hj : j < n) (e : at_ p i = at_ p j) : i = j := by
  have e2 : p.getD i 0 = p.getD j 0 := by rw [hp.row.at_eq hi, hp.row.at_eq hj, e]
  have hl := hp.len
  rw [getD_at (by omega), getD_at (by omega)] at e2
  have hn := List.pairwise_iff_getElem.mp hp.nodup
  rcases Nat.lt_trichotomy i j with q | q | q
  · exact absurd e2 (hn i j (by omega) (by omega) q)
  · exact q
  · exact absurd e2.symm (hn j i (by omega) (by omega) q)
theorem putN_get {n : Nat} {f g : Nat → Int} (hf : ∀ k, k < n → 0 ≤ f k ∧ f k < n) (inj : ∀ i j, i < n → j < n → f i = f j → i = j) : ∀ (m k : Nat), m ≤ n → k < m → (putN n f g m).getD (f k).toNat 0 = g k
  | 0, _, _, h => by omega
  | m + 1, k, hm, hk => by
    have hfm := hf m (by omega)
    have hfk := hf k (by omega)
    show ((putN n f g m).set (f m).toNat (g m)).getD (f k).toNat 0 = g k
    rw [getD_set (by simp; omega)]
    by_cases q : m = k
    · subst q; rw [if_pos rfl]
    · rw [if_neg (fun e => q (inj m k (by omega) (by omega) (by omega)))]
      exact putN_get hf inj m k (by omega) (by omega)
theorem turn_then {n : Nat} {p q : List Int} (hp : Turn n p) (hq : Turn n q) : Turn n (thenL p q) := by
  have h1 : via (iota n) q = q := by
    have hl := hq.len
    apply List.ext_getElem
    · simp [hl]
    · intro j h1 h2
      have e1 := getD_at (l := via (iota n) q) (i := j) h1
      rw [← e1, via_get (by simpa using h1), iota_getD n j (by simpa using h1)]
      rw [Int.toNat_natCast]
      exact getD_at h2
  have h2 : (via p q).Perm (via (iota n) q) := List.Perm.map _ hp
  rw [h1] at h2
  exact h2.trans hq
theorem at_bk {n : Nat} {p : List Int} (hp : Turn n p) {k : Nat} (hk : k < n) : at_ (bkL n p) (at_ p k) = k := by
  have := putN_get (n := n) (f := fun k => p.getD k 0) (g := fun k => (k : Int)) (fun k hk => hp.at hk) (fun i j hi hj e => at_inj hp hi hj (by unfold at_; rw [e])) n k (Nat.le_refl n) hk
  show ((bkL n p).getD (p.getD k 0).toNat 0).toNat = k
  unfold bkL
  rw [this]; rfl
theorem then_bk {n : Nat} {p : List Int} (hp : Turn n p) : thenL p (bkL n p) = iota n :=
  row_ext (then_row hp.row bk_row) (row_iota n) fun k hk => by rw [at_then hp.row hk, at_bk hp hk, at_iota hk]
theorem turn_bk {n : Nat} {p : List Int} (hp : Turn n p) : Turn n (bkL n p) :=
  perm_of_via hp (bk_row (p := p)).1 (show via p (bkL n p) = iota n from then_bk hp) hp.symm
theorem bk_then {n : Nat} {p : List Int} (hp : Turn n p) : thenL (bkL n p) p = iota n := by
  have hb := turn_bk hp
  have h1 := then_bk hb
  have h2 := congrArg (thenL p) h1
  rw [then_iota hp.row, ← then_assoc hp.row hb.row (turn_bk hb).row, then_bk hp, iota_then (turn_bk hb).row] at h2
  rw [h2] at h1
  exact h1
theorem bk_uniq {n : Nat} {p q : List Int} (hp : Turn n p) (hq : Row n q) (h : thenL p q = iota n) : q = bkL n p := by
  have h2 := congrArg (thenL (bkL n p)) h
  rw [← then_assoc (turn_bk hp).row hp.row hq, bk_then hp, iota_then hq, then_iota (turn_bk hp).row] at h2
  exact h2
theorem bk_bk {n : Nat} {p : List Int} (hp : Turn n p) : bkL n (bkL n p) = p := (bk_uniq (turn_bk hp) hp.row (bk_then hp)).symm
theorem bk_thenL {n : Nat} {p q : List Int} (hp : Turn n p) (hq : Turn n q) : bkL n (thenL p q) = thenL (bkL n q) (bkL n p) := by
  refine (bk_uniq (turn_then hp hq) (turn_then (turn_bk hq) (turn_bk hp)).row ?_).symm
  rw [then_assoc hp.row hq.row (turn_then (turn_bk hq) (turn_bk hp)).row, ← then_assoc hq.row (turn_bk hq).row (turn_bk hp).row, then_bk hq, iota_then (turn_bk hp).row, then_bk hp]
theorem bk_iota (n : Nat) : bkL n (iota n) = iota n := (bk_uniq (turn_iota n) (turn_iota n).row (then_iota (turn_iota n).row)).symm
end
end Cl

set_option maxHeartbeats 2000000
namespace Cl
noncomputable section
open PySem L2 Z
/-! ### what a level does -/
theorem fold_sem {n : Nat} {many x : Int} (hm : 0 ≤ many) : ∀ {l : List Int} {s : WS}, s.1.length = n → (∀ y ∈ l, 0 ≤ y ∧ y < n) → (l.foldl (stp many x) s).1.length = n ∧ ∀ v : Int, 0 ≤ v → v < n →
    ((l.foldl (stp many x) s).1.getD v.toNat 0 = if s.1.getD v.toNat 0 < 0 ∧ ¬ v = x ∧ v ∈ l then many else s.1.getD v.toNat 0) ∧ (v ∈ (l.foldl (stp many x) s).2 ↔ v ∈ s.2 ∨ (s.1.getD v.toNat 0 < 0 ∧ ¬ v = x ∧ v ∈ l))
  | [], s, hl, _ => ⟨hl, fun v _ _ => ⟨by simp, by simp⟩⟩
  | y :: l, s, hl, hr => by
    have hy := hr y List.mem_cons_self
    have hl2 : (stp many x s y).1.length = n := by unfold stp; split <;> simp [hl]
    obtain ⟨h1, h2⟩ := fold_sem (x := x) hm (l := l) (s := stp many x s y) hl2 fun z hz => hr z (List.mem_cons_of_mem _ hz)
    refine ⟨h1, fun v v0 v1 => ?_⟩
    obtain ⟨a1, a2⟩ := h2 v v0 v1
    rw [List.foldl_cons]
    by_cases c : s.1.getD y.toNat 0 < 0 ∧ ¬ y = x
    · have es : stp many x s y = (s.1.set y.toNat many, s.2 ++ [y]) := if_pos c
      rw [es] at a1 a2 ⊢
      have hset : (s.1.set y.toNat many).getD v.toNat 0 = if y = v then many else s.1.getD v.toNat 0 := by
        rw [getD_set (by omega)]
        by_cases e : y = v
        · subst e; simp
        · have : ¬ y.toNat = v.toNat := by omega
          rw [if_neg this, if_neg e]
      simp only at a1 a2
      rw [hset] at a1 a2
      by_cases e : y = v
      · subst e
        rw [if_pos rfl] at a1 a2
        have hn : ¬ many < 0 := by omega
        refine ⟨?_, ?_⟩
        · rw [a1, if_neg (fun q => hn q.1), if_pos ⟨c.1, c.2, List.mem_cons_self⟩]
        · rw [a2]
          constructor
          · exact fun _ => .inr ⟨c.1, c.2, List.mem_cons_self⟩
          · exact fun _ => .inl (by simp)
      · rw [if_neg e] at a1 a2
        have hmem : v ∈ y :: l ↔ v ∈ l := by
          rw [List.mem_cons]
          exact ⟨fun q => q.resolve_left fun z => e z.symm, .inr⟩
        have hmem2 : v ∈ s.2 ++ [y] ↔ v ∈ s.2 := by
          rw [List.mem_append, List.mem_singleton]
          exact ⟨fun q => q.resolve_right fun z => e z.symm, .inl⟩
        rw [a1, a2, hmem2]
        simp only [hmem]
        exact ⟨trivial, trivial⟩
    · have es : stp many x s y = s := if_neg c
      rw [es] at a1 a2 ⊢
      have key : (s.1.getD v.toNat 0 < 0 ∧ ¬ v = x ∧ v ∈ y :: l) ↔ (s.1.getD v.toNat 0 < 0 ∧ ¬ v = x ∧ v ∈ l) := by
        rw [List.mem_cons]
        constructor
        · rintro ⟨q1, q2, q3 | q3⟩
          · subst q3; exact absurd ⟨q1, q2⟩ c
          · exact ⟨q1, q2, q3⟩
        · rintro ⟨q1, q2, q3⟩
          exact ⟨q1, q2, .inr q3⟩
      rw [a1, a2]
      simp only [key]
      exact ⟨trivial, trivial⟩
theorem outs_iff {n : Nat} {m : List (List Int)} {u v : Int} (v0 : 0 ≤ v) (v1 : v < n) : v ∈ outs n m u ↔ eAt m u v = 1 := by
  unfold outs
  rw [List.mem_filter, mem_iota]
  simp [v0, v1]
theorem levs_sem {n : Nat} {m : List (List Int)} {many x : Int} (hm : 0 ≤ many) : ∀ {near : List Int} {s : WS}, s.1.length = n → (near.foldl (inL n m many x) s).1.length = n ∧ ∀ v : Int, 0 ≤ v → v < n →
    ((near.foldl (inL n m many x) s).1.getD v.toNat 0 = if s.1.getD v.toNat 0 < 0 ∧ ¬ v = x ∧ ∃ u ∈ near, eAt m u v = 1 then many else s.1.getD v.toNat 0) ∧ (v ∈ (near.foldl (inL n m many x) s).2 ↔ v ∈ s.2 ∨ (s.1.getD v.toNat 0 < 0 ∧ ¬ v = x ∧ ∃ u ∈ near, eAt m u v = 1))
  | [], s, hl => ⟨hl, fun v _ _ => ⟨by simp, by simp⟩⟩
  | w :: l, s, hl => by
    obtain ⟨b1, b2⟩ := fold_sem (n := n) (x := x) hm (l := outs n m w) hl fun y hy => outs_mem hy
    obtain ⟨h1, h2⟩ := levs_sem (m := m) (x := x) hm (near := l) (s := inL n m many x s w) b1
    refine ⟨h1, fun v v0 v1 => ?_⟩
    obtain ⟨a1, a2⟩ := h2 v v0 v1
    obtain ⟨c1, c2⟩ := b2 v v0 v1
    simp only [outs_iff v0 v1] at c1 c2
    rw [List.foldl_cons, a1, a2]
    have i1 : (inL n m many x s w).1.getD v.toNat 0 = if s.1.getD v.toNat 0 < 0 ∧ ¬ v = x ∧ eAt m w v = 1 then many else s.1.getD v.toNat 0 := c1
    have i2 : v ∈ (inL n m many x s w).2 ↔ v ∈ s.2 ∨ (s.1.getD v.toNat 0 < 0 ∧ ¬ v = x ∧ eAt m w v = 1) := c2
    rw [i1, i2]
    have hex : (∃ u ∈ w :: l, eAt m u v = 1) ↔ eAt m w v = 1 ∨ ∃ u ∈ l, eAt m u v = 1 := by simp
    simp only [hex]
    generalize s.1.getD v.toNat 0 = y at *
    by_cases p1 : y < 0
    · by_cases p2 : v = x
      · simp [p2]
      · by_cases p3 : eAt m w v = 1
        · have hn : ¬ many < 0 := by omega
          simp [p1, p2, p3, hn]
        · simp [p1, p2, p3]
    · simp [p1]
theorem lev_sem {n : Nat} {m : List (List Int)} {many x : Int} (hm : 0 ≤ many) {f near : List Int} (hf : f.length = n) : (levL n m many x f near).1.length = n ∧ ∀ v : Int, 0 ≤ v → v < n →
    ((levL n m many x f near).1.getD v.toNat 0 = if f.getD v.toNat 0 < 0 ∧ ¬ v = x ∧ ∃ u ∈ near, eAt m u v = 1 then many else f.getD v.toNat 0) ∧ (v ∈ (levL n m many x f near).2 ↔ (f.getD v.toNat 0 < 0 ∧ ¬ v = x ∧ ∃ u ∈ near, eAt m u v = 1)) := by
  obtain ⟨h1, h2⟩ := levs_sem (m := m) (x := x) hm (near := near) (s := (f, [])) hf
  refine ⟨h1, fun v v0 v1 => ?_⟩
  obtain ⟨a1, a2⟩ := h2 v v0 v1
  refine ⟨a1, a2.trans ?_⟩
  simp
/-! ### distances go with the places -/
def to (h : List Int) (v : Int) : Int := h.getD v.toNat 0
theorem to_rg {n : Nat} {h : List Int} (hh : Turn n h) {v : Int} (v0 : 0 ≤ v) (v1 : v < n) : 0 ≤ to h v ∧ to h v < n := hh.at (by omega)
theorem to_inj {n : Nat} {h : List Int} (hh : Turn n h) {u v : Int} (u0 : 0 ≤ u) (u1 : u < n) (v0 : 0 ≤ v) (v1 : v < n) (e : to h u = to h v) : u = v := by
  have := at_inj hh (i := u.toNat) (j := v.toNat) (by omega) (by omega) (by unfold at_; unfold to at e; rw [e])
  omega
theorem to_sur {n : Nat} {h : List Int} (hh : Turn n h) {w : Int} (w0 : 0 ≤ w) (w1 : w < n) : ∃ v : Int, 0 ≤ v ∧ v < n ∧ to h v = w := by
  obtain ⟨k, hk, e⟩ := List.mem_iff_getElem.mp (hh.mem.mpr ⟨w0, w1⟩)
  refine ⟨(k : Int), by omega, by rw [hh.len] at hk; omega, ?_⟩
  unfold to
  rw [Int.toNat_natCast, getD_at hk, e]
def Alike (n : Nat) (h : List Int) (m m' : List (List Int)) : Prop := ∀ x y : Int, 0 ≤ x → x < n → 0 ≤ y → y < n → eAt m' (to h x) (to h y) = eAt m x y
theorem rnd_eqv {n : Nat} {h : List Int} (hh : Turn n h) {m m' : List (List Int)} (ha : Alike n h m m') {x : Int} (x0 : 0 ≤ x) (x1 : x < n) : ∀ (j : Nat) {many : Int} {f f' near near' : List Int}, 0 ≤ many → f.length = n → f'.length = n → (∀ u ∈ near, 0 ≤ u ∧ u < n) → (∀ u ∈ near', 0 ≤ u ∧ u < n) → (∀ v : Int, 0 ≤ v → v < n → f'.getD (to h v).toNat 0 = f.getD v.toNat 0) → (∀ v : Int, 0 ≤ v → v < n → (to h v ∈ near' ↔ v ∈ near)) →
    ∀ v : Int, 0 ≤ v → v < n → (rndL n m' (to h x) j many f' near').getD (to h v).toNat 0 = (rndL n m x j many f near).getD v.toNat 0
  | 0, _, _, _, _, _, _, _, _, _, _, hf, _ => hf
  | j + 1, many, f, f', near, near', hm, l1, l2, r1, r2, hf, hn => by
    obtain ⟨p1, p2⟩ := lev_sem (m := m) (x := x) hm l1 (near := near)
    obtain ⟨q1, q2⟩ := lev_sem (m := m') (x := to h x) hm l2 (near := near')
    have hit : ∀ v : Int, 0 ≤ v → v < n → ((f'.getD (to h v).toNat 0 < 0 ∧ ¬ to h v = to h x ∧ ∃ u ∈ near', eAt m' u (to h v) = 1) ↔ (f.getD v.toNat 0 < 0 ∧ ¬ v = x ∧ ∃ u ∈ near, eAt m u v = 1)) := fun v v0 v1 => by
      rw [hf v v0 v1]
      have e1 : to h v = to h x ↔ v = x := ⟨to_inj hh v0 v1 x0 x1, fun e => by rw [e]⟩
      have e2 : (∃ u ∈ near', eAt m' u (to h v) = 1) ↔ ∃ u ∈ near, eAt m u v = 1 := by
        constructor
        · rintro ⟨u, hu, e⟩
          have ur := r2 u hu
          obtain ⟨w, w0, w1, rfl⟩ := to_sur hh ur.1 ur.2
          exact ⟨w, (hn w w0 w1).mp hu, by rw [← ha w v w0 w1 v0 v1]; exact e⟩
        · rintro ⟨u, hu, e⟩
          have ur := r1 u hu
          exact ⟨to h u, (hn u ur.1 ur.2).mpr hu, by rw [ha u v ur.1 ur.2 v0 v1]; exact e⟩
      rw [e1, e2]
    have wok := (lev_ok (m := m) (x := x) hm l1 (near := near)).1
    have wok' := (lev_ok (m := m') (x := to h x) hm l2 (near := near')).1
    refine rnd_eqv hh ha x0 x1 j (by omega) p1 q1 wok.2 wok'.2 (fun v v0 v1 => ?_) (fun v v0 v1 => ?_)
    · have t := to_rg hh v0 v1
      rw [(q2 _ t.1 t.2).1, (p2 v v0 v1).1, hf v v0 v1]
      have := hit v v0 v1
      rw [hf v v0 v1] at this
      simp only [this]
    · have t := to_rg hh v0 v1
      rw [(q2 _ t.1 t.2).2, (p2 v v0 v1).2]
      exact hit v v0 v1
theorem rep_get {n k : Nat} (h : k < n) : (List.replicate n (-1 : Int)).getD k 0 = -1 := by
  rw [getD_at (by simpa using h)]; simp
theorem way_eqv {n : Nat} {h : List Int} (hh : Turn n h) {m m' : List (List Int)} (ha : Alike n h m m') {x : Int} (x0 : 0 ≤ x) (x1 : x < n) {v : Int} (v0 : 0 ≤ v) (v1 : v < n) : (wayL n m' (to h x)).getD (to h v).toNat 0 = (wayL n m x).getD v.toNat 0 := by
  have tx := to_rg hh x0 x1
  refine rnd_eqv hh ha x0 x1 (n - 1) (by decide) (by simp) (by simp) (fun u hu => by rw [List.mem_singleton.mp hu]; exact ⟨x0, x1⟩) (fun u hu => by rw [List.mem_singleton.mp hu]; exact tx) (fun w w0 w1 => ?_) (fun w w0 w1 => ?_) v v0 v1
  · have t := to_rg hh w0 w1
    rw [rep_get (by omega), rep_get (by omega)]
  · rw [List.mem_singleton, List.mem_singleton]
    exact ⟨to_inj hh w0 w1 x0 x1, fun e => by rw [e]⟩
theorem dist_at {n : Nat} {m : List (List Int)} {x y : Int} (x0 : 0 ≤ x) (x1 : x < n) (y0 : 0 ≤ y) : entM (distM n m) x y = if x = y then eAt m x x else (wayL n m x).getD y.toNat 0 := by
  have hx : rowAt (distM n m) x = (wayL n m x).set x.toNat (eAt m x x) := by
    unfold rowAt distM
    rw [List.getD_eq_getElem?_getD, List.getElem?_map, iota_get n _ (by omega)]
    simp only [Option.map_some, Option.getD_some]
    rw [show ((x.toNat : Nat) : Int) = x by omega]
  unfold entM
  rw [hx, getD_set (by rw [way_len]; omega)]
  by_cases e : x = y
  · subst e; simp
  · have : ¬ x.toNat = y.toNat := by omega
    rw [if_neg this, if_neg e]
theorem dist_eqv {n : Nat} {h : List Int} (hh : Turn n h) {m m' : List (List Int)} (ha : Alike n h m m') {x y : Int} (x0 : 0 ≤ x) (x1 : x < n) (y0 : 0 ≤ y) (y1 : y < n) : entM (distM n m') (to h x) (to h y) = entM (distM n m) x y := by
  have tx := to_rg hh x0 x1
  have ty := to_rg hh y0 y1
  rw [dist_at tx.1 tx.2 ty.1, dist_at x0 x1 y0, ha x x x0 x1 x0 x1, way_eqv hh ha x0 x1 y0 y1]
  by_cases e : x = y
  · rw [if_pos e, if_pos (by rw [e])]
  · rw [if_neg e, if_neg (fun q => e (to_inj hh x0 x1 y0 y1 q))]
/-! ### distances tell the arcs -/
theorem rnd_one {n : Nat} {m : List (List Int)} {x : Int} : ∀ (j : Nat) {many : Int} {f near : List Int}, 2 ≤ many → f.length = n → ∀ v : Int, 0 ≤ v → v < n → ((rndL n m x j many f near).getD v.toNat 0 = 1 ↔ f.getD v.toNat 0 = 1)
  | 0, _, _, _, _, _, _, _, _ => Iff.rfl
  | j + 1, many, f, near, hm, hl, v, v0, v1 => by
    obtain ⟨p1, p2⟩ := lev_sem (m := m) (x := x) (many := many) (by omega) hl (near := near)
    refine (rnd_one (m := m) (x := x) j (many := many + 1) (near := (levL n m many x f near).2) (by omega) p1 v v0 v1).trans ?_
    rw [(p2 v v0 v1).1]
    split
    · rename_i c
      constructor
      · intro q; omega
      · intro q; omega
    · exact Iff.rfl
theorem way_one {n : Nat} {m : List (List Int)} {x v : Int} (x0 : 0 ≤ x) (x1 : x < n) (v0 : 0 ≤ v) (v1 : v < n) (hne : ¬ v = x) : (wayL n m x).getD v.toNat 0 = 1 ↔ eAt m x v = 1 := by
  obtain ⟨k, hk⟩ : ∃ k, n - 1 = k + 1 := ⟨n - 2, by omega⟩
  unfold wayL
  rw [hk]
  obtain ⟨p1, p2⟩ := lev_sem (n := n) (m := m) (many := 1) (x := x) (f := List.replicate n (-1)) (by decide) (by simp) (near := [x])
  refine (rnd_one (m := m) (x := x) k (many := 2) (near := (levL n m 1 x (List.replicate n (-1)) [x]).2) (by decide) p1 v v0 v1).trans ?_
  rw [(p2 v v0 v1).1, rep_get (by omega)]
  by_cases c : eAt m x v = 1
  · simp [c, hne]
  · simp [c]
theorem alike_iff {n : Nat} {h : List Int} (hh : Turn n h) {m m' : List (List Int)} (hb : Bin n m) (hb' : Bin n m') : Alike n h m m' ↔ ∀ x y : Int, 0 ≤ x → x < n → 0 ≤ y → y < n → entM (distM n m') (to h x) (to h y) = entM (distM n m) x y := by
  constructor
  · exact fun ha x y x0 x1 y0 y1 => dist_eqv hh ha x0 x1 y0 y1
  · intro hd x y x0 x1 y0 y1
    have tx := to_rg hh x0 x1
    have ty := to_rg hh y0 y1
    have := hd x y x0 x1 y0 y1
    rw [dist_at tx.1 tx.2 ty.1, dist_at x0 x1 y0] at this
    by_cases e : x = y
    · subst e
      rw [if_pos rfl, if_pos rfl] at this
      exact this
    · rw [if_neg e, if_neg (fun q => e (to_inj hh x0 x1 y0 y1 q))] at this
      have w1 := way_one (m := m) x0 x1 y0 y1 (fun q => e q.symm)
      have w2 := way_one (m := m') tx.1 tx.2 ty.1 ty.2 (fun q => e (to_inj hh y0 y1 x0 x1 q).symm)
      have b1 := (bin_at hb x0 x1 y0 y1).2
      have b2 := (bin_at hb' tx.1 tx.2 ty.1 ty.2).2
      rw [this] at w2
      have w3 : eAt m x y = 1 ↔ eAt m' (to h x) (to h y) = 1 := w1.symm.trans w2
      by_cases c : eAt m x y = 1
      · rw [c, w3.mp c]
      · have c2 : ¬ eAt m' (to h x) (to h y) = 1 := fun q => c (w3.mpr q)
        omega
end
end Cl

set_option maxHeartbeats 2000000
namespace Cl
noncomputable section
open PySem L2 Z
def Mat (n : Nat) (m : List (List Int)) : Prop := m.length = n ∧ ∀ r ∈ m, r.length = n
def ent (m : List (List Int)) (x y : Int) : Int := (rowAt m x).getD y.toNat 0
def Th.go (n : Nat) (g : List Int) : Th → Th
  | .col l => .col (thenL (bkL n g) l)
  | .gr m => .gr ((bkL n g).map fun x => (bkL n g).map fun y => ent m x y)
  | .se L => .se (rsrt (L.map fun s => isrt (thenL s g)))
  | .tu p => .tu (cjL n p g)
  | .ro r => .ro (thenL r g)
theorem at_cj {n : Nat} {p g : List Int} (hg : Turn n g) {k : Nat} (hk : k < n) : at_ (cjL n p g) (at_ g k) = at_ g (at_ p k) := by
  have := putN_get (n := n) (f := fun k => g.getD k 0) (g := fun k => g.getD (p.getD k 0).toNat 0) (fun k hk => hg.at hk) (fun i j hi hj e => at_inj hg hi hj (by unfold at_; rw [e])) n k (Nat.le_refl n) hk
  show ((cjL n p g).getD (g.getD k 0).toNat 0).toNat = _
  unfold cjL
  rw [this]
  rfl
theorem cj_eq {n : Nat} {p g : List Int} (hp : Row n p) (hg : Turn n g) : cjL n p g = thenL (thenL (bkL n g) p) g := by
  have hb := turn_bk hg
  refine row_ext (cj_row hp hg.row) (then_row (then_row hb.row hp) hg.row) fun k hk => ?_
  have hj := hb.row.at_lt hk
  have e : at_ g (at_ (bkL n g) k) = k := by
    have this : at_ (thenL (bkL n g) g) k = at_ (iota n) k := congrArg (fun l => at_ l k) (bk_then hg)
    rw [at_then hb.row hk, at_iota hk] at this
    exact this
  rw [at_then (then_row hb.row hp) hk, at_then hb.row hk]
  conv => lhs; rw [← e]
  rw [at_cj hg hj]
theorem isrt_congr {l m : List Int} (h : l.Perm m) : isrt l = isrt m := by
  have h1 : (isrt l).Perm (isrt m) := (isrt_perm l).trans (h.trans (isrt_perm m).symm)
  exact h1.eq_of_pairwise (le := (· ≤ ·)) (fun a b _ _ h1 h2 => by omega) (isrt_le l) (isrt_le m)
theorem rsrt_congr {l m : List (List Int)} (h : l.Perm m) : rsrt l = rsrt m := by
  have h1 : (rsrt l).Perm (rsrt m) := (rsrt_perm l).trans (h.trans (rsrt_perm m).symm)
  exact h1.eq_of_pairwise (le := (· ≤ ·)) (fun a b _ _ h1 h2 => List.le_antisymm h1 h2) (rsrt_le l) (rsrt_le m)
theorem asc_le {l : List Int} (h : ascB l = true) : l.Pairwise (· ≤ ·) := List.Pairwise.imp (fun {a b} q => by omega) (asc_pw (α := Int) (fun a b c => Int.lt_trans) h)
theorem isrt_id {l : List Int} (h : ascB l = true) : isrt l = l := (isrt_perm l).eq_of_pairwise (le := (· ≤ ·)) (fun a b _ _ h1 h2 => by omega) (isrt_le l) (asc_le h)
theorem rsrt_id {l : List (List Int)} (h : ascB l = true) : rsrt l = l := by
  have h2 : l.Pairwise (· ≤ ·) := List.Pairwise.imp (fun {a b} q => List.le_of_lt q) (asc_pw (α := List Int) (fun a b c => List.lt_trans) h)
  exact (rsrt_perm l).eq_of_pairwise (le := (· ≤ ·)) (fun a b _ _ h1 h2 => List.le_antisymm h1 h2) (rsrt_le l) h2
theorem Mat.at {n : Nat} {m : List (List Int)} (h : Mat n m) {f : Int → Int → Int} {c : List Int} (hc : Row n c) (e : m = c.map fun x => c.map fun y => f x y) {x y : Int} (x0 : 0 ≤ x) (x1 : x < n) (y0 : 0 ≤ y) (y1 : y < n) : ent m x y = f (c.getD x.toNat 0) (c.getD y.toNat 0) := by
  have hl := hc.1
  have h1 : rowAt m x = c.map fun y => f (c.getD x.toNat 0) y := by
    unfold rowAt
    rw [e, List.getD_eq_getElem?_getD, List.getElem?_map, List.getElem?_eq_getElem (by omega), getD_at (by omega)]
    rfl
  unfold ent
  rw [h1, List.getD_eq_getElem?_getD, List.getElem?_map, List.getElem?_eq_getElem (by omega), getD_at (l := c) (i := y.toNat) (by omega)]
  rfl
theorem go_mat {n : Nat} {c : List Int} (hc : Row n c) (f : Int → Int → Int) : Mat n (c.map fun x => c.map fun y => f x y) := ⟨by rw [List.length_map, hc.1], fun r hr => by
  obtain ⟨x, _, rfl⟩ := List.mem_map.mp hr
  rw [List.length_map, hc.1]⟩
theorem rw_go {n : Nat} {s g : List Int} (hs : Rw n s) (hg : Turn n g) : Rw n (isrt (thenL s g)) := by
  have hpm := isrt_perm (thenL s g)
  have hnd : (thenL s g).Nodup := by
    unfold thenL
    rw [List.nodup_iff_pairwise_ne, List.pairwise_map]
    refine List.Pairwise.imp_of_mem (fun {a b} ha hb q e => ?_) (List.nodup_iff_pairwise_ne.mp (asc_nd hs.1))
    have a' := hs.2.1 a ha
    have b' := hs.2.1 b hb
    have := at_inj hg (i := a.toNat) (j := b.toNat) (by omega) (by omega) (by unfold at_; rw [e])
    exact q (by omega)
  refine ⟨pw_asc (isrt_nd hnd), fun x hx => ?_, ?_⟩
  · obtain ⟨y, hy, rfl⟩ := List.mem_map.mp (hpm.mem_iff.mp hx)
    have y' := hs.2.1 y hy
    exact hg.at (by omega)
  · rw [hpm.length_eq]
    have := hs.2.2
    simpa [thenL] using this
theorem mem_go {n : Nat} {g : List Int} (hg : Turn n g) {s : List Int} (hs : ∀ x ∈ s, 0 ≤ x ∧ x < n) {x : Int} (hx : 0 ≤ x ∧ x < n) : g.getD x.toNat 0 ∈ thenL s g ↔ x ∈ s := by
  unfold thenL
  rw [List.mem_map]
  constructor
  · rintro ⟨y, hy, e⟩
    have y' := hs y hy
    have := at_inj hg (i := y.toNat) (j := x.toNat) (by omega) (by omega) (by unfold at_; rw [e])
    have e2 : y = x := by omega
    rw [← e2]; exact hy
  · exact fun h => ⟨x, h, rfl⟩
theorem go_inj {n : Nat} {g : List Int} (hg : Turn n g) {s u : List Int} (hs : Rw n s) (hu : Rw n u) (e : isrt (thenL s g) = isrt (thenL u g)) : s = u := by
  have hp : (thenL s g).Perm (thenL u g) := (isrt_perm _).symm.trans (e ▸ isrt_perm _)
  have h2 : s.Perm u := by
    refine (List.perm_ext_iff_of_nodup (asc_nd hs.1) (asc_nd hu.1)).mpr fun x => ⟨fun h => ?_, fun h => ?_⟩
    · have hx := hs.2.1 x h
      exact (mem_go hg hu.2.1 hx).mp (hp.mem_iff.mp ((mem_go hg hs.2.1 hx).mpr h))
    · have hx := hu.2.1 x h
      exact (mem_go hg hs.2.1 hx).mp (hp.mem_iff.mpr ((mem_go hg hu.2.1 hx).mpr h))
  rw [← isrt_id hs.1, ← isrt_id hu.1]
  exact isrt_congr h2
theorem go_ok {n : Nat} {t : Th} (h : t.ok n) {g : List Int} (hg : Turn n g) : (t.go n g).ok n := by
  have bg := (turn_bk hg).row
  cases t with
  | col l => show (thenL _ l).length = n; rw [thenL, List.length_map, bg.1]
  | gr m =>
    have hm := go_mat bg (ent m)
    have h : Bin n m := h
    refine ⟨hm.1, fun r hr => ⟨hm.2 r hr, fun x hx => ?_⟩⟩
    obtain ⟨u, hu, rfl⟩ := List.mem_map.mp hr
    obtain ⟨v, hv, rfl⟩ := List.mem_map.mp hx
    have u' := bg.2 u hu
    have v' := bg.2 v hv
    exact (bin_at h u'.1 u'.2 v'.1 v'.2).2
  | se L =>
    have hp := rsrt_perm (L.map fun s => isrt (thenL s g))
    refine ⟨fun r hr => ?_, pw_asc ?_, by rw [hp.length_eq, List.length_map]; exact h.2.2⟩
    · obtain ⟨s, hs, rfl⟩ := List.mem_map.mp (hp.mem_iff.mp hr)
      exact rw_go (h.1 s hs) hg
    · have h1 := rsrt_le (L.map fun s => isrt (thenL s g))
      have hL : L.Pairwise (· ≠ ·) := List.Pairwise.imp (fun {a b} q e => by subst e; exact List.lt_irrefl a q) (asc_pw (α := List Int) (fun a b c => List.lt_trans) h.2.1)
      have h2 : (rsrt (L.map fun s => isrt (thenL s g))).Nodup := hp.nodup_iff.mpr (by
        rw [List.nodup_iff_pairwise_ne, List.pairwise_map]
        exact List.Pairwise.imp_of_mem (fun {a b} ha hb q e => q (go_inj hg (h.1 a ha) (h.1 b hb) e)) hL)
      exact List.Pairwise.imp (fun {a b} q => ltL a b q.1 q.2) (List.Pairwise.and h1 (List.nodup_iff_pairwise_ne.mp h2))
  | tu r =>
    show Turn n (cjL n r g)
    rw [cj_eq (Turn.row h) hg]
    exact turn_then (turn_then (turn_bk hg) h) hg
  | ro r =>
    refine ⟨fun x hx => ?_, by simpa [thenL] using h.2⟩
    obtain ⟨y, hy, rfl⟩ := List.mem_map.mp hx
    have y' := h.1 y hy
    exact hg.at (by omega)
end
end Cl

set_option maxHeartbeats 2000000
namespace Cl
noncomputable section
open PySem L2 Z
theorem thenL_to (l h : List Int) : thenL l h = l.map (to h) := rfl
theorem col_iff {n : Nat} {h : List Int} (hh : Turn n h) {l l' : List Int} (hl : l.length = n) (hl' : l'.length = n) : (∀ z : Int, 0 ≤ z → z < n → l'.getD (to h z).toNat 0 = l.getD z.toNat 0) ↔ l' = thenL (bkL n h) l := by
  have hb := (turn_bk hh).row
  have e2 : ∀ k, k < n → (thenL (bkL n h) l).getD k 0 = l.getD (at_ (bkL n h) k) 0 := fun k hk => by
    rw [show thenL (bkL n h) l = via (bkL n h) l from rfl, via_get (by rw [hb.1]; exact hk)]
    rfl
  constructor
  · intro q
    apply List.ext_getElem
    · rw [hl', thenL, List.length_map, hb.1]
    · intro k h1 h2
      rw [← getD_at h1, ← getD_at h2, e2 k (by omega)]
      obtain ⟨z, z0, z1, e⟩ := to_sur hh (w := (k : Int)) (by omega) (by omega)
      have hz := q z z0 z1
      rw [e, Int.toNat_natCast] at hz
      have hk : at_ h z.toNat = k := by
        unfold at_
        have : h.getD z.toNat 0 = (k : Int) := e
        omega
      rw [hz, ← hk, at_bk hh (by omega)]
  · rintro rfl z z0 z1
    have t := to_rg hh z0 z1
    rw [e2 _ (by omega)]
    have : at_ (bkL n h) (to h z).toNat = z.toNat := at_bk hh (k := z.toNat) (by omega)
    rw [this]
theorem ent_get {M : List (List Int)} {k j : Nat} (h1 : k < M.length) (h2 : j < M[k].length) : ent M (k : Int) (j : Int) = M[k][j] := by
  unfold ent rowAt
  rw [Int.toNat_natCast, Int.toNat_natCast, List.getD_eq_getElem?_getD (l := M), List.getElem?_eq_getElem h1]
  exact getD_at h2
theorem mat_iff {n : Nat} {h : List Int} (hh : Turn n h) {m m' : List (List Int)} (hb : Bin n m) (hb' : Bin n m') : Alike n h m m' ↔ m' = (bkL n h).map fun x => (bkL n h).map fun y => ent m x y := by
  have bg := (turn_bk hh).row
  have hm := go_mat bg (ent m)
  have bto : ∀ z : Int, 0 ≤ z → z < n → (bkL n h).getD (to h z).toNat 0 = z := fun z z0 z1 => by
    have t := to_rg hh z0 z1
    have : at_ (bkL n h) (to h z).toNat = z.toNat := at_bk hh (k := z.toNat) (by omega)
    have e := bg.at_eq (k := (to h z).toNat) (by omega)
    rw [e, this]; omega
  have val : ∀ x y : Int, 0 ≤ x → x < n → 0 ≤ y → y < n → ent ((bkL n h).map fun x => (bkL n h).map fun y => ent m x y) (to h x) (to h y) = ent m x y := fun x y x0 x1 y0 y1 => by
    have tx := to_rg hh x0 x1
    have ty := to_rg hh y0 y1
    rw [hm.at bg rfl tx.1 tx.2 ty.1 ty.2, bto x x0 x1, bto y y0 y1]
  constructor
  · intro ha
    apply List.ext_getElem
    · rw [hb'.1, hm.1]
    · intro k h1 h2
      have hk : k < n := by rw [← hb'.1]; exact h1
      have r1 := (hb'.2 m'[k] (List.getElem_mem _)).1
      have r2 := hm.2 _ (List.getElem_mem h2)
      apply List.ext_getElem
      · rw [r1, r2]
      · intro j h3 h4
        have hj : j < n := by omega
        obtain ⟨x, x0, x1, ex⟩ := to_sur hh (w := (k : Int)) (by omega) (by omega)
        obtain ⟨y, y0, y1, ey⟩ := to_sur hh (w := (j : Int)) (by omega) (by omega)
        have v1 := ha x y x0 x1 y0 y1
        have v2 := val x y x0 x1 y0 y1
        rw [ex, ey] at v1 v2
        have e1 : eAt m' (k : Int) (j : Int) = m'[k][j] := ent_get h1 h3
        have e2 : ent ((bkL n h).map fun x => (bkL n h).map fun y => ent m x y) (k : Int) (j : Int) = (((bkL n h).map fun x => (bkL n h).map fun y => ent m x y)[k])[j] := ent_get h2 h4
        rw [← e1, ← e2, v1, v2]
        rfl
  · rintro rfl x y x0 x1 y0 y1
    exact val x y x0 x1 y0 y1
theorem arc_at {n : Nat} {p : List Int} (hp : p.length = n) {x y : Int} (x0 : 0 ≤ x) (x1 : x < n) (y0 : 0 ≤ y) (y1 : y < n) : eAt (arcM p) x y = if y = p.getD x.toNat 0 then 1 else 0 := by
  unfold eAt
  have hx : rowAt (arcM p) x = (iota p.length).map fun y => if y = p.getD x.toNat 0 then 1 else 0 := by
    unfold rowAt arcM
    rw [List.getD_eq_getElem?_getD, List.getElem?_map, List.getElem?_eq_getElem (by omega), getD_at (by omega)]
    rfl
  rw [hx, List.getD_eq_getElem?_getD, List.getElem?_map, iota_get _ _ (by omega)]
  simp only [Option.map_some, Option.getD_some]
  rw [show ((y.toNat : Nat) : Int) = y by omega]
theorem tu_iff {n : Nat} {h : List Int} (hh : Turn n h) {p p' : List Int} (hp : Turn n p) (hp' : Turn n p') : Alike n h (arcM p) (arcM p') ↔ p' = cjL n p h := by
  have key : ∀ x : Int, 0 ≤ x → x < n → ((cjL n p h).getD (to h x).toNat 0 = to h (p.getD x.toNat 0)) := fun x x0 x1 => by
    have := at_cj (p := p) hh (k := x.toNat) (by omega)
    have t := to_rg hh x0 x1
    have r1 := (cj_row hp.row hh.row).at_eq (k := (to h x).toNat) (by omega)
    have px := hp.at (k := x.toNat) (by omega)
    have r2 := hh.row.at_eq (k := (p.getD x.toNat 0).toNat) (by omega)
    rw [r1]
    show (at_ (cjL n p h) (at_ h x.toNat) : Int) = _
    rw [this]
    exact r2.symm
  constructor
  · intro ha
    refine row_ext hp'.row (cj_row hp.row hh.row) fun k hk => ?_
    obtain ⟨x, x0, x1, ex⟩ := to_sur hh (w := (k : Int)) (by omega) (by omega)
    have px := hp.at (k := x.toNat) (by omega)
    have a := ha x (p.getD x.toNat 0) x0 x1 px.1 px.2
    have tx := to_rg hh x0 x1
    have ty := to_rg hh px.1 px.2
    rw [arc_at hp.len x0 x1 px.1 px.2, arc_at hp'.len tx.1 tx.2 ty.1 ty.2, if_pos rfl] at a
    have a2 : to h (p.getD x.toNat 0) = p'.getD (to h x).toNat 0 := by
      by_cases c : to h (p.getD x.toNat 0) = p'.getD (to h x).toNat 0
      · exact c
      · rw [if_neg c] at a; cases a
    have k1 := key x x0 x1
    rw [a2] at k1
    unfold at_
    rw [ex, Int.toNat_natCast] at k1
    rw [k1]
  · rintro rfl x y x0 x1 y0 y1
    have tx := to_rg hh x0 x1
    have ty := to_rg hh y0 y1
    have px := hp.at (k := x.toNat) (by omega)
    rw [arc_at hp.len x0 x1 y0 y1, arc_at hp'.len tx.1 tx.2 ty.1 ty.2, key x x0 x1]
    by_cases c : y = p.getD x.toNat 0
    · rw [if_pos c, if_pos (by rw [c])]
    · rw [if_neg c, if_neg (fun e => c (to_inj hh y0 y1 px.1 px.2 e))]
theorem eqs_mem {r : List Int} {z : Int} {k : Nat} (hk : k < r.length) : (k : Int) ∈ eqs r z ↔ r.getD k 0 = z := by
  unfold eqs
  rw [List.mem_map]
  constructor
  · rintro ⟨j, hj, e⟩
    have hj' := (List.mem_filter.mp hj).2
    have : j = k := by omega
    subst this
    simpa using hj'
  · intro e
    exact ⟨k, List.mem_filter.mpr ⟨List.mem_range.mpr hk, by rw [e]; simp⟩, rfl⟩
end
end Cl

set_option maxHeartbeats 2000000
namespace Cl
noncomputable section
open PySem L2 Z
def x_law_goes_1 : EM := (eGet (vIx (vV 1) (pV 5)))
def x_law_goes_2 : EM := (eGet (vIx (vV 1) (pV 5)))
def x_law_goes_3 : EM := (eFz (eCB sortT (eCons (eLC [5] (iE (eV 7)) (bName 5) tAll x_law_goes_2) eNil)))
def x_law_goes_4 : EM := (eGet (vIx (vIx (vV 3) (pV 5)) (pV 6)))
def x_law_goes_5 : EM := (eFz (eLC [6] (iE (eV 4)) (bName 6) tAll x_law_goes_4))
def x_law_goes_6 : EM := (eGet (vIx (vV 3) (pV 5)))
def m_law_goes : SM := (mSeq (mUnp (bTup [2, 3]) (eV 0)) (mSeq (mSet 4 (eCall 1 F_law_back (eCons (eV 1) eNil))) (mSeq (mIf (eT (pB (pOp oEq (pV 2) (pC (.str "colours"))))) (mRet (eTup (eCons (eM 2) (eCons (eLC [5] (iE (eV 4)) (bName 5) tAll x_law_goes_6) eNil)))) mNil) (mSeq (mIf (eT (pB (pOp oEq (pV 2) (pC (.str "graph"))))) (mRet (eTup (eCons (eM 2) (eCons (eLC [5] (iE (eV 4)) (bName 5) tAll x_law_goes_5) eNil)))) mNil) (mSeq (mIf (eT (pB (pOp oEq (pV 2) (pC (.str "sets"))))) (mRet (eTup (eCons (eM 2) (eCons (eCB sortT (eCons (eLC [7] (iE (eV 3)) (bName 7) tAll x_law_goes_3) eNil)) eNil)))) mNil) (mSeq (mIf (eT (pB (pOp oEq (pV 2) (pC (.str "turning"))))) (mRet (eTup (eCons (eM 2) (eCons (eCall 2 F_law_moved (eCons (eV 3) (eCons (eV 1) eNil))) eNil)))) mNil) (mRet (eTup (eCons (eM 2) (eCons (eLC [5] (iE (eV 3)) (bName 5) tAll x_law_goes_1) eNil))))))))))
def F_law_goes : FM := mFun 2 8 m_law_goes
theorem lc_via {i j : Nat} {elt : EM} (he : elt = eGet (vIx (vV j) (pV i))) {n : Nat} (hn : n ≤ 1000) {p g : List Int} (hp : ∀ x ∈ p, 0 ≤ x ∧ x < n) (hl : p.length ≤ 1000) (hg : g.length = n) {ρ : Z.Env} (hi : ρ[i]? = some none) (hj : ρ[j]? = some (some (shi g))) (hij : i ≠ j) : lcL [i] (bName i) tAll elt (p.map ig) [] ρ = .ok ((thenL p g).map ig) ρ := by
  refine lcL_ints (fun x => g.getD x.toNat 0) (fun x hx => ⟨ρ.set i (some (si x)), ρ.set i (some (si x)), rfl, ?_, wipe_one hi⟩) (by unfold lim; omega)
  have h := hp x hx
  have hil : i < ρ.length := (List.getElem?_eq_some_iff.mp hi).1
  have a1 := atI_T g h.1 (by omega)
  have b1 : (ρ.set i (some (si x)))[j]? = some (some (shi g)) := by rw [List.getElem?_set_ne hij]; exact hj
  have b2 : (ρ.set i (some (si x)))[i]? = some (some (si x)) := List.getElem?_set_self hil
  subst he
  simp at a1
  simp [b1, b2, a1]
theorem goes_ok {n : Nat} (hn : n ≤ 100) {w : Th} (h : w.ok n) {g : List Int} (hg : Turn n g) : ∃ u, u.d = (w.go n g).d ∧ F_law_goes [.sh w.d, shi g] = .ok u [.sh w.d, shi g] := by
  have hb := law_back_ok hg.row (by omega)
  have hbr := (turn_bk hg).row
  have hgl := hg.len
  cases w with
  | col l =>
    have h : l.length = n := h
    have hc := lc_via (i := 5) (j := 3) (elt := x_law_goes_6) rfl (n := n) (by omega) (p := bkL n g) (g := l) hbr.2 (by rw [hbr.1]; omega) h (ρ := [some (.sh (Th.col l).d), some (shi g), none, some (shi l), some (shi (bkL n g)), none, none, none]) rfl rfl (by decide)
    have q1 := eq_ss so_colours so_colours
    simp [Th.d, Th.kn, Th.vd] at hc
    simp at hb
    refine ⟨(Th.col (thenL (bkL n g) l)).t, Th.td _, ?_⟩
    simp [F_law_goes, m_law_goes, Th.d, Th.kn, Th.vd, Th.t, q1, hb, hc]
  | gr m =>
    have h : Mat n m := ⟨h.1, fun r hr => (h.2 r hr).1⟩
    have q1 := eq_ss so_graph so_colours
    have q2 := eq_ss so_graph so_graph
    have d1 : ¬ ("graph" : Str) = "colours" := by decide
    rw [decide_eq_false d1] at q1
    have hz : (bkL n g).length ≤ lim := by rw [hbr.1]; unfold lim; omega
    have hc := lcL_T (slots := [5]) (b := bName 5) (elt := x_law_goes_5) (ρ := [some (.sh (Th.gr m).d), some (shi g), none, some (.sh (.lst (m.map D.ints))), some (shi (bkL n g)), none, none, none]) (fun x => T.sh (D.ints ((bkL n g).map fun y => ent m x y))) (p := bkL n g) (fun x hx => by
      have x' := hbr.2 x hx
      refine ⟨[some (.sh (Th.gr m).d), some (shi g), none, some (.sh (.lst (m.map D.ints))), some (shi (bkL n g)), some (si x), none, none], [some (.sh (Th.gr m).d), some (shi g), none, some (.sh (.lst (m.map D.ints))), some (shi (bkL n g)), some (si x), none, none], rfl, ?_, rfl⟩
      have hi := lcL_ints (slots := [6]) (b := bName 6) (elt := x_law_goes_4) (ρ := [some (.sh (Th.gr m).d), some (shi g), none, some (.sh (.lst (m.map D.ints))), some (shi (bkL n g)), some (si x), none, none]) (fun y => ent m x y) (p := bkL n g) (fun y hy => by
        have y' := hbr.2 y hy
        refine ⟨[some (.sh (Th.gr m).d), some (shi g), none, some (.sh (.lst (m.map D.ints))), some (shi (bkL n g)), some (si x), some (si y), none], [some (.sh (Th.gr m).d), some (shi g), none, some (.sh (.lst (m.map D.ints))), some (shi (bkL n g)), some (si x), some (si y), none], rfl, ?_, rfl⟩
        have a1 := rowAt_at (rows := m) x'.1 (by rw [h.1]; exact x'.2)
        have a1' : atI ((m.map D.ints).map T.sh) x = some (.sh (D.ints (rowAt m x))) := by
          rw [atI_ok x'.1 (by simp; rw [h.1]; exact x'.2), List.getElem?_map]
          rw [atI_ok x'.1 (by simp; rw [h.1]; exact x'.2)] at a1
          rw [a1]; rfl
        have hr := h.2 _ (rowAt_mem (rows := m) x'.1 (by rw [h.1]; exact x'.2))
        have a2 := atI_T (rowAt m x) y'.1 (by rw [hr]; exact y'.2)
        have e3 : ent m x y = (rowAt m x).getD y.toNat 0 := rfl
        rw [e3]
        generalize (rowAt m x).getD y.toNat 0 = z at a2 ⊢
        generalize m.map D.ints = M at a1' ⊢
        simp at a1' a2
        simp [x_law_goes_4, a1', a2]) hz
      generalize ((bkL n g).map fun y => ent m x y) = q at hi ⊢
      simp at hi
      simp [x_law_goes_5, hi]) hz
    have e1 : ((bkL n g).map fun x => T.sh (D.ints ((bkL n g).map fun y => ent m x y))) = (((bkL n g).map fun x => (bkL n g).map fun y => ent m x y)).map fun r => T.sh (D.ints r) := by rw [List.map_map]; rfl
    rw [e1] at hc
    refine ⟨.ot [.sh (.str "graph"), .ol ((((bkL n g).map fun x => (bkL n g).map fun y => ent m x y)).map fun r => T.sh (D.ints r))], ?_, ?_⟩
    · show D.tup [.str "graph", .lst (dl _)] = D.tup [.str "graph", .lst _]
      rw [dl_eq, List.map_map]; rfl
    generalize ((((bkL n g).map fun x => (bkL n g).map fun y => ent m x y)).map fun r => T.sh (D.ints r)) = R at hc ⊢
    simp [Th.d, Th.kn, Th.vd] at hc
    simp at hb
    simp [F_law_goes, m_law_goes, Th.d, Th.kn, Th.vd, q1, q2, hb, hc]
  | se L =>
    have q1 := eq_ss so_sets so_colours
    have q2 := eq_ss so_sets so_graph
    have q3 := eq_ss so_sets so_sets
    rw [decide_eq_false (show ¬ ("sets" : Str) = "colours" by decide)] at q1
    rw [decide_eq_false (show ¬ ("sets" : Str) = "graph" by decide)] at q2
    have hL : L.length ≤ lim := by have := h.2.2; unfold lim; omega
    have hc := lcL_xs (slots := [7]) (b := bName 7) (elt := x_law_goes_3) (ρ := [some (.sh (Th.se L).d), some (shi g), none, some (.sh (.lst (L.map D.ints))), some (T.ints (bkL n g)), none, none, none]) (fun s => T.sh (D.ints s)) (fun s => T.sh (D.ints (isrt (thenL s g)))) (xs := L) (acc := []) (fun s hs => by
      have hs' := h.1 s hs
      refine ⟨[some (.sh (Th.se L).d), some (shi g), none, some (.sh (.lst (L.map D.ints))), some (T.ints (bkL n g)), none, none, some (.sh (D.ints s))], [some (.sh (Th.se L).d), some (shi g), none, some (.sh (.lst (L.map D.ints))), some (T.ints (bkL n g)), none, none, some (.sh (D.ints s))], rfl, ?_, rfl⟩
      have hi := lc_via (i := 5) (j := 1) (elt := x_law_goes_2) rfl (n := n) (by omega) (p := s) (g := g) hs'.2.1 (by have := hs'.2.2; omega) hgl (ρ := [some (.sh (Th.se L).d), some (shi g), none, some (.sh (.lst (L.map D.ints))), some (T.ints (bkL n g)), none, none, some (.sh (D.ints s))]) rfl rfl (by decide)
      have hs2 := sort_ints (thenL s g)
      generalize thenL s g = q at hi hs2 ⊢
      simp at hi hs2
      simp [x_law_goes_3, hi, hs2]) (by simpa using hL)
    have e1 : (L.map fun s => T.sh (D.ints (isrt (thenL s g)))) = ((L.map fun s => isrt (thenL s g))).map fun r => T.sh (D.ints r) := by rw [List.map_map]; rfl
    rw [e1] at hc
    have hs := sort_rows (L.map fun s => isrt (thenL s g))
    refine ⟨.ot [.sh (.str "sets"), .ol ((rsrt (L.map fun s => isrt (thenL s g))).map fun r => T.sh (D.ints r))], ?_, ?_⟩
    · show D.tup [.str "sets", .lst (dl _)] = D.tup [.str "sets", .lst _]
      rw [dl_eq, List.map_map]; rfl
    generalize (L.map fun s => isrt (thenL s g)) = Q at hc hs ⊢
    generalize (rsrt Q).map (fun r => T.sh (D.ints r)) = R at hs ⊢
    generalize Q.map (fun r => T.sh (D.ints r)) = Q1 at hc hs
    have e2 : (L.map fun s => T.sh (D.ints s)) = (L.map D.ints).map T.sh := by rw [List.map_map]; rfl
    rw [e2, List.nil_append] at hc
    simp only [Th.d, Th.kn, Th.vd] at hc ⊢
    generalize L.map D.ints = M at hc ⊢
    simp at hc hb
    simp [F_law_goes, m_law_goes, q1, q2, q3, hb, hc, hs]
  | tu p =>
    have h : Turn n p := h
    have q1 := eq_ss so_turning so_colours
    have q2 := eq_ss so_turning so_graph
    have q3 := eq_ss so_turning so_sets
    have q4 := eq_ss so_turning so_turning
    rw [decide_eq_false (show ¬ ("turning" : Str) = "colours" by decide)] at q1
    rw [decide_eq_false (show ¬ ("turning" : Str) = "graph" by decide)] at q2
    rw [decide_eq_false (show ¬ ("turning" : Str) = "sets" by decide)] at q3
    have hc := law_moved_ok h.row hg.row (by omega)
    refine ⟨(Th.tu (cjL n p g)).t, Th.td _, ?_⟩
    simp at hc hb
    simp [F_law_goes, m_law_goes, Th.d, Th.kn, Th.vd, Th.t, q1, q2, q3, q4, hb, hc]
  | ro r =>
    have q1 := eq_ss so_row so_colours
    have q2 := eq_ss so_row so_graph
    have q3 := eq_ss so_row so_sets
    have q4 := eq_ss so_row so_turning
    rw [decide_eq_false (show ¬ ("row" : Str) = "colours" by decide)] at q1
    rw [decide_eq_false (show ¬ ("row" : Str) = "graph" by decide)] at q2
    rw [decide_eq_false (show ¬ ("row" : Str) = "sets" by decide)] at q3
    rw [decide_eq_false (show ¬ ("row" : Str) = "turning" by decide)] at q4
    have hc := lc_via (i := 5) (j := 1) (elt := x_law_goes_1) rfl (n := n) (by omega) (p := r) (g := g) h.1 (by have := h.2; omega) hgl (ρ := [some (.sh (Th.ro r).d), some (shi g), none, some (shi r), some (T.ints (bkL n g)), none, none, none]) rfl rfl (by decide)
    simp [Th.d, Th.kn, Th.vd] at hc
    refine ⟨(Th.ro (thenL r g)).t, Th.td _, ?_⟩
    simp at hb
    simp [F_law_goes, m_law_goes, Th.d, Th.kn, Th.vd, Th.t, q1, q2, q3, q4, hb, hc]
end
end Cl

set_option maxHeartbeats 2000000
namespace Cl
noncomputable section
open PySem L2 Z
/-! ### things told as data: all alike, told apart by ==, sorted -/
structure Emb {α : Type} [DecidableEq α] (k : Nat) (e : α → D) : Prop where
  dat : ∀ a, (e a).dat k = true
  alk : ∀ a b, PySem.W.alike (e a).py (e b).py = true
  eqv : ∀ a b, PyData.eqv (e a).py (e b).py = decide (a = b)
  srt : (∀ a, ∃ x r, (e a).py = .tuple (x :: r)) ∨ ∀ a, (e a).py ≠ .none ∧ ∀ xs, (e a).py ≠ .tuple xs
theorem embI : Emb 0 D.int := ⟨fun _ => rfl, fun _ _ => rfl, fun a b => by
  show (a == b) = _
  by_cases c : a = b <;> simp [c], .inr fun a => ⟨by simp [D.py], fun xs => by simp [D.py]⟩⟩
def eL {α : Type} (e : α → D) (l : List α) : D := .lst (l.map e)
theorem embL_all {α : Type} [DecidableEq α] {k : Nat} {e : α → D} (h : Emb k e) : ∀ l m : List α, PySem.W.alikeAll (pyl (l.map e)) (pyl (m.map e)) = true ∧ PyData.eqvAll (pyl (l.map e)) (pyl (m.map e)) = decide (l = m)
  | [], [] => ⟨rfl, rfl⟩
  | [], _ :: _ => ⟨rfl, rfl⟩
  | _ :: _, [] => ⟨rfl, rfl⟩
  | a :: l, b :: m => by
    obtain ⟨h1, h2⟩ := embL_all h l m
    simp only [List.map_cons, pyl]
    refine ⟨by rw [PySem.W.alikeAll, h.alk, h1]; rfl, ?_⟩
    rw [PyData.eqvAll, h.eqv, h2]
    by_cases c : a = b <;> by_cases d : l = m <;> simp [c, d]
theorem embL_dat {α : Type} [DecidableEq α] {k : Nat} {e : α → D} (h : Emb k e) : ∀ l : List α, datl k (l.map e) = true
  | [] => rfl
  | a :: l => by simp only [List.map_cons, datl, h.dat, embL_dat h l, Bool.and_true]
theorem embL {α : Type} [DecidableEq α] {k : Nat} {e : α → D} (h : Emb k e) : Emb (k + 1) (eL e) := ⟨fun l => embL_dat h l, fun l m => (embL_all h l m).1, fun l m => (embL_all h l m).2, .inr fun l => ⟨by simp [eL, D.py], fun xs => by simp [eL, D.py]⟩⟩
def eT2 {α β : Type} (e : α → D) (f : β → D) (p : α × β) : D := .tup [e p.1, f p.2]
theorem embT2 {α β : Type} [DecidableEq α] [DecidableEq β] {k : Nat} {e : α → D} {f : β → D} (h : Emb k e) (g : Emb k f) : Emb (k + 1) (eT2 e f) := by
  refine ⟨fun p => ?_, fun p q => ?_, fun p q => ?_, .inl fun p => ⟨_, _, rfl⟩⟩
  · show (_ && (_ && true)) = true
    rw [h.dat, g.dat]
    rfl
  · show (_ && (_ && true)) = true
    rw [h.alk, g.alk]
    rfl
  · show PyData.eqvAll [(e p.1).py, (f p.2).py] [(e q.1).py, (f q.2).py] = _
    rw [PyData.eqvAll, PyData.eqvAll, h.eqv, g.eqv]
    obtain ⟨a, b⟩ := p
    obtain ⟨c, d⟩ := q
    by_cases x : a = c <;> by_cases y : b = d <;> simp [x, y, PyData.eqvAll]
theorem Emb.up {α : Type} [DecidableEq α] {k j : Nat} {e : α → D} (h : Emb k e) (hj : k ≤ j) : Emb j e := ⟨fun a => dat_mono (h.dat a) hj, h.alk, h.eqv, h.srt⟩
theorem Emb.inj {α : Type} [DecidableEq α] {k : Nat} {e : α → D} (h : Emb k e) {a b : α} (q : e a = e b) : a = b := by
  have h1 := h.eqv a b
  rw [q, h.eqv b b] at h1
  simpa using h1.symm
theorem Emb.ne {α : Type} [DecidableEq α] {k : Nat} {e : α → D} (h : Emb k e) (hk : k ≤ 60) (a b : α) : oNe (e a) (e b) = some (.bl (!decide (a = b))) := by
  unfold oNe
  rw [if_pos ⟨dat_mono (h.dat a) hk, dat_mono (h.dat b) hk⟩, h.eqv]
theorem Emb.eq {α : Type} [DecidableEq α] {k : Nat} {e : α → D} (h : Emb k e) (hk : k ≤ 60) (a b : α) : oEq (e a) (e b) = some (.bl (decide (a = b))) := by
  unfold oEq
  rw [if_pos ⟨dat_mono (h.dat a) hk, dat_mono (h.dat b) hk⟩, h.eqv]
theorem Emb.srtOk {α : Type} [DecidableEq α] {k : Nat} {e : α → D} (h : Emb k e) (hk : k ≤ 59) (l : List α) : SrtOk (l.map e) := by
  refine ⟨embL_dat (h.up hk) l, fun d hd d' hd' => ?_, ?_⟩
  · rw [List.map_map] at hd hd'
    obtain ⟨a, _, rfl⟩ := List.mem_map.mp hd
    obtain ⟨b, _, rfl⟩ := List.mem_map.mp hd'
    exact h.alk a b
  · rcases h.srt with q | q
    · refine .inl fun d hd => ?_
      rw [List.map_map] at hd
      obtain ⟨a, _, rfl⟩ := List.mem_map.mp hd
      exact q a
    · refine .inr fun d hd => ?_
      rw [List.map_map] at hd
      obtain ⟨a, _, rfl⟩ := List.mem_map.mp hd
      exact q a
/-- sorted, as the data are -/
def leE {α : Type} (e : α → D) (a b : α) : Bool := PySem.W.dataLe false D.py (e a) (e b)
def srtE {α : Type} (e : α → D) (l : List α) : List α := l.mergeSort (leE e)
theorem srtE_map {α : Type} (e : α → D) (l : List α) : srtD (l.map e) = (srtE e l).map e := by
  unfold srtD srtE
  rw [List.map_mergeSort (r := leE e) (s := PySem.W.dataLe false D.py) (f := e) (fun _ _ _ _ => rfl)]
theorem srtE_perm {α : Type} (e : α → D) (l : List α) : (srtE e l).Perm l := List.mergeSort_perm _ _
theorem leE_tot {α : Type} (e : α → D) : PySem.W.TotalLe (leE e) where
  trans a b c h1 h2 := (PySem.W.sortLe_total (PyProof.Rows.listOrd PyProof.Rows.itemOrd) false fun x : D => PySem.W.keyToks x.py).trans (e a) (e b) (e c) h1 h2
  total a b := (PySem.W.sortLe_total (PyProof.Rows.listOrd PyProof.Rows.itemOrd) false fun x : D => PySem.W.keyToks x.py).total (e a) (e b)
theorem leE_anti {α : Type} [DecidableEq α] {k : Nat} {e : α → D} (h : Emb k e) {a b : α} (h1 : leE e a b = true) (h2 : leE e b a = true) : a = b := by
  have e1 : (PyProof.Rows.listOrd PyProof.Rows.itemOrd).blt (PySem.W.keyToks (e b).py) (PySem.W.keyToks (e a).py) = false := by
    have : (!(PyProof.Rows.listOrd PyProof.Rows.itemOrd).blt (PySem.W.keyToks (e b).py) (PySem.W.keyToks (e a).py)) = true := h1
    simpa using this
  have e2 : (PyProof.Rows.listOrd PyProof.Rows.itemOrd).blt (PySem.W.keyToks (e a).py) (PySem.W.keyToks (e b).py) = false := by
    have : (!(PyProof.Rows.listOrd PyProof.Rows.itemOrd).blt (PySem.W.keyToks (e a).py) (PySem.W.keyToks (e b).py)) = true := h2
    simpa using this
  have e3 := (PyProof.Rows.listOrd PyProof.Rows.itemOrd).total _ _ e1 e2
  apply Classical.byContradiction
  intro hne
  have hq : PyData.eqv (e a).py (e b).py = false := by rw [h.eqv]; simp [hne]
  have h3 := (PySem.W.toks_eqv _ _ (h.alk a b)).2 hq [] [.inl 0]
  have eb : PySem.W.keyToks (e b).py = PySem.W.keyToks (e a).py := e3
  rw [eb] at h3
  have h4 : PyProof.Rows.lexLt PyProof.Rows.itemOrd (PySem.W.keyToks (e a).py ++ []) (PySem.W.keyToks (e a).py ++ [.inl 0]) = true := by
    rw [PySem.W.lex_pre]
    rfl
  have h6 : PyProof.Rows.lexLt PyProof.Rows.itemOrd (PySem.W.keyToks (e a).py) (PySem.W.keyToks (e a).py) = false := (PyProof.Rows.listOrd PyProof.Rows.itemOrd).irrefl (PySem.W.keyToks (e a).py)
  rw [h4, h6] at h3
  cases h3
theorem srtE_congr {α : Type} [DecidableEq α] {k : Nat} {e : α → D} (h : Emb k e) {l m : List α} (p : l.Perm m) : srtE e l = srtE e m := by
  have q := ((srtE_perm e l).trans p).trans (srtE_perm e m).symm
  refine q.eq_of_pairwise (le := fun a b => leE e a b = true) (fun a b _ _ h1 h2 => leE_anti h h1 h2) ?_ ?_
  · exact List.pairwise_mergeSort (leE_tot e).trans (fun a b => by rw [Bool.or_eq_true]; exact (leE_tot e).total a b) l
  · exact List.pairwise_mergeSort (leE_tot e).trans (fun a b => by rw [Bool.or_eq_true]; exact (leE_tot e).total a b) m
/-- where it stands -/
theorem Emb.index {α : Type} [DecidableEq α] {k : Nat} {e : α → D} (h : Emb k e) (hk : k ≤ 59) {l : List α} {a : α} (ha : a ∈ l) : oIndex (.lst (l.map e)) (e a) = some (.int (l.idxOf a : Nat)) := by
  have hd : (D.lst (l.map e)).dat 60 = true := embL_dat (h.up hk) l
  have hf : (pyl (l.map e)).findIdx? (fun z => PyData.eqv z (e a).py) = some (l.idxOf a) := by
    clear hd
    induction l with
    | nil => cases ha
    | cons b l ih =>
      rw [List.map_cons, pyl, List.findIdx?_cons, h.eqv, List.idxOf_cons]
      by_cases c : b = a
      · subst c; simp
      · rcases List.mem_cons.mp ha with q | q
        · exact absurd q.symm c
        · rw [decide_eq_false c, ih q]
          have : (b == a) = false := by simpa using c
          simp [this]
  show (if (D.lst (l.map e)).dat 60 = true ∧ (e a).dat 60 = true then ((pyl (l.map e)).findIdx? fun z => PyData.eqv z (e a).py).map fun j => D.int (j : Nat) else none) = _
  rw [if_pos ⟨hd, dat_mono (h.dat a) (by omega)⟩, hf]
  rfl
end
end Cl

set_option maxHeartbeats 2000000
namespace Cl
noncomputable section
open PySem L2 Z
def x_ranks_of_1 : EM := (eP (pIndex (pV 1) (pV 2)))
def b_ranks_of_2 : SM := (mIf (eT (qOr (qNot (qTru (pV 1))) (pB (pOp oNe (pOp oIx (pV 1) (pUn oNeg (pC (.int 1)))) (pV 2))))) (mAppG 1 (eV 2)) mNil)
def m_ranks_of : SM := (mSeq (mSet 1 (eLst eNil)) (mSeq (mFor (iE (eCB sortT (eCons (eV 0) eNil))) (bName 2) b_ranks_of_2) (mRet (eLC [2] (iE (eV 0)) (bName 2) tAll x_ranks_of_1))))
def F_ranks_of : FM := mFun 1 3 m_ranks_of
def x_law_ranks_1 : EM := (eP (pIndex (pV 1) (pV 2)))
def m_law_ranks : SM := (mSeq (mSet 1 (eCall 1 F_law_unlike (eCons (eCB sortT (eCons (eV 0) eNil)) eNil))) (mRet (eLC [2] (iE (eV 0)) (bName 2) tAll x_law_ranks_1)))
def F_law_ranks : FM := mFun 1 3 m_law_ranks
/-! ### ranks -/
def rkE {α : Type} [DecidableEq α] (e : α → D) (l : List α) : List Int := l.map fun a => (((unl (srtE e l)).idxOf a : Nat) : Int)
theorem mem_unlA {α : Type} [DecidableEq α] (x : α) : ∀ (m : List α) (p : α), x ∈ m → x = p ∨ x ∈ unlA p m
  | [], _, h => by cases h
  | b :: m, p, h => by
    unfold unlA
    by_cases c : b = p
    · rw [if_pos c]
      rcases List.mem_cons.mp h with q | q
      · exact .inl (q.trans c)
      · rcases mem_unlA x m b q with r | r
        · exact .inl (r.trans c)
        · exact .inr r
    · rw [if_neg c]
      rcases List.mem_cons.mp h with q | q
      · exact .inr (List.mem_cons.mpr (.inl q))
      · rcases mem_unlA x m b q with r | r
        · exact .inr (List.mem_cons.mpr (.inl r))
        · exact .inr (List.mem_cons_of_mem _ r)
theorem mem_unl {α : Type} [DecidableEq α] {x : α} {l : List α} (h : x ∈ l) : x ∈ unl l := by
  cases l with
  | nil => cases h
  | cons a m =>
    rcases List.mem_cons.mp h with q | q
    · exact List.mem_cons.mpr (.inl q)
    · rcases mem_unlA x m a q with r | r
      · exact List.mem_cons.mpr (.inl r)
      · exact List.mem_cons_of_mem _ r
theorem unl_le {α : Type} [DecidableEq α] (l : List α) : (unl l).length ≤ l.length := by
  have h : ∀ (m : List α) (p : α), (unlA p m).length ≤ m.length := by
    intro m
    induction m with
    | nil => intro p; simp [unlA]
    | cons b m ih =>
      intro p
      unfold unlA
      split
      · exact Nat.le_trans (ih b) (by simp)
      · simp only [List.length_cons]; exact Nat.succ_le_succ (ih b)
  cases l with
  | nil => simp [unl]
  | cons a m => simp only [unl, List.length_cons]; exact Nat.succ_le_succ (h m a)
theorem unl_last {α : Type} [DecidableEq α] (l : List α) : (unl l).getLast? = l.getLast? := by
  have h : ∀ (m : List α) (p : α), (p :: unlA p m).getLast? = (p :: m).getLast? := by
    intro m
    induction m with
    | nil => intro p; rfl
    | cons b m ih =>
      intro p
      unfold unlA
      by_cases c : b = p
      · rw [if_pos c, c]
        have := ih p
        rw [this]
        simp [List.getLast?_cons]
      · rw [if_neg c]
        have := ih b
        rw [List.getLast?_cons_cons, this, List.getLast?_cons_cons]
  cases l with
  | nil => rfl
  | cons a m => exact h m a
theorem rank_lc {α : Type} [DecidableEq α] {k : Nat} {e : α → D} (h : Emb k e) (hk : k ≤ 58) {elt : EM} (he : elt = eP (pIndex (pV 1) (pV 2))) {l u : List α} (hu : ∀ a ∈ l, a ∈ u) (hl : l.length ≤ 100000) {U : T} (hU : U.d = .lst (u.map e)) {e0 : Option T} :
    lcL [2] (bName 2) tAll elt ((l.map e).map T.sh) [] [e0, some U, none] = .ok ((l.map fun a => ((u.idxOf a : Nat) : Int)).map ig) [e0, some U, none] := by
  have := lcL_xs (slots := [2]) (b := bName 2) (elt := elt) (ρ := [e0, some U, none]) (fun a => T.sh (e a)) (fun a => si ((u.idxOf a : Nat) : Int)) (xs := l) (acc := []) (fun a ha => by
    have hx := h.index (by omega) (hu a ha)
    refine ⟨[e0, some U, some (.sh (e a))], [e0, some U, some (.sh (e a))], rfl, ?_, rfl⟩
    subst he
    have hx' : oIndex U.d (e a) = some (.int (u.idxOf a : Nat)) := by rw [hU]; exact hx
    simp [hx']) (by simp; unfold lim; omega)
  rw [List.map_map, List.map_map]
  exact this
theorem law_ranks_ok {α : Type} [DecidableEq α] {k : Nat} {e : α → D} (h : Emb k e) (hk : k ≤ 58) {l : List α} (hl : l.length ≤ 1000) : F_law_ranks [.sh (.lst (l.map e))] = .ok (T.ints (rkE e l)) [.sh (.lst (l.map e))] := by
  have hs : sortT [.sh (.lst (l.map e))] = some (.ol (((srtE e l).map e).map T.sh)) := by
    show (if SrtOk (l.map e) then some (T.ol ((srtD (l.map e)).map .sh)) else none) = _
    rw [if_pos (h.srtOk (by omega) l), srtE_map]
  have hsl : (srtE e l).length = l.length := (srtE_perm e l).length_eq
  have hu := unl_ok e (h.ne (by omega)) (l := srtE e l) (by omega)
  have hd : dl ((unl (srtE e l)).map fun a => T.sh (e a)) = (unl (srtE e l)).map e := by rw [dl_eq, List.map_map]; rfl
  have hlc := rank_lc h hk (elt := x_law_ranks_1) rfl (l := l) (u := unl (srtE e l)) (fun a ha => mem_unl ((srtE_perm e l).mem_iff.mpr ha)) (by omega) (U := .ol ((unl (srtE e l)).map fun a => T.sh (e a))) (by show D.lst _ = _; rw [hd]) (e0 := some (.sh (.lst (l.map e))))
  have hr : (l.map fun a => (((unl (srtE e l)).idxOf a : Nat) : Int)) = rkE e l := rfl
  rw [hr] at hlc
  have hdd : dl (((srtE e l).map e).map T.sh) = (srtE e l).map e := by rw [dl_eq, List.map_map]; exact List.map_id'' (fun _ => rfl) _
  generalize rkE e l = R at *
  generalize (unl (srtE e l)).map (fun a => T.sh (e a)) = UL at *
  generalize (srtE e l).map e = SE at *
  generalize l.map e = LE at *
  try simp at hlc
  simp [F_law_ranks, m_law_ranks, hs, hdd, hu, hlc]
theorem atI_lastE {α : Type} (l : List α) (a : α) : atI (l ++ [a]) (-1) = some a := by
  unfold atI ixN
  rw [if_neg (by omega), if_pos (by simp; omega)]
  have h : (-1 + (((l ++ [a]).length : Nat) : Int)).toNat = l.length := by simp; omega
  show (l ++ [a])[(-1 + (((l ++ [a]).length : Nat) : Int)).toNat]? = some a
  rw [h]
  simp
theorem unl_loop {α : Type} [DecidableEq α] {k : Nat} {e : α → D} (h : Emb k e) (hk : k ≤ 58) {e0 : Option T} : ∀ (s p : List α) (e2 : Option T), p.length + s.length ≤ 100000 →
    ∃ j2, forL (bName 2) b_ranks_of_2 ((s.map e).map T.sh) [e0, some (.ol ((unl p).map fun a => T.sh (e a))), e2] = .nx [e0, some (.ol ((unl (p ++ s)).map fun a => T.sh (e a))), j2]
  | [], p, e2, _ => ⟨e2, by rw [List.append_nil]; rfl⟩
  | a :: s, p, e2, hz => by
    simp only [List.length_cons] at hz
    obtain ⟨j2, ih⟩ := unl_loop h hk (e0 := e0) s (p ++ [a]) (some (.sh (e a))) (by simp; omega)
    refine ⟨j2, ?_⟩
    rw [List.append_assoc] at ih
    have hlt : (unl p).length < lim := by have := unl_le p; unfold lim; omega
    have hlast := unl_last p
    have hsn := unl_snoc a p
    have es : b_ranks_of_2 [e0, some (.ol ((unl p).map fun a => T.sh (e a))), some (.sh (e a))] = .nx [e0, some (.ol ((unl (p ++ [a])).map fun a => T.sh (e a))), some (.sh (e a))] := by
      rw [hsn, ← hlast]
      cases hm : (unl p).getLast? with
      | none =>
        rw [List.getLast?_eq_none_iff] at hm
        rw [hm]
        simp [b_ranks_of_2, D.truth]
      | some z =>
        rw [List.getLast?_eq_some_iff] at hm
        obtain ⟨m, hm⟩ := hm
        rw [hm] at hlt ⊢
        have hat : atI ((m.map e) ++ [e z]) (-1) = some (e z) := atI_lastE _ _
        have hne := h.ne (by omega) z a
        have hdm : dl (m.map fun a => T.sh (e a)) = m.map e := by rw [dl_eq, List.map_map]; rfl
        have hdd : dl ((m.map fun a => T.sh (e a)) ++ [T.sh (e z)]) = m.map e ++ [e z] := by
          rw [dl_eq, List.map_append, ← dl_eq, hdm]
          rfl
        have htr : (D.lst (m.map e ++ [e z])).truth = some true := by
          show some (!(m.map e ++ [e z]).isEmpty) = _
          cases m <;> rfl
        have hll : (m.map fun a => T.sh (e a)).length + 1 < lim := by
          rw [List.length_map]
          rw [List.length_append] at hlt
          exact hlt
        rw [List.map_append, List.map_append]
        generalize m.map e = ME at *
        by_cases c : z = a
        · subst c
          simp at hne
          generalize hMT : (m.map fun a => T.sh (e a)) = MT at *
          simp [b_ranks_of_2, hdd, htr, hat, hne]
          exact hMT.symm
        · have c2 : ¬ some z = some a := fun q => c (Option.some.inj q)
          rw [if_neg c2]
          simp [c] at hne
          generalize hMT : (m.map fun a => T.sh (e a)) = MT at *
          simp [b_ranks_of_2, hdd, htr, hat, hne, hll]
          exact hMT.symm
    rw [List.map_cons, List.map_cons]
    unfold forL
    show (match b_ranks_of_2 [e0, some (.ol ((unl p).map fun a => T.sh (e a))), some (.sh (e a))] with | .nx ρ => _ | .ct ρ => _ | .bk ρ => _ | r => r) = _
    rw [es]
    exact ih
theorem ranks_ok {α : Type} [DecidableEq α] {k : Nat} {e : α → D} (h : Emb k e) (hk : k ≤ 58) {l : List α} (hl : l.length ≤ 1000) : F_ranks_of [.sh (.lst (l.map e))] = .ok (T.ints (rkE e l)) [.sh (.lst (l.map e))] := by
  have hs : sortT [.sh (.lst (l.map e))] = some (.ol (((srtE e l).map e).map T.sh)) := by
    show (if SrtOk (l.map e) then some (T.ol ((srtD (l.map e)).map .sh)) else none) = _
    rw [if_pos (h.srtOk (by omega) l), srtE_map]
  have hsl : (srtE e l).length = l.length := (srtE_perm e l).length_eq
  obtain ⟨j2, hu⟩ := unl_loop h hk (e0 := some (.sh (.lst (l.map e)))) (srtE e l) [] none (by simp; omega)
  rw [List.nil_append] at hu
  have hu0 : (unl ([] : List α)).map (fun a => T.sh (e a)) = [] := rfl
  rw [hu0] at hu
  have hd : dl ((unl (srtE e l)).map fun a => T.sh (e a)) = (unl (srtE e l)).map e := by rw [dl_eq, List.map_map]; rfl
  have hlc := rank_lc h hk (elt := x_ranks_of_1) rfl (l := l) (u := unl (srtE e l)) (fun a ha => mem_unl ((srtE_perm e l).mem_iff.mpr ha)) (by omega) (U := .ol ((unl (srtE e l)).map fun a => T.sh (e a))) (by show D.lst _ = _; rw [hd]) (e0 := some (.sh (.lst (l.map e))))
  have hr : (l.map fun a => (((unl (srtE e l)).idxOf a : Nat) : Int)) = rkE e l := rfl
  rw [hr] at hlc
  have hdd : dl (((srtE e l).map e).map T.sh) = (srtE e l).map e := by rw [dl_eq, List.map_map]; exact List.map_id'' (fun _ => rfl) _
  generalize rkE e l = R at *
  generalize (unl (srtE e l)).map (fun a => T.sh (e a)) = UL at *
  generalize (srtE e l).map e = SE at *
  generalize l.map e = LE at *
  try simp at hlc hu
  simp [F_ranks_of, m_ranks_of, hs, hdd, hu, hlc]
theorem rk_len {α : Type} [DecidableEq α] (e : α → D) (l : List α) : (rkE e l).length = l.length := List.length_map ..
theorem rk_at {α : Type} [DecidableEq α] {e : α → D} {l : List α} {i : Nat} (h : i < l.length) : (rkE e l).getD i 0 = (((unl (srtE e l)).idxOf l[i] : Nat) : Int) := by
  rw [getD_at (by rw [rk_len]; exact h)]
  simp [rkE]
end
end Cl

set_option maxHeartbeats 2000000
namespace Cl
noncomputable section
open PySem L2 Z
def x_first_colours_1 : EM := (eGet (vIx (vV 7) (pV 5)))
def x_first_colours_2 : EM := (eLst (eCons (eGet (vIx (vIx (vV 4) (pV 5)) (pV 5))) (eCons (eP (pCB (o1 oSum) (aCons (pOp oIx (pV 4) (pV 5)) aNil))) (eCons (eCB (cS (o1 oSum)) (eCons (eLC [7] (iE (eV 4)) (bName 7) tAll x_first_colours_1) eNil)) eNil))))
def x_first_colours_3 : EM := (eLst (eCons (eIf (eT (pB (pOp (oInB false) (pV 5) (pV 3)))) (eP (pIndex (pV 3) (pV 5))) (eP (pUn oNeg (pC (.int 1))))) eNil))
def t_first_colours_4 : EMb := (eT (pB (pOp (oInB false) (pV 5) (pV 6))))
def x_first_colours_5 : EM := (eP (pCB (o1 oLen) (aCons (pV 6) aNil)))
def x_first_colours_6 : EM := (eCB sortO (eCons (eLC [6] (iE (eV 3)) (bName 6) t_first_colours_4 x_first_colours_5) eNil))
def x_first_colours_7 : EM := (eLst (eCons (eV 6) eNil))
def m_first_colours : SM := (mSeq (mUnp (bTup [2, 3]) (eV 1)) (mSeq (mIf (eT (pB (pOp oEq (pV 2) (pC (.str "colours"))))) (mRet (eLC [6] (iE (eV 3)) (bName 6) tAll x_first_colours_7)) mNil) (mSeq (mIf (eT (pB (pOp oEq (pV 2) (pC (.str "sets"))))) (mRet (eLC [5] (iR1 (eCons (eV 0) eNil)) (bName 5) tAll x_first_colours_6)) mNil) (mSeq (mIf (eT (pB (pOp oEq (pV 2) (pC (.str "row"))))) (mRet (eLC [5] (iR1 (eCons (eV 0) eNil)) (bName 5) tAll x_first_colours_3)) mNil) (mSeq (mSet 4 (eFz (eCall 1 F_arcs_of (eCons (eV 1) eNil)))) (mRet (eLC [5] (iR1 (eCons (eV 0) eNil)) (bName 5) tAll x_first_colours_2)))))))
def F_first_colours : FM := mFun 2 8 m_first_colours
/-! ### the colours at the beginning -/
def fgL (M : List (List Int)) (x : Int) : List Int := [entM M x x, (rowAt M x).sum, (M.map fun r => r.getD x.toNat 0).sum]
def fsL (L : List (List Int)) (x : Int) : List Int := isrt ((L.filter fun s => decide (x ∈ s)).map fun s => (s.length : Int))
def frL (r : List Int) (x : Int) : List Int := [if x ∈ r then (r.idxOf x : Int) else -1]
def firstL (n : Nat) : Th → List (List Int)
  | .col l => l.map fun x => [x]
  | .gr m => (iota n).map (fgL m)
  | .se L => (iota n).map (fsL L)
  | .tu p => (iota n).map (fgL (arcM p))
  | .ro r => (iota n).map (frL r)
theorem intsOf_map : ∀ l : List Int, intsOf (l.map D.int) = some l
  | [] => rfl
  | i :: l => by
    have := intsOf_map l
    simp [intsOf, this]
theorem oSum_ints (l : List Int) : oSum (D.ints l) = some (.int l.sum) := by
  show (intsOf (l.map D.int)).map (fun bs => D.int bs.sum) = _
  rw [intsOf_map]; rfl
theorem col_lc {i j : Nat} {elt : EM} (he : elt = eGet (vIx (vV i) (pV j))) {n : Nat} (hn : n ≤ 1000) {M : List (List Int)} (h : M.length = n ∧ ∀ r ∈ M, r.length = n) {x : Int} (x0 : 0 ≤ x) (x1 : x < n) {ρ : Z.Env} (hi : ρ[i]? = some none) (hj : ρ[j]? = some (some (si x))) (hij : i ≠ j) :
    lcL [i] (bName i) tAll elt ((M.map D.ints).map T.sh) [] ρ = .ok ((M.map fun r => r.getD x.toNat 0).map ig) ρ := by
  rw [List.map_map, List.map_map]
  refine lcL_xs (slots := [i]) (b := bName i) (fun r => T.sh (D.ints r)) (fun r => ig (r.getD x.toNat 0)) (xs := M) (acc := []) (fun r hr => ⟨ρ.set i (some (.sh (D.ints r))), ρ.set i (some (.sh (D.ints r))), rfl, ?_, wipe_one hi⟩) (by simp; unfold lim; omega)
  have hl := h.2 r hr
  have hil : i < ρ.length := (List.getElem?_eq_some_iff.mp hi).1
  have a1 := atI_T r x0 (by omega)
  have b1 : (ρ.set i (some (.sh (D.ints r))))[j]? = some (some (si x)) := by rw [List.getElem?_set_ne hij]; exact hj
  have b2 : (ρ.set i (some (.sh (D.ints r))))[i]? = some (some (.sh (D.ints r))) := List.getElem?_set_self hil
  subst he
  simp at a1
  simp [b1, b2, a1]
theorem fm_lc {n : Nat} (hn : n ≤ 100) {M : List (List Int)} (h : M.length = n ∧ ∀ r ∈ M, r.length = n) {e0 e1 e2 e3 : Option T} :
    lcL [5] (bName 5) tAll x_first_colours_2 ((iota n).map ig) [] [e0, e1, e2, e3, some (.sh (.lst (M.map D.ints))), none, none, none] = .ok (((iota n).map (fgL M)).map T.ints) [e0, e1, e2, e3, some (.sh (.lst (M.map D.ints))), none, none, none] := by
  rw [List.map_map]
  refine lcL_T (slots := [5]) (b := bName 5) (fun x => T.ints (fgL M x)) (fun x hx => ?_) (by simp; unfold lim; omega)
  obtain ⟨x0, x1⟩ := mem_iota.mp hx
  refine ⟨[e0, e1, e2, e3, some (.sh (.lst (M.map D.ints))), some (si x), none, none], [e0, e1, e2, e3, some (.sh (.lst (M.map D.ints))), some (si x), none, none], rfl, ?_, rfl⟩
  obtain ⟨r, a1, a2, a3, a4⟩ := mat_at h ⟨x0, x1⟩ ⟨x0, x1⟩
  have hc := col_lc (i := 7) (j := 5) (elt := x_first_colours_1) rfl (n := n) (by omega) h x0 x1 (ρ := [e0, e1, e2, e3, some (.sh (.lst (M.map D.ints))), some (si x), none, none]) rfl rfl (by decide)
  have hr : r = rowAt M x := by
    have h1 := rowAt_at (rows := M) x0 (by rw [h.1]; exact x1)
    rw [h1] at a3
    have := Option.some.inj a3
    exact (embL embI).inj (a := r) (b := rowAt M x) this.symm
  have s1 := oSum_ints r
  have s2 := oSum_ints (M.map fun r => r.getD x.toNat 0)
  have e : fgL M x = [entM M x x, r.sum, (M.map fun r => r.getD x.toNat 0).sum] := by rw [hr]; rfl
  rw [e]
  generalize entM M x x = z at *
  generalize r.sum = z2 at *
  generalize (M.map fun r => r.getD x.toNat 0).sum = z3 at *
  generalize (M.map fun r => r.getD x.toNat 0) = C at *
  clear e hr
  generalize M.map D.ints = MD at *
  simp only [D.ints] at a1 a2 a3 a4 s1 s2
  generalize r.map D.int = RD at *
  try simp at a1 a2 a3 a4 hc s1 s2
  simp [x_first_colours_2, a1, a2, a3, a4, hc, s1, s2]
theorem set_lc {i j : Nat} {tst : EMb} {elt : EM} (ht : tst = eT (pB (pOp (oInB false) (pV j) (pV i)))) (he : elt = eP (pCB (o1 oLen) (aCons (pV i) aNil))) {L : List (List Int)} (hL : L.length ≤ 60) {x : Int} {ρ : Z.Env} (hi : ρ[i]? = some none) (hj : ρ[j]? = some (some (si x))) (hij : i ≠ j) :
    lcL [i] (bName i) tst elt ((L.map D.ints).map T.sh) [] ρ = .ok (((L.filter fun s => decide (x ∈ s)).map fun s => (s.length : Int)).map ig) ρ := by
  rw [List.map_map, List.map_map]
  refine lcL_fl (slots := [i]) (b := bName i) (fun s => T.sh (D.ints s)) (fun s => ig (s.length : Int)) (fun s => decide (x ∈ s)) (xs := L) (acc := []) (fun s hs => ⟨ρ.set i (some (.sh (D.ints s))), rfl, ?_, fun _ => ?_, wipe_one hi⟩) (by simp; unfold lim; omega)
  · have hil : i < ρ.length := (List.getElem?_eq_some_iff.mp hi).1
    have b1 : (ρ.set i (some (.sh (D.ints s))))[j]? = some (some (si x)) := by rw [List.getElem?_set_ne hij]; exact hj
    have b2 : (ρ.set i (some (.sh (D.ints s))))[i]? = some (some (.sh (D.ints s))) := List.getElem?_set_self hil
    have q := in_ints x s
    subst ht
    generalize D.ints s = y at *
    simp [b1, b2, q]
  · have hil : i < ρ.length := (List.getElem?_eq_some_iff.mp hi).1
    have b2 : (ρ.set i (some (.sh (D.ints s))))[i]? = some (some (.sh (D.ints s))) := List.getElem?_set_self hil
    have q : oLen (D.ints s) = some (.int (s.length : Nat)) := by simp
    subst he
    generalize D.ints s = y at *
    simp [b2, q]
theorem first_ok {n : Nat} (hn : n ≤ 100) {w : Th} (h : w.ok n) : F_first_colours [si n, .sh w.d] = .ok (.ol ((firstL n w).map T.ints)) [si n, .sh w.d] := by
  have hi := inR_nat (n := n) (by omega)
  cases w with
  | col l =>
    have h : l.length = n := h
    have q1 := eq_ss so_colours so_colours
    have hc := lcL_xs (slots := [6]) (b := bName 6) (elt := x_first_colours_7) (ρ := [some (si n), some (.sh (Th.col l).d), some (.sh (.str "colours")), some (shi l), none, none, none, none]) ig (fun x => T.ints [x]) (xs := l) (acc := []) (fun x hx => ⟨[some (si n), some (.sh (Th.col l).d), some (.sh (.str "colours")), some (shi l), none, none, some (si x), none], [some (si n), some (.sh (Th.col l).d), some (.sh (.str "colours")), some (shi l), none, none, some (si x), none], rfl, by simp [x_first_colours_7], rfl⟩) (by simp; unfold lim; omega)
    have e : (l.map fun x => T.ints [x]) = (firstL n (.col l)).map T.ints := by show _ = (l.map _).map _; rw [List.map_map]; rfl
    rw [e] at hc
    generalize (firstL n (.col l)).map T.ints = R at hc ⊢
    simp [Th.d, Th.kn, Th.vd] at hc
    simp [F_first_colours, m_first_colours, Th.d, Th.kn, Th.vd, q1, hc]
  | se L =>
    have q1 := eq_ss so_sets so_colours
    have q2 := eq_ss so_sets so_sets
    rw [decide_eq_false (show ¬ ("sets" : Str) = "colours" by decide)] at q1
    have hc := lcL_T (slots := [5]) (b := bName 5) (elt := x_first_colours_6) (ρ := [some (si n), some (.sh (Th.se L).d), some (.sh (.str "sets")), some (.sh (.lst (L.map D.ints))), none, none, none, none]) (fun x => T.ints (fsL L x)) (p := iota n) (fun x hx => by
      refine ⟨[some (si n), some (.sh (Th.se L).d), some (.sh (.str "sets")), some (.sh (.lst (L.map D.ints))), none, some (si x), none, none], [some (si n), some (.sh (Th.se L).d), some (.sh (.str "sets")), some (.sh (.lst (L.map D.ints))), none, some (si x), none, none], rfl, ?_, rfl⟩
      have hs := set_lc (i := 6) (j := 5) (tst := t_first_colours_4) (elt := x_first_colours_5) rfl rfl (L := L) h.2.2 (x := x) (ρ := [some (si n), some (.sh (Th.se L).d), some (.sh (.str "sets")), some (.sh (.lst (L.map D.ints))), none, some (si x), none, none]) rfl rfl (by decide)
      have hso := sortO_ints ((L.filter fun s => decide (x ∈ s)).map fun s => (s.length : Int))
      have e : fsL L x = isrt ((L.filter fun s => decide (x ∈ s)).map fun s => (s.length : Int)) := rfl
      rw [e]
      generalize ((L.filter fun s => decide (x ∈ s)).map fun s => (s.length : Int)) = Q at *
      generalize L.map D.ints = MD at *
      generalize (Th.se L).d = y at *
      try simp at hs hso
      simp [x_first_colours_6, hs, hso]) (by simp; unfold lim; omega)
    have e : ((iota n).map fun x => T.ints (fsL L x)) = (firstL n (.se L)).map T.ints := by show _ = ((iota n).map _).map _; rw [List.map_map]; rfl
    rw [e] at hc
    generalize (firstL n (.se L)).map T.ints = R at hc ⊢
    simp only [Th.d, Th.kn, Th.vd] at hc ⊢
    generalize L.map D.ints = MD at *
    try simp at hc
    simp [F_first_colours, m_first_colours, q1, q2, hi, hc]
  | ro r =>
    have q1 := eq_ss so_row so_colours
    have q2 := eq_ss so_row so_sets
    have q3 := eq_ss so_row so_row
    rw [decide_eq_false (show ¬ ("row" : Str) = "colours" by decide)] at q1
    rw [decide_eq_false (show ¬ ("row" : Str) = "sets" by decide)] at q2
    have hc := lcL_T (slots := [5]) (b := bName 5) (elt := x_first_colours_3) (ρ := [some (si n), some (.sh (Th.ro r).d), some (.sh (.str "row")), some (.sh (D.ints r)), none, none, none, none]) (fun x => T.ints (frL r x)) (p := iota n) (fun x hx => by
      refine ⟨[some (si n), some (.sh (Th.ro r).d), some (.sh (.str "row")), some (.sh (D.ints r)), none, some (si x), none, none], [some (si n), some (.sh (Th.ro r).d), some (.sh (.str "row")), some (.sh (D.ints r)), none, some (si x), none, none], rfl, ?_, rfl⟩
      have q := in_ints x r
      by_cases c : x ∈ r
      · have qx : oIndex (D.ints r) (.int x) = some (.int (r.idxOf x : Nat)) := embI.index (by omega) c
        have e : frL r x = [((r.idxOf x : Nat) : Int)] := by unfold frL; rw [if_pos c]
        rw [decide_eq_true c] at q
        rw [e]
        generalize (Th.ro r).d = y at *
        generalize D.ints r = z at *
        simp [x_first_colours_3, q, qx]
      · have e : frL r x = [-1] := by unfold frL; rw [if_neg c]
        rw [decide_eq_false c] at q
        rw [e]
        generalize (Th.ro r).d = y at *
        generalize D.ints r = z at *
        simp [x_first_colours_3, q]) (by simp; unfold lim; omega)
    have e : ((iota n).map fun x => T.ints (frL r x)) = (firstL n (.ro r)).map T.ints := by show _ = ((iota n).map _).map _; rw [List.map_map]; rfl
    rw [e] at hc
    generalize (firstL n (.ro r)).map T.ints = R at hc ⊢
    simp [Th.d, Th.kn, Th.vd] at hc
    simp [F_first_colours, m_first_colours, Th.d, Th.kn, Th.vd, q1, q2, q3, hi, hc]
  | gr m =>
    have h : Bin n m := h
    have q1 := eq_ss so_graph so_colours
    have q2 := eq_ss so_graph so_sets
    have q3 := eq_ss so_graph so_row
    rw [decide_eq_false (show ¬ ("graph" : Str) = "colours" by decide)] at q1
    rw [decide_eq_false (show ¬ ("graph" : Str) = "sets" by decide)] at q2
    rw [decide_eq_false (show ¬ ("graph" : Str) = "row" by decide)] at q3
    have ha := arcs_gr m
    have hc := fm_lc hn (M := m) ⟨h.1, fun r hr => (h.2 r hr).1⟩ (e0 := some (si n)) (e1 := some (.sh (Th.gr m).d)) (e2 := some (.sh (.str "graph"))) (e3 := some (.sh (.lst (m.map D.ints))))
    show F_first_colours _ = .ok (.ol (((iota n).map (fgL m)).map T.ints)) _
    generalize ((iota n).map (fgL m)).map T.ints = R at hc ⊢
    simp only [Th.d, Th.kn, Th.vd] at hc ha ⊢
    generalize m.map D.ints = MD at *
    try simp at hc
    try simp at ha
    simp [F_first_colours, m_first_colours, q1, q2, q3, hi, ha, hc]
  | tu p =>
    have h : Turn n p := h
    have q1 := eq_ss so_turning so_colours
    have q2 := eq_ss so_turning so_sets
    have q3 := eq_ss so_turning so_row
    rw [decide_eq_false (show ¬ ("turning" : Str) = "colours" by decide)] at q1
    rw [decide_eq_false (show ¬ ("turning" : Str) = "sets" by decide)] at q2
    rw [decide_eq_false (show ¬ ("turning" : Str) = "row" by decide)] at q3
    have ha := arcs_tu hn h.len
    have hd := dl_shr (arcM p)
    have hb := arc_bin h.len
    have hc := fm_lc hn (M := arcM p) ⟨hb.1, fun r hr => (hb.2 r hr).1⟩ (e0 := some (si n)) (e1 := some (.sh (Th.tu p).d)) (e2 := some (.sh (.str "turning"))) (e3 := some (.sh (D.ints p)))
    show F_first_colours _ = .ok (.ol (((iota n).map (fgL (arcM p))).map T.ints)) _
    generalize ((iota n).map (fgL (arcM p))).map T.ints = R at hc ⊢
    generalize ((arcM p).map fun r => T.sh (D.ints r)) = A at *
    generalize (arcM p).map D.ints = MD at *
    simp only [Th.d, Th.kn, Th.vd] at hc ha ⊢
    try simp at hc
    try simp at ha
    simp [F_first_colours, m_first_colours, q1, q2, q3, hi, ha, hc, hd]
end
end Cl

set_option maxHeartbeats 2000000
namespace Cl
noncomputable section
open PySem L2 Z
def x_law_begin_1 : EM := (eGet (vIx (vV 8) (pV 5)))
def x_law_begin_2 : EM := (eFz (eLst (eCons (eGet (vIx (vIx (vV 4) (pV 5)) (pV 5))) (eCons (eP (pCB (o1 oSum) (aCons (pOp oIx (pV 4) (pV 5)) aNil))) (eCons (eCB (cS (o1 oSum)) (eCons (eLC [8] (iE (eV 4)) (bName 8) tAll x_law_begin_1) eNil)) eNil)))))
def x_law_begin_3 : EM := (eP (pCB (o1 oInt) (aCons (pOp oEq (pV 7) (pOp oIx (pV 3) (pV 5))) aNil)))
def x_law_begin_4 : EM := (eFz (eLC [7] (iR1 (eCons (eV 1) eNil)) (bName 7) tAll x_law_begin_3))
def t_law_begin_5 : EMb := (eT (pB (pOp oEq (pOp oIx (pV 3) (pV 9)) (pV 5))))
def x_law_begin_6 : EM := (eV 9)
def x_law_begin_7 : EM := (eFz (eLst (eCons (eCB (cS (o1 oMaxL)) (eCons (eOp eAddT (eLst (eCons (eP (pUn oNeg (pC (.int 1)))) eNil)) (eLC [9] (iR1 (eCons (eP (pCB (o1 oLen) (aCons (pV 3) aNil))) eNil)) (bName 9) t_law_begin_5 x_law_begin_6)) eNil)) eNil)))
def t_law_begin_8 : EMb := (eT (pB (pOp (oInB false) (pV 5) (pV 6))))
def x_law_begin_9 : EM := (eP (pCB (o1 oLen) (aCons (pV 6) aNil)))
def x_law_begin_10 : EM := (eFz (eCB sortT (eCons (eLC [6] (iE (eV 3)) (bName 6) t_law_begin_8 x_law_begin_9) eNil)))
def x_law_begin_11 : EM := (eFz (eLst (eCons (eV 6) eNil)))
def m_law_begin : SM := (mSeq (mUnp (bTup [2, 3]) (eV 0)) (mSeq (mIf (eT (pB (pOp oEq (pV 2) (pC (.str "colours"))))) (mRet (eLC [6] (iE (eV 3)) (bName 6) tAll x_law_begin_11)) mNil) (mSeq (mIf (eT (pB (pOp oEq (pV 2) (pC (.str "sets"))))) (mRet (eLC [5] (iR1 (eCons (eV 1) eNil)) (bName 5) tAll x_law_begin_10)) mNil) (mSeq (mIf (eT (pB (pOp oEq (pV 2) (pC (.str "row"))))) (mRet (eLC [5] (iR1 (eCons (eV 1) eNil)) (bName 5) tAll x_law_begin_7)) mNil) (mSeq (mSet 4 (eFz (eV 3))) (mSeq (mIf (eT (pB (pOp oEq (pV 2) (pC (.str "turning"))))) (mSet 4 (eFz (eLC [5] (iR1 (eCons (eV 1) eNil)) (bName 5) tAll x_law_begin_4))) mNil) (mRet (eLC [5] (iR1 (eCons (eV 1) eNil)) (bName 5) tAll x_law_begin_2))))))))
def F_law_begin : FM := mFun 2 10 m_law_begin
def Th.nd : Th → Prop
  | .ro r => r.Nodup
  | _ => True
theorem mt_lc {n : Nat} (hn : n ≤ 100) {M : List (List Int)} (h : M.length = n ∧ ∀ r ∈ M, r.length = n) {e0 e1 e2 e3 : Option T} :
    lcL [5] (bName 5) tAll x_law_begin_2 ((iota n).map ig) [] [e0, e1, e2, e3, some (.sh (.lst (M.map D.ints))), none, none, none, none, none] = .ok (((iota n).map (fgL M)).map fun r => T.sh (D.ints r)) [e0, e1, e2, e3, some (.sh (.lst (M.map D.ints))), none, none, none, none, none] := by
  rw [List.map_map]
  refine lcL_T (slots := [5]) (b := bName 5) (fun x => T.sh (D.ints (fgL M x))) (fun x hx => ?_) (by simp; unfold lim; omega)
  obtain ⟨x0, x1⟩ := mem_iota.mp hx
  refine ⟨[e0, e1, e2, e3, some (.sh (.lst (M.map D.ints))), some (si x), none, none, none, none], [e0, e1, e2, e3, some (.sh (.lst (M.map D.ints))), some (si x), none, none, none, none], rfl, ?_, rfl⟩
  obtain ⟨r, a1, a2, a3, a4⟩ := mat_at h ⟨x0, x1⟩ ⟨x0, x1⟩
  have hc := col_lc (i := 8) (j := 5) (elt := x_law_begin_1) rfl (n := n) (by omega) h x0 x1 (ρ := [e0, e1, e2, e3, some (.sh (.lst (M.map D.ints))), some (si x), none, none, none, none]) rfl rfl (by decide)
  have hr : r = rowAt M x := by
    have h1 := rowAt_at (rows := M) x0 (by rw [h.1]; exact x1)
    rw [h1] at a3
    have := Option.some.inj a3
    exact (embL embI).inj (a := r) (b := rowAt M x) this.symm
  have s1 := oSum_ints r
  have s2 := oSum_ints (M.map fun r => r.getD x.toNat 0)
  have e : fgL M x = [entM M x x, r.sum, (M.map fun r => r.getD x.toNat 0).sum] := by rw [hr]; rfl
  rw [e]
  generalize entM M x x = z at *
  generalize r.sum = z2 at *
  generalize (M.map fun r => r.getD x.toNat 0).sum = z3 at *
  generalize (M.map fun r => r.getD x.toNat 0) = C at *
  clear e hr
  generalize M.map D.ints = MD at *
  simp only [D.ints] at a1 a2 a3 a4 s1 s2
  generalize r.map D.int = RD at *
  try simp at a1 a2 a3 a4 hc s1 s2
  simp [x_law_begin_2, a1, a2, a3, a4, hc, s1, s2]
theorem idx_fl {r : List Int} (hr : r.Nodup) (x : Int) : ((iota r.length).filter fun k => decide (r.getD k.toNat 0 = x)) = if x ∈ r then [((r.idxOf x : Nat) : Int)] else [] := by
  by_cases c : x ∈ r
  · rw [if_pos c]
    have hlt := List.idxOf_lt_length_iff.mpr c
    have hnd : ((iota r.length).filter fun k => decide (r.getD k.toNat 0 = x)).Nodup := (nd_iota _).sublist List.filter_sublist
    have hp : ((iota r.length).filter fun k => decide (r.getD k.toNat 0 = x)).Perm [((r.idxOf x : Nat) : Int)] := by
      refine (List.perm_ext_iff_of_nodup hnd (by simp)).mpr fun k => ?_
      rw [List.mem_filter, mem_iota, List.mem_singleton, decide_eq_true_eq]
      constructor
      · rintro ⟨⟨k0, k1⟩, e⟩
        rw [getD_at (by omega)] at e
        have : r.idxOf x = k.toNat := by rw [← e]; exact hr.idxOf_getElem _ _
        omega
      · rintro rfl
        refine ⟨⟨by omega, by omega⟩, ?_⟩
        rw [Int.toNat_natCast, getD_at hlt]
        exact List.getElem_idxOf hlt
    exact List.perm_singleton.mp hp
  · rw [if_neg c, List.filter_eq_nil_iff]
    intro k hk
    rw [mem_iota] at hk
    rw [decide_eq_true_eq, getD_at (by omega)]
    exact fun e => c (e ▸ List.getElem_mem _)
theorem max_fr {r : List Int} (x : Int) : oMaxL (D.ints (-1 :: if x ∈ r then [((r.idxOf x : Nat) : Int)] else [])) = some (.int (if x ∈ r then (r.idxOf x : Int) else -1)) := by
  show ((intsOf ((-1 :: if x ∈ r then [((r.idxOf x : Nat) : Int)] else []).map D.int)).bind fun bs => if 0 < bs.length then some (D.int (maxI bs)) else none) = _
  rw [intsOf_map]
  by_cases c : x ∈ r
  · rw [if_pos c, if_pos c]
    have h : maxI [-1, ((r.idxOf x : Nat) : Int)] = (r.idxOf x : Int) := by
      show max (-1) ((r.idxOf x : Nat) : Int) = _
      omega
    simp [h]
  · rw [if_neg c, if_neg c]
    simp [maxI]
theorem begin_ok {n : Nat} (hn : n ≤ 100) {w : Th} (h : w.ok n) (hd : w.nd) : F_law_begin [.sh w.d, si n] = .ok (.ol ((firstL n w).map fun r => T.sh (D.ints r))) [.sh w.d, si n] := by
  have hi := inR_nat (n := n) (by omega)
  cases w with
  | col l =>
    have h : l.length = n := h
    have q1 := eq_ss so_colours so_colours
    have hc := lcL_xs (slots := [6]) (b := bName 6) (elt := x_law_begin_11) (ρ := [some (.sh (Th.col l).d), some (si n), some (.sh (.str "colours")), some (shi l), none, none, none, none, none, none]) ig (fun x => T.sh (D.ints [x])) (xs := l) (acc := []) (fun x hx => ⟨[some (.sh (Th.col l).d), some (si n), some (.sh (.str "colours")), some (shi l), none, none, some (si x), none, none, none], [some (.sh (Th.col l).d), some (si n), some (.sh (.str "colours")), some (shi l), none, none, some (si x), none, none, none], rfl, by simp [x_law_begin_11], rfl⟩) (by simp; unfold lim; omega)
    have e : (l.map fun x => T.sh (D.ints [x])) = (firstL n (.col l)).map fun r => T.sh (D.ints r) := by show _ = (l.map _).map _; rw [List.map_map]; rfl
    rw [e] at hc
    generalize (firstL n (.col l)).map (fun r => T.sh (D.ints r)) = R at hc ⊢
    simp [Th.d, Th.kn, Th.vd] at hc
    simp [F_law_begin, m_law_begin, Th.d, Th.kn, Th.vd, q1, hc]
  | se L =>
    have q1 := eq_ss so_sets so_colours
    have q2 := eq_ss so_sets so_sets
    rw [decide_eq_false (show ¬ ("sets" : Str) = "colours" by decide)] at q1
    have hc := lcL_T (slots := [5]) (b := bName 5) (elt := x_law_begin_10) (ρ := [some (.sh (Th.se L).d), some (si n), some (.sh (.str "sets")), some (.sh (.lst (L.map D.ints))), none, none, none, none, none, none]) (fun x => T.sh (D.ints (fsL L x))) (p := iota n) (fun x hx => by
      refine ⟨[some (.sh (Th.se L).d), some (si n), some (.sh (.str "sets")), some (.sh (.lst (L.map D.ints))), none, some (si x), none, none, none, none], [some (.sh (Th.se L).d), some (si n), some (.sh (.str "sets")), some (.sh (.lst (L.map D.ints))), none, some (si x), none, none, none, none], rfl, ?_, rfl⟩
      have hs := set_lc (i := 6) (j := 5) (tst := t_law_begin_8) (elt := x_law_begin_9) rfl rfl (L := L) h.2.2 (x := x) (ρ := [some (.sh (Th.se L).d), some (si n), some (.sh (.str "sets")), some (.sh (.lst (L.map D.ints))), none, some (si x), none, none, none, none]) rfl rfl (by decide)
      have hso := sort_ints ((L.filter fun s => decide (x ∈ s)).map fun s => (s.length : Int))
      have e : fsL L x = isrt ((L.filter fun s => decide (x ∈ s)).map fun s => (s.length : Int)) := rfl
      rw [e]
      generalize ((L.filter fun s => decide (x ∈ s)).map fun s => (s.length : Int)) = Q at *
      generalize L.map D.ints = MD at *
      generalize (Th.se L).d = y at *
      try simp at hs hso
      simp [x_law_begin_10, hs, hso]) (by simp; unfold lim; omega)
    have e : ((iota n).map fun x => T.sh (D.ints (fsL L x))) = (firstL n (.se L)).map fun r => T.sh (D.ints r) := by show _ = ((iota n).map _).map _; rw [List.map_map]; rfl
    rw [e] at hc
    generalize (firstL n (.se L)).map (fun r => T.sh (D.ints r)) = R at hc ⊢
    simp only [Th.d, Th.kn, Th.vd] at hc ⊢
    generalize L.map D.ints = MD at *
    try simp at hc
    simp [F_law_begin, m_law_begin, q1, q2, hi, hc]
  | ro r =>
    have hrn : r.length ≤ n := h.2
    have q1 := eq_ss so_row so_colours
    have q2 := eq_ss so_row so_sets
    have q3 := eq_ss so_row so_row
    rw [decide_eq_false (show ¬ ("row" : Str) = "colours" by decide)] at q1
    rw [decide_eq_false (show ¬ ("row" : Str) = "sets" by decide)] at q2
    have hc := lcL_T (slots := [5]) (b := bName 5) (elt := x_law_begin_7) (ρ := [some (.sh (Th.ro r).d), some (si n), some (.sh (.str "row")), some (.sh (D.ints r)), none, none, none, none, none, none]) (fun x => T.sh (D.ints (frL r x))) (p := iota n) (fun x hx => by
      refine ⟨[some (.sh (Th.ro r).d), some (si n), some (.sh (.str "row")), some (.sh (D.ints r)), none, some (si x), none, none, none, none], [some (.sh (Th.ro r).d), some (si n), some (.sh (.str "row")), some (.sh (D.ints r)), none, some (si x), none, none, none, none], rfl, ?_, rfl⟩
      have hf := lcL_fl (slots := [9]) (b := bName 9) (tst := t_law_begin_5) (elt := x_law_begin_6) (ρ := [some (.sh (Th.ro r).d), some (si n), some (.sh (.str "row")), some (.sh (D.ints r)), none, some (si x), none, none, none, none]) ig ig (fun k => decide (r.getD k.toNat 0 = x)) (xs := iota r.length) (acc := []) (fun k hk => by
        obtain ⟨k0, k1⟩ := mem_iota.mp hk
        have ha := atI_D r k0 k1
        refine ⟨[some (.sh (Th.ro r).d), some (si n), some (.sh (.str "row")), some (.sh (D.ints r)), none, some (si x), none, none, none, some (si k)], rfl, ?_, fun _ => by simp [x_law_begin_6], rfl⟩
        generalize r.getD k.toNat 0 = z at ha ⊢
        generalize (Th.ro r).d = y at *
        by_cases c : z = x
        · subst c
          simp [t_law_begin_5, ha]
        · simp [t_law_begin_5, ha, c]) (by simp; unfold lim; omega)
      have hmx := max_fr (r := r) x
      have hir := inR_nat (n := r.length) (by omega)
      rw [idx_fl hd] at hf
      have e : frL r x = [if x ∈ r then (r.idxOf x : Int) else -1] := rfl
      rw [e]
      have hlen : ((if x ∈ r then [((r.idxOf x : Nat) : Int)] else []) : List Int).length ≤ 1 := by split <;> simp
      generalize (if x ∈ r then (r.idxOf x : Int) else -1) = z at *
      generalize ((if x ∈ r then [((r.idxOf x : Nat) : Int)] else []) : List Int) = Z at *
      generalize (Th.ro r).d = y at *
      have hl2 : Z.length + 1 ≤ lim := by unfold lim; omega
      have hadd : eAddT (T.ol [T.sh (D.int (-1))]) (T.ol (List.map ig Z)) = some (.ol ([T.sh (D.int (-1))] ++ List.map ig Z)) := addT_lst rfl rfl (by simp; unfold lim; omega)
      have hdd : dl ([T.sh (D.int (-1))] ++ List.map ig Z) = D.int (-1) :: Z.map D.int := by
        show D.int (-1) :: dl (Z.map ig) = _
        rw [dl_ig]
      generalize ([T.sh (D.int (-1))] ++ List.map ig Z) = ZZ at *
      simp only [D.ints, List.map_cons] at hmx
      generalize Z.map D.int = ZD at *
      try simp at hf
      try simp at hmx
      simp [x_law_begin_7, hir, hf, hmx, hadd, hdd]) (by simp; unfold lim; omega)
    have e : ((iota n).map fun x => T.sh (D.ints (frL r x))) = (firstL n (.ro r)).map fun r => T.sh (D.ints r) := by show _ = ((iota n).map _).map _; rw [List.map_map]; rfl
    rw [e] at hc
    generalize (firstL n (.ro r)).map (fun r => T.sh (D.ints r)) = R at hc ⊢
    simp [Th.d, Th.kn, Th.vd] at hc
    simp [F_law_begin, m_law_begin, Th.d, Th.kn, Th.vd, q1, q2, q3, hi, hc]
  | gr m =>
    have h : Bin n m := h
    have q1 := eq_ss so_graph so_colours
    have q2 := eq_ss so_graph so_sets
    have q3 := eq_ss so_graph so_row
    have q4 := eq_ss so_graph so_turning
    rw [decide_eq_false (show ¬ ("graph" : Str) = "colours" by decide)] at q1
    rw [decide_eq_false (show ¬ ("graph" : Str) = "sets" by decide)] at q2
    rw [decide_eq_false (show ¬ ("graph" : Str) = "row" by decide)] at q3
    rw [decide_eq_false (show ¬ ("graph" : Str) = "turning" by decide)] at q4
    have hc := mt_lc hn (M := m) ⟨h.1, fun r hr => (h.2 r hr).1⟩ (e0 := some (.sh (Th.gr m).d)) (e1 := some (si n)) (e2 := some (.sh (.str "graph"))) (e3 := some (.sh (.lst (m.map D.ints))))
    show F_law_begin _ = .ok (.ol (((iota n).map (fgL m)).map fun r => T.sh (D.ints r))) _
    generalize ((iota n).map (fgL m)).map (fun r => T.sh (D.ints r)) = R at hc ⊢
    simp only [Th.d, Th.kn, Th.vd] at hc ⊢
    generalize m.map D.ints = MD at *
    try simp at hc
    simp [F_law_begin, m_law_begin, q1, q2, q3, q4, hi, hc]
  | tu p =>
    have h : Turn n p := h
    have hpl := h.len
    have q1 := eq_ss so_turning so_colours
    have q2 := eq_ss so_turning so_sets
    have q3 := eq_ss so_turning so_row
    have q4 := eq_ss so_turning so_turning
    rw [decide_eq_false (show ¬ ("turning" : Str) = "colours" by decide)] at q1
    rw [decide_eq_false (show ¬ ("turning" : Str) = "sets" by decide)] at q2
    rw [decide_eq_false (show ¬ ("turning" : Str) = "row" by decide)] at q3
    have hd := dl_shr (arcM p)
    have hb := arc_bin h.len
    have hc := mt_lc hn (M := arcM p) ⟨hb.1, fun r hr => (hb.2 r hr).1⟩ (e0 := some (.sh (Th.tu p).d)) (e1 := some (si n)) (e2 := some (.sh (.str "turning"))) (e3 := some (.sh (D.ints p)))
    have hz : (iota n).length ≤ lim := by rw [iota_len]; unfold lim; omega
    have ha := lcL_T (slots := [5]) (b := bName 5) (elt := x_law_begin_4) (ρ := [some (.sh (Th.tu p).d), some (si n), some (.sh (.str "turning")), some (shi p), some (shi p), none, none, none, none, none]) (fun x => T.sh (D.ints ((iota n).map fun y => if y = p.getD x.toNat 0 then 1 else 0))) (p := iota n) (fun x hx => by
      obtain ⟨x0, x1⟩ := mem_iota.mp hx
      have ha := atI_D p x0 (by omega)
      refine ⟨[some (.sh (Th.tu p).d), some (si n), some (.sh (.str "turning")), some (shi p), some (shi p), some (si x), none, none, none, none], [some (.sh (Th.tu p).d), some (si n), some (.sh (.str "turning")), some (shi p), some (shi p), some (si x), none, none, none, none], rfl, ?_, rfl⟩
      generalize p.getD x.toNat 0 = one at ha ⊢
      have := lcL_ints (slots := [7]) (b := bName 7) (elt := x_law_begin_3) (ρ := [some (.sh (Th.tu p).d), some (si n), some (.sh (.str "turning")), some (shi p), some (shi p), some (si x), none, none, none, none]) (fun y => if y = one then 1 else 0) (p := iota n) (fun y hy => by
        refine ⟨[some (.sh (Th.tu p).d), some (si n), some (.sh (.str "turning")), some (shi p), some (shi p), some (si x), none, some (si y), none, none], [some (.sh (Th.tu p).d), some (si n), some (.sh (.str "turning")), some (shi p), some (shi p), some (si x), none, some (si y), none, none], rfl, ?_, rfl⟩
        by_cases c : y = one
        · subst c
          simp [x_law_begin_3, ha]
        · simp [x_law_begin_3, ha, c]) hz
      generalize ((iota n).map fun y => if y = one then (1 : Int) else 0) = R at this ⊢
      simp at this
      simp [x_law_begin_4, hi, this]) hz
    have e : ((iota n).map fun x => T.sh (D.ints ((iota n).map fun y => if y = p.getD x.toNat 0 then 1 else 0))) = (arcM p).map fun r => T.sh (D.ints r) := by
      unfold arcM
      rw [List.map_map, ← iota_map hpl, hpl]
      rfl
    rw [e] at ha
    show F_law_begin _ = .ok (.ol (((iota n).map (fgL (arcM p))).map fun r => T.sh (D.ints r))) _
    generalize ((iota n).map (fgL (arcM p))).map (fun r => T.sh (D.ints r)) = R at hc ⊢
    generalize ((arcM p).map fun r => T.sh (D.ints r)) = A at *
    generalize (arcM p).map D.ints = MD at *
    simp only [Th.d, Th.kn, Th.vd] at hc ha ⊢
    try simp at hc
    try simp at ha
    simp [F_law_begin, m_law_begin, q1, q2, q3, q4, hi, ha, hc, hd]
end
end Cl

set_option maxHeartbeats 2000000
namespace Cl
noncomputable section
open PySem L2 Z
/-! ### what stands around a place -/
def e3 (p : Int × Int × Int) : D := .tup [.int p.1, .int p.2.1, .int p.2.2]
theorem embE3 : Emb 1 e3 := by
  refine ⟨fun p => rfl, fun p q => rfl, fun p q => ?_, .inl fun p => ⟨_, _, rfl⟩⟩
  obtain ⟨a, b, c⟩ := p
  obtain ⟨a', b', c'⟩ := q
  show (a == a' && (b == b' && (c == c' && true))) = _
  by_cases x : a = a' <;> by_cases y : b = b' <;> by_cases z : c = c' <;> simp [x, y, z]
abbrev CG := Int × List (Int × Int × Int)
abbrev CS := Int × List (List Int)
def eG : CG → D := eT2 D.int (eL e3)
def eS : CS → D := eT2 D.int (eL (eL D.int))
theorem embG : Emb 3 eG := embT2 (embI.up (by omega)) (embL embE3)
theorem embS : Emb 3 eS := embT2 (embI.up (by omega)) (embL (embL embI))
def arG (n : Nat) (M : List (List Int)) (r : List Int) (x : Int) : List (Int × Int × Int) := srtE e3 (((iota n).filter fun y => decide (y ≠ x)).map fun y => (entM M x y, entM M y x, r.getD y.toNat 0))
def stG (n : Nat) (M : List (List Int)) (r : List Int) (x : Int) : CG := (r.getD x.toNat 0, arG n M r x)
theorem embR : Emb 1 D.ints := embL embI
def arS (L : List (List Int)) (r : List Int) (x : Int) : List (List Int) := srtE D.ints ((L.filter fun s => decide (x ∈ s)).map fun s => isrt (thenL s r))
def stS (L : List (List Int)) (r : List Int) (x : Int) : CS := (r.getD x.toNat 0, arS L r x)
theorem sortO_E {α : Type} [DecidableEq α] {k : Nat} {e : α → D} (h : Emb k e) (hk : k ≤ 59) {f : α → T} (hf : ∀ a, (f a).d = e a) (l : List α) : sortO [.ol (l.map f)] = some (.ol ((srtE e l).map f)) := by
  have e1 : srtT (l.map f) = (srtE e l).map f := by
    unfold srtT srtE
    refine (List.map_mergeSort (f := f) (r := leE e) (s := PySem.W.dataLe false fun t : T => t.d.py) fun a _ b _ => ?_).symm
    show PySem.W.dataLe false D.py (e a) (e b) = PySem.W.dataLe false (fun t : T => t.d.py) (f a) (f b)
    rw [← hf a, ← hf b]
    rfl
  have e2 : dl (l.map f) = l.map e := by rw [dl_eq, List.map_map]; exact List.map_congr_left fun a _ => hf a
  show (if SrtOk (dl (l.map f)) then some (T.ol (srtT (l.map f))) else none) = _
  rw [e2, if_pos (h.srtOk hk l), e1]
theorem sortT_E {α : Type} [DecidableEq α] {k : Nat} {e : α → D} (h : Emb k e) (hk : k ≤ 59) {f : α → T} (hf : ∀ a, (f a).d = e a) (l : List α) : sortT [.ol (l.map f)] = some (.ol (((srtE e l).map e).map T.sh)) := by
  have e2 : dl (l.map f) = l.map e := by rw [dl_eq, List.map_map]; exact List.map_congr_left fun a _ => hf a
  show (if SrtOk (dl (l.map f)) then some (T.ol ((srtD (dl (l.map f))).map .sh)) else none) = _
  rw [e2, if_pos (h.srtOk hk l), srtE_map]
def t3 (p : Int × Int × Int) : T := .ot [si p.1, si p.2.1, si p.2.2]
theorem t3_d (p : Int × Int × Int) : (t3 p).d = e3 p := rfl
theorem at_set {ρ : Z.Env} {i j : Nat} {o : Option T} {u : Option T} (hij : i ≠ j) (h : ρ[j]? = some o) : (ρ.set i u)[j]? = some o := by rw [List.getElem?_set_ne hij]; exact h
theorem gr_lc {m : Nat} {elt : EM} {tst : EMb} (ht : tst = eT (pB (pOp oNe (pV 9) (pV 7)))) (he : elt = eTup (eCons (eGet (vIx (vIx (vV m) (pV 7)) (pV 9))) (eCons (eGet (vIx (vIx (vV m) (pV 9)) (pV 7))) (eCons (eGet (vIx (vV 5) (pV 9))) eNil)))) {n : Nat} (hn : n ≤ 100) {M : List (List Int)} (h : M.length = n ∧ ∀ r ∈ M, r.length = n) {r : List Int} (hr : r.length = n) {x : Int} (x0 : 0 ≤ x) (x1 : x < n) (hm : 9 ≠ m) {ρ : Z.Env} (g9 : ρ[9]? = some none) (g7 : ρ[7]? = some (some (si x))) (gm : ρ[m]? = some (some (.sh (.lst (M.map D.ints))))) (g5 : ρ[5]? = some (some (T.ints r))) :
    lcL [9] (bName 9) tst elt ((iota n).map ig) [] ρ = .ok ((((iota n).filter fun y => decide (y ≠ x)).map fun y => (entM M x y, entM M y x, r.getD y.toNat 0)).map t3) ρ := by
  rw [List.map_map]
  refine lcL_fl (slots := [9]) (b := bName 9) ig (fun y => t3 (entM M x y, entM M y x, r.getD y.toNat 0)) (fun y => decide (y ≠ x)) (xs := iota n) (acc := []) (fun y hy => ⟨ρ.set 9 (some (si y)), rfl, ?_, fun _ => ?_, wipe_one g9⟩) (by simp; unfold lim; omega)
  · have hil : 9 < ρ.length := (List.getElem?_eq_some_iff.mp g9).1
    have b7 := at_set (u := some (si y)) (show 9 ≠ 7 by decide) g7
    have b9 : (ρ.set 9 (some (si y)))[9]? = some (some (si y)) := List.getElem?_set_self hil
    subst ht
    by_cases c : y = x
    · subst c
      simp [b7, b9]
    · simp [b7, b9, c]
  · obtain ⟨y0, y1⟩ := mem_iota.mp hy
    have hil : 9 < ρ.length := (List.getElem?_eq_some_iff.mp g9).1
    have b7 := at_set (u := some (si y)) (show 9 ≠ 7 by decide) g7
    have b5 := at_set (u := some (si y)) (show 9 ≠ 5 by decide) g5
    have bm := at_set (u := some (si y)) hm gm
    have b9 : (ρ.set 9 (some (si y)))[9]? = some (some (si y)) := List.getElem?_set_self hil
    obtain ⟨p, a1, a2, a3, a4⟩ := mat_at h ⟨x0, x1⟩ ⟨y0, y1⟩
    obtain ⟨q, c1, c2, c3, c4⟩ := mat_at h ⟨y0, y1⟩ ⟨x0, x1⟩
    have a5 := atI_T r y0 (by omega)
    subst he
    generalize entM M x y = z1 at *
    generalize entM M y x = z2 at *
    generalize r.getD y.toNat 0 = z3 at *
    generalize M.map D.ints = MD at *
    simp only [D.ints] at a1 a2 a3 a4 c1 c2 c3 c4
    generalize p.map D.int = PD at *
    generalize q.map D.int = QD at *
    generalize ρ.set 9 (some (si y)) = ρ1 at *
    try simp at a1 a2 c1 c2 a5
    simp [b7, b5, bm, b9, a1, a2, c1, c2, a5, t3]
theorem rk_lc {elt : EM} (he : elt = eGet (vIx (vV 5) (pV 9))) {n : Nat} (hn : n ≤ 1000) {p r : List Int} (hp : ∀ x ∈ p, 0 ≤ x ∧ x < n) (hl : p.length ≤ 1000) (hr : r.length = n) {ρ : Z.Env} (g9 : ρ[9]? = some none) (g5 : ρ[5]? = some (some (T.ints r))) : lcL [9] (bName 9) tAll elt (p.map ig) [] ρ = .ok ((thenL p r).map ig) ρ := by
  refine lcL_ints (fun x => r.getD x.toNat 0) (fun x hx => ⟨ρ.set 9 (some (si x)), ρ.set 9 (some (si x)), rfl, ?_, wipe_one g9⟩) (by unfold lim; omega)
  have h := hp x hx
  have hil : 9 < ρ.length := (List.getElem?_eq_some_iff.mp g9).1
  have a1 := atI_T r h.1 (by omega)
  have b5 := at_set (u := some (si x)) (show 9 ≠ 5 by decide) g5
  have b2 : (ρ.set 9 (some (si x)))[9]? = some (some (si x)) := List.getElem?_set_self hil
  subst he
  simp at a1
  simp [b5, b2, a1]
theorem for_app {i : Nat} {body : SM} (f : Int → T) (P : List T → Z.Env → Prop) : ∀ {xs : List Int} {acc : List T} {ρ : Z.Env}, P acc ρ → acc.length + xs.length ≤ lim → (∀ x ∈ xs, ∀ acc ρ, acc.length < lim → P acc ρ → ∃ ρ2, body (ρ.set i (some (si x))) = .nx ρ2 ∧ P (acc ++ [f x]) ρ2) → ∃ ρ', forL (bName i) body (xs.map ig) ρ = .nx ρ' ∧ P (acc ++ xs.map f) ρ'
  | [], acc, ρ, h, _, _ => ⟨ρ, rfl, by simpa using h⟩
  | x :: xs, acc, ρ, h, hz, hs => by
    simp only [List.length_cons] at hz
    obtain ⟨ρ2, e1, h2⟩ := hs x List.mem_cons_self acc ρ (by omega) h
    obtain ⟨ρ', e2, h3⟩ := for_app f P (xs := xs) h2 (by simp; omega) fun y hy => hs y (List.mem_cons_of_mem _ hy)
    refine ⟨ρ', ?_, by simpa using h3⟩
    rw [List.map_cons]
    unfold forL
    show (match body (ρ.set i (some (si x))) with | .nx ρ => _ | .ct ρ => _ | .bk ρ => _ | r => r) = _
    rw [e1]
    exact e2
end
end Cl

set_option maxHeartbeats 2000000
namespace Cl
noncomputable section
open PySem L2 Z
def t_law_rounds_1 : EMb := (eT (pB (pOp oNe (pV 9) (pV 7))))
def x_law_rounds_2 : EM := (eTup (eCons (eGet (vIx (vIx (vV 8) (pV 7)) (pV 9))) (eCons (eGet (vIx (vIx (vV 8) (pV 9)) (pV 7))) (eCons (eGet (vIx (vV 5) (pV 9))) eNil))))
def x_law_rounds_3 : EM := (eGet (vIx (vV 5) (pV 9)))
def t_law_rounds_4 : EMb := (eT (pB (pOp (oInB false) (pV 7) (pV 10))))
def x_law_rounds_5 : EM := (eFz (eCB sortT (eCons (eLC [9] (iE (eV 10)) (bName 9) tAll x_law_rounds_3) eNil)))
def b_law_rounds_6 : SM := (mIf (eT (pB (pOp oEq (pOp oIx (pV 2) (pC (.int 0))) (pC (.str "graph"))))) (mSeq (mSet 8 (eGet (vIx (vV 2) (pC (.int 1))))) (mAppG 6 (eFz (eTup (eCons (eGet (vIx (vV 5) (pV 7))) (eCons (eCB sortT (eCons (eLC [9] (iR1 (eCons (eV 1) eNil)) (bName 9) t_law_rounds_1 x_law_rounds_2) eNil)) eNil)))))) (mIf (eT (pB (pOp oEq (pOp oIx (pV 2) (pC (.int 0))) (pC (.str "sets"))))) (mAppG 6 (eFz (eTup (eCons (eGet (vIx (vV 5) (pV 7))) (eCons (eCB sortT (eCons (eLC [10] (iE (eGet (vIx (vV 2) (pC (.int 1))))) (bName 10) t_law_rounds_4 x_law_rounds_5) eNil)) eNil))))) (mAppG 6 (eFz (eGet (vIx (vIx (vV 3) (pV 4)) (pV 7)))))))
theorem kids_tup2 (a b : D) : (T.sh (.tup [a, b])).kids = some [T.sh a, T.sh b] := rfl
/-! ### one round, as the law tells it -/
theorem lin_gr {n : Nat} (hn : n ≤ 100) {M : List (List Int)} (h : M.length = n ∧ ∀ r ∈ M, r.length = n) {r : List Int} (hr : r.length = n) {e0 e3' e4 e7 e8 : Option T} : ∃ j7 j8 : Option T,
    forL (bName 7) b_law_rounds_6 ((iota n).map ig) [e0, some (si n), some (.sh (.tup [.str "graph", .lst (M.map D.ints)])), e3', e4, some (T.ints r), some (.ol []), e7, e8, none, none] = .nx [e0, some (si n), some (.sh (.tup [.str "graph", .lst (M.map D.ints)])), e3', e4, some (T.ints r), some (.ol (((iota n).map fun x => eG (stG n M r x)).map T.sh)), j7, j8, none, none] := by
  have q1 := eq_ss so_graph so_graph
  obtain ⟨ρ', e, j7, j8, rfl⟩ := for_app (i := 7) (body := b_law_rounds_6) (fun x => T.sh (eG (stG n M r x))) (fun acc ρ => ∃ j7 j8 : Option T, ρ = [e0, some (si n), some (.sh (.tup [.str "graph", .lst (M.map D.ints)])), e3', e4, some (T.ints r), some (.ol acc), j7, j8, none, none]) (xs := iota n) (acc := []) ⟨e7, e8, rfl⟩ (by simp; unfold lim; omega) (by
    rintro x hx acc ρ hz ⟨j7, j8, rfl⟩
    obtain ⟨x0, x1⟩ := mem_iota.mp hx
    have hi := inR_nat (n := n) (by omega)
    have hc := gr_lc (m := 8) (elt := x_law_rounds_2) (tst := t_law_rounds_1) rfl rfl hn h hr x0 x1 (by decide) (ρ := [e0, some (si n), some (.sh (.tup [.str "graph", .lst (M.map D.ints)])), e3', e4, some (T.ints r), none, some (si x), some (.sh (.lst (M.map D.ints))), none, none]) rfl rfl rfl rfl
    have hc' := gr_lc (m := 8) (elt := x_law_rounds_2) (tst := t_law_rounds_1) rfl rfl hn h hr x0 x1 (by decide) (ρ := [e0, some (si n), some (.sh (.tup [.str "graph", .lst (M.map D.ints)])), e3', e4, some (T.ints r), some (.ol acc), some (si x), some (.sh (.lst (M.map D.ints))), none, none]) rfl rfl rfl rfl
    have hso := sortT_E embE3 (by omega) t3_d (((iota n).filter fun y => decide (y ≠ x)).map fun y => (entM M x y, entM M y x, r.getD y.toNat 0))
    have a5 := atI_T r x0 (by omega)
    have e : eG (stG n M r x) = .tup [.int (r.getD x.toNat 0), .lst (dl (((srtE e3 (((iota n).filter fun y => decide (y ≠ x)).map fun y => (entM M x y, entM M y x, r.getD y.toNat 0))).map e3).map T.sh))] := by rw [dl_sh]; rfl
    refine ⟨_, ?_, some (si x), some (.sh (.lst (M.map D.ints))), rfl⟩
    rw [e]
    generalize ((srtE e3 (((iota n).filter fun y => decide (y ≠ x)).map fun y => (entM M x y, entM M y x, r.getD y.toNat 0))).map e3).map T.sh = S at *
    generalize (((iota n).filter fun y => decide (y ≠ x)).map fun y => (entM M x y, entM M y x, r.getD y.toNat 0)).map t3 = Q at *
    generalize r.getD x.toNat 0 = z at *
    generalize M.map D.ints = MD at *
    try simp at a5
    try simp at hc
    try simp at hc'
    try simp at hso
    simp [b_law_rounds_6, kids_tup2, q1, hc, hc', hso, a5, hi, hz])
  refine ⟨j7, j8, ?_⟩
  rw [List.map_map]
  exact e
theorem lin_se {n : Nat} (hn : n ≤ 100) {L : List (List Int)} (h : ∀ s ∈ L, Rw n s) (hL : L.length ≤ 60) {r : List Int} (hr : r.length = n) {e0 e3' e4 e7 e8 : Option T} : ∃ j7 j8 : Option T,
    forL (bName 7) b_law_rounds_6 ((iota n).map ig) [e0, some (si n), some (.sh (.tup [.str "sets", .lst (L.map D.ints)])), e3', e4, some (T.ints r), some (.ol []), e7, e8, none, none] = .nx [e0, some (si n), some (.sh (.tup [.str "sets", .lst (L.map D.ints)])), e3', e4, some (T.ints r), some (.ol (((iota n).map fun x => eS (stS L r x)).map T.sh)), j7, j8, none, none] := by
  have q1 := eq_ss so_sets so_graph
  have q2 := eq_ss so_sets so_sets
  rw [decide_eq_false (show ¬ ("sets" : Str) = "graph" by decide)] at q1
  obtain ⟨ρ', e, j7, j8, rfl⟩ := for_app (i := 7) (body := b_law_rounds_6) (fun x => T.sh (eS (stS L r x))) (fun acc ρ => ∃ j7 j8 : Option T, ρ = [e0, some (si n), some (.sh (.tup [.str "sets", .lst (L.map D.ints)])), e3', e4, some (T.ints r), some (.ol acc), j7, j8, none, none]) (xs := iota n) (acc := []) ⟨e7, e8, rfl⟩ (by simp; unfold lim; omega) (by
    rintro x hx acc ρ hz ⟨j7, j8, rfl⟩
    obtain ⟨x0, x1⟩ := mem_iota.mp hx
    have key : ∀ (e6 : Option T), lcL [10] (bName 10) t_law_rounds_4 x_law_rounds_5 ((L.map D.ints).map T.sh) [] [e0, some (si n), some (.sh (.tup [.str "sets", .lst (L.map D.ints)])), e3', e4, some (T.ints r), e6, some (si x), j8, none, none] = .ok (((L.filter fun s => decide (x ∈ s)).map fun s => isrt (thenL s r)).map fun s => T.sh (D.ints s)) [e0, some (si n), some (.sh (.tup [.str "sets", .lst (L.map D.ints)])), e3', e4, some (T.ints r), e6, some (si x), j8, none, none] := fun e6 => by
      rw [List.map_map, List.map_map]
      refine lcL_fl (slots := [10]) (b := bName 10) (fun s => T.sh (D.ints s)) (fun s => T.sh (D.ints (isrt (thenL s r)))) (fun s => decide (x ∈ s)) (xs := L) (acc := []) (fun s hs => ⟨[e0, some (si n), some (.sh (.tup [.str "sets", .lst (L.map D.ints)])), e3', e4, some (T.ints r), e6, some (si x), j8, none, some (.sh (D.ints s))], rfl, ?_, fun _ => ?_, rfl⟩) (by simp; unfold lim; omega)
      · have q := in_ints x s
        generalize D.ints s = y at *
        generalize L.map D.ints = MD at *
        simp [t_law_rounds_4, q]
      · have hs' := h s hs
        have hc := rk_lc (elt := x_law_rounds_3) rfl (n := n) (by omega) (p := s) (r := r) hs'.2.1 (by have := hs'.2.2; omega) hr (ρ := [e0, some (si n), some (.sh (.tup [.str "sets", .lst (L.map D.ints)])), e3', e4, some (T.ints r), e6, some (si x), j8, none, some (.sh (D.ints s))]) rfl rfl
        have hs2 := sort_ints (thenL s r)
        generalize thenL s r = q at hc hs2 ⊢
        generalize L.map D.ints = MD at *
        try simp at hc
        try simp at hs2
        simp [x_law_rounds_5, hc, hs2]
    have hc := key none
    have hc' := key (some (.ol acc))
    have hso := sortT_E embR (by omega) (f := fun s => T.sh (D.ints s)) (fun _ => rfl) ((L.filter fun s => decide (x ∈ s)).map fun s => isrt (thenL s r))
    have a5 := atI_T r x0 (by omega)
    have e : eS (stS L r x) = .tup [.int (r.getD x.toNat 0), .lst (dl (((srtE D.ints ((L.filter fun s => decide (x ∈ s)).map fun s => isrt (thenL s r))).map D.ints).map T.sh))] := by rw [dl_sh]; rfl
    refine ⟨_, ?_, some (si x), j8, rfl⟩
    rw [e]
    generalize ((srtE D.ints ((L.filter fun s => decide (x ∈ s)).map fun s => isrt (thenL s r))).map D.ints).map T.sh = S at *
    generalize ((L.filter fun s => decide (x ∈ s)).map fun s => isrt (thenL s r)).map (fun s => T.sh (D.ints s)) = Q at *
    generalize r.getD x.toNat 0 = z at *
    clear key
    generalize L.map D.ints = MD at *
    try simp at a5
    try simp at hc
    try simp at hc'
    try simp at hso
    simp [b_law_rounds_6, kids_tup2, q1, q2, hc, hc', hso, a5, hz])
  refine ⟨j7, j8, ?_⟩
  rw [List.map_map]
  exact e
theorem lin_o {n : Nat} (hn : n ≤ 100) {s : Str} {vd : D} (hs : PyData.strOk s = true) (s1 : ¬ s = "graph") (s2 : ¬ s = "sets") {C : List D} (hC : C.length = n) {RS : List D} {i : Nat} (hat : atI (RS.map T.sh) (i : Int) = some (.sh (.lst C))) {e0 e5 e7 e8 : Option T} : ∃ j7 j8 : Option T,
    forL (bName 7) b_law_rounds_6 ((iota n).map ig) [e0, some (si n), some (.sh (.tup [.str s, vd])), some (.ol (RS.map T.sh)), some (si i), e5, some (.ol []), e7, e8, none, none] = .nx [e0, some (si n), some (.sh (.tup [.str s, vd])), some (.ol (RS.map T.sh)), some (si i), e5, some (.ol (C.map T.sh)), j7, j8, none, none] := by
  have q1 := eq_ss hs so_graph
  have q2 := eq_ss hs so_sets
  rw [decide_eq_false s1] at q1
  rw [decide_eq_false s2] at q2
  obtain ⟨ρ', e, j7, j8, rfl⟩ := for_app (i := 7) (body := b_law_rounds_6) (fun x => T.sh (C.getD x.toNat .non)) (fun acc ρ => ∃ j7 j8 : Option T, ρ = [e0, some (si n), some (.sh (.tup [.str s, vd])), some (.ol (RS.map T.sh)), some (si i), e5, some (.ol acc), j7, j8, none, none]) (xs := iota n) (acc := []) ⟨e7, e8, rfl⟩ (by simp; unfold lim; omega) (by
    rintro x hx acc ρ hz ⟨j7, j8, rfl⟩
    obtain ⟨x0, x1⟩ := mem_iota.mp hx
    have hlt : x.toNat < C.length := by omega
    have a1 : atI (C.map T.sh) x = some (.sh (C.getD x.toNat .non)) := by
      rw [atI_ok x0 (by simp; omega), List.getElem?_map, List.getD_eq_getElem?_getD, List.getElem?_eq_getElem hlt]
      rfl
    refine ⟨_, ?_, some (si x), j8, rfl⟩
    generalize C.getD x.toNat .non = z at *
    generalize RS.map T.sh = RT at *
    simp [b_law_rounds_6, kids_tup2, q1, q2, hat, a1, hz])
  have e2 : (iota n).map (fun x => T.sh (C.getD x.toNat .non)) = C.map T.sh := by
    apply List.ext_getElem
    · simp [hC]
    · intro k h1 h2
      simp at h1 h2
      rw [List.getElem_map, List.getElem_map]
      have e : (iota n)[k]'(by simpa using h1) = (k : Int) := by rw [← getD_at, iota_getD n k h1]
      rw [e, Int.toNat_natCast, List.getD_eq_getElem?_getD, List.getElem?_eq_getElem h2]
      rfl
  rw [List.nil_append, e2] at e
  exact ⟨j7, j8, e⟩
end
end Cl

set_option maxHeartbeats 2000000
namespace Cl
noncomputable section
open PySem L2 Z
def b_law_rounds_7 : SM := (mSeq (mUnp (bTup [5, 6]) (eTup (eCons (eCall 1 F_law_ranks (eCons (eGet (vIx (vV 3) (pV 4))) eNil)) (eCons (eLst eNil) eNil)))) (mSeq (mFor (iR1 (eCons (eV 1) eNil)) (bName 7) b_law_rounds_6) (mAppG 3 (eFz (eV 6)))))
def m_law_rounds : SM := (mSeq (mSet 2 (eFz (eCall 1 F_law_view (eCons (eV 0) eNil)))) (mSeq (mSet 3 (eLst (eCons (eFz (eCall 2 F_law_begin (eCons (eV 0) (eCons (eV 1) eNil)))) eNil))) (mSeq (mFor (iR1 (eCons (eP (pC (.int 2))) eNil)) (bName 4) b_law_rounds_7) (mRet (eM 3)))))
def F_law_rounds : FM := mFun 2 11 m_law_rounds
/-! ### all rounds, as the law tells them -/
def c1X {X : Type} (st : List Int → Int → X) (n : Nat) (c0 : List (List Int)) : List X := (iota n).map (st (rkE D.ints c0))
def c2X {X : Type} [DecidableEq X] (e : X → D) (st : List Int → Int → X) (n : Nat) (c0 : List (List Int)) : List X := (iota n).map (st (rkE e (c1X st n c0)))
def rX {X : Type} [DecidableEq X] (e : X → D) (st : List Int → Int → X) (n : Nat) (c0 : List (List Int)) : Nat → List D
  | 0 => c0.map D.ints
  | 1 => (c1X st n c0).map e
  | _ => (c2X e st n c0).map e
def rndD (n : Nat) (w : Th) : Nat → List D := match w with
  | .gr m => rX eG (stG n (distM n m)) n (firstL n (.gr m))
  | .tu p => rX eG (stG n (distM n (arcM p))) n (firstL n (.tu p))
  | .se L => rX eS (stS L) n (firstL n (.se L))
  | .col l => fun _ => (firstL n (.col l)).map D.ints
  | .ro r => fun _ => (firstL n (.ro r)).map D.ints
theorem first_len {n : Nat} {w : Th} (h : w.ok n) : (firstL n w).length = n := by
  cases w with
  | col l => have h : l.length = n := h; simp [firstL, h]
  | gr m => simp [firstL]
  | se L => simp [firstL]
  | tu p => simp [firstL]
  | ro r => simp [firstL]
theorem lround {X : Type} [DecidableEq X] {k : Nat} {e : X → D} (h : Emb k e) (hk : k ≤ 58) {n : Nat} (hn : n ≤ 100) {l : List X} (hl : l.length = n) {RS : List D} {i : Nat} (hRS : RS.length ≤ 10) (hat : atI (RS.map T.sh) (i : Int) = some (.sh (.lst (l.map e)))) {NX : List D} {e0 : Option T} {V : D}
    (hin : ∀ e7 e8 : Option T, ∃ j7 j8 : Option T, forL (bName 7) b_law_rounds_6 ((iota n).map ig) [e0, some (si n), some (.sh V), some (.ol (RS.map T.sh)), some (si i), some (T.ints (rkE e l)), some (.ol []), e7, e8, none, none] = .nx [e0, some (si n), some (.sh V), some (.ol (RS.map T.sh)), some (si i), some (T.ints (rkE e l)), some (.ol (NX.map T.sh)), j7, j8, none, none])
    {e5 e6 e7 e8 : Option T} : ∃ j5 j6 j7 j8 : Option T, b_law_rounds_7 [e0, some (si n), some (.sh V), some (.ol (RS.map T.sh)), some (si i), e5, e6, e7, e8, none, none] = .nx [e0, some (si n), some (.sh V), some (.ol ((RS ++ [D.lst NX]).map T.sh)), some (si i), j5, j6, j7, j8, none, none] := by
  have hr := law_ranks_ok h hk (l := l) (by omega)
  have hi := inR_nat (n := n) (by omega)
  obtain ⟨j7, j8, hf⟩ := hin e7 e8
  have hd := dl_sh NX
  have hz : RS.length < lim := by unfold lim; omega
  rw [List.map_append]
  generalize hRK : rkE e l = RK at *
  generalize NX.map T.sh = NT at *
  have hlen : (RS.map T.sh).length < lim := by rw [List.length_map]; exact hz
  have hone : [D.lst NX].map T.sh = [T.sh (.lst NX)] := rfl
  rw [hone]
  generalize RS.map T.sh = RT at *
  generalize l.map e = LE at *
  try simp at hf
  try simp at hr
  refine ⟨some (T.ints RK), some (.sh (.lst NX)), j7, j8, ?_⟩
  simp [b_law_rounds_7, hat, hr, hi, hf, hd, hlen]
theorem fz_ol (l : List T) : (T.ol l).fz = T.sh (.lst (dl l)) := rfl
theorem lrounds_of {n : Nat} (hn : n ≤ 100) {w : Th} (h : w.ok n) (hd : w.nd) {R1 R2 : List D}
    (hp1 : ∀ e5 e6 e7 e8 : Option T, ∃ j5 j6 j7 j8 : Option T, b_law_rounds_7 [some (.sh w.d), some (si n), some (.sh (w.vw n).d), some (.ol ([D.lst ((firstL n w).map D.ints)].map T.sh)), some (si (0 : Nat)), e5, e6, e7, e8, none, none] = .nx [some (.sh w.d), some (si n), some (.sh (w.vw n).d), some (.ol (([D.lst ((firstL n w).map D.ints)] ++ [D.lst R1]).map T.sh)), some (si (0 : Nat)), j5, j6, j7, j8, none, none])
    (hp2 : ∀ e5 e6 e7 e8 : Option T, ∃ j5 j6 j7 j8 : Option T, b_law_rounds_7 [some (.sh w.d), some (si n), some (.sh (w.vw n).d), some (.ol (([D.lst ((firstL n w).map D.ints)] ++ [D.lst R1]).map T.sh)), some (si (1 : Nat)), e5, e6, e7, e8, none, none] = .nx [some (.sh w.d), some (si n), some (.sh (w.vw n).d), some (.ol ((([D.lst ((firstL n w).map D.ints)] ++ [D.lst R1]) ++ [D.lst R2]).map T.sh)), some (si (1 : Nat)), j5, j6, j7, j8, none, none]) :
    F_law_rounds [.sh w.d, si n] = .ok (.ol ([D.lst ((firstL n w).map D.ints), D.lst R1, D.lst R2].map T.sh)) [.sh w.d, si n] := by
  obtain ⟨u, hu, hv⟩ := lview_ok hn h
  have hb := begin_ok hn h hd
  have hdb := dl_shr (firstL n w)
  obtain ⟨j5, j6, j7, j8, h1⟩ := hp1 none none none none
  obtain ⟨i5, i6, i7, i8, h2⟩ := hp2 j5 j6 j7 j8
  have hif : forL (bName 4) b_law_rounds_7 ((iota 2).map ig) [some (.sh w.d), some (si n), some (.sh (w.vw n).d), some (.ol ([D.lst ((firstL n w).map D.ints)].map T.sh)), none, none, none, none, none, none, none] = .nx [some (.sh w.d), some (si n), some (.sh (w.vw n).d), some (.ol ((([D.lst ((firstL n w).map D.ints)] ++ [D.lst R1]) ++ [D.lst R2]).map T.sh)), some (si (1 : Nat)), i5, i6, i7, i8, none, none] := by
    show (match b_law_rounds_7 [some (.sh w.d), some (si n), some (.sh (w.vw n).d), some (.ol ([D.lst ((firstL n w).map D.ints)].map T.sh)), some (si (0 : Nat)), none, none, none, none, none, none] with | .nx ρ => _ | .ct ρ => _ | .bk ρ => _ | r => r) = _
    rw [h1]
    show (match b_law_rounds_7 [some (.sh w.d), some (si n), some (.sh (w.vw n).d), some (.ol (([D.lst ((firstL n w).map D.ints)] ++ [D.lst R1]).map T.sh)), some (si (1 : Nat)), j5, j6, j7, j8, none, none] with | .nx ρ => _ | .ct ρ => _ | .bk ρ => _ | r => r) = _
    rw [h2]
    rfl
  have hR : ∀ a b c : D, (([a] ++ [b]) ++ [c]).map T.sh = [a, b, c].map T.sh := fun _ _ _ => rfl
  rw [hR] at hif
  have hone : [D.lst ((firstL n w).map D.ints)].map T.sh = [T.sh (.lst ((firstL n w).map D.ints))] := rfl
  rw [hone] at hif
  clear h1 h2 hp1 hp2 hone hR
  generalize ([D.lst ((firstL n w).map D.ints), D.lst R1, D.lst R2].map T.sh) = RT at *
  generalize (firstL n w).map (fun r => T.sh (D.ints r)) = BT at *
  generalize (firstL n w).map D.ints = BD at *
  generalize (w.vw n).d = V at *
  generalize w.d = W at *
  generalize hI : (iota 2).map ig = I2 at *
  have h2r : InR 2 := by unfold InR; omega
  simp [F_law_rounds, m_law_rounds, hv, hb, hdb, hu, fz_ol, h2r, hI, hif]
end
end Cl

set_option maxHeartbeats 2000000
namespace Cl
noncomputable section
open PySem L2 Z
theorem at_0 (a : D) (l : List D) : atI ((a :: l).map T.sh) ((0 : Nat) : Int) = some (.sh a) :=
  (atI_ok (by omega) (by simp <;> omega)).trans rfl
theorem at_1 (a b : D) (l : List D) : atI ((a :: b :: l).map T.sh) ((1 : Nat) : Int) = some (.sh b) :=
  (atI_ok (by omega) (by simp <;> omega)).trans rfl
theorem at_2 (a b c : D) (l : List D) : atI ((a :: b :: c :: l).map T.sh) ((2 : Nat) : Int) = some (.sh c) :=
  (atI_ok (by omega) (by simp <;> omega)).trans rfl
theorem lrounds_X {X : Type} [DecidableEq X] {k : Nat} {e : X → D} (he : Emb k e) (hk : k ≤ 58) (st : List Int → Int → X) {n : Nat} (hn : n ≤ 100) {w : Th} (h : w.ok n) (hd : w.nd)
    (hin : ∀ r : List Int, r.length = n → ∀ e3' e4 e7 e8 : Option T, ∃ j7 j8 : Option T, forL (bName 7) b_law_rounds_6 ((iota n).map ig) [some (.sh w.d), some (si n), some (.sh (w.vw n).d), e3', e4, some (T.ints r), some (.ol []), e7, e8, none, none] = .nx [some (.sh w.d), some (si n), some (.sh (w.vw n).d), e3', e4, some (T.ints r), some (.ol (((iota n).map fun x => e (st r x)).map T.sh)), j7, j8, none, none]) :
    F_law_rounds [.sh w.d, si n] = .ok (.ol ([D.lst (rX e st n (firstL n w) 0), D.lst (rX e st n (firstL n w) 1), D.lst (rX e st n (firstL n w) 2)].map T.sh)) [.sh w.d, si n] := by
  have hl := first_len h
  have l1 : (c1X st n (firstL n w)).length = n := by simp [c1X]
  have m1 : ∀ r : List Int, ((iota n).map fun x => e (st r x)) = ((iota n).map (st r)).map e := fun r => by rw [List.map_map]; rfl
  refine lrounds_of hn h hd (fun e5 e6 e7 e8 => ?_) (fun e5 e6 e7 e8 => ?_)
  · refine lround embR (by omega) hn hl (by simp) (at_0 _ _) (fun e7 e8 => ?_)
    have := hin (rkE D.ints (firstL n w)) (by rw [rk_len, hl]) (some (.ol ([D.lst ((firstL n w).map D.ints)].map T.sh))) (some (si (0 : Nat))) e7 e8
    rw [m1] at this
    exact this
  · refine lround he hk hn l1 (by simp) (at_1 _ _ _) (fun e7 e8 => ?_)
    have := hin (rkE e (c1X st n (firstL n w))) (by rw [rk_len, l1]) (some (.ol (([D.lst ((firstL n w).map D.ints)] ++ [D.lst ((c1X st n (firstL n w)).map e)]).map T.sh))) (some (si (1 : Nat))) e7 e8
    rw [m1] at this
    exact this
theorem lrounds_o {n : Nat} (hn : n ≤ 100) {w : Th} (h : w.ok n) (hd : w.nd) (hv : (w.vw n).d = .tup [.str w.kn, w.vd]) (s1 : ¬ w.kn = "graph") (s2 : ¬ w.kn = "sets") :
    F_law_rounds [.sh w.d, si n] = .ok (.ol ([D.lst ((firstL n w).map D.ints), D.lst ((firstL n w).map D.ints), D.lst ((firstL n w).map D.ints)].map T.sh)) [.sh w.d, si n] := by
  have hl := first_len h
  have hC : ((firstL n w).map D.ints).length = n := by rw [List.length_map, hl]
  refine lrounds_of hn h hd (fun e5 e6 e7 e8 => ?_) (fun e5 e6 e7 e8 => ?_)
  · refine lround embR (by omega) hn hl (by simp) (at_0 _ _) (fun e7 e8 => ?_)
    rw [hv]
    exact lin_o hn w.so s1 s2 hC (at_0 _ _)
  · refine lround embR (by omega) hn hl (by simp) (at_1 _ _ _) (fun e7 e8 => ?_)
    rw [hv]
    exact lin_o hn w.so s1 s2 hC (at_1 _ _ _)
theorem lrounds_ok {n : Nat} (hn : n ≤ 100) {w : Th} (h : w.ok n) (hd : w.nd) : F_law_rounds [.sh w.d, si n] = .ok (.ol ([D.lst (rndD n w 0), D.lst (rndD n w 1), D.lst (rndD n w 2)].map T.sh)) [.sh w.d, si n] := by
  cases w with
  | col l => exact lrounds_o hn h hd rfl c7 c1
  | ro r => exact lrounds_o hn h hd rfl c11 (show ¬ ("row" : Str) = "sets" by decide)
  | gr m => exact lrounds_X embG (by omega) (stG n (distM n m)) hn h hd fun r hr e3' e4 e7 e8 => lin_gr hn (dist_mat n m) hr
  | tu p => exact lrounds_X embG (by omega) (stG n (distM n (arcM p))) hn h hd fun r hr e3' e4 e7 e8 => lin_gr hn (dist_mat n (arcM p)) hr
  | se L => exact lrounds_X embS (by omega) (stS L) hn h hd fun r hr e3' e4 e7 e8 => lin_se hn h.1 h.2.2 hr
end
end Cl

set_option maxHeartbeats 2000000
namespace Cl
noncomputable section
open PySem L2 Z
def t_next_colours_1 : EMb := (eT (pB (pOp oNe (pV 9) (pV 7))))
def x_next_colours_2 : EM := (eTup (eCons (eGet (vIx (vIx (vV 4) (pV 7)) (pV 9))) (eCons (eGet (vIx (vIx (vV 4) (pV 9)) (pV 7))) (eCons (eGet (vIx (vV 5) (pV 9))) eNil))))
def x_next_colours_3 : EM := (eGet (vIx (vV 5) (pV 9)))
def t_next_colours_4 : EMb := (eT (pB (pOp (oInB false) (pV 7) (pV 10))))
def x_next_colours_5 : EM := (eCB sortO (eCons (eLC [9] (iE (eV 10)) (bName 9) tAll x_next_colours_3) eNil))
def b_next_colours_6 : SM := (mSeq (mIf (eT (pB (pOp oEq (pV 3) (pC (.str "graph"))))) (mSet 8 (eCB sortO (eCons (eLC [9] (iR1 (eCons (eV 0) eNil)) (bName 9) t_next_colours_1 x_next_colours_2) eNil))) (mSet 8 (eCB sortO (eCons (eLC [10] (iE (eV 4)) (bName 10) t_next_colours_4 x_next_colours_5) eNil)))) (mAppG 6 (eTup (eCons (eGet (vIx (vV 5) (pV 7))) (eCons (eM 8) eNil)))))
def m_next_colours : SM := (mSeq (mUnp (bTup [3, 4]) (eV 1)) (mSeq (mIf (eT (pB (pOp (oInB true) (pV 3) (pTup (aCons (pC (.str "graph")) (aCons (pC (.str "sets")) aNil)))))) (mRet (eM 2)) mNil) (mSeq (mUnp (bTup [5, 6]) (eTup (eCons (eCall 1 F_ranks_of (eCons (eV 2) eNil)) (eCons (eLst eNil) eNil)))) (mSeq (mFor (iR1 (eCons (eV 0) eNil)) (bName 7) b_next_colours_6) (mRet (eM 6))))))
def F_next_colours : FM := mFun 3 11 m_next_colours
/-! ### the next round, as the program tells it -/
def tG (c : CG) : T := .ot [si c.1, .ol (c.2.map t3)]
def tS (c : CS) : T := .ot [si c.1, .ol (c.2.map T.ints)]
theorem tG_d (c : CG) : (tG c).d = eG c := by
  show D.tup [.int c.1, .lst (dl (c.2.map t3))] = _
  rw [dl_eq, List.map_map]; rfl
theorem tS_d (c : CS) : (tS c).d = eS c := by
  show D.tup [.int c.1, .lst (dl (c.2.map T.ints))] = _
  rw [dl_rows]; rfl
theorem in_two' {s a b : Str} : oInB true (.str s) (.tup [.str a, .str b]) = some (.bl (!(decide (s = a) || decide (s = b)))) := by
  have h : ∀ a b : Str, (a == b) = decide (b = a) := fun a b => by
    by_cases c : b = a
    · subst c; simp
    · have : ¬ a = b := fun q => c q.symm
      simp [c, this]
  simp [oInB, D.seq, flatD, eqD]
  rw [h, h]
theorem next_gr {X : Type} [DecidableEq X] {k : Nat} {e : X → D} (he : Emb k e) (hk : k ≤ 58) {n : Nat} (hn : n ≤ 100) {M : List (List Int)} (h : M.length = n ∧ ∀ r ∈ M, r.length = n) {l : List X} (hl : l.length = n) :
    F_next_colours [si n, .sh (.tup [.str "graph", .lst (M.map D.ints)]), .sh (.lst (l.map e))] = .ok (.ol (((iota n).map (stG n M (rkE e l))).map tG)) [si n, .sh (.tup [.str "graph", .lst (M.map D.ints)]), .sh (.lst (l.map e))] := by
  have q1 := eq_ss so_graph so_graph
  have q0 := in_two' (s := "graph") (a := "graph") (b := "sets")
  have hrk := ranks_ok he hk (l := l) (by omega)
  have hi := inR_nat (n := n) (by omega)
  obtain ⟨r, hr⟩ : ∃ r, r = rkE e l := ⟨_, rfl⟩
  have hrl : r.length = n := by rw [hr, rk_len, hl]
  rw [← hr] at hrk ⊢
  clear hr
  obtain ⟨W, hW⟩ : ∃ W : D, W = .tup [.str "graph", .lst (M.map D.ints)] := ⟨_, rfl⟩
  obtain ⟨C, hC⟩ : ∃ C, C = l.map e := ⟨_, rfl⟩
  rw [← hC] at hrk ⊢
  obtain ⟨ρ', e1, j7, j8, rfl⟩ := for_app (i := 7) (body := b_next_colours_6) (fun x => tG (stG n M r x)) (fun acc ρ => ∃ j7 j8 : Option T, ρ = [some (si n), some (.sh W), some (.sh (.lst C)), some (.sh (.str "graph")), some (.sh (.lst (M.map D.ints))), some (T.ints r), some (.ol acc), j7, j8, none, none]) (xs := iota n) (acc := []) (ρ := [some (si n), some (.sh W), some (.sh (.lst C)), some (.sh (.str "graph")), some (.sh (.lst (M.map D.ints))), some (T.ints r), some (.ol []), none, none, none, none]) ⟨none, none, rfl⟩ (by simp; unfold lim; omega) (by
    rintro x hx acc ρ hz ⟨j7, j8, rfl⟩
    obtain ⟨x0, x1⟩ := mem_iota.mp hx
    have hc := gr_lc (m := 4) (elt := x_next_colours_2) (tst := t_next_colours_1) rfl rfl hn h hrl x0 x1 (by decide) (ρ := [some (si n), some (.sh W), some (.sh (.lst C)), some (.sh (.str "graph")), some (.sh (.lst (M.map D.ints))), some (T.ints r), some (.ol acc), some (si x), j8, none, none]) rfl rfl rfl rfl
    have hso := sortO_E embE3 (by omega) t3_d (((iota n).filter fun y => decide (y ≠ x)).map fun y => (entM M x y, entM M y x, r.getD y.toNat 0))
    have a5 := atI_T r x0 (by omega)
    have e : tG (stG n M r x) = .ot [si (r.getD x.toNat 0), .ol ((srtE e3 (((iota n).filter fun y => decide (y ≠ x)).map fun y => (entM M x y, entM M y x, r.getD y.toNat 0))).map t3)] := rfl
    refine ⟨_, ?_, some (si x), none, rfl⟩
    rw [e]
    generalize (srtE e3 (((iota n).filter fun y => decide (y ≠ x)).map fun y => (entM M x y, entM M y x, r.getD y.toNat 0))).map t3 = S at *
    generalize (((iota n).filter fun y => decide (y ≠ x)).map fun y => (entM M x y, entM M y x, r.getD y.toNat 0)).map t3 = Q at *
    generalize r.getD x.toNat 0 = z at *
    clear hW hC
    generalize M.map D.ints = MD at *
    try simp at a5
    try simp at hc
    try simp at hso
    simp [b_next_colours_6, q1, hc, hso, a5, hi, hz])
  rw [List.map_map]
  rw [List.nil_append] at e1
  show F_next_colours _ = .ok (.ol ((iota n).map fun x => tG (stG n M r x))) _
  rw [← hW]
  have hu : (T.sh W).elsT = some [T.sh (.str "graph"), T.sh (.lst (M.map D.ints))] := by rw [hW]; rfl
  have hu2 : W.seq = some [D.str "graph", .lst (M.map D.ints)] := by rw [hW]; rfl
  clear hW hC
  generalize ((iota n).map fun x => tG (stG n M r x)) = R at *
  generalize M.map D.ints = MD at *
  simp at q0
  try simp at hrk
  try simp at e1
  simp [F_next_colours, m_next_colours, q0, hu, hu2, hrk, hi, e1]
theorem next_se {X : Type} [DecidableEq X] {k : Nat} {e : X → D} (he : Emb k e) (hk : k ≤ 58) {n : Nat} (hn : n ≤ 100) {L : List (List Int)} (h : ∀ s ∈ L, Rw n s) (hL : L.length ≤ 60) {l : List X} (hl : l.length = n) :
    F_next_colours [si n, .sh (.tup [.str "sets", .lst (L.map D.ints)]), .sh (.lst (l.map e))] = .ok (.ol (((iota n).map (stS L (rkE e l))).map tS)) [si n, .sh (.tup [.str "sets", .lst (L.map D.ints)]), .sh (.lst (l.map e))] := by
  have q1 := eq_ss so_sets so_graph
  rw [decide_eq_false (show ¬ ("sets" : Str) = "graph" by decide)] at q1
  have q0 := in_two' (s := "sets") (a := "graph") (b := "sets")
  rw [decide_eq_false (show ¬ ("sets" : Str) = "graph" by decide), decide_eq_true (rfl : ("sets" : Str) = "sets")] at q0
  have hrk := ranks_ok he hk (l := l) (by omega)
  have hi := inR_nat (n := n) (by omega)
  obtain ⟨r, hr⟩ : ∃ r, r = rkE e l := ⟨_, rfl⟩
  have hrl : r.length = n := by rw [hr, rk_len, hl]
  rw [← hr] at hrk ⊢
  clear hr
  obtain ⟨W, hW⟩ : ∃ W : D, W = .tup [.str "sets", .lst (L.map D.ints)] := ⟨_, rfl⟩
  obtain ⟨C, hC⟩ : ∃ C, C = l.map e := ⟨_, rfl⟩
  rw [← hC] at hrk ⊢
  obtain ⟨ρ', e1, j7, j8, rfl⟩ := for_app (i := 7) (body := b_next_colours_6) (fun x => tS (stS L r x)) (fun acc ρ => ∃ j7 j8 : Option T, ρ = [some (si n), some (.sh W), some (.sh (.lst C)), some (.sh (.str "sets")), some (.sh (.lst (L.map D.ints))), some (T.ints r), some (.ol acc), j7, j8, none, none]) (xs := iota n) (acc := []) (ρ := [some (si n), some (.sh W), some (.sh (.lst C)), some (.sh (.str "sets")), some (.sh (.lst (L.map D.ints))), some (T.ints r), some (.ol []), none, none, none, none]) ⟨none, none, rfl⟩ (by simp; unfold lim; omega) (by
    rintro x hx acc ρ hz ⟨j7, j8, rfl⟩
    obtain ⟨x0, x1⟩ := mem_iota.mp hx
    have hc : lcL [10] (bName 10) t_next_colours_4 x_next_colours_5 ((L.map D.ints).map T.sh) [] [some (si n), some (.sh W), some (.sh (.lst C)), some (.sh (.str "sets")), some (.sh (.lst (L.map D.ints))), some (T.ints r), some (.ol acc), some (si x), j8, none, none] = .ok (((L.filter fun s => decide (x ∈ s)).map fun s => isrt (thenL s r)).map T.ints) [some (si n), some (.sh W), some (.sh (.lst C)), some (.sh (.str "sets")), some (.sh (.lst (L.map D.ints))), some (T.ints r), some (.ol acc), some (si x), j8, none, none] := by
      rw [List.map_map, List.map_map]
      refine lcL_fl (slots := [10]) (b := bName 10) (fun s => T.sh (D.ints s)) (fun s => T.ints (isrt (thenL s r))) (fun s => decide (x ∈ s)) (xs := L) (acc := []) (fun s hs => ⟨[some (si n), some (.sh W), some (.sh (.lst C)), some (.sh (.str "sets")), some (.sh (.lst (L.map D.ints))), some (T.ints r), some (.ol acc), some (si x), j8, none, some (.sh (D.ints s))], rfl, ?_, fun _ => ?_, rfl⟩) (by simp; unfold lim; omega)
      · have q := in_ints x s
        generalize D.ints s = y at *
        generalize hMD : L.map D.ints = MD at *
        simp [t_next_colours_4, q]
      · have hs' := h s hs
        have hc := rk_lc (elt := x_next_colours_3) rfl (n := n) (by omega) (p := s) (r := r) hs'.2.1 (by have := hs'.2.2; omega) hrl (ρ := [some (si n), some (.sh W), some (.sh (.lst C)), some (.sh (.str "sets")), some (.sh (.lst (L.map D.ints))), some (T.ints r), some (.ol acc), some (si x), j8, none, some (.sh (D.ints s))]) rfl rfl
        have hs2 := sortO_ints (thenL s r)
        generalize thenL s r = q at hc hs2 ⊢
        generalize hMD : L.map D.ints = MD at *
        try simp at hc
        try simp at hs2
        simp [x_next_colours_5, hc, hs2]
    have hso := sortO_E embR (by omega) (f := T.ints) (fun a => by show D.lst (dl (a.map ig)) = _; rw [dl_ig]) ((L.filter fun s => decide (x ∈ s)).map fun s => isrt (thenL s r))
    have a5 := atI_T r x0 (by omega)
    have e : tS (stS L r x) = .ot [si (r.getD x.toNat 0), .ol ((srtE D.ints ((L.filter fun s => decide (x ∈ s)).map fun s => isrt (thenL s r))).map T.ints)] := rfl
    refine ⟨_, ?_, some (si x), none, rfl⟩
    rw [e]
    generalize (srtE D.ints ((L.filter fun s => decide (x ∈ s)).map fun s => isrt (thenL s r))).map T.ints = S at *
    generalize ((L.filter fun s => decide (x ∈ s)).map fun s => isrt (thenL s r)).map T.ints = Q at *
    generalize r.getD x.toNat 0 = z at *
    clear hW hC
    generalize L.map D.ints = MD at *
    try simp at a5
    try simp at hc
    try simp at hso
    simp [b_next_colours_6, q1, hc, hso, a5, hz])
  rw [List.map_map]
  rw [List.nil_append] at e1
  show F_next_colours _ = .ok (.ol ((iota n).map fun x => tS (stS L r x))) _
  rw [← hW]
  have hu : (T.sh W).elsT = some [T.sh (.str "sets"), T.sh (.lst (L.map D.ints))] := by rw [hW]; rfl
  clear hW hC
  generalize ((iota n).map fun x => tS (stS L r x)) = R at *
  generalize L.map D.ints = MD at *
  simp at q0
  try simp at hrk
  try simp at e1
  simp [F_next_colours, m_next_colours, q0, hu, hrk, hi, e1]
end
end Cl

set_option maxHeartbeats 2000000
namespace Cl
noncomputable section
open PySem L2 Z
def m_all_rounds : SM := (mSeq (mPar 2 3 (eCons (eCall 1 F_view_of (eCons (eV 1) eNil)) (eCons (eCall 2 F_first_colours (eCons (eV 0) (eCons (eV 1) eNil))) eNil))) (mSeq (mSet 4 (eCallB 3 F_next_colours (aCons (pV 0) (aCons (pV 2) (aCons (pV 3) aNil))))) (mRet (eLst (eLate2 3 4 (eCallB 3 F_next_colours (aCons (pV 0) (aCons (pV 2) (aCons (pV 4) aNil)))))))))
def F_all_rounds : FM := mFun 2 5 m_all_rounds
def m_colours_by_round : SM := (mRet (eOp ixT (eCall 2 F_all_rounds (eCons (eV 0) (eCons (eV 1) eNil))) (eV 2)))
def F_cbrN : FM := mFun 3 3 m_colours_by_round
open Classical in
def F_colours_by_round : FM := fun ts => match ts with
  | [.sh dn, .sh (.tup [.str kd, dt]), .sh (.int r)] => if F_view_of [.sh (.tup [.str kd, dt])] = .ok (.sh (.tup [.str kd, dt])) [.sh (.tup [.str kd, dt])] ∧ oInB true (.str kd) (.tup [.str "graph", .str "sets"]) = some (.bl true) then (if 0 ≤ r ∧ r < 3 then (match F_first_colours [.sh dn, .sh (.tup [.str kd, dt])] with | .ok t1 us => .ok t1 [.sh dn, .sh (.tup [.str kd, dt]), .sh (.int r)] | _ => .bad) else .bad) else F_cbrN [.sh dn, .sh (.tup [.str kd, dt]), .sh (.int r)]
  | _ => .bad
/-! ### what may be done with colours -/
structure OkX {X : Type} (tx : X → T) (e : X → D) (c : X) : Prop where
  sp : Sp 5 (tx c)
  fr : (tx c).fresh = true
  vk : Vk 3 (e c)
theorem freshL_map {α : Type} {f : α → T} : ∀ {l : List α}, (∀ a ∈ l, (f a).fresh = true) → freshL (l.map f) = true
  | [], _ => rfl
  | a :: l, h => by
    simp only [List.map_cons, freshL, h a List.mem_cons_self, freshL_map fun b hb => h b (List.mem_cons_of_mem _ hb), Bool.and_true]
theorem arG_len (n : Nat) (M : List (List Int)) (r : List Int) (x : Int) : (arG n M r x).length ≤ n := by
  unfold arG
  rw [(srtE_perm _ _).length_eq, List.length_map]
  have := List.length_filter_le (fun y => decide (y ≠ x)) (iota n)
  simpa using this
theorem okG {n : Nat} (hn : n ≤ 100) (M : List (List Int)) (r : List Int) (x : Int) : OkX tG eG (stG n M r x) := by
  have hl := arG_len n M r x
  refine ⟨?_, ?_, ?_⟩
  · refine Sp.ot fun u hu => ?_
    rcases List.mem_cons.mp hu with rfl | hu
    · exact Sp.scal rfl
    · rw [List.mem_singleton.mp hu]
      refine Sp.ol (fun v hv => ?_) (by rw [List.length_map]; show (arG n M r x).length ≤ _; omega)
      obtain ⟨p, _, rfl⟩ := List.mem_map.mp hv
      refine Sp.ot fun w hw => ?_
      simp only [List.mem_cons, List.not_mem_nil, or_false] at hw
      rcases hw with rfl | rfl | rfl <;> exact Sp.scal rfl
  · show (true && ((T.ol ((stG n M r x).2.map t3)).fresh && true)) = true
    have : (T.ol ((stG n M r x).2.map t3)).fresh = true := freshL_map fun p _ => rfl
    rw [this]; rfl
  · refine Vk.tup (k := 2) (fun d hd => ?_) (by simp)
    rcases List.mem_cons.mp hd with rfl | hd
    · exact (Vk.int _).mono (by omega)
    · rw [List.mem_singleton.mp hd]
      refine Vk.lst (k := 1) (fun d hd => ?_) (by rw [List.length_map]; show (arG n M r x).length ≤ _; omega)
      obtain ⟨p, _, rfl⟩ := List.mem_map.mp hd
      refine Vk.tup (k := 0) (fun d hd => ?_) (by simp)
      simp only [List.mem_cons, List.not_mem_nil, or_false] at hd
      rcases hd with rfl | rfl | rfl <;> exact Vk.int _
theorem arS_len {L : List (List Int)} (hL : L.length ≤ 60) (r : List Int) (x : Int) : (arS L r x).length ≤ 60 := by
  unfold arS
  rw [(srtE_perm _ _).length_eq, List.length_map]
  have := List.length_filter_le (fun s => decide (x ∈ s)) L
  omega
theorem arS_row {n : Nat} {L : List (List Int)} (h : ∀ s ∈ L, Rw n s) {r : List Int} {x : Int} {s : List Int} (hs : s ∈ arS L r x) : s.length ≤ n := by
  have h1 := (srtE_perm _ _).mem_iff.mp hs
  obtain ⟨s', h2, rfl⟩ := List.mem_map.mp h1
  have h3 := h s' (List.mem_filter.mp h2).1
  rw [(isrt_perm _).length_eq, thenL, List.length_map]
  exact h3.2.2
theorem okS {n : Nat} (hn : n ≤ 100) {L : List (List Int)} (h : ∀ s ∈ L, Rw n s) (hL : L.length ≤ 60) (r : List Int) (x : Int) : OkX tS eS (stS L r x) := by
  have hl := arS_len hL r x
  have hrow : ∀ s ∈ (stS L r x).2, s.length ≤ 100000 := fun s hs => by have := arS_row h hs; omega
  have hl2 : (stS L r x).2.length ≤ 100000 := by show (arS L r x).length ≤ _; omega
  refine ⟨?_, ?_, ?_⟩
  · refine Sp.ot fun u hu => ?_
    rcases List.mem_cons.mp hu with rfl | hu
    · exact Sp.scal rfl
    · rw [List.mem_singleton.mp hu]
      exact Sp.rows hl2 hrow
  · show (true && ((T.ol ((stS L r x).2.map T.ints)).fresh && true)) = true
    have : (T.ol ((stS L r x).2.map T.ints)).fresh = true := fresh_rows _
    rw [this]; rfl
  · refine Vk.tup (k := 2) (fun d hd => ?_) (by simp)
    rcases List.mem_cons.mp hd with rfl | hd
    · exact (Vk.int _).mono (by omega)
    · rw [List.mem_singleton.mp hd]
      refine Vk.lst (k := 1) (fun d hd => ?_) (by rw [List.length_map]; exact hl2)
      obtain ⟨s, hs, rfl⟩ := List.mem_map.mp hd
      exact Vk.ints s (hrow s hs)
/-! ### all rounds, as the program tells them -/
theorem all_X {X : Type} [DecidableEq X] {e : X → D} {tx : X → T} (htd : ∀ c, (tx c).d = e c) (st : List Int → Int → X) {n : Nat} (hn : n ≤ 100) {w : Th} (h : w.ok n) (hok : ∀ r x, OkX tx e (st r x))
    (h1 : F_next_colours [si n, .sh (w.vw n).d, .sh (.lst ((firstL n w).map D.ints))] = .ok (.ol ((c1X st n (firstL n w)).map tx)) [si n, .sh (w.vw n).d, .sh (.lst ((firstL n w).map D.ints))])
    (h2 : F_next_colours [si n, .sh (w.vw n).d, .sh (.lst ((c1X st n (firstL n w)).map e))] = .ok (.ol ((c2X e st n (firstL n w)).map tx)) [si n, .sh (w.vw n).d, .sh (.lst ((c1X st n (firstL n w)).map e))]) :
    F_all_rounds [si n, .sh w.d] = .ok (.ol [.ol ((firstL n w).map T.ints), .ol ((c1X st n (firstL n w)).map tx), .ol ((c2X e st n (firstL n w)).map tx)]) [si n, .sh w.d] := by
  obtain ⟨u, hu, hv⟩ := view_ok hn h
  have hf := first_ok hn h
  have d0 : dl ((firstL n w).map T.ints) = (firstL n w).map D.ints := dl_rows _
  have dx : ∀ l : List X, dl (l.map tx) = l.map e := fun l => by rw [dl_eq, List.map_map]; exact List.map_congr_left fun a _ => htd a
  have d1 := dx (c1X st n (firstL n w))
  have f1 : freshL ((c1X st n (firstL n w)).map tx) = true := freshL_map fun a ha => by
    obtain ⟨x, _, rfl⟩ := List.mem_map.mp ha
    exact (hok _ _).fr
  have f2 : freshL ((c2X e st n (firstL n w)).map tx) = true := freshL_map fun a ha => by
    obtain ⟨x, _, rfl⟩ := List.mem_map.mp ha
    exact (hok _ _).fr
  have g1 : (T.ol ((c1X st n (firstL n w)).map tx)).fresh = true := f1
  have g2 : (T.ol ((c2X e st n (firstL n w)).map tx)).fresh = true := f2
  generalize (firstL n w).map T.ints = A at *
  generalize (c1X st n (firstL n w)).map tx = B at *
  generalize (c2X e st n (firstL n w)).map tx = C at *
  generalize (firstL n w).map D.ints = AD at *
  generalize (c1X st n (firstL n w)).map e = BD at *
  generalize (w.vw n).d = V at *
  generalize w.d = W at *
  simp [F_all_rounds, m_all_rounds, eLate2, hv, hf, d0, hu, h1, g1, d1, h2, g2]
end
end Cl

set_option maxHeartbeats 2000000
namespace Cl
noncomputable section
open PySem L2 Z
theorem first_row {n : Nat} {w : Th} (h : w.ok n) : ∀ r ∈ firstL n w, r.length ≤ 60 := by
  intro r hr
  cases w with
  | col l => obtain ⟨x, _, rfl⟩ := List.mem_map.mp hr; simp
  | gr m => obtain ⟨x, _, rfl⟩ := List.mem_map.mp hr; simp [fgL]
  | tu m => obtain ⟨x, _, rfl⟩ := List.mem_map.mp hr; simp [fgL]
  | ro m => obtain ⟨x, _, rfl⟩ := List.mem_map.mp hr; simp [frL]
  | se L =>
    obtain ⟨x, _, rfl⟩ := List.mem_map.mp hr
    unfold fsL
    rw [(isrt_perm _).length_eq, List.length_map]
    have := List.length_filter_le (fun s => decide (x ∈ s)) L
    have := h.2.2
    omega
structure Told (n : Nat) (w : Th) (i : Nat) (tt : T) : Prop where
  run : F_colours_by_round [si n, .sh w.d, si i] = .ok tt [si n, .sh w.d, si i]
  dat : tt.d = .lst (rndD n w i)
  fr : tt.fresh = true
  sp : Sp 6 tt
  vk : Vk 4 (.lst (rndD n w i))
  len : (rndD n w i).length = n
theorem told_0 {n : Nat} (hn : n ≤ 100) {w : Th} (h : w.ok n) : (T.ol ((firstL n w).map T.ints)).fresh = true ∧ Sp 6 (.ol ((firstL n w).map T.ints)) ∧ Vk 4 (.lst ((firstL n w).map D.ints)) ∧ ((firstL n w).map D.ints).length = n := by
  have hl := first_len h
  have hr := first_row h
  refine ⟨fresh_rows _, Sp.rows (by omega) fun r hr' => by have := hr r hr'; omega, ?_, by rw [List.length_map, hl]⟩
  refine Vk.lst (k := 3) (fun d hd => ?_) (by rw [List.length_map]; omega)
  obtain ⟨r, hr', rfl⟩ := List.mem_map.mp hd
  exact (Vk.ints r (by have := hr r hr'; omega)).mono (by omega)
open Classical in
theorem cbr_X {X : Type} [DecidableEq X] {e : X → D} {tx : X → T} (htd : ∀ c, (tx c).d = e c) (st : List Int → Int → X) {n : Nat} (hn : n ≤ 100) {w : Th} (h : w.ok n) (hok : ∀ r x, OkX tx e (st r x))
    (ha : F_all_rounds [si n, .sh w.d] = .ok (.ol [.ol ((firstL n w).map T.ints), .ol ((c1X st n (firstL n w)).map tx), .ol ((c2X e st n (firstL n w)).map tx)]) [si n, .sh w.d])
    (hno : ¬ (F_view_of [.sh w.d] = .ok (.sh w.d) [.sh w.d] ∧ oInB true (.str w.kn) (.tup [.str "graph", .str "sets"]) = some (.bl true)))
    (hR : rndD n w = rX e st n (firstL n w)) {i : Nat} (hi : i < 3) : ∃ tt, Told n w i tt := by
  have d0 : dl ((firstL n w).map T.ints) = (firstL n w).map D.ints := dl_rows _
  have dx : ∀ l : List X, dl (l.map tx) = l.map e := fun l => by rw [dl_eq, List.map_map]; exact List.map_congr_left fun a _ => htd a
  have hel : ∀ i : Nat, F_colours_by_round [si n, .sh w.d, si i] = F_cbrN [si n, .sh w.d, si i] := fun i => by
    show (if F_view_of [.sh w.d] = .ok (.sh w.d) [.sh w.d] ∧ oInB true (.str w.kn) (.tup [.str "graph", .str "sets"]) = some (.bl true) then _ else _) = _
    rw [if_neg hno]
    rfl
  have gx : ∀ l : List X, (∀ c ∈ l, OkX tx e c) → l.length = n → (T.ol (l.map tx)).fresh = true ∧ Sp 6 (.ol (l.map tx)) ∧ Vk 4 (.lst (l.map e)) ∧ (l.map e).length = n := fun l hl hll => by
    refine ⟨freshL_map fun a ha => (hl a ha).fr, Sp.ol (fun u hu => ?_) (by rw [List.length_map]; omega), Vk.lst (k := 3) (fun d hd => ?_) (by rw [List.length_map]; omega), by rw [List.length_map, hll]⟩
    · obtain ⟨c, hc, rfl⟩ := List.mem_map.mp hu
      exact (hl c hc).sp
    · obtain ⟨c, hc, rfl⟩ := List.mem_map.mp hd
      exact (hl c hc).vk
  have k1 := gx (c1X st n (firstL n w)) (fun a ha => by
    obtain ⟨x, _, rfl⟩ := List.mem_map.mp ha
    exact hok _ _) (by simp [c1X])
  have k2 := gx (c2X e st n (firstL n w)) (fun a ha => by
    obtain ⟨x, _, rfl⟩ := List.mem_map.mp ha
    exact hok _ _) (by simp [c2X])
  have k0 := told_0 hn h
  have d1 := dx (c1X st n (firstL n w))
  have d2 := dx (c2X e st n (firstL n w))
  have r0 : rX e st n (firstL n w) 0 = (firstL n w).map D.ints := rfl
  have r1 : rX e st n (firstL n w) 1 = (c1X st n (firstL n w)).map e := rfl
  have r2 : rX e st n (firstL n w) 2 = (c2X e st n (firstL n w)).map e := rfl
  generalize rX e st n (firstL n w) = RR at *
  generalize (firstL n w).map T.ints = A at *
  generalize (c1X st n (firstL n w)).map tx = B at *
  generalize (c2X e st n (firstL n w)).map tx = C at *
  have b : F_cbrN [si n, .sh w.d, si i] = .ok ([T.ol A, T.ol B, T.ol C].getD i (.sh .non)) [si n, .sh w.d, si i] := by
    have hat : atI [T.ol A, T.ol B, T.ol C] (i : Int) = some ([T.ol A, T.ol B, T.ol C].getD i (.sh .non)) := by
      rw [atI_ok (by omega) (by simp; omega), Int.toNat_natCast, List.getD_eq_getElem?_getD, List.getElem?_eq_getElem (by simpa using hi)]
      rfl
    generalize [T.ol A, T.ol B, T.ol C].getD i (.sh .non) = res at *
    generalize w.d = W at *
    simp [F_cbrN, m_colours_by_round, ha, hat]
  match i, hi with
  | 0, _ => exact ⟨.ol A, (hel 0).trans b, by rw [hR, r0, ← d0]; rfl, k0.1, k0.2.1, by rw [hR, r0]; exact k0.2.2.1, by rw [hR, r0]; exact k0.2.2.2⟩
  | 1, _ => exact ⟨.ol B, (hel 1).trans b, by rw [hR, r1, ← d1]; rfl, k1.1, k1.2.1, by rw [hR, r1]; exact k1.2.2.1, by rw [hR, r1]; exact k1.2.2.2⟩
  | 2, _ => exact ⟨.ol C, (hel 2).trans b, by rw [hR, r2, ← d2]; rfl, k2.1, k2.2.1, by rw [hR, r2]; exact k2.2.2.1, by rw [hR, r2]; exact k2.2.2.2⟩
open Classical in
theorem cbr_o {n : Nat} (hn : n ≤ 100) {w : Th} (h : w.ok n) (hvw : w.vw n = w) (hvo : F_view_of [.sh w.d] = .ok (.sh w.d) [.sh w.d]) (s1 : ¬ w.kn = "graph") (s2 : ¬ w.kn = "sets") (hR : rndD n w = fun _ => (firstL n w).map D.ints) {i : Nat} (hi : i < 3) : ∃ tt, Told n w i tt := by
  have q0 := in_two' (s := w.kn) (a := "graph") (b := "sets")
  rw [decide_eq_false s1, decide_eq_false s2] at q0
  have k0 := told_0 hn h
  have hf := first_ok hn h
  have d0 : dl ((firstL n w).map T.ints) = (firstL n w).map D.ints := dl_rows _
  refine ⟨.ol ((firstL n w).map T.ints), ?_, by rw [hR, ← d0]; rfl, k0.1, k0.2.1, by rw [hR]; exact k0.2.2.1, by rw [hR]; exact k0.2.2.2⟩
  show (if F_view_of [.sh w.d] = .ok (.sh w.d) [.sh w.d] ∧ oInB true (.str w.kn) (.tup [.str "graph", .str "sets"]) = some (.bl true) then (if 0 ≤ (i : Int) ∧ (i : Int) < 3 then (match F_first_colours [si n, .sh w.d] with | .ok t1 us => FOut.ok t1 [si n, .sh w.d, si i] | _ => FOut.bad) else FOut.bad) else _) = _
  rw [if_pos ⟨hvo, q0⟩, if_pos (by omega), hf]
theorem told_ok {n : Nat} (hn : n ≤ 100) {w : Th} (h : w.ok n) {i : Nat} (hi : i < 3) : ∃ tt, Told n w i tt := by
  cases w with
  | col l =>
    have hix : oIx (Th.col l).d (.int 0) = some (.str "colours") := rfl
    have hin := in_two (s := "colours") (a := "graph") (b := "turning") (.tup [.str "graph", .str "turning"]) (.inr rfl)
    rw [decide_eq_false c7, decide_eq_false c8] at hin
    refine cbr_o hn h rfl ?_ c7 c1 rfl hi
    generalize (Th.col l).d = y at *
    try simp at hin
    simp [F_view_of, m_view_of, hix, hin]
  | ro l =>
    have hix : oIx (Th.ro l).d (.int 0) = some (.str "row") := rfl
    have hin := in_two (s := "row") (a := "graph") (b := "turning") (.tup [.str "graph", .str "turning"]) (.inr rfl)
    rw [decide_eq_false c11, decide_eq_false c12] at hin
    refine cbr_o hn h rfl ?_ c11 (show ¬ ("row" : Str) = "sets" by decide) rfl hi
    generalize (Th.ro l).d = y at *
    try simp at hin
    simp [F_view_of, m_view_of, hix, hin]
  | gr m =>
    have hm := dist_mat n m
    have q0 := in_two' (s := "graph") (a := "graph") (b := "sets")
    rw [decide_eq_true (rfl : ("graph" : Str) = "graph")] at q0
    refine cbr_X tG_d (stG n (distM n m)) hn h (fun r x => okG hn _ r x) (all_X tG_d (stG n (distM n m)) hn h (fun r x => okG hn _ r x) (next_gr embR (by omega) hn hm (first_len h)) (next_gr embG (by omega) hn hm (by simp [c1X]))) (fun q => ?_) rfl hi
    have q2 : oInB true (.str "graph") (.tup [.str "graph", .str "sets"]) = some (.bl true) := q.2
    rw [q0] at q2
    simp at q2
  | tu p =>
    have hm := dist_mat n (arcM p)
    refine cbr_X tG_d (stG n (distM n (arcM p))) hn h (fun r x => okG hn _ r x) (all_X tG_d (stG n (distM n (arcM p))) hn h (fun r x => okG hn _ r x) (next_gr embR (by omega) hn hm (first_len h)) (next_gr embG (by omega) hn hm (by simp [c1X]))) (fun q => ?_) rfl hi
    obtain ⟨u, hu, hv⟩ := view_ok hn h
    rw [q.1] at hv
    cases hv
    have : (D.str "turning") = D.str "graph" := by
      have : D.tup [.str "turning", _] = D.tup [.str "graph", _] := hu
      injection this with h1
      injection h1
    injection this with h2
    exact absurd h2 (by decide)
  | se L =>
    have q0 := in_two' (s := "sets") (a := "graph") (b := "sets")
    rw [decide_eq_true (rfl : ("sets" : Str) = "sets")] at q0
    refine cbr_X tS_d (stS L) hn h (fun r x => okS hn h.1 h.2.2 r x) (all_X tS_d (stS L) hn h (fun r x => okS hn h.1 h.2.2 r x) (next_se embR (by omega) hn h.1 h.2.2 (first_len h)) (next_se embS (by omega) hn h.1 h.2.2 (by simp [c1X]))) (fun q => ?_) rfl hi
    have q2 : oInB true (.str "sets") (.tup [.str "graph", .str "sets"]) = some (.bl true) := q.2
    rw [q0] at q2
    simp at q2
end
end Cl

set_option maxHeartbeats 2000000
namespace Cl
noncomputable section
open PySem L2 Z
/-! ### colours go with the places -/
theorem to_iota {n : Nat} {g : List Int} (hg : Turn n g) : (iota n).map (to g) = g := by
  have := iota_map (n := n) hg.len (fun z : Int => z)
  rw [List.map_id'' (fun _ => rfl)] at this
  exact this
theorem perm_iota {n : Nat} {g : List Int} (hg : Turn n g) : ((iota n).map (to g)).Perm (iota n) := by
  rw [to_iota hg]
  exact hg
theorem sum_perm {l m : List Int} (h : l.Perm m) : l.sum = m.sum := by
  induction h with
  | nil => rfl
  | cons a _ ih => rw [List.sum_cons, List.sum_cons, ih]
  | swap a b l => simp only [List.sum_cons]; omega
  | trans _ _ h1 h2 => exact h1.trans h2
theorem perm_map {β : Type} {n : Nat} {g : List Int} (hg : Turn n g) {f f' : Int → β} (h : ∀ x : Int, 0 ≤ x → x < n → f' (to g x) = f x) : ((iota n).map f').Perm ((iota n).map f) := by
  have h1 := ((perm_iota hg).map f').symm
  rw [List.map_map] at h1
  have e : (iota n).map (f' ∘ to g) = (iota n).map f := List.map_congr_left fun x hx => by
    obtain ⟨x0, x1⟩ := mem_iota.mp hx
    exact h x x0 x1
  rw [e] at h1
  exact h1
theorem at_fn {β : Type} {n : Nat} (f : Int → β) (d : β) {x : Int} (x0 : 0 ≤ x) (x1 : x < n) : ((iota n).map f).getD x.toNat d = f x := by
  rw [List.getD_eq_getElem?_getD, List.getElem?_map, iota_get n _ (by omega)]
  show f ((x.toNat : Nat) : Int) = f x
  rw [show ((x.toNat : Nat) : Int) = x by omega]
theorem rk_fn {X : Type} [DecidableEq X] (e : X → D) {n : Nat} (f : Int → X) : rkE e ((iota n).map f) = (iota n).map fun x => (((unl (srtE e ((iota n).map f))).idxOf (f x) : Nat) : Int) := by
  unfold rkE
  rw [List.map_map]; rfl
theorem rk_eqv {X : Type} [DecidableEq X] {k : Nat} {e : X → D} (he : Emb k e) {n : Nat} {g : List Int} (hg : Turn n g) {f f' : Int → X} (h : ∀ x : Int, 0 ≤ x → x < n → f' (to g x) = f x) {x : Int} (x0 : 0 ≤ x) (x1 : x < n) :
    (rkE e ((iota n).map f')).getD (to g x).toNat 0 = (rkE e ((iota n).map f)).getD x.toNat 0 := by
  have t := to_rg hg x0 x1
  rw [rk_fn, rk_fn, at_fn _ _ t.1 t.2, at_fn _ _ x0 x1, h x x0 x1, srtE_congr he (perm_map hg h)]
def Eqv (n : Nat) (g : List Int) (r r' : List Int) : Prop := r.length = n ∧ r'.length = n ∧ ∀ y : Int, 0 ≤ y → y < n → r'.getD (to g y).toNat 0 = r.getD y.toNat 0
theorem rX_eqv {X : Type} [DecidableEq X] {k : Nat} {e : X → D} (he : Emb k e) {n : Nat} {g : List Int} (hg : Turn n g) {st st' : List Int → Int → X} {f0 f0' : Int → List Int} (h0 : ∀ x : Int, 0 ≤ x → x < n → f0' (to g x) = f0 x) (hst : ∀ r r' : List Int, Eqv n g r r' → ∀ x : Int, 0 ≤ x → x < n → st' r' (to g x) = st r x) (i : Nat) {x : Int} (x0 : 0 ≤ x) (x1 : x < n) :
    (rX e st' n ((iota n).map f0') i).getD (to g x).toNat .non = (rX e st n ((iota n).map f0) i).getD x.toNat .non := by
  have t := to_rg hg x0 x1
  have q1 : Eqv n g (rkE D.ints ((iota n).map f0)) (rkE D.ints ((iota n).map f0')) := ⟨by simp [rk_len], by simp [rk_len], fun y y0 y1 => rk_eqv embR hg h0 y0 y1⟩
  have h1 := hst _ _ q1
  have q2 : Eqv n g (rkE e (c1X st n ((iota n).map f0))) (rkE e (c1X st' n ((iota n).map f0'))) := ⟨by simp [rk_len, c1X], by simp [rk_len, c1X], fun y y0 y1 => rk_eqv he hg h1 y0 y1⟩
  have h2 := hst _ _ q2
  match i with
  | 0 =>
    show (((iota n).map f0').map D.ints).getD _ _ = (((iota n).map f0).map D.ints).getD _ _
    rw [List.map_map, List.map_map, at_fn _ _ t.1 t.2, at_fn _ _ x0 x1]
    show D.ints (f0' (to g x)) = D.ints (f0 x)
    rw [h0 x x0 x1]
  | 1 =>
    show ((c1X st' n _).map e).getD _ _ = ((c1X st n _).map e).getD _ _
    unfold c1X
    rw [List.map_map, List.map_map, at_fn _ _ t.1 t.2, at_fn _ _ x0 x1]
    exact congrArg e (h1 x x0 x1)
  | i + 2 =>
    show ((c2X e st' n _).map e).getD _ _ = ((c2X e st n _).map e).getD _ _
    unfold c2X
    rw [List.map_map, List.map_map, at_fn _ _ t.1 t.2, at_fn _ _ x0 x1]
    exact congrArg e (h2 x x0 x1)
/-! ### each kind -/
theorem filt_map {n : Nat} {g : List Int} (hg : Turn n g) {β : Type} {p p' : Int → Bool} {f f' : Int → β} (hp : ∀ x : Int, 0 ≤ x → x < n → p' (to g x) = p x) (hf : ∀ x : Int, 0 ≤ x → x < n → f' (to g x) = f x) : (((iota n).filter p').map f').Perm (((iota n).filter p).map f) := by
  have h1 := (((perm_iota hg).filter p').map f').symm
  refine h1.trans (List.Perm.of_eq ?_)
  rw [List.filter_map, List.map_map]
  have e1 : (iota n).filter (p' ∘ to g) = (iota n).filter p := List.filter_congr fun x hx => by
    obtain ⟨x0, x1⟩ := mem_iota.mp hx
    exact hp x x0 x1
  rw [e1]
  refine List.map_congr_left fun x hx => ?_
  obtain ⟨x0, x1⟩ := mem_iota.mp (List.mem_filter.mp hx).1
  exact hf x x0 x1
theorem stG_eqv {n : Nat} {g : List Int} (hg : Turn n g) {M M' : List (List Int)} (hM : ∀ x y : Int, 0 ≤ x → x < n → 0 ≤ y → y < n → entM M' (to g x) (to g y) = entM M x y) {r r' : List Int} (hr : Eqv n g r r') {x : Int} (x0 : 0 ≤ x) (x1 : x < n) : stG n M' r' (to g x) = stG n M r x := by
  have e1 := hr.2.2 x x0 x1
  have e2 : arG n M' r' (to g x) = arG n M r x := by
    refine srtE_congr embE3 (filt_map hg (fun y y0 y1 => ?_) fun y y0 y1 => ?_)
    · have : to g y = to g x ↔ y = x := ⟨to_inj hg y0 y1 x0 x1, fun e => by rw [e]⟩
      simp [this]
    · rw [hM x y x0 x1 y0 y1, hM y x y0 y1 x0 x1, hr.2.2 y y0 y1]
  show (r'.getD _ 0, arG n M' r' (to g x)) = (r.getD _ 0, arG n M r x)
  rw [e1, e2]
theorem set_eqv {n : Nat} {g : List Int} (hg : Turn n g) {L : List (List Int)} (hL : ∀ s ∈ L, Rw n s) {β : Type} {F F' : List Int → β} (hF : ∀ s ∈ L, F' (isrt (thenL s g)) = F s) {x : Int} (x0 : 0 ≤ x) (x1 : x < n) :
    (((rsrt (L.map fun s => isrt (thenL s g))).filter fun s => decide (to g x ∈ s)).map F').Perm ((L.filter fun s => decide (x ∈ s)).map F) := by
  have h1 := (((rsrt_perm (L.map fun s => isrt (thenL s g))).filter fun s => decide (to g x ∈ s)).map F')
  refine h1.trans (List.Perm.of_eq ?_)
  rw [List.filter_map, List.map_map]
  have e1 : L.filter ((fun s => decide (to g x ∈ s)) ∘ fun s => isrt (thenL s g)) = L.filter fun s => decide (x ∈ s) := List.filter_congr fun s hs => by
    have h2 : to g x ∈ isrt (thenL s g) ↔ x ∈ s := (isrt_perm _).mem_iff.trans (mem_go hg (hL s hs).2.1 ⟨x0, x1⟩)
    show decide (to g x ∈ isrt (thenL s g)) = _
    simp [h2]
  rw [e1]
  exact List.map_congr_left fun s hs => hF s (List.mem_filter.mp hs).1
theorem stS_eqv {n : Nat} {g : List Int} (hg : Turn n g) {L : List (List Int)} (hL : ∀ s ∈ L, Rw n s) {r r' : List Int} (hr : Eqv n g r r') {x : Int} (x0 : 0 ≤ x) (x1 : x < n) : stS (rsrt (L.map fun s => isrt (thenL s g))) r' (to g x) = stS L r x := by
  have e1 := hr.2.2 x x0 x1
  have e2 : arS (rsrt (L.map fun s => isrt (thenL s g))) r' (to g x) = arS L r x := by
    refine srtE_congr embR (set_eqv hg hL (fun s hs => ?_) x0 x1)
    refine isrt_congr ?_
    have h1 : (thenL (isrt (thenL s g)) r').Perm (thenL (thenL s g) r') := (isrt_perm (thenL s g)).map _
    refine h1.trans (List.Perm.of_eq ?_)
    unfold thenL
    rw [List.map_map]
    refine List.map_congr_left fun y hy => ?_
    have := (hL s hs).2.1 y hy
    exact hr.2.2 y this.1 this.2
  show (r'.getD _ 0, arS _ r' (to g x)) = (r.getD _ 0, arS L r x)
  rw [e1, e2]
theorem fgL_eqv {n : Nat} {g : List Int} (hg : Turn n g) {m m' : List (List Int)} (hb : Bin n m) (hb' : Bin n m') (ha : Alike n g m m') {x : Int} (x0 : 0 ≤ x) (x1 : x < n) : fgL m' (to g x) = fgL m x := by
  have t := to_rg hg x0 x1
  have row : ∀ {m : List (List Int)}, Bin n m → ∀ {x : Int}, 0 ≤ x → x < n → rowAt m x = (iota n).map (eAt m x) := fun {m} hb {x} x0 x1 => by
    have hl := (hb.2 _ (rowAt_mem (rows := m) x0 (by rw [hb.1]; exact x1))).1
    have := iota_map hl (fun z : Int => z)
    rw [List.map_id'' (fun _ => rfl)] at this
    exact this.symm
  have colm : ∀ {m : List (List Int)}, Bin n m → ∀ {x : Int}, 0 ≤ x → x < n → (m.map fun r => r.getD x.toNat 0) = (iota n).map fun y => eAt m y x := fun {m} hb {x} x0 x1 => by
    apply List.ext_getElem
    · simp [hb.1]
    · intro k h1 h2
      simp at h1 h2
      rw [List.getElem_map, List.getElem_map]
      have e : (iota n)[k]'(by simpa using h2) = (k : Int) := by rw [← getD_at, iota_getD n k h2]
      rw [e]
      unfold eAt rowAt
      rw [Int.toNat_natCast, List.getD_eq_getElem?_getD (l := m), List.getElem?_eq_getElem h1]
      rfl
  have e1 : entM m' (to g x) (to g x) = entM m x x := ha x x x0 x1 x0 x1
  have e2 : (rowAt m' (to g x)).sum = (rowAt m x).sum := by
    rw [row hb x0 x1, row hb' t.1 t.2]
    exact sum_perm (perm_map hg fun y y0 y1 => ha x y x0 x1 y0 y1)
  have e3 : (m'.map fun r => r.getD (to g x).toNat 0).sum = (m.map fun r => r.getD x.toNat 0).sum := by
    rw [colm hb x0 x1, colm hb' t.1 t.2]
    exact sum_perm (perm_map hg (f := fun y => eAt m y x) (f' := fun y => eAt m' y (to g x)) fun y y0 y1 => ha y x y0 y1 x0 x1)
  unfold fgL
  rw [e1, e2, e3]
theorem go_eqv {n : Nat} {w : Th} (h : w.ok n) {g : List Int} (hg : Turn n g) (i : Nat) {x : Int} (x0 : 0 ≤ x) (x1 : x < n) : (rndD n (w.go n g) i).getD (to g x).toNat .non = (rndD n w i).getD x.toNat .non := by
  have t := to_rg hg x0 x1
  have ho := go_ok h hg
  cases w with
  | col l =>
    have hl : l.length = n := h
    have hl' : (thenL (bkL n g) l).length = n := ho
    have hc := (col_iff hg hl hl').mpr rfl x x0 x1
    show (((thenL (bkL n g) l).map fun x => [x]).map D.ints).getD _ _ = ((l.map fun x => [x]).map D.ints).getD _ _
    rw [List.map_map, List.map_map, List.getD_eq_getElem?_getD, List.getD_eq_getElem?_getD, List.getElem?_map, List.getElem?_map, List.getElem?_eq_getElem (by omega), List.getElem?_eq_getElem (by omega)]
    rw [getD_at (by omega), getD_at (by omega)] at hc
    simp [hc]
  | ro r =>
    have hr : ∀ x ∈ r, 0 ≤ x ∧ x < n := h.1
    show (((iota n).map (frL (thenL r g))).map D.ints).getD _ _ = (((iota n).map (frL r)).map D.ints).getD _ _
    rw [List.map_map, List.map_map, at_fn _ _ t.1 t.2, at_fn _ _ x0 x1]
    have hm : to g x ∈ thenL r g ↔ x ∈ r := mem_go hg hr ⟨x0, x1⟩
    have hi : (thenL r g).idxOf (to g x) = r.idxOf x := by
      clear hm ho h
      induction r with
      | nil => rfl
      | cons a r ih =>
        have a' := hr a List.mem_cons_self
        have ih := ih fun y hy => hr y (List.mem_cons_of_mem _ hy)
        show (to g a :: thenL r g).idxOf (to g x) = _
        rw [List.idxOf_cons, List.idxOf_cons, ih]
        by_cases c : a = x
        · subst c; simp
        · have : ¬ to g a = to g x := fun q => c (to_inj hg a'.1 a'.2 x0 x1 q)
          have e1 : (a == x) = false := by simpa using c
          have e2 : (to g a == to g x) = false := by simpa using this
          rw [e1, e2]
    show D.ints (frL (thenL r g) (to g x)) = D.ints (frL r x)
    unfold frL
    rw [hi]
    by_cases c : x ∈ r
    · rw [if_pos c, if_pos (hm.mpr c)]
    · rw [if_neg c, if_neg fun q => c (hm.mp q)]
  | gr m =>
    have hb : Bin n m := h
    have hb' : Bin n ((bkL n g).map fun x => (bkL n g).map fun y => ent m x y) := ho
    have ha := (mat_iff hg hb hb').mpr rfl
    exact rX_eqv embG hg (st := stG n (distM n m)) (st' := stG n (distM n ((bkL n g).map fun x => (bkL n g).map fun y => ent m x y))) (f0 := fgL m) (f0' := fgL ((bkL n g).map fun x => (bkL n g).map fun y => ent m x y)) (fun y y0 y1 => fgL_eqv hg hb hb' ha y0 y1) (fun r r' hr y y0 y1 => stG_eqv hg (fun a b a0 a1 b0 b1 => dist_eqv hg ha a0 a1 b0 b1) hr y0 y1) i x0 x1
  | tu p =>
    have hp : Turn n p := h
    have hp' : Turn n (cjL n p g) := ho
    have hb := arc_bin hp.len
    have hb' := arc_bin hp'.len
    have ha := (tu_iff hg hp hp').mpr rfl
    exact rX_eqv embG hg (st := stG n (distM n (arcM p))) (st' := stG n (distM n (arcM (cjL n p g)))) (f0 := fgL (arcM p)) (f0' := fgL (arcM (cjL n p g))) (fun y y0 y1 => fgL_eqv hg hb hb' ha y0 y1) (fun r r' hr y y0 y1 => stG_eqv hg (fun a b a0 a1 b0 b1 => dist_eqv hg ha a0 a1 b0 b1) hr y0 y1) i x0 x1
  | se L =>
    exact rX_eqv embS hg (st := stS L) (st' := stS (rsrt (L.map fun s => isrt (thenL s g)))) (f0 := fsL L) (f0' := fsL (rsrt (L.map fun s => isrt (thenL s g)))) (fun y y0 y1 => isrt_congr (set_eqv hg h.1 (fun s hs => by
      rw [(isrt_perm _).length_eq, thenL, List.length_map]) y0 y1)) (fun r r' hr y y0 y1 => stS_eqv hg h.1 hr y0 y1) i x0 x1
end
end Cl

namespace Cl
noncomputable section
open PySem L2 Z
def x_law_coloured_1 : EM := (eGet (vIx (vV 10) (pOp oIx (pV 3) (pV 11))))
def b_law_coloured_2 : SM := (mSeq (mUnp (bTup [9, 10]) (eTup (eCons (eCallB 3 F_colours_by_round (aCons (pV 1) (aCons (pV 2) (aCons (pV 8) aNil)))) (eCons (eFz (eCallB 3 F_colours_by_round (aCons (pV 1) (aCons (pV 5) (aCons (pV 8) aNil))))) eNil)))) (mSeq (mIf (eT (qOr (qNot (pB (pCall 2 (F_law_same 6) (aCons (pV 9) (aCons (pOp oIx (pV 4) (pV 8)) aNil))))) (qOr (qNot (pB (pIsi Ty.list (pV 10)))) (pB (pOp oNe (pCB (o1 oLen) (aCons (pV 10) aNil)) (pV 1)))))) (mRet (eP (pC (.bl false)))) mNil) (mSeq (mIf (eNot (eB (eCall 2 (F_law_same 6) (eCons (eLC [11] (iR1 (eCons (eV 1) eNil)) (bName 11) tAll x_law_coloured_1) (eCons (eGet (vIx (vV 4) (pV 8))) eNil))))) (mRet (eP (pC (.bl false)))) mNil) (mDrop (eCallI 1 9 (F_law_spoil 6) eNil)))))
def m_law_coloured : SM := (mSeq (mPar 4 5 (eCons (eCall 2 F_law_rounds (eCons (eV 2) (eCons (eV 1) eNil))) (eCons (eCall 2 F_law_goes (eCons (eV 2) (eCons (eV 3) eNil))) eNil))) (mSeq (mSet 6 (eCall 1 (F_law_copy 6) (eCons (eTup (eCons (eV 2) (eCons (eV 5) eNil))) eNil))) (mSeq (mSet 7 (eCallI 2 0 F_law_turning (eCons (eP (pC (.int 3))) eNil))) (mSeq (mFor (iE (eV 7)) (bName 8) b_law_coloured_2) (mRet (eP (pAndV (pCall 2 (F_law_same 6) (aCons (pCall 3 F_colours_by_round (aCons (pV 1) (aCons (pV 2) (aCons (pOp oIx (pV 7) (pC (.int 0))) aNil)))) (aCons (pOp oIx (pV 4) (pOp oIx (pV 7) (pC (.int 0)))) aNil))) (pCall 2 (F_law_same 6) (aCons (pTup (aCons (pV 2) (aCons (pV 5) aNil))) (aCons (pV 6) aNil))))))))))
def F_law_coloured : FM := mFunI 4 12 m_law_coloured
theorem thing_nd {t : T} (ht : Pool t) {n : Nat} (hn : n ≤ 100) {k : Nat} (hk : k < 5) : ∃ (t' u : T) (w : Th), Pool t' ∧ w.ok n ∧ w.nd ∧ (∃ ts, u = .ot ts) ∧ u.d = w.d ∧ F_law_thing [t, si n, si k] = .ok u [t', si n, si k] := by
  by_cases c : k = 4
  · subst c
    obtain ⟨t1, p, j, g1, hp, hj, e1⟩ := some_ok ht hn
    refine ⟨t1, .ot [.sh (.str "row"), T.ints (p.take j)], .ro (p.take j), g1, ⟨fun x hx => hp.mem.mp (List.mem_of_mem_take hx), by rw [List.length_take, hp.len]; omega⟩, ?_, ⟨_, rfl⟩, (Th.td (.ro (p.take j))), ?_⟩
    · exact ((List.Perm.nodup_iff hp).mpr (nd_iota n)).sublist (List.take_sublist _ _)
    · simp at e1
      simp [F_law_thing, m_law_thing, e1]
  · obtain ⟨t', u, w, h1, h2, h3, h4, h5, h6⟩ := thing_draw ht hn hk
    refine ⟨t', u, w, h1, h2, ?_, h4, h5, h6⟩
    cases w with
    | ro r =>
      have h3 : ("row" : Str) = knL k := h3
      have : k = 0 ∨ k = 1 ∨ k = 2 ∨ k = 3 := by omega
      rcases this with rfl | rfl | rfl | rfl
      · exact absurd h3 (by show ¬ ("row" : Str) = "colours"; decide)
      · exact absurd h3 (by show ¬ ("row" : Str) = "graph"; decide)
      · exact absurd h3 (by show ¬ ("row" : Str) = "sets"; decide)
      · exact absurd h3 (by show ¬ ("row" : Str) = "turning"; decide)
    | _ => trivial
theorem same_v {d : D} {k : Nat} (h : Vk k d) (hk : k ≤ 5) : F_law_same 6 [.sh d, .sh d] = .ok (.sh (.bl true)) [.sh d, .sh d] := same_refl 6 d (by have := h.1; omega) h.2
theorem back_lc {n : Nat} (hn : n ≤ 100) {g : List Int} (hg : Turn n g) {R R' : List D} (hR : R.length = n) (hR' : R'.length = n) (h : ∀ x : Int, 0 ≤ x → x < n → R'.getD (to g x).toNat .non = R.getD x.toNat .non) {e0 e2 e4 e5 e6 e7 e8 e9 : Option T} :
    lcL [11] (bName 11) tAll x_law_coloured_1 ((iota n).map ig) [] [e0, some (si n), e2, some (shi g), e4, e5, e6, e7, e8, e9, some (.sh (.lst R')), none] = .ok (R.map T.sh) [e0, some (si n), e2, some (shi g), e4, e5, e6, e7, e8, e9, some (.sh (.lst R')), none] := by
  have := lcL_T (slots := [11]) (b := bName 11) (elt := x_law_coloured_1) (ρ := [e0, some (si n), e2, some (shi g), e4, e5, e6, e7, e8, e9, some (.sh (.lst R')), none]) (fun x => T.sh (R.getD x.toNat .non)) (p := iota n) (fun x hx => by
    obtain ⟨x0, x1⟩ := mem_iota.mp hx
    have t := to_rg hg x0 x1
    have hgl := hg.len
    refine ⟨[e0, some (si n), e2, some (shi g), e4, e5, e6, e7, e8, e9, some (.sh (.lst R')), some (si x)], [e0, some (si n), e2, some (shi g), e4, e5, e6, e7, e8, e9, some (.sh (.lst R')), some (si x)], rfl, ?_, rfl⟩
    have a1 := atI_D g x0 (by omega)
    have a2 : atI (R'.map T.sh) (to g x) = some (.sh (R.getD x.toNat .non)) := by
      rw [atI_ok t.1 (by simp; omega), List.getElem?_map, List.getElem?_eq_getElem (by omega), ← h x x0 x1, List.getD_eq_getElem?_getD, List.getElem?_eq_getElem (by omega)]
      rfl
    have e : g.getD x.toNat 0 = to g x := rfl
    rw [e] at a1
    generalize to g x = z at *
    generalize R.getD x.toNat .non = y at *
    try simp at a1
    simp [x_law_coloured_1, a1, a2]) (by simp; unfold lim; omega)
  have e2 : (iota n).map (fun x => T.sh (R.getD x.toNat .non)) = R.map T.sh := by
    apply List.ext_getElem
    · simp [hR]
    · intro k h1 h2
      simp at h1 h2
      rw [List.getElem_map, List.getElem_map]
      have e : (iota n)[k]'(by simpa using h1) = (k : Int) := by rw [← getD_at, iota_getD n k h1]
      rw [e, Int.toNat_natCast, List.getD_eq_getElem?_getD, List.getElem?_eq_getElem h2]
      rfl
  rw [e2] at this
  exact this
theorem pass_ok {n : Nat} (hn : n ≤ 100) {w : Th} (h : w.ok n) {g : List Int} (hg : Turn n g) {k : Nat} (hk : k < 3) {e0 e6 e7 e9 e10 : Option T} {t5 : T} (h5 : t5.d = (w.go n g).d) :
    ∃ j9 j10 : Option T, b_law_coloured_2 [e0, some (si n), some (.sh w.d), some (shi g), some (.ol ([D.lst (rndD n w 0), D.lst (rndD n w 1), D.lst (rndD n w 2)].map T.sh)), some t5, e6, e7, some (si k), e9, e10, none] = .nx [e0, some (si n), some (.sh w.d), some (shi g), some (.ol ([D.lst (rndD n w 0), D.lst (rndD n w 1), D.lst (rndD n w 2)].map T.sh)), some t5, e6, e7, some (si k), j9, j10, none] := by
  have ho := go_ok h hg
  obtain ⟨tt, q⟩ := told_ok hn h hk
  obtain ⟨tu, q'⟩ := told_ok hn ho hk
  have hb : ∀ e9 : Option T, _ := fun e9 => back_lc hn hg (R := rndD n w k) (R' := rndD n (w.go n g) k) q.len q'.len (fun x x0 x1 => go_eqv h hg k x0 x1) (e0 := e0) (e2 := some (.sh w.d)) (e4 := some (.ol ([D.lst (rndD n w 0), D.lst (rndD n w 1), D.lst (rndD n w 2)].map T.sh))) (e5 := some t5) (e6 := e6) (e7 := e7) (e8 := some (si k)) (e9 := e9)
  have hb := hb (some tt)
  have hs := same_v q.vk (by omega)
  obtain ⟨ts, hsp⟩ := q.sp
  have hi := inR_nat (n := n) (by omega)
  have hat1 : atI ([D.lst (rndD n w 0), D.lst (rndD n w 1), D.lst (rndD n w 2)].map T.sh) (k : Int) = some (.sh (.lst (rndD n w k))) := by
    match k, hk with
    | 0, _ => exact at_0 _ _
    | 1, _ => exact at_1 _ _ _
    | 2, _ => exact at_2 _ _ _ _
  have hat2 : atI [D.lst (rndD n w 0), D.lst (rndD n w 1), D.lst (rndD n w 2)] (k : Int) = some (.lst (rndD n w k)) := by
    rw [atI_ok (by omega) (by simp; omega), Int.toNat_natCast]
    match k, hk with
    | 0, _ => rfl
    | 1, _ => rfl
    | 2, _ => rfl
  have hd := dl_sh [D.lst (rndD n w 0), D.lst (rndD n w 1), D.lst (rndD n w 2)]
  have hdR := dl_sh (rndD n w k)
  have r1 := q.run
  have r2 := q'.run
  have d1 := q.dat
  have d2 := q'.dat
  have f1 := q.fr
  have f2 := q'.fr
  have len2 : (rndD n (w.go n g) k).length = n := q'.len
  refine ⟨some ts, some (.sh (.lst (rndD n (w.go n g) k))), ?_⟩
  have hfz : tu.fz = .sh (.lst (rndD n (w.go n g) k)) := by
    have : tu.fz = .sh tu.d := by cases tu <;> rfl
    rw [this, d2]
  generalize ([D.lst (rndD n w 0), D.lst (rndD n w 1), D.lst (rndD n w 2)].map T.sh) = RT at *
  generalize [D.lst (rndD n w 0), D.lst (rndD n w 1), D.lst (rndD n w 2)] = RD at *
  clear q q' ho
  generalize rndD n (w.go n g) k = R2 at *
  generalize hRM : (rndD n w k).map T.sh = RM at *
  generalize rndD n w k = R1 at *
  generalize w.d = W at *
  generalize (w.go n g).d = W2 at *
  generalize g.map D.int = G at *
  try simp at hb
  simp [b_law_coloured_2, h5, r1, r2, f1, f2, d1, d2, hfz, hd, hdR, hat1, hat2, hs, len2, hi, hb, hsp]
end
end Cl

namespace Cl
noncomputable section
open PySem L2 Z
def b_law_1 : SM := (mIf (eNot (eB (eCallI 4 1 F_law_coloured (eCons (eV 2) (eCons (eCallI 3 1 F_law_thing (eCons (eV 2) (eCons (eV 4) eNil))) (eCons (eV 3) eNil)))))) (mRet (eP (pC (.bl false)))) mNil)
def m_lawR : SM := (mSeq (mSet 2 (eOp ixT (eLst (eCons (eP (pC (.int 0))) (eCons (eP (pC (.int 1))) (eCons (eP (pC (.int 2))) (eCons (eP (pC (.int 24))) (eCons (eCallI 2 1 F_law_pick (eCons (eP (pC (.int 25))) eNil)) (eCons (eOp eAddT (eP (pC (.int 3))) (eCallI 2 1 F_law_pick (eCons (eP (pC (.int 7))) eNil))) (eCons (eOp eAddT (eP (pC (.int 3))) (eCallI 2 1 F_law_pick (eCons (eP (pC (.int 7))) eNil))) (eCons (eOp eAddT (eP (pC (.int 4))) (eCallI 2 1 F_law_pick (eCons (eP (pC (.int 9))) eNil))) eNil))))))))) (eCallI 2 1 F_law_pick (eCons (eP (pC (.int 8))) eNil)))) (mSeq (mSet 3 (eCallI 2 1 F_law_turning (eCons (eV 2) eNil))) (mSeq (mFor (iR1 (eCons (eP (pC (.int 5))) eNil)) (bName 4) b_law_1) (mRet (eP (pC (.bl true)))))))
def m_law (ns : List Int) : SM := mSeq (mSet 1 (eCallS F_law_stream ns)) m_lawR
def F_law : List Int → FOut := mFunS 5 m_law
theorem coloured_ok {t : T} (ht : Pool t) {n : Nat} (hn : n ≤ 100) {w : Th} (h : w.ok n) (hd : w.nd) {g : List Int} (hg : Turn n g) : ∃ t', Pool t' ∧ F_law_coloured [t, si n, .sh w.d, shi g] = .ok (.sh (.bl true)) [t', si n, .sh w.d, shi g] := by
  have ho := go_ok h hg
  have hr := lrounds_ok hn h hd
  obtain ⟨u, hu, hgo⟩ := goes_ok hn h hg
  have v1 := Th.v hn h
  have v2 := Th.v hn ho
  have v3 : Vk 4 (.tup [w.d, (w.go n g).d]) := Vk.tup (k := 3) (by simp [v1, v2]) (by simp)
  obtain ⟨tk, hk1, hk2⟩ := copy_ok 6 (.tup [w.d, (w.go n g).d]) (by have := v3.1; omega) v3.2
  obtain ⟨t1, p, g1, hp, e1⟩ := turning_ok ht (n := 3) (by omega)
  have s3 := same_v v3 (by decide)
  have hpl := hp.len
  have hp0 := hp.at (k := 0) (by omega)
  obtain ⟨k0, hk0⟩ : ∃ k0 : Nat, p.getD 0 0 = (k0 : Int) := ⟨(p.getD 0 0).toNat, by omega⟩
  obtain ⟨tt, q⟩ := told_ok hn h (i := k0) (by omega)
  have s0 := same_v q.vk (by omega)
  have hat2 : atI [D.lst (rndD n w 0), D.lst (rndD n w 1), D.lst (rndD n w 2)] (k0 : Int) = some (.lst (rndD n w k0)) := by
    rw [atI_ok (by omega) (by simp; omega), Int.toNat_natCast]
    have hk : k0 < 3 := by omega
    match k0, hk with
    | 0, _ => rfl
    | 1, _ => rfl
    | 2, _ => rfl
  have hdd := dl_sh [D.lst (rndD n w 0), D.lst (rndD n w 1), D.lst (rndD n w 2)]
  have hat0 : atI (p.map D.int) 0 = some (.int (k0 : Int)) := by
    have := atI_D p (show (0 : Int) ≤ 0 by omega) (by omega)
    rw [show ((0 : Int).toNat) = 0 by rfl, hk0] at this
    exact this
  obtain ⟨ρ', e2, j8, j9, j10, rfl⟩ := forN_inv (i := 8) (body := b_law_coloured_2) (its := p.map ig) (ρ := [some t1, some (si n), some (.sh w.d), some (shi g), some (.ol ([D.lst (rndD n w 0), D.lst (rndD n w 1), D.lst (rndD n w 2)].map T.sh)), some (.sh (w.go n g).d), some tk, some (shi p), none, none, none, none])
    (fun _ ρ => ∃ j8 j9 j10 : Option T, ρ = [some t1, some (si n), some (.sh w.d), some (shi g), some (.ol ([D.lst (rndD n w 0), D.lst (rndD n w 1), D.lst (rndD n w 2)].map T.sh)), some (.sh (w.go n g).d), some tk, some (shi p), j8, j9, j10, none]) ⟨none, none, none, rfl⟩ (by
      rintro k u ρ e ⟨j8, j9, j10, rfl⟩
      rw [List.getElem?_map] at e
      obtain ⟨z, ez, rfl⟩ := Option.map_eq_some_iff.mp e
      have hz := hp.mem.mp (List.mem_of_getElem? ez)
      obtain ⟨m, rfl⟩ := nat_of hz.1
      obtain ⟨i9, i10, e3⟩ := pass_ok hn h hg (k := m) (by omega) (e0 := some t1) (e6 := some tk) (e7 := some (shi p)) (e9 := j9) (e10 := j10) (t5 := .sh (w.go n g).d) rfl
      exact ⟨_, .inl e3, _, _, _, rfl⟩)
  refine ⟨t1, g1, ?_⟩
  have r1 := q.run
  have d1 := q.dat
  clear q
  have hfz : u.fz = .sh (w.go n g).d := by
    have : u.fz = .sh u.d := by cases u <;> rfl
    rw [this, hu]
  generalize ([D.lst (rndD n w 0), D.lst (rndD n w 1), D.lst (rndD n w 2)].map T.sh) = RT at *
  generalize [D.lst (rndD n w 0), D.lst (rndD n w 1), D.lst (rndD n w 2)] = RD at *
  generalize rndD n w k0 = R1 at *
  generalize w.d = W at *
  generalize (w.go n g).d = W2 at *
  try simp at hgo
  try simp at hr
  try simp at hk2
  try simp at e1
  try simp at e2
  try simp at s3
  cases u with
  | sh d =>
    have hu : d = W2 := hu
    subst hu
    simp [F_law_coloured, m_law_coloured, hr, hgo, hk1, hk2, e1, e2, hat0, r1, d1, hdd, hat2, s0, s3]
  | ol l =>
    have hu : D.lst (dl l) = W2 := hu
    simp [F_law_coloured, m_law_coloured, hr, hgo, hu, hk1, hk2, e1, e2, hat0, r1, d1, hdd, hat2, s0, s3]
  | ot l =>
    have hu : D.tup (dl l) = W2 := hu
    simp [F_law_coloured, m_law_coloured, hr, hgo, hu, hk1, hk2, e1, e2, hat0, r1, d1, hdd, hat2, s0, s3]
  | od ks l =>
    have hu : (T.od ks l).d = W2 := hu
    simp [F_law_coloured, m_law_coloured, hr, hgo, hu, hk1, hk2, e1, e2, hat0, r1, d1, hdd, hat2, s0, s3]
theorem body_ok {t : T} (ht : Pool t) {n : Nat} (hn : n ≤ 24) {k : Nat} (hk : k < 5) {g : List Int} (hg : Turn n g) {t3 : T} (h3 : t3 = T.ints g ∨ t3 = shi g) {e0 : Option T} :
    ∃ (t' : T), Pool t' ∧ b_law_1 [e0, some t, some (si n), some t3, some (si k)] = .nx [e0, some t', some (si n), some (shi g), some (si k)] := by
  obtain ⟨t1, _, w, g1, hw, hd, ⟨ts, rfl⟩, hu, e1⟩ := thing_nd ht (n := n) (by omega) hk
  have hu : D.tup (dl ts) = w.d := hu
  obtain ⟨t2, g2, e2⟩ := coloured_ok g1 (by omega) hw hd hg
  refine ⟨t2, g2, ?_⟩
  generalize w.d = X at *
  try simp at e1
  try simp at e2
  rcases h3 with rfl | rfl <;> simp [b_law_1, e1, hu, e2]
theorem loop_ok {n : Nat} (hn : n ≤ 24) {g : List Int} (hg : Turn n g) {t : T} (ht : Pool t) :
    ∃ (ρ' : Z.Env), forL (bName 4) b_law_1 ((iota 5).map ig) [none, some t, some (si n), some (T.ints g), none] = .nx ρ' := by
  obtain ⟨ρ', e, _⟩ := forN_inv (i := 4) (body := b_law_1) (its := (iota 5).map ig) (ρ := [none, some t, some (si n), some (T.ints g), none])
    (fun k' ρ => ∃ (t' t3 : T) (j4 : Option T), ρ = [none, some t', some (si n), some t3, j4] ∧ Pool t' ∧ (t3 = T.ints g ∨ t3 = shi g)) ⟨t, _, none, rfl, ht, .inl rfl⟩ (by
      rintro k' u ρ e ⟨t', t3, j4, rfl, h1, h3⟩
      rw [List.getElem?_map] at e
      obtain ⟨z, ez, rfl⟩ := Option.map_eq_some_iff.mp e
      have hz := mem_iota.mp (List.mem_of_getElem? ez)
      obtain ⟨m, rfl⟩ := nat_of hz.1
      obtain ⟨t2, g2, e2⟩ := body_ok h1 hn (k := m) (by omega) hg h3 (e0 := none)
      exact ⟨_, .inl e2, t2, _, _, rfl, g2, .inr rfl⟩)
  exact ⟨ρ', e⟩
theorem law_true : ∀ ns : List Int, ns.length ≤ 63 → F_law ns = .ok (.sh (.bl true)) [] := by
  intro ns hns
  obtain ⟨t0, h0, e0⟩ := stream_ok ns hns
  obtain ⟨t1, a, h1, a0, a1, _, e1⟩ := pick_ok (m := 25) h0 (by decide)
  obtain ⟨t2, b, h2, b0, b1, _, e2⟩ := pick_ok (m := 7) h1 (by decide)
  obtain ⟨t3, c, h3, c0, c1, _, e3⟩ := pick_ok (m := 7) h2 (by decide)
  obtain ⟨t4, d, h4, d0, d1, _, e4⟩ := pick_ok (m := 9) h3 (by decide)
  obtain ⟨t5, x, h5, x0, x1, _, e5⟩ := pick_ok (m := 8) h4 (by decide)
  obtain ⟨u, ⟨n, hn, rfl⟩, hat⟩ := at_all (P := fun u => ∃ n : Nat, n ≤ 24 ∧ u = si n) (l := [si 0, si 1, si 2, si 24, si a, si (3 + b), si (3 + c), si (4 + d)]) (fun u hu => by
    simp only [List.mem_cons, List.not_mem_nil, or_false] at hu
    rcases hu with rfl | rfl | rfl | rfl | rfl | rfl | rfl | rfl
    · exact ⟨0, by decide, rfl⟩
    · exact ⟨1, by decide, rfl⟩
    · exact ⟨2, by decide, rfl⟩
    · exact ⟨24, by decide, rfl⟩
    · obtain ⟨m, rfl⟩ := nat_of a0; exact ⟨m, by omega, rfl⟩
    · obtain ⟨m, rfl⟩ := nat_of b0; exact ⟨3 + m, by omega, by simp⟩
    · obtain ⟨m, rfl⟩ := nat_of c0; exact ⟨3 + m, by omega, by simp⟩
    · obtain ⟨m, rfl⟩ := nat_of d0; exact ⟨4 + m, by omega, by simp⟩) x0 (by simpa using x1)
  obtain ⟨t7, g, h7, hg, e7⟩ := turning_ok h5 (n := n) (by omega)
  obtain ⟨ρ', e9⟩ := loop_ok hn hg h7
  have hi : InR 5 := by unfold InR; omega
  generalize hI : (iota 5).map ig = I5 at *
  show (match m_law ns (List.replicate 5 none) with | .rt t _ => FOut.ok t [] | _ => .bad) = _
  try simp at hat
  try simp at e9
  simp [m_law, m_lawR, e0, e1, e2, e3, e4, e5, hat, e7, hi, hI, e9]
end
end Cl

namespace Cl
open PySem L2 Z
def top (i : Nat) : Stmt := PySem.Challenge.pw_siftyard_k45_whole_colours_by_rounds.main.body.getD i (.Pass ⟨0, 0, 0, 0⟩)
abbrev s_arcs_of : Stmt := top 1
abbrev s_ways_from : Stmt := top 2
abbrev s_distances_of : Stmt := top 3
abbrev s_view_of : Stmt := top 4
abbrev s_first_colours : Stmt := top 5
abbrev s_ranks_of : Stmt := top 6
abbrev s_next_colours : Stmt := top 7
abbrev s_all_rounds : Stmt := top 8
abbrev s_colours_by_round : Stmt := top 9
abbrev s_law_pool : Stmt := top 11
abbrev s_law_stream : Stmt := top 12
abbrev s_law_pick : Stmt := top 13
abbrev s_law_back : Stmt := top 14
abbrev s_law_moved : Stmt := top 15
abbrev s_law_turning : Stmt := top 16
abbrev s_law_same : Stmt := top 17
abbrev s_law_copy : Stmt := top 18
abbrev s_law_spoil : Stmt := top 19
abbrev s_law_unlike : Stmt := top 20
abbrev s_law_some : Stmt := top 21
abbrev s_law_rows : Stmt := top 22
abbrev s_law_sets : Stmt := top 23
abbrev s_law_thing : Stmt := top 24
abbrev s_law_goes : Stmt := top 25
abbrev s_law_far : Stmt := top 26
abbrev s_law_view : Stmt := top 27
abbrev s_law_ranks : Stmt := top 28
abbrev s_law_begin : Stmt := top 29
abbrev s_law_rounds : Stmt := top 30
abbrev s_law_coloured : Stmt := top 31
abbrev s_law : Stmt := top 32
section
variable {P : Program} {w : World} {K : PySem.W.Frag} {mg : Str → Option Value} {base : Heap} {ct : CT}
/-! arcs_of: 0 thing, 1 kind, 2 told, 3 one, 4 y -/
theorem sc_arcs_of : FnScope ["thing", "kind", "told", "one", "y"] ["thing"] (defScope s_arcs_of) := ⟨rfl, rfl, rfl, by decide +kernel, rfl, by decide +kernel, by decide +kernel⟩
theorem ok_arcs_of (dd : Dd K mg "arcs_of" s_arcs_of ["thing"]) (b_len : mg "len" = none) (b_range : mg "range" = none) :
    Fn P w K mg base "arcs_of" (1) ["thing"] (spM ct 1 F_arcs_of) := by
  have sc := sc_arcs_of
  refine fn_def (k := 0) dd sc_arcs_of fun f cdv A outer s H E hr => ?_
  exact ⟨_, (pss_cons (ps_asg (pv 0) (pg_tup (by rfl) (pgs_cons (pg_name (i := 1) sc.nd rfl (Or.inl rfl)) (pgs_cons (pg_name (i := 2) sc.nd rfl (Or.inr rfl)) pgs_nil)))) (pss_cons (ps_if (pt_cmpR (op_eqD (eqU hr)) (pv 1) pe_str (nomark _)) (pss_one (ps_ret (pv 2))) pss_nil) (pss_one (ps_ret (pe_lc (own := [("one", 3)]) rfl sc.nd (pi_seq (pv 2)) (blkOk_by (N := ["thing", "kind", "told", "one", "y"]) (sc := defScope s_arcs_of) (by decide +kernel)) (fun _ _ _ _ _ => (pg_name (i := 3) sc.nd rfl (by first | exact Or.inl rfl | exact Or.inr rfl))) (fun _ _ _ _ _ => pts_nil) (fun _ _ _ _ _ => (pe_lc (own := [("y", 4)]) rfl sc.nd (pi_range1 (by rfl) b_range (pa_cons (pe_callB call_len (by rfl) b_len (by decide +kernel) (pa_cons (pv 2) pa_nil)) pa_nil)) (blkOk_by (by rfl)) (fun _ _ _ _ _ => (pg_name (i := 4) sc.nd rfl (by first | exact Or.inl rfl | exact Or.inr rfl))) (fun _ _ _ _ _ => pts_nil) (fun _ _ _ _ _ => (pe_ifExp (pt_cmpR (op_eqD (eqU hr)) (pv 4) (pv 3) (nomark _)) pe_int pe_int))))))))),
    (ss_seq (ss_unp se_var (sg_tup (is := [1, 2]) rfl) (by decide)) (ss_seq (ss_if (set_p (sp_test (sp_op os_eq sp_var sp_str))) (ss_ret se_mv) ss_nil) (ss_ret (se_lc (slots := [3]) (si_e se_var) sg_name set_yes (se_fz (se_lc (slots := [4]) (si_r1 (sea_cons (se_p (sp_cb cs_len (sa_cons sp_var sa_nil))) sea_nil)) sg_name set_yes (se_if (set_p (sp_test (sp_op os_eq sp_var sp_var))) (se_p sp_int) (se_p sp_int))))))))⟩
/-! ways_from: 0 leads, 1 x, 2 found, 3 near, 4 many, 5 more, 6 u, 7 v -/
theorem sc_ways_from : FnScope ["leads", "x", "found", "near", "many", "more", "u", "v"] ["leads", "x"] (defScope s_ways_from) := ⟨rfl, rfl, rfl, by decide +kernel, rfl, by decide +kernel, by decide +kernel⟩
theorem ok_ways_from (dd : Dd K mg "ways_from" s_ways_from ["leads", "x"]) (b_len : mg "len" = none) :
    Fn P w K mg base "ways_from" (1) ["leads", "x"] (spM ct 2 F_ways_from) := by
  have sc := sc_ways_from
  refine fn_def (k := 0) dd sc_ways_from fun f cdv A outer s H E hr => ?_
  exact ⟨_, (pss_cons (ps_par3 (by rfl) sc.nd rfl rfl rfl (by decide) (by decide) (by decide) rfl rfl rfl (pa_cons (pe_op u_mul (pe_lst (pa_cons (pe_un un_neg pe_int) pa_nil)) (pe_callB call_len (by rfl) b_len (by decide +kernel) (pa_cons (pv 0) pa_nil))) (pa_cons (pe_lst (pa_cons (pv 1) pa_nil)) (pa_cons pe_int pa_nil))) (by rfl)) (pss_cons (ps_while (passes_of rfl) (pt_truth (pv 3) (by intro _; rfl)) (pss_cons (ps_aug (i := 4) sc.nd rfl (Or.inl rfl) pe_int ip_add) (pss_cons (ps_set (i := 5) sc.nd rfl (Or.inl rfl) (pe_lst pa_nil)) (pss_cons (ps_for (passes_of rfl) rfl (pi_seq (pv 3)) (pg_name (i := 6) sc.nd rfl (Or.inl rfl)) (pss_one (ps_for (passes_of rfl) rfl (pi_seq (pe_ix ix_seq (pv 0) (pv 6) (fun _ _ => rfl))) (pg_name (i := 7) sc.nd rfl (Or.inl rfl)) (pss_one (ps_if (PW.pt (pw_and (pt_cmpR u_lt (pe_ix ix_seq (pv 2) (pv 7) (fun _ _ => rfl)) pe_int (nomark _)) (pw_and1 (pt_cmpR (op_neD (eqU hr)) (pv 7) (pv 1) (nomark _))))) (pss_cons (ps_asg (pv 4) (pg_sub (pv 2) (pv 7) set_list)) (pss_one (ps_expr (pe_bm PySem.F.plainAttrs_list PySem.F.slot_list_append PySem.F.type_list_append mt_append (pv 5) (pa_cons (pv 7) pa_nil))))) pss_nil))))) (pss_one (ps_set (i := 3) sc.nd rfl (Or.inl rfl) (pv 5))))))) (pss_one (ps_ret (pv 2))))),
    (ss_seq (ss_par3 (sea_cons (se_op oe_repU (se_lst (sea_cons (se_p (sp_un us_neg sp_int)) sea_nil)) (se_p (sp_cb cs_len (sa_cons sp_var sa_nil)))) (sea_cons (se_lst (sea_cons se_var sea_nil)) (sea_cons (se_p sp_int) sea_nil))) (by decide) (by decide) (by decide)) (ss_seq (ss_while 1000000 (set_p (st_tru sp_var)) (ss_seq (ss_aug (se_p sp_int) (by decide)) (ss_seq (ss_set (se_lst sea_nil) (by decide)) (ss_seq (ss_for (slots := [6]) (si_e se_var) sg_name (by decide) (ss_for (slots := [7]) (si_e (se_get (sv_ix sv_var sp_var))) sg_name (by decide) (ss_if (set_p (st_and (sp_test (sp_op os_lt (sp_op os_ix sp_var sp_var) sp_int)) (sp_test (sp_op os_ne sp_var sp_var)))) (ss_seq (ss_store se_var sp_var) (ss_app se_var)) ss_nil))) (ss_set se_var (by decide)))))) (ss_ret se_mv)))⟩
/-! distances_of: 0 rows, 1 leads, 2 found, 3 x, 4 row, 5 far, 6 y, 7 number -/
theorem sc_distances_of : FnScope ["rows", "leads", "found", "x", "row", "far", "y", "number"] ["rows"] (defScope s_distances_of) := ⟨rfl, rfl, rfl, by decide +kernel, rfl, by decide +kernel, by decide +kernel⟩
theorem ok_distances_of (dd : Dd K mg "distances_of" s_distances_of ["rows"]) (b_enumerate : mg "enumerate" = none) (g_ways_from : Fn P w K mg base "ways_from" 1 ["leads", "x"] (spM ct 2 F_ways_from)) :
    Fn P w K mg base "distances_of" (2) ["rows"] (spM ct 1 F_distances_of) := by
  obtain ⟨_, _, G_ways_from, m_ways_from, k_ways_from, d_ways_from⟩ := g_ways_from
  have sc := sc_distances_of
  refine fn_def (k := 1) dd sc_distances_of fun f cdv A outer s H E hr => ?_
  exact ⟨_, (pss_cons (ps_par (by rfl) sc.nd rfl rfl (by decide) rfl rfl (pa_cons (pe_lc (own := [("row", 4)]) rfl sc.nd (pi_seq (pv 0)) (blkOk_by (N := ["rows", "leads", "found", "x", "row", "far", "y", "number"]) (sc := defScope s_distances_of) (by decide +kernel)) (fun _ _ _ _ _ => (pg_name (i := 4) sc.nd rfl (by first | exact Or.inl rfl | exact Or.inr rfl))) (fun _ _ _ _ _ => pts_nil) (fun _ _ _ _ _ => (pe_lc (own := [("y", 6), ("number", 7)]) rfl sc.nd (pi_enum (by rfl) b_enumerate (pa_cons (pv 4) pa_nil)) (blkOk_by (by rfl)) (fun _ _ _ _ _ => (pg_tup (by rfl) (pgs_cons (pg_name (i := 6) sc.nd rfl (by first | exact Or.inl rfl | exact Or.inr rfl)) (pgs_cons (pg_name (i := 7) sc.nd rfl (by first | exact Or.inl rfl | exact Or.inr rfl)) pgs_nil)))) (fun _ _ _ _ _ => (pts_one (pt_truth (pv 7) (by intro _; rfl)))) (fun _ _ _ _ _ => (pv 6))))) (pa_cons (pe_lst pa_nil) pa_nil)) (by rfl)) (pss_cons (ps_for (passes_of rfl) rfl (pi_enum (by rfl) b_enumerate (pa_cons (pv 0) pa_nil)) (pg_tup (by rfl) (pgs_cons (pg_name (i := 3) sc.nd rfl (Or.inl rfl)) (pgs_cons (pg_name (i := 4) sc.nd rfl (Or.inl rfl)) pgs_nil))) (pss_cons (ps_set (i := 5) sc.nd rfl (Or.inl rfl) (pe_callS G_ways_from (hr.mono (by omega)) (by rfl) m_ways_from k_ways_from d_ways_from (fun σ => passAt (takes_of rfl rfl rfl rfl) σ) (pa_cons (pv 1) (pa_cons (pv 3) pa_nil)))) (pss_cons (ps_asg (pe_ix ix_seq (pv 4) (pv 3) (fun _ _ => rfl)) (pg_sub (pv 5) (pv 3) set_list)) (pss_one (ps_expr (pe_bm PySem.F.plainAttrs_list PySem.F.slot_list_append PySem.F.type_list_append mt_append (pv 2) (pa_cons (pv 5) pa_nil))))))) (pss_one (ps_ret (pv 2))))),
    (ss_seq (ss_par (sea_cons (se_lc (slots := [4]) (si_e se_var) sg_name set_yes (se_fz (se_lc (slots := [6, 7]) (si_en se_var) (sg_tup (is := [6, 7]) rfl) (set_p (st_tru sp_var)) se_var))) (sea_cons (se_lst sea_nil) sea_nil)) (by decide) (by decide)) (ss_seq (ss_for (slots := [3, 4]) (si_en se_var) (sg_tup (is := [3, 4]) rfl) (by decide) (ss_seq (ss_set (se_call (sea_cons se_var (sea_cons se_var sea_nil))) (by decide)) (ss_seq (ss_store (se_get (sv_ix sv_var sp_var)) sp_var) (ss_app se_var)))) (ss_ret se_mv)))⟩
/-! view_of: 0 thing -/
theorem sc_view_of : FnScope ["thing"] ["thing"] (defScope s_view_of) := ⟨rfl, rfl, rfl, by decide +kernel, rfl, by decide +kernel, by decide +kernel⟩
theorem ok_view_of (dd : Dd K mg "view_of" s_view_of ["thing"]) (g_distances_of : Fn P w K mg base "distances_of" 2 ["rows"] (spM ct 1 F_distances_of)) (g_arcs_of : Fn P w K mg base "arcs_of" 1 ["thing"] (spM ct 1 F_arcs_of)) :
    Fn P w K mg base "view_of" (3) ["thing"] (spM ct 1 F_view_of) := by
  obtain ⟨_, _, G_distances_of, m_distances_of, k_distances_of, d_distances_of⟩ := g_distances_of
  obtain ⟨_, _, G_arcs_of, m_arcs_of, k_arcs_of, d_arcs_of⟩ := g_arcs_of
  have sc := sc_view_of
  refine fn_def (k := 2) dd sc_view_of fun f cdv A outer s H E hr => ?_
  exact ⟨_, (pss_cons (ps_if (pt_cmpR op_in_seq (pe_ix ix_seq (pv 0) pe_int (fun _ _ => rfl)) (pe_tup (pa_cons pe_str (pa_cons pe_str pa_nil))) (by rfl)) (pss_one (ps_ret (pe_tup (pa_cons pe_str (pa_cons (pe_callS G_distances_of (hr.mono (by omega)) (by rfl) m_distances_of k_distances_of d_distances_of (fun σ => passAt (takes_of rfl rfl rfl rfl) σ) (pa_cons (pe_callS G_arcs_of (hr.mono (by omega)) (by rfl) m_arcs_of k_arcs_of d_arcs_of (fun σ => passAt (takes_of rfl rfl rfl rfl) σ) (pa_cons (pv 0) pa_nil)) pa_nil)) pa_nil))))) pss_nil) (pss_one (ps_ret (pv 0)))),
    (ss_seq (ss_if (set_p (sp_test (sp_op os_in (sp_op os_ix sp_var sp_int) (sp_tup (sa_cons sp_str (sa_cons sp_str sa_nil)))))) (ss_ret (se_tup (sea_cons (se_p sp_str) (sea_cons (se_call (sea_cons (se_call (sea_cons se_var sea_nil)) sea_nil)) sea_nil)))) ss_nil) (ss_ret se_mv))⟩
/-! first_colours: 0 n, 1 thing, 2 kind, 3 told, 4 rows, 5 x, 6 one, 7 row -/
theorem sc_first_colours : FnScope ["n", "thing", "kind", "told", "rows", "x", "one", "row"] ["n", "thing"] (defScope s_first_colours) := ⟨rfl, rfl, rfl, by decide +kernel, rfl, by decide +kernel, by decide +kernel⟩
theorem ok_first_colours (dd : Dd K mg "first_colours" s_first_colours ["n", "thing"]) (b_len : mg "len" = none) (b_range : mg "range" = none) (b_sorted : mg "sorted" = none) (b_sum : mg "sum" = none) (g_arcs_of : Fn P w K mg base "arcs_of" 1 ["thing"] (spM ct 1 F_arcs_of)) :
    Fn P w K mg base "first_colours" (2) ["n", "thing"] (spM ct 2 F_first_colours) := by
  obtain ⟨_, _, G_arcs_of, m_arcs_of, k_arcs_of, d_arcs_of⟩ := g_arcs_of
  have sc := sc_first_colours
  refine fn_def (k := 1) dd sc_first_colours fun f cdv A outer s H E hr => ?_
  exact ⟨_, (pss_cons (ps_asg (pv 1) (pg_tup (by rfl) (pgs_cons (pg_name (i := 2) sc.nd rfl (Or.inl rfl)) (pgs_cons (pg_name (i := 3) sc.nd rfl (Or.inr rfl)) pgs_nil)))) (pss_cons (ps_if (pt_cmpR (op_eqD (eqU hr)) (pv 2) pe_str (nomark _)) (pss_one (ps_ret (pe_lc (own := [("one", 6)]) rfl sc.nd (pi_seq (pv 3)) (blkOk_by (N := ["n", "thing", "kind", "told", "rows", "x", "one", "row"]) (sc := defScope s_first_colours) (by decide +kernel)) (fun _ _ _ _ _ => (pg_name (i := 6) sc.nd rfl (by first | exact Or.inl rfl | exact Or.inr rfl))) (fun _ _ _ _ _ => pts_nil) (fun _ _ _ _ _ => (pe_lst (pa_cons (pv 6) pa_nil)))))) pss_nil) (pss_cons (ps_if (pt_cmpR (op_eqD (eqU hr)) (pv 2) pe_str (nomark _)) (pss_one (ps_ret (pe_lc (own := [("x", 5)]) rfl sc.nd (pi_range1 (by rfl) b_range (pa_cons (pv 0) pa_nil)) (blkOk_by (N := ["n", "thing", "kind", "told", "rows", "x", "one", "row"]) (sc := defScope s_first_colours) (by decide +kernel)) (fun _ _ _ _ _ => (pg_name (i := 5) sc.nd rfl (by first | exact Or.inl rfl | exact Or.inr rfl))) (fun _ _ _ _ _ => pts_nil) (fun _ _ _ _ _ => (pe_callB (call_sortedD (eqU65 hr)) (by rfl) b_sorted (by decide +kernel) (pa_cons (pe_lc (own := [("one", 6)]) rfl sc.nd (pi_seq (pv 3)) (blkOk_by (by rfl)) (fun _ _ _ _ _ => (pg_name (i := 6) sc.nd rfl (by first | exact Or.inl rfl | exact Or.inr rfl))) (fun _ _ _ _ _ => (pts_one (pt_cmpR op_in_seq (pv 5) (pv 6) (by rfl)))) (fun _ _ _ _ _ => (pe_callB call_len (by rfl) b_len (by decide +kernel) (pa_cons (pv 6) pa_nil)))) pa_nil)))))) pss_nil) (pss_cons (ps_if (pt_cmpR (op_eqD (eqU hr)) (pv 2) pe_str (nomark _)) (pss_one (ps_ret (pe_lc (own := [("x", 5)]) rfl sc.nd (pi_range1 (by rfl) b_range (pa_cons (pv 0) pa_nil)) (blkOk_by (N := ["n", "thing", "kind", "told", "rows", "x", "one", "row"]) (sc := defScope s_first_colours) (by decide +kernel)) (fun _ _ _ _ _ => (pg_name (i := 5) sc.nd rfl (by first | exact Or.inl rfl | exact Or.inr rfl))) (fun _ _ _ _ _ => pts_nil) (fun _ _ _ _ _ => (pe_lst (pa_cons (pe_ifExp (pt_cmpR op_in_seq (pv 5) (pv 3) (by rfl)) (pe_bm PySem.F.plainAttrs_list PySem.F.slot_list_index PySem.F.type_list_index (mt_indexD (eqU65 hr)) (pv 3) (pa_cons (pv 5) pa_nil)) (pe_un un_neg pe_int)) pa_nil)))))) pss_nil) (pss_cons (ps_set (i := 4) sc.nd rfl (Or.inr rfl) (pe_callS G_arcs_of (hr.mono (by omega)) (by rfl) m_arcs_of k_arcs_of d_arcs_of (fun σ => passAt (takes_of rfl rfl rfl rfl) σ) (pa_cons (pv 1) pa_nil))) (pss_one (ps_ret (pe_lc (own := [("x", 5)]) rfl sc.nd (pi_range1 (by rfl) b_range (pa_cons (pv 0) pa_nil)) (blkOk_by (N := ["n", "thing", "kind", "told", "rows", "x", "one", "row"]) (sc := defScope s_first_colours) (by decide +kernel)) (fun _ _ _ _ _ => (pg_name (i := 5) sc.nd rfl (by first | exact Or.inl rfl | exact Or.inr rfl))) (fun _ _ _ _ _ => pts_nil) (fun _ _ _ _ _ => (pe_lst (pa_cons (pe_ix ix_seq (pe_ix ix_seq (pv 4) (pv 5) (fun _ _ => rfl)) (pv 5) (fun _ _ => rfl)) (pa_cons (pe_callB (cr_sum rfl) (by rfl) b_sum (by decide +kernel) (pa_cons (pe_ix ix_seq (pv 4) (pv 5) (fun _ _ => rfl)) pa_nil)) (pa_cons (pe_callB (cr_sum rfl) (by rfl) b_sum (by decide +kernel) (pa_cons (pe_lc (own := [("row", 7)]) rfl sc.nd (pi_seq (pv 4)) (blkOk_by (by rfl)) (fun _ _ _ _ _ => (pg_name (i := 7) sc.nd rfl (by first | exact Or.inl rfl | exact Or.inr rfl))) (fun _ _ _ _ _ => pts_nil) (fun _ _ _ _ _ => (pe_ix ix_seq (pv 7) (pv 5) (fun _ _ => rfl)))) pa_nil)) pa_nil))))))))))))),
    (ss_seq (ss_unp se_var (sg_tup (is := [2, 3]) rfl) (by decide)) (ss_seq (ss_if (set_p (sp_test (sp_op os_eq sp_var sp_str))) (ss_ret (se_lc (slots := [6]) (si_e se_var) sg_name set_yes (se_lst (sea_cons se_var sea_nil)))) ss_nil) (ss_seq (ss_if (set_p (sp_test (sp_op os_eq sp_var sp_str))) (ss_ret (se_lc (slots := [5]) (si_r1 (sea_cons se_var sea_nil)) sg_name set_yes (se_cb ce_sortedO (sea_cons (se_lc (slots := [6]) (si_e se_var) sg_name (set_p (sp_test (sp_op os_in sp_var sp_var))) (se_p (sp_cb cs_len (sa_cons sp_var sa_nil)))) sea_nil)))) ss_nil) (ss_seq (ss_if (set_p (sp_test (sp_op os_eq sp_var sp_str))) (ss_ret (se_lc (slots := [5]) (si_r1 (sea_cons se_var sea_nil)) sg_name set_yes (se_lst (sea_cons (se_if (set_p (sp_test (sp_op os_in sp_var sp_var))) (se_p (sp_index sp_var sp_var)) (se_p (sp_un us_neg sp_int))) sea_nil)))) ss_nil) (ss_seq (ss_set (se_fz (se_call (sea_cons se_var sea_nil))) (by decide)) (ss_ret (se_lc (slots := [5]) (si_r1 (sea_cons se_var sea_nil)) sg_name set_yes (se_lst (sea_cons (se_get (sv_ix (sv_ix sv_var sp_var) sp_var)) (sea_cons (se_p (sp_cb cs_sum (sa_cons (sp_op os_ix sp_var sp_var) sa_nil))) (sea_cons (se_cb (ce_s cs_sum) (sea_cons (se_lc (slots := [7]) (si_e se_var) sg_name set_yes (se_get (sv_ix sv_var sp_var))) sea_nil)) sea_nil)))))))))))⟩
/-! ranks_of: 0 colours, 1 unlike, 2 one -/
theorem sc_ranks_of : FnScope ["colours", "unlike", "one"] ["colours"] (defScope s_ranks_of) := ⟨rfl, rfl, rfl, by decide +kernel, rfl, by decide +kernel, by decide +kernel⟩
theorem ok_ranks_of (dd : Dd K mg "ranks_of" s_ranks_of ["colours"]) (b_sorted : mg "sorted" = none) :
    Fn P w K mg base "ranks_of" (1) ["colours"] (spM ct 1 F_ranks_of) := by
  have sc := sc_ranks_of
  refine fn_def (k := 0) dd sc_ranks_of fun f cdv A outer s H E hr => ?_
  exact ⟨_, (pss_cons (ps_set (i := 1) sc.nd rfl (Or.inr rfl) (pe_lst pa_nil)) (pss_cons (ps_for (passes_of rfl) rfl (pi_seq (pe_callB (call_sortedD (eqU65 hr)) (by rfl) b_sorted (by decide +kernel) (pa_cons (pv 0) pa_nil))) (pg_name (i := 2) sc.nd rfl (Or.inl rfl)) (pss_one (ps_if (PW.pt (pw_or (pt_not (pt_truth (pv 1) (by intro _; rfl))) (pw_or1 (pt_cmpR (op_neD (eqU hr)) (pe_ix ix_seq (pv 1) (pe_un un_neg pe_int) (fun _ _ => rfl)) (pv 2) (nomark _))))) (pss_one (ps_expr (pe_bm PySem.F.plainAttrs_list PySem.F.slot_list_append PySem.F.type_list_append mt_append (pv 1) (pa_cons (pv 2) pa_nil)))) pss_nil))) (pss_one (ps_ret (pe_lc (own := [("one", 2)]) rfl sc.nd (pi_seq (pv 0)) (blkOk_by (N := ["colours", "unlike", "one"]) (sc := defScope s_ranks_of) (by decide +kernel)) (fun _ _ _ _ _ => (pg_name (i := 2) sc.nd rfl (by first | exact Or.inl rfl | exact Or.inr rfl))) (fun _ _ _ _ _ => pts_nil) (fun _ _ _ _ _ => (pe_bm PySem.F.plainAttrs_list PySem.F.slot_list_index PySem.F.type_list_index (mt_indexD (eqU65 hr)) (pv 1) (pa_cons (pv 2) pa_nil)))))))),
    (ss_seq (ss_set (se_lst sea_nil) (by decide)) (ss_seq (ss_for (slots := [2]) (si_e (se_cb ce_sorted (sea_cons se_var sea_nil))) sg_name (by decide) (ss_if (set_p (st_or (st_not (st_tru sp_var)) (sp_test (sp_op os_ne (sp_op os_ix sp_var (sp_un us_neg sp_int)) sp_var)))) (ss_app se_var) ss_nil)) (ss_ret (se_lc (slots := [2]) (si_e se_var) sg_name set_yes (se_p (sp_index sp_var sp_var))))))⟩
/-! next_colours: 0 n, 1 view, 2 colours, 3 kind, 4 told, 5 ranks, 6 found, 7 x, 8 around, 9 y, 10 one -/
theorem sc_next_colours : FnScope ["n", "view", "colours", "kind", "told", "ranks", "found", "x", "around", "y", "one"] ["n", "view", "colours"] (defScope s_next_colours) := ⟨rfl, rfl, rfl, by decide +kernel, rfl, by decide +kernel, by decide +kernel⟩
theorem ok_next_colours (dd : Dd K mg "next_colours" s_next_colours ["n", "view", "colours"]) (b_range : mg "range" = none) (b_sorted : mg "sorted" = none) (g_ranks_of : Fn P w K mg base "ranks_of" 1 ["colours"] (spM ct 1 F_ranks_of)) :
    Fn P w K mg base "next_colours" (2) ["n", "view", "colours"] (spM ct 3 F_next_colours) := by
  obtain ⟨_, _, G_ranks_of, m_ranks_of, k_ranks_of, d_ranks_of⟩ := g_ranks_of
  have sc := sc_next_colours
  refine fn_def (k := 1) dd sc_next_colours fun f cdv A outer s H E hr => ?_
  exact ⟨_, (pss_cons (ps_asg (pv 1) (pg_tup (by rfl) (pgs_cons (pg_name (i := 3) sc.nd rfl (Or.inl rfl)) (pgs_cons (pg_name (i := 4) sc.nd rfl (Or.inr rfl)) pgs_nil)))) (pss_cons (ps_if (pt_cmpR op_notIn_seq (pv 3) (pe_tup (pa_cons pe_str (pa_cons pe_str pa_nil))) (by rfl)) (pss_one (ps_ret (pv 2))) pss_nil) (pss_cons (ps_asg (pe_tup (pa_cons (pe_callS G_ranks_of (hr.mono (by omega)) (by rfl) m_ranks_of k_ranks_of d_ranks_of (fun σ => passAt (takes_of rfl rfl rfl rfl) σ) (pa_cons (pv 2) pa_nil)) (pa_cons (pe_lst pa_nil) pa_nil))) (pg_tup (by rfl) (pgs_cons (pg_name (i := 5) sc.nd rfl (Or.inr rfl)) (pgs_cons (pg_name (i := 6) sc.nd rfl (Or.inl rfl)) pgs_nil)))) (pss_cons (ps_for (passes_of rfl) rfl (pi_range1 (by rfl) b_range (pa_cons (pv 0) pa_nil)) (pg_name (i := 7) sc.nd rfl (Or.inr rfl)) (pss_cons (ps_if (pt_cmpR (op_eqD (eqU hr)) (pv 3) pe_str (nomark _)) (pss_one (ps_set (i := 8) sc.nd rfl (Or.inl rfl) (pe_callB (call_sortedD (eqU65 hr)) (by rfl) b_sorted (by decide +kernel) (pa_cons (pe_lc (own := [("y", 9)]) rfl sc.nd (pi_range1 (by rfl) b_range (pa_cons (pv 0) pa_nil)) (blkOk_by (N := ["n", "view", "colours", "kind", "told", "ranks", "found", "x", "around", "y", "one"]) (sc := defScope s_next_colours) (by decide +kernel)) (fun _ _ _ _ _ => (pg_name (i := 9) sc.nd rfl (by first | exact Or.inl rfl | exact Or.inr rfl))) (fun _ _ _ _ _ => (pts_one (pt_cmpR (op_neD (eqU hr)) (pv 9) (pv 7) (nomark _)))) (fun _ _ _ _ _ => (pe_tup (pa_cons (pe_ix ix_seq (pe_ix ix_seq (pv 4) (pv 7) (fun _ _ => rfl)) (pv 9) (fun _ _ => rfl)) (pa_cons (pe_ix ix_seq (pe_ix ix_seq (pv 4) (pv 9) (fun _ _ => rfl)) (pv 7) (fun _ _ => rfl)) (pa_cons (pe_ix ix_seq (pv 5) (pv 9) (fun _ _ => rfl)) pa_nil)))))) pa_nil)))) (pss_one (ps_set (i := 8) sc.nd rfl (Or.inl rfl) (pe_callB (call_sortedD (eqU65 hr)) (by rfl) b_sorted (by decide +kernel) (pa_cons (pe_lc (own := [("one", 10)]) rfl sc.nd (pi_seq (pv 4)) (blkOk_by (N := ["n", "view", "colours", "kind", "told", "ranks", "found", "x", "around", "y", "one"]) (sc := defScope s_next_colours) (by decide +kernel)) (fun _ _ _ _ _ => (pg_name (i := 10) sc.nd rfl (by first | exact Or.inl rfl | exact Or.inr rfl))) (fun _ _ _ _ _ => (pts_one (pt_cmpR op_in_seq (pv 7) (pv 10) (by rfl)))) (fun _ _ _ _ _ => (pe_callB (call_sortedD (eqU65 hr)) (by rfl) b_sorted (by decide +kernel) (pa_cons (pe_lc (own := [("y", 9)]) rfl sc.nd (pi_seq (pv 10)) (blkOk_by (by rfl)) (fun _ _ _ _ _ => (pg_name (i := 9) sc.nd rfl (by first | exact Or.inl rfl | exact Or.inr rfl))) (fun _ _ _ _ _ => pts_nil) (fun _ _ _ _ _ => (pe_ix ix_seq (pv 5) (pv 9) (fun _ _ => rfl)))) pa_nil)))) pa_nil))))) (pss_one (ps_expr (pe_bm PySem.F.plainAttrs_list PySem.F.slot_list_append PySem.F.type_list_append mt_append (pv 6) (pa_cons (pe_tup (pa_cons (pe_ix ix_seq (pv 5) (pv 7) (fun _ _ => rfl)) (pa_cons (pv 8) pa_nil))) pa_nil)))))) (pss_one (ps_ret (pv 6))))))),
    (ss_seq (ss_unp se_var (sg_tup (is := [3, 4]) rfl) (by decide)) (ss_seq (ss_if (set_p (sp_test (sp_op os_in sp_var (sp_tup (sa_cons sp_str (sa_cons sp_str sa_nil)))))) (ss_ret se_mv) ss_nil) (ss_seq (ss_unp (se_tup (sea_cons (se_call (sea_cons se_var sea_nil)) (sea_cons (se_lst sea_nil) sea_nil))) (sg_tup (is := [5, 6]) rfl) (by decide)) (ss_seq (ss_for (slots := [7]) (si_r1 (sea_cons se_var sea_nil)) sg_name (by decide) (ss_seq (ss_if (set_p (sp_test (sp_op os_eq sp_var sp_str))) (ss_set (se_cb ce_sortedO (sea_cons (se_lc (slots := [9]) (si_r1 (sea_cons se_var sea_nil)) sg_name (set_p (sp_test (sp_op os_ne sp_var sp_var))) (se_tup (sea_cons (se_get (sv_ix (sv_ix sv_var sp_var) sp_var)) (sea_cons (se_get (sv_ix (sv_ix sv_var sp_var) sp_var)) (sea_cons (se_get (sv_ix sv_var sp_var)) sea_nil))))) sea_nil)) (by decide)) (ss_set (se_cb ce_sortedO (sea_cons (se_lc (slots := [10]) (si_e se_var) sg_name (set_p (sp_test (sp_op os_in sp_var sp_var))) (se_cb ce_sortedO (sea_cons (se_lc (slots := [9]) (si_e se_var) sg_name set_yes (se_get (sv_ix sv_var sp_var))) sea_nil))) sea_nil)) (by decide))) (ss_app (se_tup (sea_cons (se_get (sv_ix sv_var sp_var)) (sea_cons se_mv sea_nil)))))) (ss_ret se_mv)))))⟩
/-! where no round changes the colours: all three are one list -/
def spId : List V → Hp → VK → XK → Prop := fun vs H Q _ => vs.length = 3 ∧ ∃ (v0 v1 v2 : V) (kd : Str) (dt : D), vs = [v0, v1, v2] ∧ oInB true (.str kd) (.tup [.str "graph", .str "sets"]) = some (.bl true) ∧ Rp H (.tup [.str kd, dt]) v1 ∧ ∀ H', Same H H' → Q v2 H'
theorem ok_next_id (dd : Dd K mg "next_colours" s_next_colours ["n", "view", "colours"]) (b_range : mg "range" = none) (b_sorted : mg "sorted" = none) (g_ranks_of : Fn P w K mg base "ranks_of" 1 ["colours"] (spM ct 1 F_ranks_of)) :
    Fn P w K mg base "next_colours" (2) ["n", "view", "colours"] spId := by
  obtain ⟨_, _, G_ranks_of, m_ranks_of, k_ranks_of, d_ranks_of⟩ := g_ranks_of
  have sc := sc_next_colours
  obtain ⟨f, fd, FF, hm, hb⟩ := dd
  refine ⟨f, fd, FF.okX (k := 1) sc_next_colours (fun vs H Q E h => h.1) fun cdv A outer s H vs Q E hr h => ?_, hm, FF.kp, hb⟩
  have key : ∃ (tA : TS) (tc : TT) (rest : TS) (m : SM), PSs (cxOf (L2.CX P w) P w K mg base ["n", "view", "colours", "kind", "told", "ranks", "found", "x", "around", "y", "one"] "next_colours" (defScope s_next_colours) f cdv A outer s H E) (defBody s_next_colours) (tSeq tA (tSeq (tIfS tc (tRet (tVar 2)) tNext) rest)) ∧
      SS ct (fun c d _ H => E c d H) [2] tA (mUnp (bTup [3, 4]) (eV 1)) ∧ SET ct (fun c d _ H => E c d H) tc (eT (pB (pOp (oInB true) (pV 3) (pTup (aCons (pC (.str "graph")) (aCons (pC (.str "sets")) aNil)))))) ∧ SS ct (fun c d _ H => E c d H) [] rest m :=
    ⟨_, _, _, _, (pss_cons (ps_asg (pv 1) (pg_tup (by rfl) (pgs_cons (pg_name (i := 3) sc.nd rfl (Or.inl rfl)) (pgs_cons (pg_name (i := 4) sc.nd rfl (Or.inr rfl)) pgs_nil)))) (pss_cons (ps_if (pt_cmpR op_notIn_seq (pv 3) (pe_tup (pa_cons pe_str (pa_cons pe_str pa_nil))) (by rfl)) (pss_one (ps_ret (pv 2))) pss_nil) (pss_cons (ps_asg (pe_tup (pa_cons (pe_callS G_ranks_of (hr.mono (by omega)) (by rfl) m_ranks_of k_ranks_of d_ranks_of (fun σ => passAt (takes_of rfl rfl rfl rfl) σ) (pa_cons (pv 2) pa_nil)) (pa_cons (pe_lst pa_nil) pa_nil))) (pg_tup (by rfl) (pgs_cons (pg_name (i := 5) sc.nd rfl (Or.inr rfl)) (pgs_cons (pg_name (i := 6) sc.nd rfl (Or.inl rfl)) pgs_nil)))) (pss_cons (ps_for (passes_of rfl) rfl (pi_range1 (by rfl) b_range (pa_cons (pv 0) pa_nil)) (pg_name (i := 7) sc.nd rfl (Or.inr rfl)) (pss_cons (ps_if (pt_cmpR (op_eqD (eqU hr)) (pv 3) pe_str (nomark _)) (pss_one (ps_set (i := 8) sc.nd rfl (Or.inl rfl) (pe_callB (call_sortedD (eqU65 hr)) (by rfl) b_sorted (by decide +kernel) (pa_cons (pe_lc (own := [("y", 9)]) rfl sc.nd (pi_range1 (by rfl) b_range (pa_cons (pv 0) pa_nil)) (blkOk_by (N := ["n", "view", "colours", "kind", "told", "ranks", "found", "x", "around", "y", "one"]) (sc := defScope s_next_colours) (by decide +kernel)) (fun _ _ _ _ _ => (pg_name (i := 9) sc.nd rfl (by first | exact Or.inl rfl | exact Or.inr rfl))) (fun _ _ _ _ _ => (pts_one (pt_cmpR (op_neD (eqU hr)) (pv 9) (pv 7) (nomark _)))) (fun _ _ _ _ _ => (pe_tup (pa_cons (pe_ix ix_seq (pe_ix ix_seq (pv 4) (pv 7) (fun _ _ => rfl)) (pv 9) (fun _ _ => rfl)) (pa_cons (pe_ix ix_seq (pe_ix ix_seq (pv 4) (pv 9) (fun _ _ => rfl)) (pv 7) (fun _ _ => rfl)) (pa_cons (pe_ix ix_seq (pv 5) (pv 9) (fun _ _ => rfl)) pa_nil)))))) pa_nil)))) (pss_one (ps_set (i := 8) sc.nd rfl (Or.inl rfl) (pe_callB (call_sortedD (eqU65 hr)) (by rfl) b_sorted (by decide +kernel) (pa_cons (pe_lc (own := [("one", 10)]) rfl sc.nd (pi_seq (pv 4)) (blkOk_by (N := ["n", "view", "colours", "kind", "told", "ranks", "found", "x", "around", "y", "one"]) (sc := defScope s_next_colours) (by decide +kernel)) (fun _ _ _ _ _ => (pg_name (i := 10) sc.nd rfl (by first | exact Or.inl rfl | exact Or.inr rfl))) (fun _ _ _ _ _ => (pts_one (pt_cmpR op_in_seq (pv 7) (pv 10) (by rfl)))) (fun _ _ _ _ _ => (pe_callB (call_sortedD (eqU65 hr)) (by rfl) b_sorted (by decide +kernel) (pa_cons (pe_lc (own := [("y", 9)]) rfl sc.nd (pi_seq (pv 10)) (blkOk_by (by rfl)) (fun _ _ _ _ _ => (pg_name (i := 9) sc.nd rfl (by first | exact Or.inl rfl | exact Or.inr rfl))) (fun _ _ _ _ _ => pts_nil) (fun _ _ _ _ _ => (pe_ix ix_seq (pv 5) (pv 9) (fun _ _ => rfl)))) pa_nil)))) pa_nil))))) (pss_one (ps_expr (pe_bm PySem.F.plainAttrs_list PySem.F.slot_list_append PySem.F.type_list_append mt_append (pv 6) (pa_cons (pe_tup (pa_cons (pe_ix ix_seq (pv 5) (pv 7) (fun _ _ => rfl)) (pa_cons (pv 8) pa_nil))) pa_nil)))))) (pss_one (ps_ret (pv 6))))))),
      (ss_unp se_var (sg_tup (is := [3, 4]) rfl) (by decide)), (set_p (sp_test (sp_op os_in sp_var (sp_tup (sa_cons sp_str (sa_cons sp_str sa_nil)))))),
      (ss_seq (ss_unp (se_tup (sea_cons (se_call (sea_cons se_var sea_nil)) (sea_cons (se_lst sea_nil) sea_nil))) (sg_tup (is := [5, 6]) rfl) (by decide)) (ss_seq (ss_for (slots := [7]) (si_r1 (sea_cons se_var sea_nil)) sg_name (by decide) (ss_seq (ss_if (set_p (sp_test (sp_op os_eq sp_var sp_str))) (ss_set (se_cb ce_sortedO (sea_cons (se_lc (slots := [9]) (si_r1 (sea_cons se_var sea_nil)) sg_name (set_p (sp_test (sp_op os_ne sp_var sp_var))) (se_tup (sea_cons (se_get (sv_ix (sv_ix sv_var sp_var) sp_var)) (sea_cons (se_get (sv_ix (sv_ix sv_var sp_var) sp_var)) (sea_cons (se_get (sv_ix sv_var sp_var)) sea_nil))))) sea_nil)) (by decide)) (ss_set (se_cb ce_sortedO (sea_cons (se_lc (slots := [10]) (si_e se_var) sg_name (set_p (sp_test (sp_op os_in sp_var sp_var))) (se_cb ce_sortedO (sea_cons (se_lc (slots := [9]) (si_e se_var) sg_name set_yes (se_get (sv_ix sv_var sp_var))) sea_nil))) sea_nil)) (by decide))) (ss_app (se_tup (sea_cons (se_get (sv_ix sv_var sp_var)) (sea_cons se_mv sea_nil)))))) (ss_ret se_mv)))⟩
  obtain ⟨tA, tc, rest, m, hP, hA, hc, _⟩ := key
  refine ⟨_, hP, ?_⟩
  obtain ⟨hl, v0, v1, v2, kd, dt, rfl, hk, r1, q⟩ := h
  have g0 : GX H H [none, some (.sh (.tup [.str kd, dt])), none, none, none, none, none, none, none, none, none] (start ["n", "view", "colours", "kind", "told", "ranks", "found", "x", "around", "y", "one"] [v0, v1, v2]) [] [] H := by
    refine GX.look rfl (fun t ht => ?_) fun i d e => ?_
    · simp only [List.mem_cons, List.not_mem_nil, or_false] at ht
      rcases ht with rfl | rfl | rfl | rfl | rfl | rfl | rfl | rfl | rfl | rfl | rfl <;> first | exact .inl rfl | exact .inr ⟨_, rfl⟩
    · match i, e with
      | 0, e => simp at e
      | 1, e =>
        simp at e
        subst e
        exact ⟨v1, rfl, r1⟩
      | 2, e => simp at e
      | 3, e => simp at e
      | 4, e => simp at e
      | 5, e => simp at e
      | 6, e => simp at e
      | 7, e => simp at e
      | 8, e => simp at e
      | 9, e => simp at e
      | 10, e => simp at e
      | i + 11, e => simp at e
  refine hA H H _ _ _ H _ g0 Pin.refl ?_
  refine fun σ1 H1 g1 p1 => ?_
  have hv2 : σ1[2]? = some (some v2) := p1 2 (by simp)
  refine hc H H _ σ1 [] [] H1 _ g1 ?_
  have ht : eT (pB (pOp (oInB true) (pV 3) (pTup (aCons (pC (.str "graph")) (aCons (pC (.str "sets")) aNil))))) [none, some (.sh (.tup [.str kd, dt])), none, some (.sh (.str kd)), some (.sh dt), none, none, none, none, none, none] = .ok true [none, some (.sh (.tup [.str kd, dt])), none, some (.sh (.str kd)), some (.sh dt), none, none, none, none, none, none] := by
    simp [hk]
  show (eT (pB (pOp (oInB true) (pV 3) (pTup (aCons (pC (.str "graph")) (aCons (pC (.str "sets")) aNil))))) [none, some (.sh (.tup [.str kd, dt])), none, some (.sh (.str kd)), some (.sh dt), none, none, none, none, none, none]).P _ _
  rw [ht]
  exact fun H2 g2 => ⟨v2, hv2, q H2 g2.outer⟩
/-! all_rounds: 0 n, 1 thing, 2 view, 3 first, 4 later -/
theorem sc_all_rounds : FnScope ["n", "thing", "view", "first", "later"] ["n", "thing"] (defScope s_all_rounds) := ⟨rfl, rfl, rfl, by decide +kernel, rfl, by decide +kernel, by decide +kernel⟩
theorem ok_all_rounds (dd : Dd K mg "all_rounds" s_all_rounds ["n", "thing"]) (g_next_colours : Fn P w K mg base "next_colours" 2 ["n", "view", "colours"] (spM ct 3 F_next_colours)) (g_first_colours : Fn P w K mg base "first_colours" 2 ["n", "thing"] (spM ct 2 F_first_colours)) (g_view_of : Fn P w K mg base "view_of" 3 ["thing"] (spM ct 1 F_view_of)) :
    Fn P w K mg base "all_rounds" (4) ["n", "thing"] (spM ct 2 F_all_rounds) := by
  obtain ⟨_, _, G_next_colours, m_next_colours, k_next_colours, d_next_colours⟩ := g_next_colours
  obtain ⟨_, _, G_first_colours, m_first_colours, k_first_colours, d_first_colours⟩ := g_first_colours
  obtain ⟨_, _, G_view_of, m_view_of, k_view_of, d_view_of⟩ := g_view_of
  have sc := sc_all_rounds
  refine fn_def (k := 3) dd sc_all_rounds fun f cdv A outer s H E hr => ?_
  exact ⟨_, (pss_cons (ps_par (by rfl) sc.nd rfl rfl (by decide) rfl rfl (pa_cons (pe_callS G_view_of (hr.mono (by omega)) (by rfl) m_view_of k_view_of d_view_of (fun σ => passAt (takes_of rfl rfl rfl rfl) σ) (pa_cons (pv 1) pa_nil)) (pa_cons (pe_callS G_first_colours (hr.mono (by omega)) (by rfl) m_first_colours k_first_colours d_first_colours (fun σ => passAt (takes_of rfl rfl rfl rfl) σ) (pa_cons (pv 0) (pa_cons (pv 1) pa_nil))) pa_nil)) (by rfl)) (pss_cons (ps_set (i := 4) sc.nd rfl (Or.inl rfl) (pe_callS G_next_colours (hr.mono (by omega)) (by rfl) m_next_colours k_next_colours d_next_colours (fun σ => passAt (takes_of rfl rfl rfl rfl) σ) (pa_cons (pv 0) (pa_cons (pv 2) (pa_cons (pv 3) pa_nil))))) (pss_one (ps_ret (pe_lst (pa_cons (pv 3) (pa_cons (pv 4) (pa_cons (pe_callS G_next_colours (hr.mono (by omega)) (by rfl) m_next_colours k_next_colours d_next_colours (fun σ => passAt (takes_of rfl rfl rfl rfl) σ) (pa_cons (pv 0) (pa_cons (pv 2) (pa_cons (pv 4) pa_nil)))) pa_nil)))))))),
    (ss_seq (ss_par (sea_cons (se_call (sea_cons se_var sea_nil)) (sea_cons (se_call (sea_cons se_var (sea_cons se_var sea_nil))) sea_nil)) (by decide) (by decide)) (ss_seq (ss_set (se_callB (sa_cons sp_var (sa_cons sp_var (sa_cons sp_var sa_nil)))) (by decide)) (ss_ret (se_lst (sea_late2 (se_callB (sa_cons sp_var (sa_cons sp_var (sa_cons sp_var sa_nil)))))))))⟩
/-! colours_by_round: 0 n, 1 thing, 2 rounds -/
theorem sc_colours_by_round : FnScope ["n", "thing", "rounds"] ["n", "thing", "rounds"] (defScope s_colours_by_round) := ⟨rfl, rfl, rfl, by decide +kernel, rfl, by decide +kernel, by decide +kernel⟩
/-- all three rounds are one list -/
def spAl (ct : CT) : List V → Hp → VK → XK → Prop := fun vs H Q _ => vs.length = 2 ∧ ∃ (v0 v1 : V) (dn : D) (kd : Str) (dt : D) (t1 : T) (W S : Hp), vs = [v0, v1] ∧ oInB true (.str kd) (.tup [.str "graph", .str "sets"]) = some (.bl true) ∧ GX W S [] [] [.sh dn, .sh (.tup [.str kd, dt])] [v0, v1] H ∧
  F_view_of [.sh (.tup [.str kd, dt])] = .ok (.sh (.tup [.str kd, dt])) [.sh (.tup [.str kd, dt])] ∧ F_first_colours [.sh dn, .sh (.tup [.str kd, dt])] = .ok t1 [.sh dn, .sh (.tup [.str kd, dt])] ∧
  ∀ p v H', H' p = none → GX W S [] [] [t1, .sh dn, .sh (.tup [.str kd, dt])] [v, v0, v1] H' → Q (.ref p) (upd H' p (.lst [v, v, v]))
theorem ok_rounds_al (dd : Dd K mg "all_rounds" s_all_rounds ["n", "thing"]) (g_next_colours : Fn P w K mg base "next_colours" 2 ["n", "view", "colours"] spId) (g_first_colours : Fn P w K mg base "first_colours" 2 ["n", "thing"] (spM ct 2 F_first_colours)) (g_view_of : Fn P w K mg base "view_of" 3 ["thing"] (spM ct 1 F_view_of)) :
    Fn P w K mg base "all_rounds" (4) ["n", "thing"] (spAl ct) := by
  obtain ⟨_, _, G_next_colours, m_next_colours, k_next_colours, d_next_colours⟩ := g_next_colours
  obtain ⟨_, _, G_first_colours, m_first_colours, k_first_colours, d_first_colours⟩ := g_first_colours
  obtain ⟨_, _, G_view_of, m_view_of, k_view_of, d_view_of⟩ := g_view_of
  have sc := sc_all_rounds
  obtain ⟨f, fd, FF, hm, hb⟩ := dd
  refine ⟨f, fd, FF.okX (k := 3) sc_all_rounds (fun vs H Q E h => h.1) fun cdv A outer s H vs Q E hr h => ?_, hm, FF.kp, hb⟩
  have key : ∃ (tA : TS) (E1 E2 : St → XK), PSs (cxOf (L2.CX P w) P w K mg base ["n", "thing", "view", "first", "later"] "all_rounds" (defScope s_all_rounds) f cdv A outer s H E) (defBody s_all_rounds)
        (tSeq tA (tSeq (tAsg (tCallS spId E1 (tCons (tVar 0) (tCons (tVar 2) (tCons (tVar 3) tNil)))) (gName 4)) (tRet (tLst (tCons (tVar 3) (tCons (tVar 4) (tCons (tCallS spId E2 (tCons (tVar 0) (tCons (tVar 2) (tCons (tVar 4) tNil)))) tNil))))))) ∧
      SS ct (fun c d _ H => E c d H) [] tA (mPar 2 3 (eCons (eCall 1 F_view_of (eCons (eV 1) eNil)) (eCons (eCall 2 F_first_colours (eCons (eV 0) (eCons (eV 1) eNil))) eNil))) :=
    ⟨_, _, _, (pss_cons (ps_par (by rfl) sc.nd rfl rfl (by decide) rfl rfl (pa_cons (pe_callS G_view_of (hr.mono (by omega)) (by rfl) m_view_of k_view_of d_view_of (fun σ => passAt (takes_of rfl rfl rfl rfl) σ) (pa_cons (pv 1) pa_nil)) (pa_cons (pe_callS G_first_colours (hr.mono (by omega)) (by rfl) m_first_colours k_first_colours d_first_colours (fun σ => passAt (takes_of rfl rfl rfl rfl) σ) (pa_cons (pv 0) (pa_cons (pv 1) pa_nil))) pa_nil)) (by rfl)) (pss_cons (ps_set (i := 4) sc.nd rfl (Or.inl rfl) (pe_callS G_next_colours (hr.mono (by omega)) (by rfl) m_next_colours k_next_colours d_next_colours (fun σ => passAt (takes_of rfl rfl rfl rfl) σ) (pa_cons (pv 0) (pa_cons (pv 2) (pa_cons (pv 3) pa_nil))))) (pss_one (ps_ret (pe_lst (pa_cons (pv 3) (pa_cons (pv 4) (pa_cons (pe_callS G_next_colours (hr.mono (by omega)) (by rfl) m_next_colours k_next_colours d_next_colours (fun σ => passAt (takes_of rfl rfl rfl rfl) σ) (pa_cons (pv 0) (pa_cons (pv 2) (pa_cons (pv 4) pa_nil)))) pa_nil)))))))),
      (ss_par (sea_cons (se_call (sea_cons se_var sea_nil)) (sea_cons (se_call (sea_cons se_var (sea_cons se_var sea_nil))) sea_nil)) (by decide) (by decide))⟩
  obtain ⟨tA, E1, E2, hP, hA⟩ := key
  refine ⟨_, hP, ?_⟩
  obtain ⟨hl, v0, v1, dn, kd, dt, t1, W, S, rfl, hk, g, hv, hf, q⟩ := h
  obtain ⟨S1, as, bs, hu, g1⟩ := g.up
  obtain ⟨hr1, rfl⟩ := Rtl.toRpl' (ds := [dn, .tup [.str kd, dt]]) g1.rt
  have g2 := GX.start (N := ["n", "thing", "view", "first", "later"]) ⟨S1, as, [], g1⟩ rfl
  have fin : ∀ (t : T) (v : V) (ρ : Z.Env) (σ : L2.St) (H' : Hp), GX W S1 ρ σ [t] [v] H' → GX W S [] [] [t, .sh dn, .sh (.tup [.str kd, dt])] [v, v0, v1] H' := fun t v ρ σ H' g3 => by
    obtain ⟨S2, as2, bs2, g4⟩ := g3.noEnv
    exact (g4.endS (ds := [dn, .tup [.str kd, dt]]) (hr1.mono g4.s0)).join hu
  refine hA W S1 _ _ _ H _ g2 Pin.refl ?_
  have hA' : mPar 2 3 (eCons (eCall 1 F_view_of (eCons (eV 1) eNil)) (eCons (eCall 2 F_first_colours (eCons (eV 0) (eCons (eV 1) eNil))) eNil)) [some (.sh dn), some (.sh (.tup [.str kd, dt])), none, none, none] = .nx [some (.sh dn), some (.sh (.tup [.str kd, dt])), some (.sh (.tup [.str kd, dt])), some t1, none] := by
    simp [hv, hf]
  show SK ct _ W S1 [] _ _ (mPar 2 3 (eCons (eCall 1 F_view_of (eCons (eV 1) eNil)) (eCons (eCall 2 F_first_colours (eCons (eV 0) (eCons (eV 1) eNil))) eNil)) [some (.sh dn), some (.sh (.tup [.str kd, dt])), none, none, none])
  rw [hA']
  intro σ1 H1 g3 p1
  obtain ⟨w0, hw0, _⟩ := g3.rv 0 _ rfl
  obtain ⟨w2, hw2, r2⟩ := g3.rv 2 _ rfl
  obtain ⟨w3, hw3, _⟩ := g3.rv 3 _ rfl
  refine ⟨w0, hw0, w2, hw2, w3, hw3, rfl, w0, w2, w3, kd, dt, rfl, hk, r2, fun H2 e2 => ?_⟩
  have g4 := g3.ext e2
  have hlen : σ1.length = 5 := by
    have := g3.lenE
    simpa using this
  have hw0' : (σ1.set 4 (some w3))[0]? = some (some w0) := by rw [List.getElem?_set_ne (by decide)]; exact hw0
  have hw2' : (σ1.set 4 (some w3))[2]? = some (some w2) := by rw [List.getElem?_set_ne (by decide)]; exact hw2
  have hw3' : (σ1.set 4 (some w3))[3]? = some (some w3) := by rw [List.getElem?_set_ne (by decide)]; exact hw3
  have hw4' : (σ1.set 4 (some w3))[4]? = some (some w3) := List.getElem?_set_self (by omega)
  show ∃ v, (σ1.set 4 (some w3))[3]? = some (some v) ∧ _
  refine ⟨w3, hw3', w3, hw4', w0, hw0', w2, hw2', w3, hw4', rfl, w0, w2, w3, kd, dt, rfl, hk, r2.mono e2, fun H3 e3 => ?_⟩
  refine ⟨by show 3 ≤ sizeLine; exact lim_le (by unfold lim; omega), fun p hp => ?_⟩
  have g5 := g4.ext e3
  obtain ⟨w3', hw3'', g6⟩ := g5.take (i := 3) (t := t1) rfl
  rw [hw3] at hw3''
  cases hw3''
  exact q p w3 H3 hp (fin t1 w3 _ _ H3 g6)
theorem GX.init {W S0 H : Hp} {ρ : Z.Env} {σ : L2.St} {ts tm : List T} {vs vm : List V} (g : GX W S0 ρ σ (ts ++ tm) (vs ++ vm) H) (e : vs.length = ts.length) : GX W S0 ρ σ ts vs H := by
  obtain ⟨S, as, bs, g⟩ := g
  obtain ⟨b, c, rfl, h1, h2⟩ := g.rt.split e
  have nd := g.nd
  have fs := g.fs
  have fw := g.fw
  exact ⟨S, as, b, g.s0, g.sh, g.wh, g.nw, g.re, h1, by grind, by grind, by grind⟩
theorem mFun_same {n nn : Nat} {m : SM} {ts us : List T} {t : T} (h : mFun n nn m ts = .ok t us) : us = ts := by
  rw [mFun_run] at h
  split at h
  · split at h <;> first | (cases h; rfl) | (cases h; done)
  · cases h
theorem ok_cbr (dd : Dd K mg "colours_by_round" s_colours_by_round ["n", "thing", "rounds"]) (g_all_rounds : Fn P w K mg base "all_rounds" 4 ["n", "thing"] (spM ct 2 F_all_rounds)) (g_rounds_al : Fn P w K mg base "all_rounds" 4 ["n", "thing"] (spAl ct)) :
    Fn P w K mg base "colours_by_round" (5) ["n", "thing", "rounds"] (spM ct 3 F_colours_by_round) := by
  obtain ⟨_, _, G_all_rounds, m_all_rounds, k_all_rounds, d_all_rounds⟩ := g_all_rounds
  have sc := sc_colours_by_round
  obtain ⟨f, fd, FF, hm, hb⟩ := dd
  have F1 : FnOk P w K mg base (L2.CX P w) 5 f fd ["n", "thing", "rounds"] (spM ct 3 F_cbrN) := fn_mk (k := 4) FF sc_colours_by_round fun cdv A outer s H E hr =>
    ⟨_, (pss_one (ps_ret (pe_ix ix_seq (pe_callS G_all_rounds (hr.mono (by omega)) (by rfl) m_all_rounds k_all_rounds d_all_rounds (fun σ => passAt (takes_of rfl rfl rfl rfl) σ) (pa_cons (pv 0) (pa_cons (pv 1) pa_nil))) (pv 2) (fun _ _ => rfl)))),
    (ss_ret (se_op oe_ix (se_call (sea_cons se_var (sea_cons se_var sea_nil))) se_var))⟩
  obtain ⟨_, _, G_all_rounds, m_all_rounds, k_all_rounds, d_all_rounds⟩ := g_rounds_al
  have F2 : FnOk P w K mg base (L2.CX P w) 5 f fd ["n", "thing", "rounds"] (fun vs H Q E => vs.length = 3 ∧ ∃ (v0 v1 v2 : V) (dn : D) (kd : Str) (dt : D) (r : Int) (t1 : T) (W S : Hp), vs = [v0, v1, v2] ∧ oInB true (.str kd) (.tup [.str "graph", .str "sets"]) = some (.bl true) ∧ GX W S [] [] [.sh dn, .sh (.tup [.str kd, dt]), .sh (.int r)] [v0, v1, v2] H ∧
      F_view_of [.sh (.tup [.str kd, dt])] = .ok (.sh (.tup [.str kd, dt])) [.sh (.tup [.str kd, dt])] ∧ F_first_colours [.sh dn, .sh (.tup [.str kd, dt])] = .ok t1 [.sh dn, .sh (.tup [.str kd, dt])] ∧ 0 ≤ r ∧ r < 3 ∧
      ∀ v H', GX W S [] [] [t1, .sh dn, .sh (.tup [.str kd, dt]), .sh (.int r)] [v, v0, v1, v2] H' → Q v H') := by
    refine FF.okX (k := 4) sc_colours_by_round (fun vs H Q E h => h.1) fun cdv A outer s H vs Q E hr h => ?_
    have key : ∃ (E1 : St → XK), PSs (cxOf (L2.CX P w) P w K mg base ["n", "thing", "rounds"] "colours_by_round" (defScope s_colours_by_round) f cdv A outer s H E) (defBody s_colours_by_round)
        (tRet (tOp (rIx K) (tCallS (spAl ct) E1 (tCons (tVar 0) (tCons (tVar 1) tNil))) (tVar 2))) :=
      ⟨_, (pss_one (ps_ret (pe_ix ix_seq (pe_callS G_all_rounds (hr.mono (by omega)) (by rfl) m_all_rounds k_all_rounds d_all_rounds (fun σ => passAt (takes_of rfl rfl rfl rfl) σ) (pa_cons (pv 0) (pa_cons (pv 1) pa_nil))) (pv 2) (fun _ _ => rfl))))⟩
    obtain ⟨E1, hP⟩ := key
    refine ⟨_, hP, ?_⟩
    obtain ⟨hl, v0, v1, v2, dn, kd, dt, r, t1, W, S, rfl, hk, g, hv, hf, r0, r3, q⟩ := h
    have g2 : GX W S [] [] [.sh dn, .sh (.tup [.str kd, dt])] [v0, v1] H := GX.init (ts := [.sh dn, .sh (.tup [.str kd, dt])]) (tm := [.sh (.int r)]) (vs := [v0, v1]) (vm := [v2]) g rfl
    have hr2 : v2 = .int r := by
      obtain ⟨S1, as, bs, g1⟩ := g
      obtain ⟨h1, _⟩ := Rtl.toRpl' (ds := [dn, .tup [.str kd, dt], .int r]) g1.rt
      obtain ⟨a, ra, e1, _, b, rb, e2, _, c, rc, e3, h4, _⟩ := h1
      cases e1; cases e2; cases e3
      exact h4
    refine ⟨v0, rfl, v1, rfl, rfl, v0, v1, dn, kd, dt, t1, W, S, rfl, hk, g2, hv, hf, fun p v H' hp g3 => ?_⟩
    refine ⟨v2, rfl, .inl ⟨p, [v, v, v], r, v, rfl, hr2, .of (if_pos rfl), ?_, ?_⟩⟩
    · have : r = 0 ∨ r = 1 ∨ r = 2 := by omega
      rcases this with rfl | rfl | rfl <;> rfl
    · refine q v _ ?_
      obtain ⟨S1, as, bs, g4⟩ := g3
      have g5 := g4.endS (ds := [.int r]) (xs := [v2]) ⟨v2, [], rfl, hr2, rfl⟩
      have g6 : GX W S [] [] [t1, .sh dn, .sh (.tup [.str kd, dt]), .sh (.int r)] [v, v0, v1, v2] H' := g5
      exact g6.ext (same_new hp)
  refine ⟨f, fd, ⟨fun vs H Q E h => h.1, fun A outer s H args us vs Q E hr he hbd hvs h => ?_⟩, hm, FF.kp, hb⟩
  obtain ⟨hl, ts, W, S, g, k⟩ := h
  by_cases hn : (F_colours_by_round ts) = F_cbrN ts
  · rw [hn] at k
    exact F1.run A outer s H args us vs Q E hr he hbd hvs ⟨hl, ts, W, S, g, k⟩
  · unfold F_colours_by_round at k hn
    split at k
    case h_2 => exact k.elim
    rename_i dn kd dt r
    simp only at hn
    split at k
    case isFalse hc =>
      rw [if_neg hc] at hn
      exact absurd rfl hn
    rename_i hc
    split at k
    case isFalse => exact k.elim
    rename_i hr3
    split at k
    case h_2 => exact k.elim
    rename_i t1 us1 hf
    have hu := mFun_same hf
    subst hu
    match vs, hl with
    | [v0, v1, v2], _ =>
      exact F2.run A outer s H args us _ Q E hr he hbd hvs ⟨rfl, v0, v1, v2, dn, kd, dt, r, t1, W, S, rfl, hc.2, g, hc.1, hf, hr3.1, hr3.2, k.2⟩
/-! the pool and the stream: the same in all laws -/
theorem sc_law_pool : FnScope ["script", "pool", "cell", "rest", "k", "state"] ["script"] (defScope s_law_pool) := ⟨rfl, rfl, rfl, by decide +kernel, rfl, by decide +kernel, by decide +kernel⟩
theorem ok_law_pool (dd : Dd K mg "_law_pool" s_law_pool ["script"]) (b_int : mg "int" = none) (b_range : mg "range" = none) : Fn P w K mg base "_law_pool" 1 ["script"] (spSc ct K F_law_pool) := by
  have sc := sc_law_pool
  refine fn_defS (k := 0) dd sc_law_pool (by decide) fun f cdv A outer s H E hr => ?_
  exact ⟨_, (pss_cons (ps_set (i := 1) sc.nd rfl (Or.inl rfl) (pe_lst pa_nil)) (pss_cons (ps_for (passes_of rfl) rfl (pi_seq (pv 0)) (pg_name (i := 2) sc.nd rfl (Or.inl rfl)) (pss_cons (ps_set (i := 3) sc.nd rfl (Or.inl rfl) (pe_callTy call_int1 (by rfl) b_int (by decide +kernel) (pa_cons (pv 2) pa_nil))) (pss_one (ps_if (pt_cmpR u_ge (pv 3) (pe_op u_pow pe_int pe_int) (nomark _)) (pss_one (ps_for (passes_of rfl) rfl (pi_range1 (by rfl) b_range (pa_cons pe_int pa_nil)) (pg_name (i := 4) sc.nd rfl (Or.inl rfl)) (pss_cons (ps_expr (pe_bm PySem.F.plainAttrs_list PySem.F.slot_list_append PySem.F.type_list_append mt_append (pv 1) (pa_cons (pe_op u_mod (pe_callTy call_int1 (by rfl) b_int (by decide +kernel) (pa_cons (pv 3) pa_nil)) pe_int) pa_nil))) (pss_cons (ps_set (i := 3) sc.nd rfl (Or.inl rfl) (pe_callTy call_int1 (by rfl) b_int (by decide +kernel) (pa_cons (pe_op u_div (pv 3) pe_int) pa_nil))) (pss_one (ps_if (pt_cmpR (op_eqD (eqU hr)) (pv 3) pe_int (nomark _)) (pss_one ps_break) pss_nil)))))) (pss_one (ps_set (i := 1) sc.nd rfl (Or.inl rfl) (pe_op u_add (pv 1) (pe_lst (pa_cons (pe_op u_mod (pe_callTy call_int1 (by rfl) b_int (by decide +kernel) (pa_cons (pv 3) pa_nil)) pe_int) (pa_cons (pe_op u_mod (pe_callTy call_int1 (by rfl) b_int (by decide +kernel) (pa_cons (pe_op u_div (pv 3) pe_int) pa_nil)) pe_int) pa_nil)))))))))) (pss_cons (ps_set (i := 5) sc.nd rfl (Or.inl rfl) pe_int) (pss_cons (ps_for (passes_of rfl) rfl (pi_seq (pv 0)) (pg_name (i := 2) sc.nd rfl (Or.inl rfl)) (pss_one (ps_set (i := 5) sc.nd rfl (Or.inl rfl) (pe_op u_mod (pe_op u_add (pe_op u_mul (pv 5) pe_int) (pe_callTy call_int1 (by rfl) b_int (by decide +kernel) (pa_cons (pv 2) pa_nil))) pe_int)))) (pss_cons (ps_for (passes_of rfl) rfl (pi_range1 (by rfl) b_range (pa_cons pe_int pa_nil)) (pg_name (i := 4) sc.nd rfl (Or.inl rfl)) (pss_cons (ps_set (i := 5) sc.nd rfl (Or.inl rfl) (pe_op u_mod (pe_op u_add (pe_op u_mul (pv 5) pe_int) pe_int) pe_int)) (pss_one (ps_expr (pe_bm PySem.F.plainAttrs_list PySem.F.slot_list_append PySem.F.type_list_append mt_append (pv 1) (pa_cons (pe_op u_mod (pe_callTy call_int1 (by rfl) b_int (by decide +kernel) (pa_cons (pe_op u_div (pv 5) pe_int) pa_nil)) pe_int) pa_nil)))))) (pss_one (ps_ret (pv 1)))))))),
    fun ns => (ssa_seq (SS.a (ss_set (se_lst sea_nil) (by decide))) (ssa_seq (ssa_forS (slots := [2]) sg_name (by decide) (by decide) (ss_seq (ss_set (se_p (sp_cb cs_int (sa_cons sp_var sa_nil))) (by decide)) (ss_if (set_p (sp_test (sp_op os_ge sp_var (sp_op os_pow sp_int sp_int)))) (ss_for (slots := [4]) (si_r1 (sea_cons (se_p sp_int) sea_nil)) sg_name (by decide) (ss_seq (ss_app (se_p (sp_op os_mod (sp_cb cs_int (sa_cons sp_var sa_nil)) sp_int))) (ss_seq (ss_set (se_p (sp_cb cs_int (sa_cons (sp_op os_div sp_var sp_int) sa_nil))) (by decide)) (ss_if (set_p (sp_test (sp_op os_eq sp_var sp_int))) ss_bk ss_nil)))) (ss_set (se_op oe_add se_var (se_lst (sea_cons (se_p (sp_op os_mod (sp_cb cs_int (sa_cons sp_var sa_nil)) sp_int)) (sea_cons (se_p (sp_op os_mod (sp_cb cs_int (sa_cons (sp_op os_div sp_var sp_int) sa_nil)) sp_int)) sea_nil)))) (by decide))))) (ssa_seq (SS.a (ss_set (se_p sp_int) (by decide))) (ssa_seq (ssa_forS (slots := [2]) sg_name (by decide) (by decide) (ss_set (se_p (sp_op os_mod (sp_op os_add (sp_op os_mul sp_var sp_int) (sp_cb cs_int (sa_cons sp_var sa_nil))) sp_int)) (by decide))) (ssa_seq (SS.a (ss_for (slots := [4]) (si_r1 (sea_cons (se_p sp_int) sea_nil)) sg_name (by decide) (ss_seq (ss_set (se_p (sp_op os_mod (sp_op os_add (sp_op os_mul sp_var sp_int) sp_int) sp_int)) (by decide)) (ss_app (se_p (sp_op os_mod (sp_cb cs_int (sa_cons (sp_op os_div sp_var sp_int) sa_nil)) sp_int)))))) (SS.a (ss_ret se_mv)))))))⟩
theorem sc_law_stream : FnScope ["script"] ["script"] (defScope s_law_stream) := ⟨rfl, rfl, rfl, by decide +kernel, rfl, by decide +kernel, by decide +kernel⟩
theorem ok_law_stream (dd : Dd K mg "_law_stream" s_law_stream ["script"]) (g_law_pool : Fn P w K mg base "_law_pool" 1 ["script"] (spSc ct K F_law_pool)) : Fn P w K mg base "_law_stream" 2 ["script"] (spSc ct K F_law_stream) := by
  obtain ⟨_, _, G_law_pool, m_law_pool, k_law_pool, d_law_pool⟩ := g_law_pool
  have sc := sc_law_stream
  refine fn_defS (k := 1) dd sc_law_stream (by decide) fun f cdv A outer s H E hr => ?_
  exact ⟨_, (pss_one (ps_ret (pe_op u_add (pe_lst (pa_cons pe_int pa_nil)) (pe_callS G_law_pool (hr.mono (by omega)) (by rfl) m_law_pool k_law_pool d_law_pool (fun σ => passAt (takes_of rfl rfl rfl rfl) σ) (pa_cons (pv 0) pa_nil))))),
    fun ns => ssa_ret (by decide) (sea_op oe_add (se_lst (sea_cons (se_p sp_int) sea_nil)) sea_callS)⟩
/-! law_pick: 0 pool, 1 many, 2 place -/
theorem sc_law_pick : FnScope ["pool", "many", "place"] ["pool", "many"] (defScope s_law_pick) := ⟨rfl, rfl, rfl, by decide +kernel, rfl, by decide +kernel, by decide +kernel⟩
theorem ok_law_pick (dd : Dd K mg "_law_pick" s_law_pick ["pool", "many"]) (b_int : mg "int" = none) (b_len : mg "len" = none) :
    Fn P w K mg base "_law_pick" (1) ["pool", "many"] (spM ct 2 F_law_pick) := by
  have sc := sc_law_pick
  refine fn_defI (k := 0) dd sc_law_pick (by decide) fun f cdv A outer s H E hr => ?_
  exact ⟨_, (pss_cons (ps_set (i := 2) sc.nd rfl (Or.inl rfl) (pe_ix ix_seq (pv 0) pe_int (fun _ _ => rfl))) (pss_cons (ps_asg (pe_op u_add (pv 2) pe_int) (pg_sub (pv 0) pe_int set_list)) (pss_cons (ps_if (pt_cmpR (op_eqD (eqU hr)) (pe_ix ix_seq (pv 0) pe_int (fun _ _ => rfl)) (pe_callB call_len (by rfl) b_len (by decide +kernel) (pa_cons (pv 0) pa_nil)) (nomark _)) (pss_one (ps_asg pe_int (pg_sub (pv 0) pe_int set_list))) pss_nil) (pss_one (ps_ret (pe_op u_mod (pe_callTy call_int1 (by rfl) b_int (by decide +kernel) (pa_cons (pe_ix ix_seq (pv 0) (pv 2) (fun _ _ => rfl)) pa_nil)) (pv 1))))))),
    (ss_seq (ss_set (se_get (sv_ix sv_var sp_int)) (by decide)) (ss_seq (ss_store (se_p (sp_op os_add sp_var sp_int)) sp_int) (ss_seq (ss_if (set_p (sp_test (sp_op os_eq (sp_op os_ix sp_var sp_int) (sp_cb cs_len (sa_cons sp_var sa_nil))))) (ss_store (se_p sp_int) sp_int) ss_nil) (ss_ret (se_p (sp_op os_mod (sp_cb cs_int (sa_cons (sp_op os_ix sp_var sp_var) sa_nil)) sp_var))))))⟩
/-! law_back: 0 p, 1 found, 2 x -/
theorem sc_law_back : FnScope ["p", "found", "x"] ["p"] (defScope s_law_back) := ⟨rfl, rfl, rfl, by decide +kernel, rfl, by decide +kernel, by decide +kernel⟩
theorem ok_law_back (dd : Dd K mg "_law_back" s_law_back ["p"]) (b_len : mg "len" = none) (b_range : mg "range" = none) :
    Fn P w K mg base "_law_back" (1) ["p"] (spM ct 1 F_law_back) := by
  have sc := sc_law_back
  refine fn_def (k := 0) dd sc_law_back fun f cdv A outer s H E hr => ?_
  exact ⟨_, (pss_cons (ps_set (i := 1) sc.nd rfl (Or.inl rfl) (pe_op u_mul (pe_lst (pa_cons pe_int pa_nil)) (pe_callB call_len (by rfl) b_len (by decide +kernel) (pa_cons (pv 0) pa_nil)))) (pss_cons (ps_for (passes_of rfl) rfl (pi_range1 (by rfl) b_range (pa_cons (pe_callB call_len (by rfl) b_len (by decide +kernel) (pa_cons (pv 0) pa_nil)) pa_nil)) (pg_name (i := 2) sc.nd rfl (Or.inl rfl)) (pss_one (ps_asg (pv 2) (pg_sub (pv 1) (pe_ix ix_seq (pv 0) (pv 2) (fun _ _ => rfl)) set_list)))) (pss_one (ps_ret (pv 1))))),
    (ss_seq (ss_set (se_op oe_repU (se_lst (sea_cons (se_p sp_int) sea_nil)) (se_p (sp_cb cs_len (sa_cons sp_var sa_nil)))) (by decide)) (ss_seq (ss_for (slots := [2]) (si_r1 (sea_cons (se_p (sp_cb cs_len (sa_cons sp_var sa_nil))) sea_nil)) sg_name (by decide) (ss_store se_var (sp_op os_ix sp_var sp_var))) (ss_ret se_mv)))⟩
/-! law_moved: 0 p, 1 g, 2 found, 3 x -/
theorem sc_law_moved : FnScope ["p", "g", "found", "x"] ["p", "g"] (defScope s_law_moved) := ⟨rfl, rfl, rfl, by decide +kernel, rfl, by decide +kernel, by decide +kernel⟩
theorem ok_law_moved (dd : Dd K mg "_law_moved" s_law_moved ["p", "g"]) (b_len : mg "len" = none) (b_range : mg "range" = none) :
    Fn P w K mg base "_law_moved" (1) ["p", "g"] (spM ct 2 F_law_moved) := by
  have sc := sc_law_moved
  refine fn_def (k := 0) dd sc_law_moved fun f cdv A outer s H E hr => ?_
  exact ⟨_, (pss_cons (ps_set (i := 2) sc.nd rfl (Or.inl rfl) (pe_op u_mul (pe_lst (pa_cons pe_int pa_nil)) (pe_callB call_len (by rfl) b_len (by decide +kernel) (pa_cons (pv 0) pa_nil)))) (pss_cons (ps_for (passes_of rfl) rfl (pi_range1 (by rfl) b_range (pa_cons (pe_callB call_len (by rfl) b_len (by decide +kernel) (pa_cons (pv 0) pa_nil)) pa_nil)) (pg_name (i := 3) sc.nd rfl (Or.inl rfl)) (pss_one (ps_asg (pe_ix ix_seq (pv 1) (pe_ix ix_seq (pv 0) (pv 3) (fun _ _ => rfl)) (fun _ _ => rfl)) (pg_sub (pv 2) (pe_ix ix_seq (pv 1) (pv 3) (fun _ _ => rfl)) set_list)))) (pss_one (ps_ret (pv 2))))),
    (ss_seq (ss_set (se_op oe_repU (se_lst (sea_cons (se_p sp_int) sea_nil)) (se_p (sp_cb cs_len (sa_cons sp_var sa_nil)))) (by decide)) (ss_seq (ss_for (slots := [3]) (si_r1 (sea_cons (se_p (sp_cb cs_len (sa_cons sp_var sa_nil))) sea_nil)) sg_name (by decide) (ss_store (se_get (sv_ix sv_var (sp_op os_ix sp_var sp_var))) (sp_op os_ix sp_var sp_var))) (ss_ret se_mv)))⟩
/-! law_turning: 0 pool, 1 n, 2 left, 3 found, 4 x, 5 at -/
theorem sc_law_turning : FnScope ["pool", "n", "left", "found", "x", "at"] ["pool", "n"] (defScope s_law_turning) := ⟨rfl, rfl, rfl, by decide +kernel, rfl, by decide +kernel, by decide +kernel⟩
theorem ok_law_turning (dd : Dd K mg "_law_turning" s_law_turning ["pool", "n"]) (b_len : mg "len" = none) (b_list : mg "list" = none) (b_range : mg "range" = none) (g_law_pick : Fn P w K mg base "_law_pick" 1 ["pool", "many"] (spM ct 2 F_law_pick)) :
    Fn P w K mg base "_law_turning" (2) ["pool", "n"] (spM ct 2 F_law_turning) := by
  obtain ⟨_, _, G_law_pick, m_law_pick, k_law_pick, d_law_pick⟩ := g_law_pick
  have sc := sc_law_turning
  refine fn_defI (k := 1) dd sc_law_turning (by decide) fun f cdv A outer s H E hr => ?_
  exact ⟨_, (pss_cons (ps_par (by rfl) sc.nd rfl rfl (by decide) rfl rfl (pa_cons (pe_listRg rfl (by rfl) b_list (prg_1 (by rfl) b_range (pv 1))) (pa_cons (pe_lst pa_nil) pa_nil)) (by rfl)) (pss_cons (ps_for (passes_of rfl) rfl (pi_range1 (by rfl) b_range (pa_cons (pv 1) pa_nil)) (pg_name (i := 4) sc.nd rfl (Or.inl rfl)) (pss_cons (ps_set (i := 5) sc.nd rfl (Or.inl rfl) (pe_callS G_law_pick (hr.mono (by omega)) (by rfl) m_law_pick k_law_pick d_law_pick (fun σ => passAt (takes_of rfl rfl rfl rfl) σ) (pa_cons (pv 0) (pa_cons (pe_callB call_len (by rfl) b_len (by decide +kernel) (pa_cons (pv 2) pa_nil)) pa_nil)))) (pss_cons (ps_expr (pe_bm PySem.F.plainAttrs_list PySem.F.slot_list_append PySem.F.type_list_append mt_append (pv 3) (pa_cons (pe_ix ix_seq (pv 2) (pv 5) (fun _ _ => rfl)) pa_nil))) (pss_one (ps_set (i := 2) sc.nd rfl (Or.inl rfl) (pe_op u_add (pe_slice sl_list (pv 2) po_none (po_some (pv 5))) (pe_slice sl_list (pv 2) (po_some (pe_op u_add (pv 5) pe_int)) po_none))))))) (pss_one (ps_ret (pv 3))))),
    (ss_seq (ss_par (sea_cons (se_rg1 sp_var) (sea_cons (se_lst sea_nil) sea_nil)) (by decide) (by decide)) (ss_seq (ss_for (slots := [4]) (si_r1 (sea_cons se_var sea_nil)) sg_name (by decide) (ss_seq (ss_set (se_callI (sea_cons (se_p (sp_cb cs_len (sa_cons sp_var sa_nil))) sea_nil)) (by decide)) (ss_seq (ss_app (se_get (sv_ix sv_var sp_var))) (ss_set (se_op oe_add (se_sl sv_var spo_no (spo_yes sp_var)) (se_sl sv_var (spo_yes (sp_op os_add sp_var sp_int)) spo_no)) (by decide))))) (ss_ret se_mv)))⟩
/-! law_same: 0 told, 1 due, 2 k -/
theorem sc_law_same : FnScope ["told", "due", "k"] ["told", "due"] (defScope s_law_same) := ⟨rfl, rfl, rfl, by decide +kernel, rfl, by decide +kernel, by decide +kernel⟩
theorem ok_law_same (dd : Dd K mg "_law_same" s_law_same ["told", "due"]) (b_all : mg "all" = none) (b_bool : mg "bool" = none) (b_int : mg "int" = none) (b_isinstance : mg "isinstance" = none) (b_len : mg "len" = none) (b_list : mg "list" = none) (b_range : mg "range" = none) (b_str : mg "str" = none) (b_tuple : mg "tuple" = none) {F : FM} {lv : Nat} (hlv : 1 ≤ lv + 1) (g_law_same : Fn P w K mg base "_law_same" lv ["told", "due"] (spM ct 2 F)) :
    Fn P w K mg base "_law_same" (lv + 1) ["told", "due"] (spM ct 2 (mFun 2 3 (m_law_same F))) := by
  obtain ⟨_, _, G_law_same, m_law_same, k_law_same, d_law_same⟩ := g_law_same
  have sc := sc_law_same
  refine fn_def (k := lv) dd sc_law_same fun f cdv A outer s H E hr => ?_
  exact ⟨_, (pss_cons (ps_if (PW.pt (pw_or (pt_cmpR op_isN (pv 1) pe_non (nomark _)) (pw_or (pt_cmpR op_isB (pv 1) pe_bl (nomark _)) (pw_or1 (pt_cmpR op_isB (pv 1) pe_bl (nomark _)))))) (pss_one (ps_ret (pe_or (pe_and (pe_cmpR op_isN (pv 1) pe_non (nomark _)) (pe_one (pe_cmpR op_isN (pv 0) pe_non (nomark _)))) (pe_or (pe_and (pe_cmpR op_isB (pv 1) pe_bl (nomark _)) (pe_one (pe_cmpR op_isB (pv 0) pe_bl (nomark _)))) (pe_one (pe_and (pe_cmpR op_isB (pv 1) pe_bl (nomark _)) (pe_one (pe_cmpR op_isB (pv 0) pe_bl (nomark _))))))))) pss_nil) (pss_cons (ps_if (pt_val (pe_callB call_isi (by rfl) b_isinstance (by decide +kernel) (pa_cons (pv 1) (pa_cons (pe_bltn (v := .ty "int") (by rfl) b_int (by decide +kernel) rfl) pa_nil)))) (pss_one (ps_ret (pe_and (pe_callB call_isi (by rfl) b_isinstance (by decide +kernel) (pa_cons (pv 0) (pa_cons (pe_bltn (v := .ty "int") (by rfl) b_int (by decide +kernel) rfl) pa_nil))) (pe_and (pe_not (pe_callB call_isi (by rfl) b_isinstance (by decide +kernel) (pa_cons (pv 0) (pa_cons (pe_bltn (v := .ty "bool") (by rfl) b_bool (by decide +kernel) rfl) pa_nil)))) (pe_one (pe_cmpR (op_eqD (eqU hr)) (pv 0) (pv 1) (nomark _))))))) pss_nil) (pss_cons (ps_if (pt_val (pe_callB call_isi (by rfl) b_isinstance (by decide +kernel) (pa_cons (pv 1) (pa_cons (pe_bltn (v := .ty "str") (by rfl) b_str (by decide +kernel) rfl) pa_nil)))) (pss_one (ps_ret (pe_and (pe_callB call_isi (by rfl) b_isinstance (by decide +kernel) (pa_cons (pv 0) (pa_cons (pe_bltn (v := .ty "str") (by rfl) b_str (by decide +kernel) rfl) pa_nil))) (pe_one (pe_cmpR (op_eqD (eqU hr)) (pv 0) (pv 1) (nomark _)))))) pss_nil) (pss_cons (ps_if (PW.pt (pw_or (pt_cmpR (op_neD (eqU hr)) (pe_callB call_isi (by rfl) b_isinstance (by decide +kernel) (pa_cons (pv 1) (pa_cons (pe_bltn (v := .ty "list") (by rfl) b_list (by decide +kernel) rfl) pa_nil))) (pe_callB call_isi (by rfl) b_isinstance (by decide +kernel) (pa_cons (pv 0) (pa_cons (pe_bltn (v := .ty "list") (by rfl) b_list (by decide +kernel) rfl) pa_nil))) (nomark _)) (pw_or1 (pt_cmpR (op_neD (eqU hr)) (pe_callB call_isi (by rfl) b_isinstance (by decide +kernel) (pa_cons (pv 1) (pa_cons (pe_bltn (v := .ty "tuple") (by rfl) b_tuple (by decide +kernel) rfl) pa_nil))) (pe_callB call_isi (by rfl) b_isinstance (by decide +kernel) (pa_cons (pv 0) (pa_cons (pe_bltn (v := .ty "tuple") (by rfl) b_tuple (by decide +kernel) rfl) pa_nil))) (nomark _))))) (pss_one (ps_ret pe_bl)) pss_nil) (pss_one (ps_ret (pe_and (pe_cmpR (op_eqD (eqU hr)) (pe_callB call_len (by rfl) b_len (by decide +kernel) (pa_cons (pv 0) pa_nil)) (pe_callB call_len (by rfl) b_len (by decide +kernel) (pa_cons (pv 1) pa_nil)) (nomark _)) (pe_one (pe_callB (cr_all rfl) (by rfl) b_all (by decide +kernel) (pa_cons (pe_lc (own := [("k", 2)]) rfl sc.nd (pi_range1 (by rfl) b_range (pa_cons (pe_callB call_len (by rfl) b_len (by decide +kernel) (pa_cons (pv 1) pa_nil)) pa_nil)) (blkOk_by (N := ["told", "due", "k"]) (sc := defScope s_law_same) (by decide +kernel)) (fun _ _ _ _ _ => (pg_name (i := 2) sc.nd rfl (by first | exact Or.inl rfl | exact Or.inr rfl))) (fun _ _ _ _ _ => pts_nil) (fun _ _ _ _ _ => (pe_call G_law_same (hr.mono (by omega)) (by rfl) m_law_same k_law_same d_law_same .nil passL (pa_cons (pe_ix ix_seq (pv 0) (pv 2) (fun _ _ => rfl)) (pa_cons (pe_ix ix_seq (pv 1) (pv 2) (fun _ _ => rfl)) pa_nil))))) pa_nil)))))))))),
    (ss_seq (ss_if (set_p (st_or (sp_test (sp_op os_isN sp_var sp_non)) (st_or (sp_test (sp_op os_isB sp_var sp_bl)) (sp_test (sp_op os_isB sp_var sp_bl))))) (ss_ret (se_p (sp_orV (sp_andV (sp_op os_isN sp_var sp_non) (sp_op os_isN sp_var sp_non)) (sp_orV (sp_andV (sp_op os_isB sp_var sp_bl) (sp_op os_isB sp_var sp_bl)) (sp_andV (sp_op os_isB sp_var sp_bl) (sp_op os_isB sp_var sp_bl)))))) ss_nil) (ss_seq (ss_if (set_p (sp_b (sp_isi Ty.int rfl sp_var))) (ss_ret (se_p (sp_andV (sp_isi Ty.int rfl sp_var) (sp_andV (sp_notV (sp_isi Ty.bool rfl sp_var)) (sp_op os_eq sp_var sp_var))))) ss_nil) (ss_seq (ss_if (set_p (sp_b (sp_isi Ty.str rfl sp_var))) (ss_ret (se_p (sp_andV (sp_isi Ty.str rfl sp_var) (sp_op os_eq sp_var sp_var)))) ss_nil) (ss_seq (ss_if (set_p (st_or (sp_test (sp_op os_ne (sp_isi Ty.list rfl sp_var) (sp_isi Ty.list rfl sp_var))) (sp_test (sp_op os_ne (sp_isi Ty.tuple rfl sp_var) (sp_isi Ty.tuple rfl sp_var))))) (ss_ret (se_p sp_bl)) ss_nil) (ss_ret (se_andV (se_p (sp_op os_eq (sp_cb cs_len (sa_cons sp_var sa_nil)) (sp_cb cs_len (sa_cons sp_var sa_nil)))) (se_cb (ce_s cs_all) (sea_cons (se_lc (slots := [2]) (si_r1 (sea_cons (se_p (sp_cb cs_len (sa_cons sp_var sa_nil))) sea_nil)) sg_name set_yes (se_p (sp_call0 (sa_cons (sp_op os_ix sp_var sp_var) (sa_cons (sp_op os_ix sp_var sp_var) sa_nil))))) sea_nil))))))))⟩
theorem all_law_same (dd : Dd K mg "_law_same" s_law_same ["told", "due"]) (b_all : mg "all" = none) (b_bool : mg "bool" = none) (b_int : mg "int" = none) (b_isinstance : mg "isinstance" = none) (b_len : mg "len" = none) (b_list : mg "list" = none) (b_range : mg "range" = none) (b_str : mg "str" = none) (b_tuple : mg "tuple" = none) : ∀ k : Nat, Fn P w K mg base "_law_same" (0 + k) ["told", "due"] (spM ct 2 (F_law_same k))
  | 0 => fn_bad dd
  | k + 1 => ok_law_same dd b_all b_bool b_int b_isinstance b_len b_list b_range b_str b_tuple (by omega) (all_law_same dd b_all b_bool b_int b_isinstance b_len b_list b_range b_str b_tuple k)
/-! law_copy: 0 value, 1 one -/
theorem sc_law_copy : FnScope ["value", "one"] ["value"] (defScope s_law_copy) := ⟨rfl, rfl, rfl, by decide +kernel, rfl, by decide +kernel, by decide +kernel⟩
theorem ok_law_copy (dd : Dd K mg "_law_copy" s_law_copy ["value"]) (b_isinstance : mg "isinstance" = none) (b_list : mg "list" = none) (b_tuple : mg "tuple" = none) {F : FM} {lv : Nat} (hlv : 1 ≤ lv + 1) (g_law_copy : Fn P w K mg base "_law_copy" lv ["value"] (spM ct 1 F)) :
    Fn P w K mg base "_law_copy" (lv + 1) ["value"] (spM ct 1 (mFun 1 2 (m_law_copy F))) := by
  obtain ⟨_, _, G_law_copy, m_law_copy, k_law_copy, d_law_copy⟩ := g_law_copy
  have sc := sc_law_copy
  refine fn_def (k := lv) dd sc_law_copy fun f cdv A outer s H E hr => ?_
  exact ⟨_, (pss_cons (ps_if (pt_val (pe_callB call_isi (by rfl) b_isinstance (by decide +kernel) (pa_cons (pv 0) (pa_cons (pe_bltn (v := .ty "list") (by rfl) b_list (by decide +kernel) rfl) pa_nil)))) (pss_one (ps_ret (pe_lc (own := [("one", 1)]) rfl sc.nd (pi_seq (pv 0)) (blkOk_by (N := ["value", "one"]) (sc := defScope s_law_copy) (by decide +kernel)) (fun _ _ _ _ _ => (pg_name (i := 1) sc.nd rfl (by first | exact Or.inl rfl | exact Or.inr rfl))) (fun _ _ _ _ _ => pts_nil) (fun _ _ _ _ _ => (pe_call G_law_copy (hr.mono (by omega)) (by rfl) m_law_copy k_law_copy d_law_copy .nil passL (pa_cons (pv 1) pa_nil)))))) pss_nil) (pss_cons (ps_if (pt_val (pe_callB call_isi (by rfl) b_isinstance (by decide +kernel) (pa_cons (pv 0) (pa_cons (pe_bltn (v := .ty "tuple") (by rfl) b_tuple (by decide +kernel) rfl) pa_nil)))) (pss_one (ps_ret (pe_callTy call_tuple_of (by rfl) b_tuple (by decide +kernel) (pa_cons (pe_lc (own := [("one", 1)]) rfl sc.nd (pi_seq (pv 0)) (blkOk_by (N := ["value", "one"]) (sc := defScope s_law_copy) (by decide +kernel)) (fun _ _ _ _ _ => (pg_name (i := 1) sc.nd rfl (by first | exact Or.inl rfl | exact Or.inr rfl))) (fun _ _ _ _ _ => pts_nil) (fun _ _ _ _ _ => (pe_call G_law_copy (hr.mono (by omega)) (by rfl) m_law_copy k_law_copy d_law_copy .nil passL (pa_cons (pv 1) pa_nil)))) pa_nil)))) pss_nil) (pss_one (ps_ret (pv 0))))),
    (ss_seq (ss_if (set_p (sp_b (sp_isi Ty.list rfl sp_var))) (ss_ret (se_lc (slots := [1]) (si_e se_var) sg_name set_yes (se_call0 (sea_cons se_var sea_nil)))) ss_nil) (ss_seq (ss_if (set_p (sp_b (sp_isi Ty.tuple rfl sp_var))) (ss_ret (se_cb ce_tup (sea_cons (se_lc (slots := [1]) (si_e se_var) sg_name set_yes (se_call0 (sea_cons se_var sea_nil))) sea_nil))) ss_nil) (ss_ret se_mv)))⟩
theorem all_law_copy (dd : Dd K mg "_law_copy" s_law_copy ["value"]) (b_isinstance : mg "isinstance" = none) (b_list : mg "list" = none) (b_tuple : mg "tuple" = none) : ∀ k : Nat, Fn P w K mg base "_law_copy" (0 + k) ["value"] (spM ct 1 (F_law_copy k))
  | 0 => fn_bad dd
  | k + 1 => ok_law_copy dd b_isinstance b_list b_tuple (by omega) (all_law_copy dd b_isinstance b_list b_tuple k)
/-! law_spoil: 0 value, 1 one -/
theorem sc_law_spoil : FnScope ["value", "one"] ["value"] (defScope s_law_spoil) := ⟨rfl, rfl, rfl, by decide +kernel, rfl, by decide +kernel, by decide +kernel⟩
theorem ok_law_spoil (dd : Dd K mg "_law_spoil" s_law_spoil ["value"]) (b_isinstance : mg "isinstance" = none) (b_list : mg "list" = none) (b_tuple : mg "tuple" = none) {F : FM} {lv : Nat} (hlv : 1 ≤ lv + 1) (g_law_spoil : Fn P w K mg base "_law_spoil" lv ["value"] (spM ct 1 F)) :
    Fn P w K mg base "_law_spoil" (lv + 1) ["value"] (spM ct 1 (mFunI 1 2 (m_law_spoil F))) := by
  obtain ⟨_, _, G_law_spoil, m_law_spoil, k_law_spoil, d_law_spoil⟩ := g_law_spoil
  have sc := sc_law_spoil
  refine fn_defI (k := lv) dd sc_law_spoil (by decide) fun f cdv A outer s H E hr => ?_
  exact ⟨_, (pss_cons (ps_if (pt_val (pe_callB call_isiT (by rfl) b_isinstance (by decide +kernel) (pa_cons (pv 0) (pa_cons (pe_tup (pa_cons (pe_bltn (v := .ty "list") (by rfl) b_list (by decide +kernel) rfl) (pa_cons (pe_bltn (v := .ty "tuple") (by rfl) b_tuple (by decide +kernel) rfl) pa_nil))) pa_nil)))) (pss_one (ps_for (passes_of rfl) rfl (pi_seq (pv 0)) (pg_name (i := 1) sc.nd rfl (Or.inl rfl)) (pss_one (ps_expr (pe_callS G_law_spoil (hr.mono (by omega)) (by rfl) m_law_spoil k_law_spoil d_law_spoil (fun σ => passAt (takes_of rfl rfl rfl rfl) σ) (pa_cons (pv 1) pa_nil)))))) pss_nil) (pss_one (ps_if (pt_val (pe_callB call_isi (by rfl) b_isinstance (by decide +kernel) (pa_cons (pv 0) (pa_cons (pe_bltn (v := .ty "list") (by rfl) b_list (by decide +kernel) rfl) pa_nil)))) (pss_one (ps_expr (pe_bm PySem.F.plainAttrs_list PySem.F.slot_list_append PySem.F.type_list_append mt_append (pv 0) (pa_cons pe_str pa_nil)))) pss_nil))),
    (ss_seq (ss_if (set_p (sp_b (sp_isiM [.list, .tuple] rfl (by decide) sp_var))) (ss_forM (R := 0) (ss_drop (se_callI sea_nil)) (by decide) (by decide)) ss_nil) (ss_if (set_p (sp_b (sp_isi Ty.list rfl sp_var))) (ss_app (se_p sp_str)) ss_nil))⟩
theorem all_law_spoil (dd : Dd K mg "_law_spoil" s_law_spoil ["value"]) (b_isinstance : mg "isinstance" = none) (b_list : mg "list" = none) (b_tuple : mg "tuple" = none) : ∀ k : Nat, Fn P w K mg base "_law_spoil" (0 + k) ["value"] (spM ct 1 (F_law_spoil k))
  | 0 => fn_bad dd
  | k + 1 => ok_law_spoil dd b_isinstance b_list b_tuple (by omega) (all_law_spoil dd b_isinstance b_list b_tuple k)
/-! law_unlike: 0 rows, 1 k -/
theorem sc_law_unlike : FnScope ["rows", "k"] ["rows"] (defScope s_law_unlike) := ⟨rfl, rfl, rfl, by decide +kernel, rfl, by decide +kernel, by decide +kernel⟩
theorem ok_law_unlike (dd : Dd K mg "_law_unlike" s_law_unlike ["rows"]) (b_len : mg "len" = none) (b_range : mg "range" = none) :
    Fn P w K mg base "_law_unlike" (1) ["rows"] (spM ct 1 F_law_unlike) := by
  have sc := sc_law_unlike
  refine fn_def (k := 0) dd sc_law_unlike fun f cdv A outer s H E hr => ?_
  exact ⟨_, (pss_one (ps_ret (pe_lc (own := [("k", 1)]) rfl sc.nd (pi_range1 (by rfl) b_range (pa_cons (pe_callB call_len (by rfl) b_len (by decide +kernel) (pa_cons (pv 0) pa_nil)) pa_nil)) (blkOk_by (N := ["rows", "k"]) (sc := defScope s_law_unlike) (by decide +kernel)) (fun _ _ _ _ _ => (pg_name (i := 1) sc.nd rfl (by first | exact Or.inl rfl | exact Or.inr rfl))) (fun _ _ _ _ _ => (pts_one (PW.pt (pw_or (pt_cmpR (op_eqD (eqU hr)) (pv 1) pe_int (nomark _)) (pw_or1 (pt_cmpR (op_neD (eqU hr)) (pe_ix ix_seq (pv 0) (pv 1) (fun _ _ => rfl)) (pe_ix ix_seq (pv 0) (pe_op u_sub (pv 1) pe_int) (fun _ _ => rfl)) (nomark _))))))) (fun _ _ _ _ _ => (pe_ix ix_seq (pv 0) (pv 1) (fun _ _ => rfl)))))),
    (ss_ret (se_lc (slots := [1]) (si_r1 (sea_cons (se_p (sp_cb cs_len (sa_cons sp_var sa_nil))) sea_nil)) sg_name (set_p (st_or (sp_test (sp_op os_eq sp_var sp_int)) (sp_test (sp_op os_ne (sp_op os_ix sp_var sp_var) (sp_op os_ix sp_var (sp_op os_sub sp_var sp_int)))))) (se_get (sv_ix sv_var sp_var))))⟩
/-! law_some: 0 pool, 1 n, 2 row -/
theorem sc_law_some : FnScope ["pool", "n", "row"] ["pool", "n"] (defScope s_law_some) := ⟨rfl, rfl, rfl, by decide +kernel, rfl, by decide +kernel, by decide +kernel⟩
theorem ok_law_some (dd : Dd K mg "_law_some" s_law_some ["pool", "n"]) (g_law_pick : Fn P w K mg base "_law_pick" 1 ["pool", "many"] (spM ct 2 F_law_pick)) (g_law_turning : Fn P w K mg base "_law_turning" 2 ["pool", "n"] (spM ct 2 F_law_turning)) :
    Fn P w K mg base "_law_some" (3) ["pool", "n"] (spM ct 2 F_law_some) := by
  obtain ⟨_, _, G_law_pick, m_law_pick, k_law_pick, d_law_pick⟩ := g_law_pick
  obtain ⟨_, _, G_law_turning, m_law_turning, k_law_turning, d_law_turning⟩ := g_law_turning
  have sc := sc_law_some
  refine fn_defI (k := 2) dd sc_law_some (by decide) fun f cdv A outer s H E hr => ?_
  exact ⟨_, (pss_cons (ps_set (i := 2) sc.nd rfl (Or.inl rfl) (pe_callS G_law_turning (hr.mono (by omega)) (by rfl) m_law_turning k_law_turning d_law_turning (fun σ => passAt (takes_of rfl rfl rfl rfl) σ) (pa_cons (pv 0) (pa_cons (pv 1) pa_nil)))) (pss_one (ps_ret (pe_slice sl_list (pv 2) po_none (po_some (pe_callS G_law_pick (hr.mono (by omega)) (by rfl) m_law_pick k_law_pick d_law_pick (fun σ => passAt (takes_of rfl rfl rfl rfl) σ) (pa_cons (pv 0) (pa_cons (pe_op u_add (pv 1) pe_int) pa_nil)))))))),
    (ss_seq (ss_set (se_callI (sea_cons se_var sea_nil)) (by decide)) (ss_ret (se_slT se_var (se_callI (sea_cons (se_p (sp_op os_add sp_var sp_int)) sea_nil)))))⟩
/-! law_rows: 0 pool, 1 n, 2 kind, 3 one_in, 4 r, 5 steps, 6 back, 7 rows, 8 turn, 9 row, 10 x, 11 k, 12 y -/
theorem sc_law_rows : FnScope ["pool", "n", "kind", "one_in", "r", "steps", "back", "rows", "turn", "row", "x", "k", "y"] ["pool", "n"] (defScope s_law_rows) := ⟨rfl, rfl, rfl, by decide +kernel, rfl, by decide +kernel, by decide +kernel⟩
theorem ok_law_rows (dd : Dd K mg "_law_rows" s_law_rows ["pool", "n"]) (b_int : mg "int" = none) (b_max : mg "max" = none) (b_range : mg "range" = none) (g_law_pick : Fn P w K mg base "_law_pick" 1 ["pool", "many"] (spM ct 2 F_law_pick)) (g_law_turning : Fn P w K mg base "_law_turning" 2 ["pool", "n"] (spM ct 2 F_law_turning)) :
    Fn P w K mg base "_law_rows" (3) ["pool", "n"] (spM ct 2 F_law_rows) := by
  obtain ⟨_, _, G_law_pick, m_law_pick, k_law_pick, d_law_pick⟩ := g_law_pick
  obtain ⟨_, _, G_law_turning, m_law_turning, k_law_turning, d_law_turning⟩ := g_law_turning
  have sc := sc_law_rows
  refine fn_defI (k := 2) dd sc_law_rows (by decide) fun f cdv A outer s H E hr => ?_
  exact ⟨_, (pss_cons (ps_asg (pe_tup (pa_cons (pe_callS G_law_pick (hr.mono (by omega)) (by rfl) m_law_pick k_law_pick d_law_pick (fun σ => passAt (takes_of rfl rfl rfl rfl) σ) (pa_cons (pv 0) (pa_cons pe_int pa_nil))) (pa_cons (pe_op u_add pe_int (pe_callS G_law_pick (hr.mono (by omega)) (by rfl) m_law_pick k_law_pick d_law_pick (fun σ => passAt (takes_of rfl rfl rfl rfl) σ) (pa_cons (pv 0) (pa_cons pe_int pa_nil)))) (pa_cons (pe_callS G_law_turning (hr.mono (by omega)) (by rfl) m_law_turning k_law_turning d_law_turning (fun σ => passAt (takes_of rfl rfl rfl rfl) σ) (pa_cons (pv 0) (pa_cons (pv 1) pa_nil))) pa_nil)))) (pg_tup (by rfl) (pgs_cons (pg_name (i := 2) sc.nd rfl (Or.inl rfl)) (pgs_cons (pg_name (i := 3) sc.nd rfl (Or.inr rfl)) (pgs_cons (pg_name (i := 4) sc.nd rfl (Or.inr rfl)) pgs_nil))))) (pss_cons (ps_if (pt_cmpR (op_eqD (eqU hr)) (pv 2) pe_int (nomark _)) (pss_cons (ps_set (i := 5) sc.nd rfl (Or.inr rfl) (pe_lc (own := [("k", 11)]) rfl sc.nd (pi_range1 (by rfl) b_range (pa_cons (pv 1) pa_nil)) (blkOk_by (N := ["pool", "n", "kind", "one_in", "r", "steps", "back", "rows", "turn", "row", "x", "k", "y"]) (sc := defScope s_law_rows) (by decide +kernel)) (fun _ _ _ _ _ => (pg_name (i := 11) sc.nd rfl (by first | exact Or.inl rfl | exact Or.inr rfl))) (fun _ _ _ _ _ => pts_nil) (fun _ _ _ _ _ => (pe_cmpR (op_eqD (eqU hr)) (pe_call G_law_pick (hr.mono (by omega)) (by rfl) m_law_pick k_law_pick d_law_pick .nil passL (pa_cons (pv 0) (pa_cons (pv 3) pa_nil))) pe_int (nomark _))))) (pss_one (ps_ret (pe_lc (own := [("x", 10)]) rfl sc.nd (pi_range1 (by rfl) b_range (pa_cons (pv 1) pa_nil)) (blkOk_by (N := ["pool", "n", "kind", "one_in", "r", "steps", "back", "rows", "turn", "row", "x", "k", "y"]) (sc := defScope s_law_rows) (by decide +kernel)) (fun _ _ _ _ _ => (pg_name (i := 10) sc.nd rfl (by first | exact Or.inl rfl | exact Or.inr rfl))) (fun _ _ _ _ _ => pts_nil) (fun _ _ _ _ _ => (pe_lc (own := [("y", 12)]) rfl sc.nd (pi_range1 (by rfl) b_range (pa_cons (pv 1) pa_nil)) (blkOk_by (by rfl)) (fun _ _ _ _ _ => (pg_name (i := 12) sc.nd rfl (by first | exact Or.inl rfl | exact Or.inr rfl))) (fun _ _ _ _ _ => pts_nil) (fun _ _ _ _ _ => (pe_callTy call_int1 (by rfl) b_int (by decide +kernel) (pa_cons (pe_ix ix_seq (pv 5) (pe_op u_mod (pe_callTy call_int1 (by rfl) b_int (by decide +kernel) (pa_cons (pe_op u_sub (pe_ix ix_seq (pv 4) (pv 12) (fun _ _ => rfl)) (pe_ix ix_seq (pv 4) (pv 10) (fun _ _ => rfl))) pa_nil)) (pv 1)) (fun _ _ => rfl)) pa_nil))))))))) pss_nil) (pss_cons (ps_if (pt_cmpR (op_eqD (eqU hr)) (pv 2) pe_int (nomark _)) (pss_cons (ps_set (i := 6) sc.nd rfl (Or.inr rfl) (pe_callS G_law_pick (hr.mono (by omega)) (by rfl) m_law_pick k_law_pick d_law_pick (fun σ => passAt (takes_of rfl rfl rfl rfl) σ) (pa_cons (pv 0) (pa_cons pe_int pa_nil)))) (pss_cons (ps_set (i := 7) sc.nd rfl (Or.inr rfl) (pe_lc (own := [("x", 10)]) rfl sc.nd (pi_range1 (by rfl) b_range (pa_cons (pv 1) pa_nil)) (blkOk_by (N := ["pool", "n", "kind", "one_in", "r", "steps", "back", "rows", "turn", "row", "x", "k", "y"]) (sc := defScope s_law_rows) (by decide +kernel)) (fun _ _ _ _ _ => (pg_name (i := 10) sc.nd rfl (by first | exact Or.inl rfl | exact Or.inr rfl))) (fun _ _ _ _ _ => pts_nil) (fun _ _ _ _ _ => (pe_lc (own := [("y", 12)]) rfl sc.nd (pi_range1 (by rfl) b_range (pa_cons (pv 1) pa_nil)) (blkOk_by (by rfl)) (fun _ _ _ _ _ => (pg_name (i := 12) sc.nd rfl (by first | exact Or.inl rfl | exact Or.inr rfl))) (fun _ _ _ _ _ => pts_nil) (fun _ _ _ _ _ => (pe_callTy call_int1 (by rfl) b_int (by decide +kernel) (pa_cons (pe_or (pe_cmpR (op_eqD (eqU hr)) (pe_ix ix_seq (pv 4) (pv 12) (fun _ _ => rfl)) (pe_op u_add (pe_ix ix_seq (pv 4) (pv 10) (fun _ _ => rfl)) pe_int) (nomark _)) (pe_one (pe_and (pe_cmpR (op_eqD (eqU hr)) (pv 6) pe_int (nomark _)) (pe_one (pe_cmpR (op_eqD (eqU hr)) (pe_ix ix_seq (pv 4) (pv 10) (fun _ _ => rfl)) (pe_op u_add (pe_ix ix_seq (pv 4) (pv 12) (fun _ _ => rfl)) pe_int) (nomark _)))))) pa_nil))))))) (pss_cons (ps_for (passes_of rfl) rfl (pi_range1 (by rfl) b_range (pa_cons (pe_op u_mul (pe_callS G_law_pick (hr.mono (by omega)) (by rfl) m_law_pick k_law_pick d_law_pick (fun σ => passAt (takes_of rfl rfl rfl rfl) σ) (pa_cons (pv 0) (pa_cons pe_int pa_nil))) (pe_callTy call_int1 (by rfl) b_int (by decide +kernel) (pa_cons (pe_cmpR u_gt (pv 1) pe_int (nomark _)) pa_nil))) pa_nil)) (pg_name (i := 8) sc.nd rfl (Or.inl rfl)) (pss_cons (ps_set (i := 9) sc.nd rfl (Or.inl rfl) (pe_ix ix_seq (pv 7) (pe_callS G_law_pick (hr.mono (by omega)) (by rfl) m_law_pick k_law_pick d_law_pick (fun σ => passAt (takes_of rfl rfl rfl rfl) σ) (pa_cons (pv 0) (pa_cons (pv 1) pa_nil))) (fun _ _ => rfl))) (pss_one (ps_asg pe_int (pg_sub (pv 9) (pe_callS G_law_pick (hr.mono (by omega)) (by rfl) m_law_pick k_law_pick d_law_pick (fun σ => passAt (takes_of rfl rfl rfl rfl) σ) (pa_cons (pv 0) (pa_cons (pv 1) pa_nil))) set_list))))) (pss_one (ps_ret (pv 7)))))) pss_nil) (pss_cons (ps_set (i := 7) sc.nd rfl (Or.inr rfl) (pe_lc (own := [("x", 10)]) rfl sc.nd (pi_range1 (by rfl) b_range (pa_cons (pv 1) pa_nil)) (blkOk_by (N := ["pool", "n", "kind", "one_in", "r", "steps", "back", "rows", "turn", "row", "x", "k", "y"]) (sc := defScope s_law_rows) (by decide +kernel)) (fun _ _ _ _ _ => (pg_name (i := 10) sc.nd rfl (by first | exact Or.inl rfl | exact Or.inr rfl))) (fun _ _ _ _ _ => pts_nil) (fun _ _ _ _ _ => (pe_lc (own := [("y", 12)]) rfl sc.nd (pi_range1 (by rfl) b_range (pa_cons (pv 1) pa_nil)) (blkOk_by (by rfl)) (fun _ _ _ _ _ => (pg_name (i := 12) sc.nd rfl (by first | exact Or.inl rfl | exact Or.inr rfl))) (fun _ _ _ _ _ => pts_nil) (fun _ _ _ _ _ => (pe_callTy call_int1 (by rfl) b_int (by decide +kernel) (pa_cons (pe_cmpR (op_eqD (eqU hr)) (pe_call G_law_pick (hr.mono (by omega)) (by rfl) m_law_pick k_law_pick d_law_pick .nil passL (pa_cons (pv 0) (pa_cons (pv 3) pa_nil))) pe_int (nomark _)) pa_nil))))))) (pss_cons (ps_if (pt_cmpR (op_eqD (eqU hr)) (pv 2) pe_int (nomark _)) (pss_one (ps_ret (pe_lc (own := [("x", 10)]) rfl sc.nd (pi_range1 (by rfl) b_range (pa_cons (pv 1) pa_nil)) (blkOk_by (N := ["pool", "n", "kind", "one_in", "r", "steps", "back", "rows", "turn", "row", "x", "k", "y"]) (sc := defScope s_law_rows) (by decide +kernel)) (fun _ _ _ _ _ => (pg_name (i := 10) sc.nd rfl (by first | exact Or.inl rfl | exact Or.inr rfl))) (fun _ _ _ _ _ => pts_nil) (fun _ _ _ _ _ => (pe_lc (own := [("y", 12)]) rfl sc.nd (pi_range1 (by rfl) b_range (pa_cons (pv 1) pa_nil)) (blkOk_by (by rfl)) (fun _ _ _ _ _ => (pg_name (i := 12) sc.nd rfl (by first | exact Or.inl rfl | exact Or.inr rfl))) (fun _ _ _ _ _ => pts_nil) (fun _ _ _ _ _ => (pe_callB (call_max2 rfl) (by rfl) b_max (by decide +kernel) (pa_cons (pe_ix ix_seq (pe_ix ix_seq (pv 7) (pv 10) (fun _ _ => rfl)) (pv 12) (fun _ _ => rfl)) (pa_cons (pe_ix ix_seq (pe_ix ix_seq (pv 7) (pv 12) (fun _ _ => rfl)) (pv 10) (fun _ _ => rfl)) pa_nil))))))))) pss_nil) (pss_one (ps_ret (pv 7)))))))),
    (ss_seq (ss_unp (se_tup (sea_cons (se_callI (sea_cons (se_p sp_int) sea_nil)) (sea_cons (se_op oe_add (se_p sp_int) (se_callI (sea_cons (se_p sp_int) sea_nil))) (sea_cons (se_callI (sea_cons se_var sea_nil)) sea_nil)))) (sg_tup (is := [2, 3, 4]) rfl) (by decide)) (ss_seq (ss_if (set_p (sp_test (sp_op os_eq sp_var sp_int))) (ss_seq (ss_set (se_lc (slots := [11]) (si_r1 (sea_cons se_var sea_nil)) sg_name set_yes (se_op (oe_s os_eq) (se_callI0 (sea_cons se_var sea_nil)) (se_p sp_int))) (by decide)) (ss_ret (se_lc (slots := [10]) (si_r1 (sea_cons se_var sea_nil)) sg_name set_yes (se_lc (slots := [12]) (si_r1 (sea_cons se_var sea_nil)) sg_name set_yes (se_p (sp_cb cs_int (sa_cons (sp_op os_ix sp_var (sp_op os_mod (sp_cb cs_int (sa_cons (sp_op os_sub (sp_op os_ix sp_var sp_var) (sp_op os_ix sp_var sp_var)) sa_nil)) sp_var)) sa_nil))))))) ss_nil) (ss_seq (ss_if (set_p (sp_test (sp_op os_eq sp_var sp_int))) (ss_seq (ss_set (se_callI (sea_cons (se_p sp_int) sea_nil)) (by decide)) (ss_seq (ss_set (se_lc (slots := [10]) (si_r1 (sea_cons se_var sea_nil)) sg_name set_yes (se_lc (slots := [12]) (si_r1 (sea_cons se_var sea_nil)) sg_name set_yes (se_p (sp_cb cs_int (sa_cons (sp_orV (sp_op os_eq (sp_op os_ix sp_var sp_var) (sp_op os_add (sp_op os_ix sp_var sp_var) sp_int)) (sp_andV (sp_op os_eq sp_var sp_int) (sp_op os_eq (sp_op os_ix sp_var sp_var) (sp_op os_add (sp_op os_ix sp_var sp_var) sp_int)))) sa_nil))))) (by decide)) (ss_seq (ss_for (slots := [8]) (si_r1 (sea_cons (se_op (oe_s os_mul) (se_callI (sea_cons (se_p sp_int) sea_nil)) (se_p (sp_cb cs_int (sa_cons (sp_op os_gt sp_var sp_int) sa_nil)))) sea_nil)) sg_name (by decide) (ss_open (R := 7) (se_callI (sea_cons se_var sea_nil)) (ss_storeE sp_int (se_callI (sea_cons se_var sea_nil))) (by decide) (by decide))) (ss_ret se_mv)))) ss_nil) (ss_seq (ss_set (se_lc (slots := [10]) (si_r1 (sea_cons se_var sea_nil)) sg_name set_yes (se_lc (slots := [12]) (si_r1 (sea_cons se_var sea_nil)) sg_name set_yes (se_cb (ce_s cs_int) (sea_cons (se_op (oe_s os_eq) (se_callI0 (sea_cons se_var sea_nil)) (se_p sp_int)) sea_nil)))) (by decide)) (ss_seq (ss_if (set_p (sp_test (sp_op os_eq sp_var sp_int))) (ss_ret (se_lc (slots := [10]) (si_r1 (sea_cons se_var sea_nil)) sg_name set_yes (se_lc (slots := [12]) (si_r1 (sea_cons se_var sea_nil)) sg_name set_yes (se_p (sp_cb cs_max2 (sa_cons (sp_op os_ix (sp_op os_ix sp_var sp_var) sp_var) (sa_cons (sp_op os_ix (sp_op os_ix sp_var sp_var) sp_var) sa_nil))))))) ss_nil) (ss_ret se_mv))))))⟩
/-! law_sets: 0 pool, 1 n, 2 many, 3 k -/
theorem sc_law_sets : FnScope ["pool", "n", "many", "k"] ["pool", "n"] (defScope s_law_sets) := ⟨rfl, rfl, rfl, by decide +kernel, rfl, by decide +kernel, by decide +kernel⟩
theorem ok_law_sets (dd : Dd K mg "_law_sets" s_law_sets ["pool", "n"]) (b_range : mg "range" = none) (b_sorted : mg "sorted" = none) (g_law_unlike : Fn P w K mg base "_law_unlike" 1 ["rows"] (spM ct 1 F_law_unlike)) (g_law_some : Fn P w K mg base "_law_some" 3 ["pool", "n"] (spM ct 2 F_law_some)) (g_law_pick : Fn P w K mg base "_law_pick" 1 ["pool", "many"] (spM ct 2 F_law_pick)) :
    Fn P w K mg base "_law_sets" (4) ["pool", "n"] (spM ct 2 F_law_sets) := by
  obtain ⟨_, _, G_law_unlike, m_law_unlike, k_law_unlike, d_law_unlike⟩ := g_law_unlike
  obtain ⟨_, _, G_law_some, m_law_some, k_law_some, d_law_some⟩ := g_law_some
  obtain ⟨_, _, G_law_pick, m_law_pick, k_law_pick, d_law_pick⟩ := g_law_pick
  have sc := sc_law_sets
  refine fn_defI (k := 3) dd sc_law_sets (by decide) fun f cdv A outer s H E hr => ?_
  exact ⟨_, (pss_cons (ps_set (i := 2) sc.nd rfl (Or.inl rfl) (pe_ix ix_seq (pe_lst (pa_cons pe_int (pa_cons pe_int (pa_cons pe_int (pa_cons pe_int (pa_cons pe_int (pa_cons pe_int (pa_cons pe_int pa_nil)))))))) (pe_callS G_law_pick (hr.mono (by omega)) (by rfl) m_law_pick k_law_pick d_law_pick (fun σ => passAt (takes_of rfl rfl rfl rfl) σ) (pa_cons (pv 0) (pa_cons pe_int pa_nil))) (fun _ _ => rfl))) (pss_one (ps_ret (pe_callS G_law_unlike (hr.mono (by omega)) (by rfl) m_law_unlike k_law_unlike d_law_unlike (fun σ => passAt (takes_of rfl rfl rfl rfl) σ) (pa_cons (pe_callB (call_sortedD (eqU65 hr)) (by rfl) b_sorted (by decide +kernel) (pa_cons (pe_lc (own := [("k", 3)]) rfl sc.nd (pi_range1 (by rfl) b_range (pa_cons (pv 2) pa_nil)) (blkOk_by (N := ["pool", "n", "many", "k"]) (sc := defScope s_law_sets) (by decide +kernel)) (fun _ _ _ _ _ => (pg_name (i := 3) sc.nd rfl (by first | exact Or.inl rfl | exact Or.inr rfl))) (fun _ _ _ _ _ => pts_nil) (fun _ _ _ _ _ => (pe_callB (call_sortedD (eqU65 hr)) (by rfl) b_sorted (by decide +kernel) (pa_cons (pe_call G_law_some (hr.mono (by omega)) (by rfl) m_law_some k_law_some d_law_some .nil passL (pa_cons (pv 0) (pa_cons (pv 1) pa_nil))) pa_nil)))) pa_nil)) pa_nil))))),
    (ss_seq (ss_set (se_op oe_ix (se_lst (sea_cons (se_p sp_int) (sea_cons (se_p sp_int) (sea_cons (se_p sp_int) (sea_cons (se_p sp_int) (sea_cons (se_p sp_int) (sea_cons (se_p sp_int) (sea_cons (se_p sp_int) sea_nil)))))))) (se_callI (sea_cons (se_p sp_int) sea_nil))) (by decide)) (ss_ret (se_call (sea_cons (se_cb ce_sorted (sea_cons (se_lc (slots := [3]) (si_r1 (sea_cons se_var sea_nil)) sg_name set_yes (se_fz (se_cb ce_sorted (sea_cons (se_callI0 (sea_cons se_var sea_nil)) sea_nil)))) sea_nil)) sea_nil))))⟩
/-! law_thing: 0 pool, 1 n, 2 kind, 3 most, 4 x -/
theorem sc_law_thing : FnScope ["pool", "n", "kind", "most", "x"] ["pool", "n", "kind"] (defScope s_law_thing) := ⟨rfl, rfl, rfl, by decide +kernel, rfl, by decide +kernel, by decide +kernel⟩
theorem ok_law_thing (dd : Dd K mg "_law_thing" s_law_thing ["pool", "n", "kind"]) (b_range : mg "range" = none) (g_law_some : Fn P w K mg base "_law_some" 3 ["pool", "n"] (spM ct 2 F_law_some)) (g_law_turning : Fn P w K mg base "_law_turning" 2 ["pool", "n"] (spM ct 2 F_law_turning)) (g_law_sets : Fn P w K mg base "_law_sets" 4 ["pool", "n"] (spM ct 2 F_law_sets)) (g_law_rows : Fn P w K mg base "_law_rows" 3 ["pool", "n"] (spM ct 2 F_law_rows)) (g_law_pick : Fn P w K mg base "_law_pick" 1 ["pool", "many"] (spM ct 2 F_law_pick)) :
    Fn P w K mg base "_law_thing" (5) ["pool", "n", "kind"] (spM ct 3 F_law_thing) := by
  obtain ⟨_, _, G_law_some, m_law_some, k_law_some, d_law_some⟩ := g_law_some
  obtain ⟨_, _, G_law_turning, m_law_turning, k_law_turning, d_law_turning⟩ := g_law_turning
  obtain ⟨_, _, G_law_sets, m_law_sets, k_law_sets, d_law_sets⟩ := g_law_sets
  obtain ⟨_, _, G_law_rows, m_law_rows, k_law_rows, d_law_rows⟩ := g_law_rows
  obtain ⟨_, _, G_law_pick, m_law_pick, k_law_pick, d_law_pick⟩ := g_law_pick
  have sc := sc_law_thing
  refine fn_defI (k := 4) dd sc_law_thing (by decide) fun f cdv A outer s H E hr => ?_
  exact ⟨_, (pss_cons (ps_if (pt_cmpR (op_eqD (eqU hr)) (pv 2) pe_int (nomark _)) (pss_cons (ps_set (i := 3) sc.nd rfl (Or.inr rfl) (pe_ix ix_seq (pe_lst (pa_cons pe_int (pa_cons pe_int (pa_cons pe_int (pa_cons pe_int pa_nil))))) (pe_callS G_law_pick (hr.mono (by omega)) (by rfl) m_law_pick k_law_pick d_law_pick (fun σ => passAt (takes_of rfl rfl rfl rfl) σ) (pa_cons (pv 0) (pa_cons pe_int pa_nil))) (fun _ _ => rfl))) (pss_one (ps_ret (pe_tup (pa_cons pe_str (pa_cons (pe_lc (own := [("x", 4)]) rfl sc.nd (pi_range1 (by rfl) b_range (pa_cons (pv 1) pa_nil)) (blkOk_by (N := ["pool", "n", "kind", "most", "x"]) (sc := defScope s_law_thing) (by decide +kernel)) (fun _ _ _ _ _ => (pg_name (i := 4) sc.nd rfl (by first | exact Or.inl rfl | exact Or.inr rfl))) (fun _ _ _ _ _ => pts_nil) (fun _ _ _ _ _ => (pe_call G_law_pick (hr.mono (by omega)) (by rfl) m_law_pick k_law_pick d_law_pick .nil passL (pa_cons (pv 0) (pa_cons (pv 3) pa_nil))))) pa_nil)))))) pss_nil) (pss_cons (ps_if (pt_cmpR (op_eqD (eqU hr)) (pv 2) pe_int (nomark _)) (pss_one (ps_ret (pe_tup (pa_cons pe_str (pa_cons (pe_callS G_law_rows (hr.mono (by omega)) (by rfl) m_law_rows k_law_rows d_law_rows (fun σ => passAt (takes_of rfl rfl rfl rfl) σ) (pa_cons (pv 0) (pa_cons (pv 1) pa_nil))) pa_nil))))) pss_nil) (pss_cons (ps_if (pt_cmpR (op_eqD (eqU hr)) (pv 2) pe_int (nomark _)) (pss_one (ps_ret (pe_tup (pa_cons pe_str (pa_cons (pe_callS G_law_sets (hr.mono (by omega)) (by rfl) m_law_sets k_law_sets d_law_sets (fun σ => passAt (takes_of rfl rfl rfl rfl) σ) (pa_cons (pv 0) (pa_cons (pv 1) pa_nil))) pa_nil))))) pss_nil) (pss_cons (ps_if (pt_cmpR (op_eqD (eqU hr)) (pv 2) pe_int (nomark _)) (pss_one (ps_ret (pe_tup (pa_cons pe_str (pa_cons (pe_callS G_law_turning (hr.mono (by omega)) (by rfl) m_law_turning k_law_turning d_law_turning (fun σ => passAt (takes_of rfl rfl rfl rfl) σ) (pa_cons (pv 0) (pa_cons (pv 1) pa_nil))) pa_nil))))) pss_nil) (pss_one (ps_ret (pe_tup (pa_cons pe_str (pa_cons (pe_callS G_law_some (hr.mono (by omega)) (by rfl) m_law_some k_law_some d_law_some (fun σ => passAt (takes_of rfl rfl rfl rfl) σ) (pa_cons (pv 0) (pa_cons (pv 1) pa_nil))) pa_nil))))))))),
    (ss_seq (ss_if (set_p (sp_test (sp_op os_eq sp_var sp_int))) (ss_seq (ss_set (se_op oe_ix (se_lst (sea_cons (se_p sp_int) (sea_cons (se_p sp_int) (sea_cons (se_p sp_int) (sea_cons (se_p sp_int) sea_nil))))) (se_callI (sea_cons (se_p sp_int) sea_nil))) (by decide)) (ss_ret (se_tup (sea_cons (se_p sp_str) (sea_cons (se_lc (slots := [4]) (si_r1 (sea_cons se_var sea_nil)) sg_name set_yes (se_callI0 (sea_cons se_var sea_nil))) sea_nil))))) ss_nil) (ss_seq (ss_if (set_p (sp_test (sp_op os_eq sp_var sp_int))) (ss_ret (se_tup (sea_cons (se_p sp_str) (sea_cons (se_callI (sea_cons se_var sea_nil)) sea_nil)))) ss_nil) (ss_seq (ss_if (set_p (sp_test (sp_op os_eq sp_var sp_int))) (ss_ret (se_tup (sea_cons (se_p sp_str) (sea_cons (se_callI (sea_cons se_var sea_nil)) sea_nil)))) ss_nil) (ss_seq (ss_if (set_p (sp_test (sp_op os_eq sp_var sp_int))) (ss_ret (se_tup (sea_cons (se_p sp_str) (sea_cons (se_callI (sea_cons se_var sea_nil)) sea_nil)))) ss_nil) (ss_ret (se_tup (sea_cons (se_p sp_str) (sea_cons (se_callI (sea_cons se_var sea_nil)) sea_nil))))))))⟩
/-! law_goes: 0 thing, 1 g, 2 kind, 3 told, 4 come, 5 x, 6 y, 7 one -/
theorem sc_law_goes : FnScope ["thing", "g", "kind", "told", "come", "x", "y", "one"] ["thing", "g"] (defScope s_law_goes) := ⟨rfl, rfl, rfl, by decide +kernel, rfl, by decide +kernel, by decide +kernel⟩
theorem ok_law_goes (dd : Dd K mg "_law_goes" s_law_goes ["thing", "g"]) (b_sorted : mg "sorted" = none) (g_law_moved : Fn P w K mg base "_law_moved" 1 ["p", "g"] (spM ct 2 F_law_moved)) (g_law_back : Fn P w K mg base "_law_back" 1 ["p"] (spM ct 1 F_law_back)) :
    Fn P w K mg base "_law_goes" (2) ["thing", "g"] (spM ct 2 F_law_goes) := by
  obtain ⟨_, _, G_law_moved, m_law_moved, k_law_moved, d_law_moved⟩ := g_law_moved
  obtain ⟨_, _, G_law_back, m_law_back, k_law_back, d_law_back⟩ := g_law_back
  have sc := sc_law_goes
  refine fn_def (k := 1) dd sc_law_goes fun f cdv A outer s H E hr => ?_
  exact ⟨_, (pss_cons (ps_asg (pv 0) (pg_tup (by rfl) (pgs_cons (pg_name (i := 2) sc.nd rfl (Or.inl rfl)) (pgs_cons (pg_name (i := 3) sc.nd rfl (Or.inr rfl)) pgs_nil)))) (pss_cons (ps_set (i := 4) sc.nd rfl (Or.inr rfl) (pe_callS G_law_back (hr.mono (by omega)) (by rfl) m_law_back k_law_back d_law_back (fun σ => passAt (takes_of rfl rfl rfl rfl) σ) (pa_cons (pv 1) pa_nil))) (pss_cons (ps_if (pt_cmpR (op_eqD (eqU hr)) (pv 2) pe_str (nomark _)) (pss_one (ps_ret (pe_tup (pa_cons (pv 2) (pa_cons (pe_lc (own := [("x", 5)]) rfl sc.nd (pi_seq (pv 4)) (blkOk_by (N := ["thing", "g", "kind", "told", "come", "x", "y", "one"]) (sc := defScope s_law_goes) (by decide +kernel)) (fun _ _ _ _ _ => (pg_name (i := 5) sc.nd rfl (by first | exact Or.inl rfl | exact Or.inr rfl))) (fun _ _ _ _ _ => pts_nil) (fun _ _ _ _ _ => (pe_ix ix_seq (pv 3) (pv 5) (fun _ _ => rfl)))) pa_nil))))) pss_nil) (pss_cons (ps_if (pt_cmpR (op_eqD (eqU hr)) (pv 2) pe_str (nomark _)) (pss_one (ps_ret (pe_tup (pa_cons (pv 2) (pa_cons (pe_lc (own := [("x", 5)]) rfl sc.nd (pi_seq (pv 4)) (blkOk_by (N := ["thing", "g", "kind", "told", "come", "x", "y", "one"]) (sc := defScope s_law_goes) (by decide +kernel)) (fun _ _ _ _ _ => (pg_name (i := 5) sc.nd rfl (by first | exact Or.inl rfl | exact Or.inr rfl))) (fun _ _ _ _ _ => pts_nil) (fun _ _ _ _ _ => (pe_lc (own := [("y", 6)]) rfl sc.nd (pi_seq (pv 4)) (blkOk_by (by rfl)) (fun _ _ _ _ _ => (pg_name (i := 6) sc.nd rfl (by first | exact Or.inl rfl | exact Or.inr rfl))) (fun _ _ _ _ _ => pts_nil) (fun _ _ _ _ _ => (pe_ix ix_seq (pe_ix ix_seq (pv 3) (pv 5) (fun _ _ => rfl)) (pv 6) (fun _ _ => rfl)))))) pa_nil))))) pss_nil) (pss_cons (ps_if (pt_cmpR (op_eqD (eqU hr)) (pv 2) pe_str (nomark _)) (pss_one (ps_ret (pe_tup (pa_cons (pv 2) (pa_cons (pe_callB (call_sortedD (eqU65 hr)) (by rfl) b_sorted (by decide +kernel) (pa_cons (pe_lc (own := [("one", 7)]) rfl sc.nd (pi_seq (pv 3)) (blkOk_by (N := ["thing", "g", "kind", "told", "come", "x", "y", "one"]) (sc := defScope s_law_goes) (by decide +kernel)) (fun _ _ _ _ _ => (pg_name (i := 7) sc.nd rfl (by first | exact Or.inl rfl | exact Or.inr rfl))) (fun _ _ _ _ _ => pts_nil) (fun _ _ _ _ _ => (pe_callB (call_sortedD (eqU65 hr)) (by rfl) b_sorted (by decide +kernel) (pa_cons (pe_lc (own := [("x", 5)]) rfl sc.nd (pi_seq (pv 7)) (blkOk_by (by rfl)) (fun _ _ _ _ _ => (pg_name (i := 5) sc.nd rfl (by first | exact Or.inl rfl | exact Or.inr rfl))) (fun _ _ _ _ _ => pts_nil) (fun _ _ _ _ _ => (pe_ix ix_seq (pv 1) (pv 5) (fun _ _ => rfl)))) pa_nil)))) pa_nil)) pa_nil))))) pss_nil) (pss_cons (ps_if (pt_cmpR (op_eqD (eqU hr)) (pv 2) pe_str (nomark _)) (pss_one (ps_ret (pe_tup (pa_cons (pv 2) (pa_cons (pe_callS G_law_moved (hr.mono (by omega)) (by rfl) m_law_moved k_law_moved d_law_moved (fun σ => passAt (takes_of rfl rfl rfl rfl) σ) (pa_cons (pv 3) (pa_cons (pv 1) pa_nil))) pa_nil))))) pss_nil) (pss_one (ps_ret (pe_tup (pa_cons (pv 2) (pa_cons (pe_lc (own := [("x", 5)]) rfl sc.nd (pi_seq (pv 3)) (blkOk_by (N := ["thing", "g", "kind", "told", "come", "x", "y", "one"]) (sc := defScope s_law_goes) (by decide +kernel)) (fun _ _ _ _ _ => (pg_name (i := 5) sc.nd rfl (by first | exact Or.inl rfl | exact Or.inr rfl))) (fun _ _ _ _ _ => pts_nil) (fun _ _ _ _ _ => (pe_ix ix_seq (pv 1) (pv 5) (fun _ _ => rfl)))) pa_nil))))))))))),
    (ss_seq (ss_unp se_var (sg_tup (is := [2, 3]) rfl) (by decide)) (ss_seq (ss_set (se_call (sea_cons se_var sea_nil)) (by decide)) (ss_seq (ss_if (set_p (sp_test (sp_op os_eq sp_var sp_str))) (ss_ret (se_tup (sea_cons se_mv (sea_cons (se_lc (slots := [5]) (si_e se_var) sg_name set_yes (se_get (sv_ix sv_var sp_var))) sea_nil)))) ss_nil) (ss_seq (ss_if (set_p (sp_test (sp_op os_eq sp_var sp_str))) (ss_ret (se_tup (sea_cons se_mv (sea_cons (se_lc (slots := [5]) (si_e se_var) sg_name set_yes (se_fz (se_lc (slots := [6]) (si_e se_var) sg_name set_yes (se_get (sv_ix (sv_ix sv_var sp_var) sp_var))))) sea_nil)))) ss_nil) (ss_seq (ss_if (set_p (sp_test (sp_op os_eq sp_var sp_str))) (ss_ret (se_tup (sea_cons se_mv (sea_cons (se_cb ce_sorted (sea_cons (se_lc (slots := [7]) (si_e se_var) sg_name set_yes (se_fz (se_cb ce_sorted (sea_cons (se_lc (slots := [5]) (si_e se_var) sg_name set_yes (se_get (sv_ix sv_var sp_var))) sea_nil)))) sea_nil)) sea_nil)))) ss_nil) (ss_seq (ss_if (set_p (sp_test (sp_op os_eq sp_var sp_str))) (ss_ret (se_tup (sea_cons se_mv (sea_cons (se_call (sea_cons se_var (sea_cons se_var sea_nil))) sea_nil)))) ss_nil) (ss_ret (se_tup (sea_cons se_mv (sea_cons (se_lc (slots := [5]) (si_e se_var) sg_name set_yes (se_get (sv_ix sv_var sp_var))) sea_nil))))))))))⟩
/-! law_far: 0 rows, 1 n, 2 found, 3 x, 4 far, 5 now, 6 many, 7 more, 8 u, 9 v, 10 y -/
theorem sc_law_far : FnScope ["rows", "n", "found", "x", "far", "now", "many", "more", "u", "v", "y"] ["rows"] (defScope s_law_far) := ⟨rfl, rfl, rfl, by decide +kernel, rfl, by decide +kernel, by decide +kernel⟩
theorem ok_law_far (dd : Dd K mg "_law_far" s_law_far ["rows"]) (b_len : mg "len" = none) (b_range : mg "range" = none) :
    Fn P w K mg base "_law_far" (1) ["rows"] (spM ct 1 F_law_far) := by
  have sc := sc_law_far
  refine fn_def (k := 0) dd sc_law_far fun f cdv A outer s H E hr => ?_
  exact ⟨_, (pss_cons (ps_par (by rfl) sc.nd rfl rfl (by decide) rfl rfl (pa_cons (pe_callB call_len (by rfl) b_len (by decide +kernel) (pa_cons (pv 0) pa_nil)) (pa_cons (pe_lst pa_nil) pa_nil)) (by rfl)) (pss_cons (ps_for (passes_of rfl) rfl (pi_range1 (by rfl) b_range (pa_cons (pv 1) pa_nil)) (pg_name (i := 3) sc.nd rfl (Or.inl rfl)) (pss_cons (ps_par (by rfl) sc.nd rfl rfl (by decide) rfl rfl (pa_cons (pe_lc (own := [("y", 10)]) rfl sc.nd (pi_range1 (by rfl) b_range (pa_cons (pv 1) pa_nil)) (blkOk_by (N := ["rows", "n", "found", "x", "far", "now", "many", "more", "u", "v", "y"]) (sc := defScope s_law_far) (by decide +kernel)) (fun _ _ _ _ _ => (pg_name (i := 10) sc.nd rfl (by first | exact Or.inl rfl | exact Or.inr rfl))) (fun _ _ _ _ _ => pts_nil) (fun _ _ _ _ _ => (pe_un un_neg pe_int))) (pa_cons (pe_lst (pa_cons (pv 3) pa_nil)) pa_nil)) (by rfl)) (pss_cons (ps_for (passes_of rfl) rfl (pi_range2 (by rfl) b_range (pa_cons pe_int (pa_cons (pv 1) pa_nil))) (pg_name (i := 6) sc.nd rfl (Or.inl rfl)) (pss_cons (ps_set (i := 7) sc.nd rfl (Or.inl rfl) (pe_lst pa_nil)) (pss_cons (ps_for (passes_of rfl) rfl (pi_seq (pv 5)) (pg_name (i := 8) sc.nd rfl (Or.inl rfl)) (pss_one (ps_for (passes_of rfl) rfl (pi_range1 (by rfl) b_range (pa_cons (pv 1) pa_nil)) (pg_name (i := 9) sc.nd rfl (Or.inl rfl)) (pss_one (ps_if (PW.pt (pw_and (pt_cmpR (op_eqD (eqU hr)) (pe_ix ix_seq (pe_ix ix_seq (pv 0) (pv 8) (fun _ _ => rfl)) (pv 9) (fun _ _ => rfl)) pe_int (nomark _)) (pw_and (pt_cmpR (op_neD (eqU hr)) (pv 9) (pv 3) (nomark _)) (pw_and1 (pt_cmpR u_lt (pe_ix ix_seq (pv 4) (pv 9) (fun _ _ => rfl)) pe_int (nomark _)))))) (pss_cons (ps_asg (pv 6) (pg_sub (pv 4) (pv 9) set_list)) (pss_one (ps_expr (pe_bm PySem.F.plainAttrs_list PySem.F.slot_list_append PySem.F.type_list_append mt_append (pv 7) (pa_cons (pv 9) pa_nil))))) pss_nil))))) (pss_one (ps_set (i := 5) sc.nd rfl (Or.inl rfl) (pv 7)))))) (pss_cons (ps_asg (pe_ix ix_seq (pe_ix ix_seq (pv 0) (pv 3) (fun _ _ => rfl)) (pv 3) (fun _ _ => rfl)) (pg_sub (pv 4) (pv 3) set_list)) (pss_one (ps_expr (pe_bm PySem.F.plainAttrs_list PySem.F.slot_list_append PySem.F.type_list_append mt_append (pv 2) (pa_cons (pv 4) pa_nil)))))))) (pss_one (ps_ret (pv 2))))),
    (ss_seq (ss_par (sea_cons (se_p (sp_cb cs_len (sa_cons sp_var sa_nil))) (sea_cons (se_lst sea_nil) sea_nil)) (by decide) (by decide)) (ss_seq (ss_for (slots := [3]) (si_r1 (sea_cons se_var sea_nil)) sg_name (by decide) (ss_seq (ss_par (sea_cons (se_lc (slots := [10]) (si_r1 (sea_cons se_var sea_nil)) sg_name set_yes (se_p (sp_un us_neg sp_int))) (sea_cons (se_lst (sea_cons se_var sea_nil)) sea_nil)) (by decide) (by decide)) (ss_seq (ss_for (slots := [6]) (si_r2 (sea_cons (se_p sp_int) (sea_cons se_var sea_nil))) sg_name (by decide) (ss_seq (ss_set (se_lst sea_nil) (by decide)) (ss_seq (ss_for (slots := [8]) (si_e se_var) sg_name (by decide) (ss_for (slots := [9]) (si_r1 (sea_cons se_var sea_nil)) sg_name (by decide) (ss_if (set_p (st_and (sp_test (sp_op os_eq (sp_op os_ix (sp_op os_ix sp_var sp_var) sp_var) sp_int)) (st_and (sp_test (sp_op os_ne sp_var sp_var)) (sp_test (sp_op os_lt (sp_op os_ix sp_var sp_var) sp_int))))) (ss_seq (ss_store se_var sp_var) (ss_app se_var)) ss_nil))) (ss_set se_var (by decide))))) (ss_seq (ss_store (se_get (sv_ix (sv_ix sv_var sp_var) sp_var)) sp_var) (ss_app se_var))))) (ss_ret se_mv)))⟩
/-! law_view: 0 thing, 1 kind, 2 told, 3 x, 4 y -/
theorem sc_law_view : FnScope ["thing", "kind", "told", "x", "y"] ["thing"] (defScope s_law_view) := ⟨rfl, rfl, rfl, by decide +kernel, rfl, by decide +kernel, by decide +kernel⟩
theorem ok_law_view (dd : Dd K mg "_law_view" s_law_view ["thing"]) (b_int : mg "int" = none) (b_len : mg "len" = none) (b_range : mg "range" = none) (g_law_far : Fn P w K mg base "_law_far" 1 ["rows"] (spM ct 1 F_law_far)) :
    Fn P w K mg base "_law_view" (2) ["thing"] (spM ct 1 F_law_view) := by
  obtain ⟨_, _, G_law_far, m_law_far, k_law_far, d_law_far⟩ := g_law_far
  have sc := sc_law_view
  refine fn_def (k := 1) dd sc_law_view fun f cdv A outer s H E hr => ?_
  exact ⟨_, (pss_cons (ps_asg (pv 0) (pg_tup (by rfl) (pgs_cons (pg_name (i := 1) sc.nd rfl (Or.inl rfl)) (pgs_cons (pg_name (i := 2) sc.nd rfl (Or.inr rfl)) pgs_nil)))) (pss_cons (ps_if (pt_cmpR (op_eqD (eqU hr)) (pv 1) pe_str (nomark _)) (pss_one (ps_ret (pe_tup (pa_cons pe_str (pa_cons (pe_callS G_law_far (hr.mono (by omega)) (by rfl) m_law_far k_law_far d_law_far (fun σ => passAt (takes_of rfl rfl rfl rfl) σ) (pa_cons (pv 2) pa_nil)) pa_nil))))) pss_nil) (pss_cons (ps_if (pt_cmpR (op_eqD (eqU hr)) (pv 1) pe_str (nomark _)) (pss_one (ps_ret (pe_tup (pa_cons pe_str (pa_cons (pe_callS G_law_far (hr.mono (by omega)) (by rfl) m_law_far k_law_far d_law_far (fun σ => passAt (takes_of rfl rfl rfl rfl) σ) (pa_cons (pe_lc (own := [("x", 3)]) rfl sc.nd (pi_range1 (by rfl) b_range (pa_cons (pe_callB call_len (by rfl) b_len (by decide +kernel) (pa_cons (pv 2) pa_nil)) pa_nil)) (blkOk_by (N := ["thing", "kind", "told", "x", "y"]) (sc := defScope s_law_view) (by decide +kernel)) (fun _ _ _ _ _ => (pg_name (i := 3) sc.nd rfl (by first | exact Or.inl rfl | exact Or.inr rfl))) (fun _ _ _ _ _ => pts_nil) (fun _ _ _ _ _ => (pe_lc (own := [("y", 4)]) rfl sc.nd (pi_range1 (by rfl) b_range (pa_cons (pe_callB call_len (by rfl) b_len (by decide +kernel) (pa_cons (pv 2) pa_nil)) pa_nil)) (blkOk_by (by rfl)) (fun _ _ _ _ _ => (pg_name (i := 4) sc.nd rfl (by first | exact Or.inl rfl | exact Or.inr rfl))) (fun _ _ _ _ _ => pts_nil) (fun _ _ _ _ _ => (pe_callTy call_int1 (by rfl) b_int (by decide +kernel) (pa_cons (pe_cmpR (op_eqD (eqU hr)) (pv 4) (pe_ix ix_seq (pv 2) (pv 3) (fun _ _ => rfl)) (nomark _)) pa_nil)))))) pa_nil)) pa_nil))))) pss_nil) (pss_one (ps_ret (pv 0)))))),
    (ss_seq (ss_unp se_var (sg_tup (is := [1, 2]) rfl) (by decide)) (ss_seq (ss_if (set_p (sp_test (sp_op os_eq sp_var sp_str))) (ss_ret (se_tup (sea_cons (se_p sp_str) (sea_cons (se_call (sea_cons se_var sea_nil)) sea_nil)))) ss_nil) (ss_seq (ss_if (set_p (sp_test (sp_op os_eq sp_var sp_str))) (ss_ret (se_tup (sea_cons (se_p sp_str) (sea_cons (se_call (sea_cons (se_lc (slots := [3]) (si_r1 (sea_cons (se_p (sp_cb cs_len (sa_cons sp_var sa_nil))) sea_nil)) sg_name set_yes (se_fz (se_lc (slots := [4]) (si_r1 (sea_cons (se_p (sp_cb cs_len (sa_cons sp_var sa_nil))) sea_nil)) sg_name set_yes (se_p (sp_cb cs_int (sa_cons (sp_op os_eq sp_var (sp_op os_ix sp_var sp_var)) sa_nil)))))) sea_nil)) sea_nil)))) ss_nil) (ss_ret se_mv))))⟩
/-! law_ranks: 0 colours, 1 rows, 2 one -/
theorem sc_law_ranks : FnScope ["colours", "rows", "one"] ["colours"] (defScope s_law_ranks) := ⟨rfl, rfl, rfl, by decide +kernel, rfl, by decide +kernel, by decide +kernel⟩
theorem ok_law_ranks (dd : Dd K mg "_law_ranks" s_law_ranks ["colours"]) (b_sorted : mg "sorted" = none) (g_law_unlike : Fn P w K mg base "_law_unlike" 1 ["rows"] (spM ct 1 F_law_unlike)) :
    Fn P w K mg base "_law_ranks" (2) ["colours"] (spM ct 1 F_law_ranks) := by
  obtain ⟨_, _, G_law_unlike, m_law_unlike, k_law_unlike, d_law_unlike⟩ := g_law_unlike
  have sc := sc_law_ranks
  refine fn_def (k := 1) dd sc_law_ranks fun f cdv A outer s H E hr => ?_
  exact ⟨_, (pss_cons (ps_set (i := 1) sc.nd rfl (Or.inr rfl) (pe_callS G_law_unlike (hr.mono (by omega)) (by rfl) m_law_unlike k_law_unlike d_law_unlike (fun σ => passAt (takes_of rfl rfl rfl rfl) σ) (pa_cons (pe_callB (call_sortedD (eqU65 hr)) (by rfl) b_sorted (by decide +kernel) (pa_cons (pv 0) pa_nil)) pa_nil))) (pss_one (ps_ret (pe_lc (own := [("one", 2)]) rfl sc.nd (pi_seq (pv 0)) (blkOk_by (N := ["colours", "rows", "one"]) (sc := defScope s_law_ranks) (by decide +kernel)) (fun _ _ _ _ _ => (pg_name (i := 2) sc.nd rfl (by first | exact Or.inl rfl | exact Or.inr rfl))) (fun _ _ _ _ _ => pts_nil) (fun _ _ _ _ _ => (pe_bm PySem.F.plainAttrs_list PySem.F.slot_list_index PySem.F.type_list_index (mt_indexD (eqU65 hr)) (pv 1) (pa_cons (pv 2) pa_nil))))))),
    (ss_seq (ss_set (se_call (sea_cons (se_cb ce_sorted (sea_cons se_var sea_nil)) sea_nil)) (by decide)) (ss_ret (se_lc (slots := [2]) (si_e se_var) sg_name set_yes (se_p (sp_index sp_var sp_var)))))⟩
/-! law_begin: 0 thing, 1 n, 2 kind, 3 told, 4 rows, 5 x, 6 one, 7 y, 8 row, 9 k -/
theorem sc_law_begin : FnScope ["thing", "n", "kind", "told", "rows", "x", "one", "y", "row", "k"] ["thing", "n"] (defScope s_law_begin) := ⟨rfl, rfl, rfl, by decide +kernel, rfl, by decide +kernel, by decide +kernel⟩
theorem ok_law_begin (dd : Dd K mg "_law_begin" s_law_begin ["thing", "n"]) (b_int : mg "int" = none) (b_len : mg "len" = none) (b_max : mg "max" = none) (b_range : mg "range" = none) (b_sorted : mg "sorted" = none) (b_sum : mg "sum" = none) :
    Fn P w K mg base "_law_begin" (1) ["thing", "n"] (spM ct 2 F_law_begin) := by
  have sc := sc_law_begin
  refine fn_def (k := 0) dd sc_law_begin fun f cdv A outer s H E hr => ?_
  exact ⟨_, (pss_cons (ps_asg (pv 0) (pg_tup (by rfl) (pgs_cons (pg_name (i := 2) sc.nd rfl (Or.inl rfl)) (pgs_cons (pg_name (i := 3) sc.nd rfl (Or.inr rfl)) pgs_nil)))) (pss_cons (ps_if (pt_cmpR (op_eqD (eqU hr)) (pv 2) pe_str (nomark _)) (pss_one (ps_ret (pe_lc (own := [("one", 6)]) rfl sc.nd (pi_seq (pv 3)) (blkOk_by (N := ["thing", "n", "kind", "told", "rows", "x", "one", "y", "row", "k"]) (sc := defScope s_law_begin) (by decide +kernel)) (fun _ _ _ _ _ => (pg_name (i := 6) sc.nd rfl (by first | exact Or.inl rfl | exact Or.inr rfl))) (fun _ _ _ _ _ => pts_nil) (fun _ _ _ _ _ => (pe_lst (pa_cons (pv 6) pa_nil)))))) pss_nil) (pss_cons (ps_if (pt_cmpR (op_eqD (eqU hr)) (pv 2) pe_str (nomark _)) (pss_one (ps_ret (pe_lc (own := [("x", 5)]) rfl sc.nd (pi_range1 (by rfl) b_range (pa_cons (pv 1) pa_nil)) (blkOk_by (N := ["thing", "n", "kind", "told", "rows", "x", "one", "y", "row", "k"]) (sc := defScope s_law_begin) (by decide +kernel)) (fun _ _ _ _ _ => (pg_name (i := 5) sc.nd rfl (by first | exact Or.inl rfl | exact Or.inr rfl))) (fun _ _ _ _ _ => pts_nil) (fun _ _ _ _ _ => (pe_callB (call_sortedD (eqU65 hr)) (by rfl) b_sorted (by decide +kernel) (pa_cons (pe_lc (own := [("one", 6)]) rfl sc.nd (pi_seq (pv 3)) (blkOk_by (by rfl)) (fun _ _ _ _ _ => (pg_name (i := 6) sc.nd rfl (by first | exact Or.inl rfl | exact Or.inr rfl))) (fun _ _ _ _ _ => (pts_one (pt_cmpR op_in_seq (pv 5) (pv 6) (by rfl)))) (fun _ _ _ _ _ => (pe_callB call_len (by rfl) b_len (by decide +kernel) (pa_cons (pv 6) pa_nil)))) pa_nil)))))) pss_nil) (pss_cons (ps_if (pt_cmpR (op_eqD (eqU hr)) (pv 2) pe_str (nomark _)) (pss_one (ps_ret (pe_lc (own := [("x", 5)]) rfl sc.nd (pi_range1 (by rfl) b_range (pa_cons (pv 1) pa_nil)) (blkOk_by (N := ["thing", "n", "kind", "told", "rows", "x", "one", "y", "row", "k"]) (sc := defScope s_law_begin) (by decide +kernel)) (fun _ _ _ _ _ => (pg_name (i := 5) sc.nd rfl (by first | exact Or.inl rfl | exact Or.inr rfl))) (fun _ _ _ _ _ => pts_nil) (fun _ _ _ _ _ => (pe_lst (pa_cons (pe_callB (cr_max rfl) (by rfl) b_max (by decide +kernel) (pa_cons (pe_op u_add (pe_lst (pa_cons (pe_un un_neg pe_int) pa_nil)) (pe_lc (own := [("k", 9)]) rfl sc.nd (pi_range1 (by rfl) b_range (pa_cons (pe_callB call_len (by rfl) b_len (by decide +kernel) (pa_cons (pv 3) pa_nil)) pa_nil)) (blkOk_by (by rfl)) (fun _ _ _ _ _ => (pg_name (i := 9) sc.nd rfl (by first | exact Or.inl rfl | exact Or.inr rfl))) (fun _ _ _ _ _ => (pts_one (pt_cmpR (op_eqD (eqU hr)) (pe_ix ix_seq (pv 3) (pv 9) (fun _ _ => rfl)) (pv 5) (nomark _)))) (fun _ _ _ _ _ => (pv 9)))) pa_nil)) pa_nil)))))) pss_nil) (pss_cons (ps_set (i := 4) sc.nd rfl (Or.inr rfl) (pv 3)) (pss_cons (ps_if (pt_cmpR (op_eqD (eqU hr)) (pv 2) pe_str (nomark _)) (pss_one (ps_set (i := 4) sc.nd rfl (Or.inr rfl) (pe_lc (own := [("x", 5)]) rfl sc.nd (pi_range1 (by rfl) b_range (pa_cons (pv 1) pa_nil)) (blkOk_by (N := ["thing", "n", "kind", "told", "rows", "x", "one", "y", "row", "k"]) (sc := defScope s_law_begin) (by decide +kernel)) (fun _ _ _ _ _ => (pg_name (i := 5) sc.nd rfl (by first | exact Or.inl rfl | exact Or.inr rfl))) (fun _ _ _ _ _ => pts_nil) (fun _ _ _ _ _ => (pe_lc (own := [("y", 7)]) rfl sc.nd (pi_range1 (by rfl) b_range (pa_cons (pv 1) pa_nil)) (blkOk_by (by rfl)) (fun _ _ _ _ _ => (pg_name (i := 7) sc.nd rfl (by first | exact Or.inl rfl | exact Or.inr rfl))) (fun _ _ _ _ _ => pts_nil) (fun _ _ _ _ _ => (pe_callTy call_int1 (by rfl) b_int (by decide +kernel) (pa_cons (pe_cmpR (op_eqD (eqU hr)) (pv 7) (pe_ix ix_seq (pv 3) (pv 5) (fun _ _ => rfl)) (nomark _)) pa_nil)))))))) pss_nil) (pss_one (ps_ret (pe_lc (own := [("x", 5)]) rfl sc.nd (pi_range1 (by rfl) b_range (pa_cons (pv 1) pa_nil)) (blkOk_by (N := ["thing", "n", "kind", "told", "rows", "x", "one", "y", "row", "k"]) (sc := defScope s_law_begin) (by decide +kernel)) (fun _ _ _ _ _ => (pg_name (i := 5) sc.nd rfl (by first | exact Or.inl rfl | exact Or.inr rfl))) (fun _ _ _ _ _ => pts_nil) (fun _ _ _ _ _ => (pe_lst (pa_cons (pe_ix ix_seq (pe_ix ix_seq (pv 4) (pv 5) (fun _ _ => rfl)) (pv 5) (fun _ _ => rfl)) (pa_cons (pe_callB (cr_sum rfl) (by rfl) b_sum (by decide +kernel) (pa_cons (pe_ix ix_seq (pv 4) (pv 5) (fun _ _ => rfl)) pa_nil)) (pa_cons (pe_callB (cr_sum rfl) (by rfl) b_sum (by decide +kernel) (pa_cons (pe_lc (own := [("row", 8)]) rfl sc.nd (pi_seq (pv 4)) (blkOk_by (by rfl)) (fun _ _ _ _ _ => (pg_name (i := 8) sc.nd rfl (by first | exact Or.inl rfl | exact Or.inr rfl))) (fun _ _ _ _ _ => pts_nil) (fun _ _ _ _ _ => (pe_ix ix_seq (pv 8) (pv 5) (fun _ _ => rfl)))) pa_nil)) pa_nil)))))))))))))),
    (ss_seq (ss_unp se_var (sg_tup (is := [2, 3]) rfl) (by decide)) (ss_seq (ss_if (set_p (sp_test (sp_op os_eq sp_var sp_str))) (ss_ret (se_lc (slots := [6]) (si_e se_var) sg_name set_yes (se_fz (se_lst (sea_cons se_var sea_nil))))) ss_nil) (ss_seq (ss_if (set_p (sp_test (sp_op os_eq sp_var sp_str))) (ss_ret (se_lc (slots := [5]) (si_r1 (sea_cons se_var sea_nil)) sg_name set_yes (se_fz (se_cb ce_sorted (sea_cons (se_lc (slots := [6]) (si_e se_var) sg_name (set_p (sp_test (sp_op os_in sp_var sp_var))) (se_p (sp_cb cs_len (sa_cons sp_var sa_nil)))) sea_nil))))) ss_nil) (ss_seq (ss_if (set_p (sp_test (sp_op os_eq sp_var sp_str))) (ss_ret (se_lc (slots := [5]) (si_r1 (sea_cons se_var sea_nil)) sg_name set_yes (se_fz (se_lst (sea_cons (se_cb (ce_s cs_maxL) (sea_cons (se_op oe_add (se_lst (sea_cons (se_p (sp_un us_neg sp_int)) sea_nil)) (se_lc (slots := [9]) (si_r1 (sea_cons (se_p (sp_cb cs_len (sa_cons sp_var sa_nil))) sea_nil)) sg_name (set_p (sp_test (sp_op os_eq (sp_op os_ix sp_var sp_var) sp_var))) se_var)) sea_nil)) sea_nil))))) ss_nil) (ss_seq (ss_set (se_fz se_var) (by decide)) (ss_seq (ss_if (set_p (sp_test (sp_op os_eq sp_var sp_str))) (ss_set (se_fz (se_lc (slots := [5]) (si_r1 (sea_cons se_var sea_nil)) sg_name set_yes (se_fz (se_lc (slots := [7]) (si_r1 (sea_cons se_var sea_nil)) sg_name set_yes (se_p (sp_cb cs_int (sa_cons (sp_op os_eq sp_var (sp_op os_ix sp_var sp_var)) sa_nil))))))) (by decide)) ss_nil) (ss_ret (se_lc (slots := [5]) (si_r1 (sea_cons se_var sea_nil)) sg_name set_yes (se_fz (se_lst (sea_cons (se_get (sv_ix (sv_ix sv_var sp_var) sp_var)) (sea_cons (se_p (sp_cb cs_sum (sa_cons (sp_op os_ix sp_var sp_var) sa_nil))) (sea_cons (se_cb (ce_s cs_sum) (sea_cons (se_lc (slots := [8]) (si_e se_var) sg_name set_yes (se_get (sv_ix sv_var sp_var))) sea_nil)) sea_nil)))))))))))))⟩
/-! law_rounds: 0 thing, 1 n, 2 view, 3 found, 4 turn, 5 ranks, 6 fresh, 7 x, 8 rows, 9 y, 10 one -/
theorem sc_law_rounds : FnScope ["thing", "n", "view", "found", "turn", "ranks", "fresh", "x", "rows", "y", "one"] ["thing", "n"] (defScope s_law_rounds) := ⟨rfl, rfl, rfl, by decide +kernel, rfl, by decide +kernel, by decide +kernel⟩
theorem ok_law_rounds (dd : Dd K mg "_law_rounds" s_law_rounds ["thing", "n"]) (b_range : mg "range" = none) (b_sorted : mg "sorted" = none) (g_law_ranks : Fn P w K mg base "_law_ranks" 2 ["colours"] (spM ct 1 F_law_ranks)) (g_law_begin : Fn P w K mg base "_law_begin" 1 ["thing", "n"] (spM ct 2 F_law_begin)) (g_law_view : Fn P w K mg base "_law_view" 2 ["thing"] (spM ct 1 F_law_view)) :
    Fn P w K mg base "_law_rounds" (3) ["thing", "n"] (spM ct 2 F_law_rounds) := by
  obtain ⟨_, _, G_law_ranks, m_law_ranks, k_law_ranks, d_law_ranks⟩ := g_law_ranks
  obtain ⟨_, _, G_law_begin, m_law_begin, k_law_begin, d_law_begin⟩ := g_law_begin
  obtain ⟨_, _, G_law_view, m_law_view, k_law_view, d_law_view⟩ := g_law_view
  have sc := sc_law_rounds
  refine fn_def (k := 2) dd sc_law_rounds fun f cdv A outer s H E hr => ?_
  exact ⟨_, (pss_cons (ps_set (i := 2) sc.nd rfl (Or.inl rfl) (pe_callS G_law_view (hr.mono (by omega)) (by rfl) m_law_view k_law_view d_law_view (fun σ => passAt (takes_of rfl rfl rfl rfl) σ) (pa_cons (pv 0) pa_nil))) (pss_cons (ps_set (i := 3) sc.nd rfl (Or.inl rfl) (pe_lst (pa_cons (pe_callS G_law_begin (hr.mono (by omega)) (by rfl) m_law_begin k_law_begin d_law_begin (fun σ => passAt (takes_of rfl rfl rfl rfl) σ) (pa_cons (pv 0) (pa_cons (pv 1) pa_nil))) pa_nil))) (pss_cons (ps_for (passes_of rfl) rfl (pi_range1 (by rfl) b_range (pa_cons pe_int pa_nil)) (pg_name (i := 4) sc.nd rfl (Or.inl rfl)) (pss_cons (ps_asg (pe_tup (pa_cons (pe_callS G_law_ranks (hr.mono (by omega)) (by rfl) m_law_ranks k_law_ranks d_law_ranks (fun σ => passAt (takes_of rfl rfl rfl rfl) σ) (pa_cons (pe_ix ix_seq (pv 3) (pv 4) (fun _ _ => rfl)) pa_nil)) (pa_cons (pe_lst pa_nil) pa_nil))) (pg_tup (by rfl) (pgs_cons (pg_name (i := 5) sc.nd rfl (Or.inr rfl)) (pgs_cons (pg_name (i := 6) sc.nd rfl (Or.inl rfl)) pgs_nil)))) (pss_cons (ps_for (passes_of rfl) rfl (pi_range1 (by rfl) b_range (pa_cons (pv 1) pa_nil)) (pg_name (i := 7) sc.nd rfl (Or.inr rfl)) (pss_one (ps_if (pt_cmpR (op_eqD (eqU hr)) (pe_ix ix_seq (pv 2) pe_int (fun _ _ => rfl)) pe_str (nomark _)) (pss_cons (ps_set (i := 8) sc.nd rfl (Or.inr rfl) (pe_ix ix_seq (pv 2) pe_int (fun _ _ => rfl))) (pss_one (ps_expr (pe_bm PySem.F.plainAttrs_list PySem.F.slot_list_append PySem.F.type_list_append mt_append (pv 6) (pa_cons (pe_tup (pa_cons (pe_ix ix_seq (pv 5) (pv 7) (fun _ _ => rfl)) (pa_cons (pe_callB (call_sortedD (eqU65 hr)) (by rfl) b_sorted (by decide +kernel) (pa_cons (pe_lc (own := [("y", 9)]) rfl sc.nd (pi_range1 (by rfl) b_range (pa_cons (pv 1) pa_nil)) (blkOk_by (N := ["thing", "n", "view", "found", "turn", "ranks", "fresh", "x", "rows", "y", "one"]) (sc := defScope s_law_rounds) (by decide +kernel)) (fun _ _ _ _ _ => (pg_name (i := 9) sc.nd rfl (by first | exact Or.inl rfl | exact Or.inr rfl))) (fun _ _ _ _ _ => (pts_one (pt_cmpR (op_neD (eqU hr)) (pv 9) (pv 7) (nomark _)))) (fun _ _ _ _ _ => (pe_tup (pa_cons (pe_ix ix_seq (pe_ix ix_seq (pv 8) (pv 7) (fun _ _ => rfl)) (pv 9) (fun _ _ => rfl)) (pa_cons (pe_ix ix_seq (pe_ix ix_seq (pv 8) (pv 9) (fun _ _ => rfl)) (pv 7) (fun _ _ => rfl)) (pa_cons (pe_ix ix_seq (pv 5) (pv 9) (fun _ _ => rfl)) pa_nil)))))) pa_nil)) pa_nil))) pa_nil))))) (pss_one (ps_if (pt_cmpR (op_eqD (eqU hr)) (pe_ix ix_seq (pv 2) pe_int (fun _ _ => rfl)) pe_str (nomark _)) (pss_one (ps_expr (pe_bm PySem.F.plainAttrs_list PySem.F.slot_list_append PySem.F.type_list_append mt_append (pv 6) (pa_cons (pe_tup (pa_cons (pe_ix ix_seq (pv 5) (pv 7) (fun _ _ => rfl)) (pa_cons (pe_callB (call_sortedD (eqU65 hr)) (by rfl) b_sorted (by decide +kernel) (pa_cons (pe_lc (own := [("one", 10)]) rfl sc.nd (pi_seq (pe_ix ix_seq (pv 2) pe_int (fun _ _ => rfl))) (blkOk_by (N := ["thing", "n", "view", "found", "turn", "ranks", "fresh", "x", "rows", "y", "one"]) (sc := defScope s_law_rounds) (by decide +kernel)) (fun _ _ _ _ _ => (pg_name (i := 10) sc.nd rfl (by first | exact Or.inl rfl | exact Or.inr rfl))) (fun _ _ _ _ _ => (pts_one (pt_cmpR op_in_seq (pv 7) (pv 10) (by rfl)))) (fun _ _ _ _ _ => (pe_callB (call_sortedD (eqU65 hr)) (by rfl) b_sorted (by decide +kernel) (pa_cons (pe_lc (own := [("y", 9)]) rfl sc.nd (pi_seq (pv 10)) (blkOk_by (by rfl)) (fun _ _ _ _ _ => (pg_name (i := 9) sc.nd rfl (by first | exact Or.inl rfl | exact Or.inr rfl))) (fun _ _ _ _ _ => pts_nil) (fun _ _ _ _ _ => (pe_ix ix_seq (pv 5) (pv 9) (fun _ _ => rfl)))) pa_nil)))) pa_nil)) pa_nil))) pa_nil)))) (pss_one (ps_expr (pe_bm PySem.F.plainAttrs_list PySem.F.slot_list_append PySem.F.type_list_append mt_append (pv 6) (pa_cons (pe_ix ix_seq (pe_ix ix_seq (pv 3) (pv 4) (fun _ _ => rfl)) (pv 7) (fun _ _ => rfl)) pa_nil))))))))) (pss_one (ps_expr (pe_bm PySem.F.plainAttrs_list PySem.F.slot_list_append PySem.F.type_list_append mt_append (pv 3) (pa_cons (pv 6) pa_nil))))))) (pss_one (ps_ret (pv 3)))))),
    (ss_seq (ss_set (se_fz (se_call (sea_cons se_var sea_nil))) (by decide)) (ss_seq (ss_set (se_lst (sea_cons (se_fz (se_call (sea_cons se_var (sea_cons se_var sea_nil)))) sea_nil)) (by decide)) (ss_seq (ss_for (slots := [4]) (si_r1 (sea_cons (se_p sp_int) sea_nil)) sg_name (by decide) (ss_seq (ss_unp (se_tup (sea_cons (se_call (sea_cons (se_get (sv_ix sv_var sp_var)) sea_nil)) (sea_cons (se_lst sea_nil) sea_nil))) (sg_tup (is := [5, 6]) rfl) (by decide)) (ss_seq (ss_for (slots := [7]) (si_r1 (sea_cons se_var sea_nil)) sg_name (by decide) (ss_if (set_p (sp_test (sp_op os_eq (sp_op os_ix sp_var sp_int) sp_str))) (ss_seq (ss_set (se_get (sv_ix sv_var sp_int)) (by decide)) (ss_app (se_fz (se_tup (sea_cons (se_get (sv_ix sv_var sp_var)) (sea_cons (se_cb ce_sorted (sea_cons (se_lc (slots := [9]) (si_r1 (sea_cons se_var sea_nil)) sg_name (set_p (sp_test (sp_op os_ne sp_var sp_var))) (se_tup (sea_cons (se_get (sv_ix (sv_ix sv_var sp_var) sp_var)) (sea_cons (se_get (sv_ix (sv_ix sv_var sp_var) sp_var)) (sea_cons (se_get (sv_ix sv_var sp_var)) sea_nil))))) sea_nil)) sea_nil)))))) (ss_if (set_p (sp_test (sp_op os_eq (sp_op os_ix sp_var sp_int) sp_str))) (ss_app (se_fz (se_tup (sea_cons (se_get (sv_ix sv_var sp_var)) (sea_cons (se_cb ce_sorted (sea_cons (se_lc (slots := [10]) (si_e (se_get (sv_ix sv_var sp_int))) sg_name (set_p (sp_test (sp_op os_in sp_var sp_var))) (se_fz (se_cb ce_sorted (sea_cons (se_lc (slots := [9]) (si_e se_var) sg_name set_yes (se_get (sv_ix sv_var sp_var))) sea_nil)))) sea_nil)) sea_nil))))) (ss_app (se_fz (se_get (sv_ix (sv_ix sv_var sp_var) sp_var))))))) (ss_app (se_fz se_var))))) (ss_ret se_mv))))⟩
/-! law_coloured: 0 pool, 1 n, 2 thing, 3 g, 4 due, 5 there, 6 kept, 7 rows, 8 k, 9 told, 10 other, 11 x -/
theorem sc_law_coloured : FnScope ["pool", "n", "thing", "g", "due", "there", "kept", "rows", "k", "told", "other", "x"] ["pool", "n", "thing", "g"] (defScope s_law_coloured) := ⟨rfl, rfl, rfl, by decide +kernel, rfl, by decide +kernel, by decide +kernel⟩
theorem ok_law_coloured (dd : Dd K mg "_law_coloured" s_law_coloured ["pool", "n", "thing", "g"]) (b_isinstance : mg "isinstance" = none) (b_len : mg "len" = none) (b_list : mg "list" = none) (b_range : mg "range" = none) (g_law_same : Fn P w K mg base "_law_same" 6 ["told", "due"] (spM ct 2 (F_law_same 6))) (g_colours_by_round : Fn P w K mg base "colours_by_round" 5 ["n", "thing", "rounds"] (spM ct 3 F_colours_by_round)) (g_law_spoil : Fn P w K mg base "_law_spoil" 6 ["value"] (spM ct 1 (F_law_spoil 6))) (g_law_turning : Fn P w K mg base "_law_turning" 2 ["pool", "n"] (spM ct 2 F_law_turning)) (g_law_copy : Fn P w K mg base "_law_copy" 6 ["value"] (spM ct 1 (F_law_copy 6))) (g_law_goes : Fn P w K mg base "_law_goes" 2 ["thing", "g"] (spM ct 2 F_law_goes)) (g_law_rounds : Fn P w K mg base "_law_rounds" 3 ["thing", "n"] (spM ct 2 F_law_rounds)) :
    Fn P w K mg base "_law_coloured" (7) ["pool", "n", "thing", "g"] (spM ct 4 F_law_coloured) := by
  obtain ⟨_, _, G_law_same, m_law_same, k_law_same, d_law_same⟩ := g_law_same
  obtain ⟨_, _, G_colours_by_round, m_colours_by_round, k_colours_by_round, d_colours_by_round⟩ := g_colours_by_round
  obtain ⟨_, _, G_law_spoil, m_law_spoil, k_law_spoil, d_law_spoil⟩ := g_law_spoil
  obtain ⟨_, _, G_law_turning, m_law_turning, k_law_turning, d_law_turning⟩ := g_law_turning
  obtain ⟨_, _, G_law_copy, m_law_copy, k_law_copy, d_law_copy⟩ := g_law_copy
  obtain ⟨_, _, G_law_goes, m_law_goes, k_law_goes, d_law_goes⟩ := g_law_goes
  obtain ⟨_, _, G_law_rounds, m_law_rounds, k_law_rounds, d_law_rounds⟩ := g_law_rounds
  have sc := sc_law_coloured
  refine fn_defI (k := 6) dd sc_law_coloured (by decide) fun f cdv A outer s H E hr => ?_
  exact ⟨_, (pss_cons (ps_par (by rfl) sc.nd rfl rfl (by decide) rfl rfl (pa_cons (pe_callS G_law_rounds (hr.mono (by omega)) (by rfl) m_law_rounds k_law_rounds d_law_rounds (fun σ => passAt (takes_of rfl rfl rfl rfl) σ) (pa_cons (pv 2) (pa_cons (pv 1) pa_nil))) (pa_cons (pe_callS G_law_goes (hr.mono (by omega)) (by rfl) m_law_goes k_law_goes d_law_goes (fun σ => passAt (takes_of rfl rfl rfl rfl) σ) (pa_cons (pv 2) (pa_cons (pv 3) pa_nil))) pa_nil)) (by rfl)) (pss_cons (ps_set (i := 6) sc.nd rfl (Or.inl rfl) (pe_callS G_law_copy (hr.mono (by omega)) (by rfl) m_law_copy k_law_copy d_law_copy (fun σ => passAt (takes_of rfl rfl rfl rfl) σ) (pa_cons (pe_tup (pa_cons (pv 2) (pa_cons (pv 5) pa_nil))) pa_nil))) (pss_cons (ps_set (i := 7) sc.nd rfl (Or.inl rfl) (pe_callS G_law_turning (hr.mono (by omega)) (by rfl) m_law_turning k_law_turning d_law_turning (fun σ => passAt (takes_of rfl rfl rfl rfl) σ) (pa_cons (pv 0) (pa_cons pe_int pa_nil)))) (pss_cons (ps_for (passes_of rfl) rfl (pi_seq (pv 7)) (pg_name (i := 8) sc.nd rfl (Or.inl rfl)) (pss_cons (ps_asg (pe_tup (pa_cons (pe_callS G_colours_by_round (hr.mono (by omega)) (by rfl) m_colours_by_round k_colours_by_round d_colours_by_round (fun σ => passAt (takes_of rfl rfl rfl rfl) σ) (pa_cons (pv 1) (pa_cons (pv 2) (pa_cons (pv 8) pa_nil)))) (pa_cons (pe_callS G_colours_by_round (hr.mono (by omega)) (by rfl) m_colours_by_round k_colours_by_round d_colours_by_round (fun σ => passAt (takes_of rfl rfl rfl rfl) σ) (pa_cons (pv 1) (pa_cons (pv 5) (pa_cons (pv 8) pa_nil)))) pa_nil))) (pg_tup (by rfl) (pgs_cons (pg_name (i := 9) sc.nd rfl (Or.inl rfl)) (pgs_cons (pg_name (i := 10) sc.nd rfl (Or.inr rfl)) pgs_nil)))) (pss_cons (ps_if (PW.pt (pw_or (pt_not (pt_val (pe_callS G_law_same (hr.mono (by omega)) (by rfl) m_law_same k_law_same d_law_same (fun σ => passAt (takes_of rfl rfl rfl rfl) σ) (pa_cons (pv 9) (pa_cons (pe_ix ix_seq (pv 4) (pv 8) (fun _ _ => rfl)) pa_nil))))) (pw_or (pt_not (pt_val (pe_callB call_isi (by rfl) b_isinstance (by decide +kernel) (pa_cons (pv 10) (pa_cons (pe_bltn (v := .ty "list") (by rfl) b_list (by decide +kernel) rfl) pa_nil))))) (pw_or1 (pt_cmpR (op_neD (eqU hr)) (pe_callB call_len (by rfl) b_len (by decide +kernel) (pa_cons (pv 10) pa_nil)) (pv 1) (nomark _)))))) (pss_one (ps_ret pe_bl)) pss_nil) (pss_cons (ps_if (pt_not (pt_val (pe_callS G_law_same (hr.mono (by omega)) (by rfl) m_law_same k_law_same d_law_same (fun σ => passAt (takes_of rfl rfl rfl rfl) σ) (pa_cons (pe_lc (own := [("x", 11)]) rfl sc.nd (pi_range1 (by rfl) b_range (pa_cons (pv 1) pa_nil)) (blkOk_by (N := ["pool", "n", "thing", "g", "due", "there", "kept", "rows", "k", "told", "other", "x"]) (sc := defScope s_law_coloured) (by decide +kernel)) (fun _ _ _ _ _ => (pg_name (i := 11) sc.nd rfl (by first | exact Or.inl rfl | exact Or.inr rfl))) (fun _ _ _ _ _ => pts_nil) (fun _ _ _ _ _ => (pe_ix ix_seq (pv 10) (pe_ix ix_seq (pv 3) (pv 11) (fun _ _ => rfl)) (fun _ _ => rfl)))) (pa_cons (pe_ix ix_seq (pv 4) (pv 8) (fun _ _ => rfl)) pa_nil))))) (pss_one (ps_ret pe_bl)) pss_nil) (pss_one (ps_expr (pe_callS G_law_spoil (hr.mono (by omega)) (by rfl) m_law_spoil k_law_spoil d_law_spoil (fun σ => passAt (takes_of rfl rfl rfl rfl) σ) (pa_cons (pv 9) pa_nil)))))))) (pss_one (ps_ret (pe_and (pe_callS G_law_same (hr.mono (by omega)) (by rfl) m_law_same k_law_same d_law_same (fun σ => passAt (takes_of rfl rfl rfl rfl) σ) (pa_cons (pe_callS G_colours_by_round (hr.mono (by omega)) (by rfl) m_colours_by_round k_colours_by_round d_colours_by_round (fun σ => passAt (takes_of rfl rfl rfl rfl) σ) (pa_cons (pv 1) (pa_cons (pv 2) (pa_cons (pe_ix ix_seq (pv 7) pe_int (fun _ _ => rfl)) pa_nil)))) (pa_cons (pe_ix ix_seq (pv 4) (pe_ix ix_seq (pv 7) pe_int (fun _ _ => rfl)) (fun _ _ => rfl)) pa_nil))) (pe_one (pe_callS G_law_same (hr.mono (by omega)) (by rfl) m_law_same k_law_same d_law_same (fun σ => passAt (takes_of rfl rfl rfl rfl) σ) (pa_cons (pe_tup (pa_cons (pv 2) (pa_cons (pv 5) pa_nil))) (pa_cons (pv 6) pa_nil))))))))))),
    (ss_seq (ss_par (sea_cons (se_call (sea_cons se_var (sea_cons se_var sea_nil))) (sea_cons (se_call (sea_cons se_var (sea_cons se_var sea_nil))) sea_nil)) (by decide) (by decide)) (ss_seq (ss_set (se_call (sea_cons (se_tup (sea_cons se_var (sea_cons se_var sea_nil))) sea_nil)) (by decide)) (ss_seq (ss_set (se_callI (sea_cons (se_p sp_int) sea_nil)) (by decide)) (ss_seq (ss_for (slots := [8]) (si_e se_var) sg_name (by decide) (ss_seq (ss_unp (se_tup (sea_cons (se_callB (sa_cons sp_var (sa_cons sp_var (sa_cons sp_var sa_nil)))) (sea_cons (se_fz (se_callB (sa_cons sp_var (sa_cons sp_var (sa_cons sp_var sa_nil))))) sea_nil))) (sg_tup (is := [9, 10]) rfl) (by decide)) (ss_seq (ss_if (set_p (st_or (st_not (sp_b (sp_callG (sa_cons sp_var (sa_cons (sp_op os_ix sp_var sp_var) sa_nil))))) (st_or (st_not (sp_b (sp_isi Ty.list rfl sp_var))) (sp_test (sp_op os_ne (sp_cb cs_len (sa_cons sp_var sa_nil)) sp_var))))) (ss_ret (se_p sp_bl)) ss_nil) (ss_seq (ss_if (set_not (set_b (se_call (sea_cons (se_lc (slots := [11]) (si_r1 (sea_cons se_var sea_nil)) sg_name set_yes (se_get (sv_ix sv_var (sp_op os_ix sp_var sp_var)))) (sea_cons (se_get (sv_ix sv_var sp_var)) sea_nil))))) (ss_ret (se_p sp_bl)) ss_nil) (ss_drop (se_callI sea_nil)))))) (ss_ret (se_p (sp_andV (sp_callG (sa_cons (sp_callG (sa_cons sp_var (sa_cons sp_var (sa_cons (sp_op os_ix sp_var sp_int) sa_nil)))) (sa_cons (sp_op os_ix sp_var (sp_op os_ix sp_var sp_int)) sa_nil))) (sp_callG (sa_cons (sp_tup (sa_cons sp_var (sa_cons sp_var sa_nil))) (sa_cons sp_var sa_nil))))))))))⟩
/-! law: 0 script, 1 pool, 2 n, 3 g, 4 kind -/
theorem sc_law : FnScope ["script", "pool", "n", "g", "kind"] ["script"] (defScope s_law) := ⟨rfl, rfl, rfl, by decide +kernel, rfl, by decide +kernel, by decide +kernel⟩
theorem ok_law (dd : Dd K mg "law" s_law ["script"]) (b_range : mg "range" = none) (g_law_stream : Fn P w K mg base "_law_stream" 2 ["script"] (spSc ct K F_law_stream)) (g_law_coloured : Fn P w K mg base "_law_coloured" 7 ["pool", "n", "thing", "g"] (spM ct 4 F_law_coloured)) (g_law_thing : Fn P w K mg base "_law_thing" 5 ["pool", "n", "kind"] (spM ct 3 F_law_thing)) (g_law_turning : Fn P w K mg base "_law_turning" 2 ["pool", "n"] (spM ct 2 F_law_turning)) (g_law_pick : Fn P w K mg base "_law_pick" 1 ["pool", "many"] (spM ct 2 F_law_pick)) :
    Fl P w K mg base "law" s_law 8 ["script"] (spSc ct K F_law) := by
  obtain ⟨_, _, G_law_stream, m_law_stream, k_law_stream, d_law_stream⟩ := g_law_stream
  obtain ⟨_, _, G_law_coloured, m_law_coloured, k_law_coloured, d_law_coloured⟩ := g_law_coloured
  obtain ⟨_, _, G_law_thing, m_law_thing, k_law_thing, d_law_thing⟩ := g_law_thing
  obtain ⟨_, _, G_law_turning, m_law_turning, k_law_turning, d_law_turning⟩ := g_law_turning
  obtain ⟨_, _, G_law_pick, m_law_pick, k_law_pick, d_law_pick⟩ := g_law_pick
  have sc := sc_law
  refine fn_defL (k := 7) dd sc_law (by decide) fun f cdv A outer s H E hr => ?_
  exact ⟨_, (pss_cons (ps_set (i := 1) sc.nd rfl (Or.inl rfl) (pe_callS G_law_stream (hr.mono (by omega)) (by rfl) m_law_stream k_law_stream d_law_stream (fun σ => passAt (takes_of rfl rfl rfl rfl) σ) (pa_cons (pv 0) pa_nil))) (pss_cons (ps_set (i := 2) sc.nd rfl (Or.inl rfl) (pe_ix ix_seq (pe_lst (pa_cons pe_int (pa_cons pe_int (pa_cons pe_int (pa_cons pe_int (pa_cons (pe_callS G_law_pick (hr.mono (by omega)) (by rfl) m_law_pick k_law_pick d_law_pick (fun σ => passAt (takes_of rfl rfl rfl rfl) σ) (pa_cons (pv 1) (pa_cons pe_int pa_nil))) (pa_cons (pe_op u_add pe_int (pe_callS G_law_pick (hr.mono (by omega)) (by rfl) m_law_pick k_law_pick d_law_pick (fun σ => passAt (takes_of rfl rfl rfl rfl) σ) (pa_cons (pv 1) (pa_cons pe_int pa_nil)))) (pa_cons (pe_op u_add pe_int (pe_callS G_law_pick (hr.mono (by omega)) (by rfl) m_law_pick k_law_pick d_law_pick (fun σ => passAt (takes_of rfl rfl rfl rfl) σ) (pa_cons (pv 1) (pa_cons pe_int pa_nil)))) (pa_cons (pe_op u_add pe_int (pe_callS G_law_pick (hr.mono (by omega)) (by rfl) m_law_pick k_law_pick d_law_pick (fun σ => passAt (takes_of rfl rfl rfl rfl) σ) (pa_cons (pv 1) (pa_cons pe_int pa_nil)))) pa_nil))))))))) (pe_callS G_law_pick (hr.mono (by omega)) (by rfl) m_law_pick k_law_pick d_law_pick (fun σ => passAt (takes_of rfl rfl rfl rfl) σ) (pa_cons (pv 1) (pa_cons pe_int pa_nil))) (fun _ _ => rfl))) (pss_cons (ps_set (i := 3) sc.nd rfl (Or.inl rfl) (pe_callS G_law_turning (hr.mono (by omega)) (by rfl) m_law_turning k_law_turning d_law_turning (fun σ => passAt (takes_of rfl rfl rfl rfl) σ) (pa_cons (pv 1) (pa_cons (pv 2) pa_nil)))) (pss_cons (ps_for (passes_of rfl) rfl (pi_range1 (by rfl) b_range (pa_cons pe_int pa_nil)) (pg_name (i := 4) sc.nd rfl (Or.inl rfl)) (pss_one (ps_if (pt_not (pt_val (pe_callS G_law_coloured (hr.mono (by omega)) (by rfl) m_law_coloured k_law_coloured d_law_coloured (fun σ => passAt (takes_of rfl rfl rfl rfl) σ) (pa_cons (pv 1) (pa_cons (pv 2) (pa_cons (pe_callS G_law_thing (hr.mono (by omega)) (by rfl) m_law_thing k_law_thing d_law_thing (fun σ => passAt (takes_of rfl rfl rfl rfl) σ) (pa_cons (pv 1) (pa_cons (pv 2) (pa_cons (pv 4) pa_nil)))) (pa_cons (pv 3) pa_nil))))))) (pss_one (ps_ret pe_bl)) pss_nil))) (pss_one (ps_ret pe_bl)))))),
    fun ns => ssa_seq (ssa_set (by decide) sea_callS (by decide)) (SS.a (ss_seq (ss_set (se_op oe_ix (se_lst (sea_cons (se_p sp_int) (sea_cons (se_p sp_int) (sea_cons (se_p sp_int) (sea_cons (se_p sp_int) (sea_cons (se_callI (sea_cons (se_p sp_int) sea_nil)) (sea_cons (se_op oe_add (se_p sp_int) (se_callI (sea_cons (se_p sp_int) sea_nil))) (sea_cons (se_op oe_add (se_p sp_int) (se_callI (sea_cons (se_p sp_int) sea_nil))) (sea_cons (se_op oe_add (se_p sp_int) (se_callI (sea_cons (se_p sp_int) sea_nil))) sea_nil))))))))) (se_callI (sea_cons (se_p sp_int) sea_nil))) (by decide)) (ss_seq (ss_set (se_callI (sea_cons se_var sea_nil)) (by decide)) (ss_seq (ss_for (slots := [4]) (si_r1 (sea_cons (se_p sp_int) sea_nil)) sg_name (by decide) (ss_if (set_not (set_b (se_callI (sea_cons se_var (sea_cons (se_callI (sea_cons se_var (sea_cons se_var sea_nil))) (sea_cons se_var sea_nil)))))) (ss_ret (se_p sp_bl)) ss_nil)) (ss_ret (se_p sp_bl))))))⟩
end
theorem all_mk {l : PySem.W.OpenLaw} {w : World} {K : PySem.W.Frag} {h : Heap} {mg : Str → Option Value} {fa : Addr} (X : K.In h) (G : h.Ns mainGlobals mg) (hfa : mg "law" = some (.ref fa))
    {f0 : Addr} {od0 an0 : Option Addr} {sl0 : Array (Option Value)} {oc0 kV0 dc0 pm0 cd0 ct0 : Value}
    {f1 : Addr} {od1 an1 : Option Addr} {sl1 : Array (Option Value)} {oc1 kV1 dc1 pm1 cd1 ct1 : Value}
    {f2 : Addr} {od2 an2 : Option Addr} {sl2 : Array (Option Value)} {oc2 kV2 dc2 pm2 cd2 ct2 : Value}
    {f3 : Addr} {od3 an3 : Option Addr} {sl3 : Array (Option Value)} {oc3 kV3 dc3 pm3 cd3 ct3 : Value}
    {f4 : Addr} {od4 an4 : Option Addr} {sl4 : Array (Option Value)} {oc4 kV4 dc4 pm4 cd4 ct4 : Value}
    {f5 : Addr} {od5 an5 : Option Addr} {sl5 : Array (Option Value)} {oc5 kV5 dc5 pm5 cd5 ct5 : Value}
    {f6 : Addr} {od6 an6 : Option Addr} {sl6 : Array (Option Value)} {oc6 kV6 dc6 pm6 cd6 ct6 : Value}
    {f7 : Addr} {od7 an7 : Option Addr} {sl7 : Array (Option Value)} {oc7 kV7 dc7 pm7 cd7 ct7 : Value}
    {f8 : Addr} {od8 an8 : Option Addr} {sl8 : Array (Option Value)} {oc8 kV8 dc8 pm8 cd8 ct8 : Value}
    {f9 : Addr} {od9 an9 : Option Addr} {sl9 : Array (Option Value)} {oc9 kV9 dc9 pm9 cd9 ct9 : Value}
    {f10 : Addr} {od10 an10 : Option Addr} {sl10 : Array (Option Value)} {oc10 kV10 dc10 pm10 cd10 ct10 : Value}
    {f11 : Addr} {od11 an11 : Option Addr} {sl11 : Array (Option Value)} {oc11 kV11 dc11 pm11 cd11 ct11 : Value}
    {f12 : Addr} {od12 an12 : Option Addr} {sl12 : Array (Option Value)} {oc12 kV12 dc12 pm12 cd12 ct12 : Value}
    {f13 : Addr} {od13 an13 : Option Addr} {sl13 : Array (Option Value)} {oc13 kV13 dc13 pm13 cd13 ct13 : Value}
    {f14 : Addr} {od14 an14 : Option Addr} {sl14 : Array (Option Value)} {oc14 kV14 dc14 pm14 cd14 ct14 : Value}
    {f15 : Addr} {od15 an15 : Option Addr} {sl15 : Array (Option Value)} {oc15 kV15 dc15 pm15 cd15 ct15 : Value}
    {f16 : Addr} {od16 an16 : Option Addr} {sl16 : Array (Option Value)} {oc16 kV16 dc16 pm16 cd16 ct16 : Value}
    {f17 : Addr} {od17 an17 : Option Addr} {sl17 : Array (Option Value)} {oc17 kV17 dc17 pm17 cd17 ct17 : Value}
    {f18 : Addr} {od18 an18 : Option Addr} {sl18 : Array (Option Value)} {oc18 kV18 dc18 pm18 cd18 ct18 : Value}
    {f19 : Addr} {od19 an19 : Option Addr} {sl19 : Array (Option Value)} {oc19 kV19 dc19 pm19 cd19 ct19 : Value}
    {f20 : Addr} {od20 an20 : Option Addr} {sl20 : Array (Option Value)} {oc20 kV20 dc20 pm20 cd20 ct20 : Value}
    {f21 : Addr} {od21 an21 : Option Addr} {sl21 : Array (Option Value)} {oc21 kV21 dc21 pm21 cd21 ct21 : Value}
    {f22 : Addr} {od22 an22 : Option Addr} {sl22 : Array (Option Value)} {oc22 kV22 dc22 pm22 cd22 ct22 : Value}
    {f23 : Addr} {od23 an23 : Option Addr} {sl23 : Array (Option Value)} {oc23 kV23 dc23 pm23 cd23 ct23 : Value}
    {f24 : Addr} {od24 an24 : Option Addr} {sl24 : Array (Option Value)} {oc24 kV24 dc24 pm24 cd24 ct24 : Value}
    {f25 : Addr} {od25 an25 : Option Addr} {sl25 : Array (Option Value)} {oc25 kV25 dc25 pm25 cd25 ct25 : Value}
    {f26 : Addr} {od26 an26 : Option Addr} {sl26 : Array (Option Value)} {oc26 kV26 dc26 pm26 cd26 ct26 : Value}
    {f27 : Addr} {od27 an27 : Option Addr} {sl27 : Array (Option Value)} {oc27 kV27 dc27 pm27 cd27 ct27 : Value}
    {f28 : Addr} {od28 an28 : Option Addr} {sl28 : Array (Option Value)} {oc28 kV28 dc28 pm28 cd28 ct28 : Value}
    {f29 : Addr} {od29 an29 : Option Addr} {sl29 : Array (Option Value)} {oc29 kV29 dc29 pm29 cd29 ct29 : Value}
    {f30 : Addr} {od30 an30 : Option Addr} {sl30 : Array (Option Value)} {oc30 kV30 dc30 pm30 cd30 ct30 : Value}
    (a0 : PySem.W.nsIn K mainGlobals "arcs_of" = some (some (.ref f0))) (l0 : K.lookup f0 = some ⟨oc0, od0, .func (PySem.W.fnOf "arcs_of" "arcs_of" (defArgs s_arcs_of) (defBody s_arcs_of) (defScope s_arcs_of) .none kV0 dc0 pm0 an0 cd0 ct0), sl0⟩) (c0 : PySem.W.codeIn K cd0 "arcs_of" = true) (k0 : PySem.W.keepIn K (.ref f0) = true)
    (a1 : PySem.W.nsIn K mainGlobals "ways_from" = some (some (.ref f1))) (l1 : K.lookup f1 = some ⟨oc1, od1, .func (PySem.W.fnOf "ways_from" "ways_from" (defArgs s_ways_from) (defBody s_ways_from) (defScope s_ways_from) .none kV1 dc1 pm1 an1 cd1 ct1), sl1⟩) (c1 : PySem.W.codeIn K cd1 "ways_from" = true) (k1 : PySem.W.keepIn K (.ref f1) = true)
    (a2 : PySem.W.nsIn K mainGlobals "distances_of" = some (some (.ref f2))) (l2 : K.lookup f2 = some ⟨oc2, od2, .func (PySem.W.fnOf "distances_of" "distances_of" (defArgs s_distances_of) (defBody s_distances_of) (defScope s_distances_of) .none kV2 dc2 pm2 an2 cd2 ct2), sl2⟩) (c2 : PySem.W.codeIn K cd2 "distances_of" = true) (k2 : PySem.W.keepIn K (.ref f2) = true)
    (a3 : PySem.W.nsIn K mainGlobals "view_of" = some (some (.ref f3))) (l3 : K.lookup f3 = some ⟨oc3, od3, .func (PySem.W.fnOf "view_of" "view_of" (defArgs s_view_of) (defBody s_view_of) (defScope s_view_of) .none kV3 dc3 pm3 an3 cd3 ct3), sl3⟩) (c3 : PySem.W.codeIn K cd3 "view_of" = true) (k3 : PySem.W.keepIn K (.ref f3) = true)
    (a4 : PySem.W.nsIn K mainGlobals "first_colours" = some (some (.ref f4))) (l4 : K.lookup f4 = some ⟨oc4, od4, .func (PySem.W.fnOf "first_colours" "first_colours" (defArgs s_first_colours) (defBody s_first_colours) (defScope s_first_colours) .none kV4 dc4 pm4 an4 cd4 ct4), sl4⟩) (c4 : PySem.W.codeIn K cd4 "first_colours" = true) (k4 : PySem.W.keepIn K (.ref f4) = true)
    (a5 : PySem.W.nsIn K mainGlobals "ranks_of" = some (some (.ref f5))) (l5 : K.lookup f5 = some ⟨oc5, od5, .func (PySem.W.fnOf "ranks_of" "ranks_of" (defArgs s_ranks_of) (defBody s_ranks_of) (defScope s_ranks_of) .none kV5 dc5 pm5 an5 cd5 ct5), sl5⟩) (c5 : PySem.W.codeIn K cd5 "ranks_of" = true) (k5 : PySem.W.keepIn K (.ref f5) = true)
    (a6 : PySem.W.nsIn K mainGlobals "next_colours" = some (some (.ref f6))) (l6 : K.lookup f6 = some ⟨oc6, od6, .func (PySem.W.fnOf "next_colours" "next_colours" (defArgs s_next_colours) (defBody s_next_colours) (defScope s_next_colours) .none kV6 dc6 pm6 an6 cd6 ct6), sl6⟩) (c6 : PySem.W.codeIn K cd6 "next_colours" = true) (k6 : PySem.W.keepIn K (.ref f6) = true)
    (a7 : PySem.W.nsIn K mainGlobals "all_rounds" = some (some (.ref f7))) (l7 : K.lookup f7 = some ⟨oc7, od7, .func (PySem.W.fnOf "all_rounds" "all_rounds" (defArgs s_all_rounds) (defBody s_all_rounds) (defScope s_all_rounds) .none kV7 dc7 pm7 an7 cd7 ct7), sl7⟩) (c7 : PySem.W.codeIn K cd7 "all_rounds" = true) (k7 : PySem.W.keepIn K (.ref f7) = true)
    (a8 : PySem.W.nsIn K mainGlobals "colours_by_round" = some (some (.ref f8))) (l8 : K.lookup f8 = some ⟨oc8, od8, .func (PySem.W.fnOf "colours_by_round" "colours_by_round" (defArgs s_colours_by_round) (defBody s_colours_by_round) (defScope s_colours_by_round) .none kV8 dc8 pm8 an8 cd8 ct8), sl8⟩) (c8 : PySem.W.codeIn K cd8 "colours_by_round" = true) (k8 : PySem.W.keepIn K (.ref f8) = true)
    (a9 : PySem.W.nsIn K mainGlobals "_law_pool" = some (some (.ref f9))) (l9 : K.lookup f9 = some ⟨oc9, od9, .func (PySem.W.fnOf "_law_pool" "_law_pool" (defArgs s_law_pool) (defBody s_law_pool) (defScope s_law_pool) .none kV9 dc9 pm9 an9 cd9 ct9), sl9⟩) (c9 : PySem.W.codeIn K cd9 "_law_pool" = true) (k9 : PySem.W.keepIn K (.ref f9) = true)
    (a10 : PySem.W.nsIn K mainGlobals "_law_stream" = some (some (.ref f10))) (l10 : K.lookup f10 = some ⟨oc10, od10, .func (PySem.W.fnOf "_law_stream" "_law_stream" (defArgs s_law_stream) (defBody s_law_stream) (defScope s_law_stream) .none kV10 dc10 pm10 an10 cd10 ct10), sl10⟩) (c10 : PySem.W.codeIn K cd10 "_law_stream" = true) (k10 : PySem.W.keepIn K (.ref f10) = true)
    (a11 : PySem.W.nsIn K mainGlobals "_law_pick" = some (some (.ref f11))) (l11 : K.lookup f11 = some ⟨oc11, od11, .func (PySem.W.fnOf "_law_pick" "_law_pick" (defArgs s_law_pick) (defBody s_law_pick) (defScope s_law_pick) .none kV11 dc11 pm11 an11 cd11 ct11), sl11⟩) (c11 : PySem.W.codeIn K cd11 "_law_pick" = true) (k11 : PySem.W.keepIn K (.ref f11) = true)
    (a12 : PySem.W.nsIn K mainGlobals "_law_back" = some (some (.ref f12))) (l12 : K.lookup f12 = some ⟨oc12, od12, .func (PySem.W.fnOf "_law_back" "_law_back" (defArgs s_law_back) (defBody s_law_back) (defScope s_law_back) .none kV12 dc12 pm12 an12 cd12 ct12), sl12⟩) (c12 : PySem.W.codeIn K cd12 "_law_back" = true) (k12 : PySem.W.keepIn K (.ref f12) = true)
    (a13 : PySem.W.nsIn K mainGlobals "_law_moved" = some (some (.ref f13))) (l13 : K.lookup f13 = some ⟨oc13, od13, .func (PySem.W.fnOf "_law_moved" "_law_moved" (defArgs s_law_moved) (defBody s_law_moved) (defScope s_law_moved) .none kV13 dc13 pm13 an13 cd13 ct13), sl13⟩) (c13 : PySem.W.codeIn K cd13 "_law_moved" = true) (k13 : PySem.W.keepIn K (.ref f13) = true)
    (a14 : PySem.W.nsIn K mainGlobals "_law_turning" = some (some (.ref f14))) (l14 : K.lookup f14 = some ⟨oc14, od14, .func (PySem.W.fnOf "_law_turning" "_law_turning" (defArgs s_law_turning) (defBody s_law_turning) (defScope s_law_turning) .none kV14 dc14 pm14 an14 cd14 ct14), sl14⟩) (c14 : PySem.W.codeIn K cd14 "_law_turning" = true) (k14 : PySem.W.keepIn K (.ref f14) = true)
    (a15 : PySem.W.nsIn K mainGlobals "_law_same" = some (some (.ref f15))) (l15 : K.lookup f15 = some ⟨oc15, od15, .func (PySem.W.fnOf "_law_same" "_law_same" (defArgs s_law_same) (defBody s_law_same) (defScope s_law_same) .none kV15 dc15 pm15 an15 cd15 ct15), sl15⟩) (c15 : PySem.W.codeIn K cd15 "_law_same" = true) (k15 : PySem.W.keepIn K (.ref f15) = true)
    (a16 : PySem.W.nsIn K mainGlobals "_law_copy" = some (some (.ref f16))) (l16 : K.lookup f16 = some ⟨oc16, od16, .func (PySem.W.fnOf "_law_copy" "_law_copy" (defArgs s_law_copy) (defBody s_law_copy) (defScope s_law_copy) .none kV16 dc16 pm16 an16 cd16 ct16), sl16⟩) (c16 : PySem.W.codeIn K cd16 "_law_copy" = true) (k16 : PySem.W.keepIn K (.ref f16) = true)
    (a17 : PySem.W.nsIn K mainGlobals "_law_spoil" = some (some (.ref f17))) (l17 : K.lookup f17 = some ⟨oc17, od17, .func (PySem.W.fnOf "_law_spoil" "_law_spoil" (defArgs s_law_spoil) (defBody s_law_spoil) (defScope s_law_spoil) .none kV17 dc17 pm17 an17 cd17 ct17), sl17⟩) (c17 : PySem.W.codeIn K cd17 "_law_spoil" = true) (k17 : PySem.W.keepIn K (.ref f17) = true)
    (a18 : PySem.W.nsIn K mainGlobals "_law_unlike" = some (some (.ref f18))) (l18 : K.lookup f18 = some ⟨oc18, od18, .func (PySem.W.fnOf "_law_unlike" "_law_unlike" (defArgs s_law_unlike) (defBody s_law_unlike) (defScope s_law_unlike) .none kV18 dc18 pm18 an18 cd18 ct18), sl18⟩) (c18 : PySem.W.codeIn K cd18 "_law_unlike" = true) (k18 : PySem.W.keepIn K (.ref f18) = true)
    (a19 : PySem.W.nsIn K mainGlobals "_law_some" = some (some (.ref f19))) (l19 : K.lookup f19 = some ⟨oc19, od19, .func (PySem.W.fnOf "_law_some" "_law_some" (defArgs s_law_some) (defBody s_law_some) (defScope s_law_some) .none kV19 dc19 pm19 an19 cd19 ct19), sl19⟩) (c19 : PySem.W.codeIn K cd19 "_law_some" = true) (k19 : PySem.W.keepIn K (.ref f19) = true)
    (a20 : PySem.W.nsIn K mainGlobals "_law_rows" = some (some (.ref f20))) (l20 : K.lookup f20 = some ⟨oc20, od20, .func (PySem.W.fnOf "_law_rows" "_law_rows" (defArgs s_law_rows) (defBody s_law_rows) (defScope s_law_rows) .none kV20 dc20 pm20 an20 cd20 ct20), sl20⟩) (c20 : PySem.W.codeIn K cd20 "_law_rows" = true) (k20 : PySem.W.keepIn K (.ref f20) = true)
    (a21 : PySem.W.nsIn K mainGlobals "_law_sets" = some (some (.ref f21))) (l21 : K.lookup f21 = some ⟨oc21, od21, .func (PySem.W.fnOf "_law_sets" "_law_sets" (defArgs s_law_sets) (defBody s_law_sets) (defScope s_law_sets) .none kV21 dc21 pm21 an21 cd21 ct21), sl21⟩) (c21 : PySem.W.codeIn K cd21 "_law_sets" = true) (k21 : PySem.W.keepIn K (.ref f21) = true)
    (a22 : PySem.W.nsIn K mainGlobals "_law_thing" = some (some (.ref f22))) (l22 : K.lookup f22 = some ⟨oc22, od22, .func (PySem.W.fnOf "_law_thing" "_law_thing" (defArgs s_law_thing) (defBody s_law_thing) (defScope s_law_thing) .none kV22 dc22 pm22 an22 cd22 ct22), sl22⟩) (c22 : PySem.W.codeIn K cd22 "_law_thing" = true) (k22 : PySem.W.keepIn K (.ref f22) = true)
    (a23 : PySem.W.nsIn K mainGlobals "_law_goes" = some (some (.ref f23))) (l23 : K.lookup f23 = some ⟨oc23, od23, .func (PySem.W.fnOf "_law_goes" "_law_goes" (defArgs s_law_goes) (defBody s_law_goes) (defScope s_law_goes) .none kV23 dc23 pm23 an23 cd23 ct23), sl23⟩) (c23 : PySem.W.codeIn K cd23 "_law_goes" = true) (k23 : PySem.W.keepIn K (.ref f23) = true)
    (a24 : PySem.W.nsIn K mainGlobals "_law_far" = some (some (.ref f24))) (l24 : K.lookup f24 = some ⟨oc24, od24, .func (PySem.W.fnOf "_law_far" "_law_far" (defArgs s_law_far) (defBody s_law_far) (defScope s_law_far) .none kV24 dc24 pm24 an24 cd24 ct24), sl24⟩) (c24 : PySem.W.codeIn K cd24 "_law_far" = true) (k24 : PySem.W.keepIn K (.ref f24) = true)
    (a25 : PySem.W.nsIn K mainGlobals "_law_view" = some (some (.ref f25))) (l25 : K.lookup f25 = some ⟨oc25, od25, .func (PySem.W.fnOf "_law_view" "_law_view" (defArgs s_law_view) (defBody s_law_view) (defScope s_law_view) .none kV25 dc25 pm25 an25 cd25 ct25), sl25⟩) (c25 : PySem.W.codeIn K cd25 "_law_view" = true) (k25 : PySem.W.keepIn K (.ref f25) = true)
    (a26 : PySem.W.nsIn K mainGlobals "_law_ranks" = some (some (.ref f26))) (l26 : K.lookup f26 = some ⟨oc26, od26, .func (PySem.W.fnOf "_law_ranks" "_law_ranks" (defArgs s_law_ranks) (defBody s_law_ranks) (defScope s_law_ranks) .none kV26 dc26 pm26 an26 cd26 ct26), sl26⟩) (c26 : PySem.W.codeIn K cd26 "_law_ranks" = true) (k26 : PySem.W.keepIn K (.ref f26) = true)
    (a27 : PySem.W.nsIn K mainGlobals "_law_begin" = some (some (.ref f27))) (l27 : K.lookup f27 = some ⟨oc27, od27, .func (PySem.W.fnOf "_law_begin" "_law_begin" (defArgs s_law_begin) (defBody s_law_begin) (defScope s_law_begin) .none kV27 dc27 pm27 an27 cd27 ct27), sl27⟩) (c27 : PySem.W.codeIn K cd27 "_law_begin" = true) (k27 : PySem.W.keepIn K (.ref f27) = true)
    (a28 : PySem.W.nsIn K mainGlobals "_law_rounds" = some (some (.ref f28))) (l28 : K.lookup f28 = some ⟨oc28, od28, .func (PySem.W.fnOf "_law_rounds" "_law_rounds" (defArgs s_law_rounds) (defBody s_law_rounds) (defScope s_law_rounds) .none kV28 dc28 pm28 an28 cd28 ct28), sl28⟩) (c28 : PySem.W.codeIn K cd28 "_law_rounds" = true) (k28 : PySem.W.keepIn K (.ref f28) = true)
    (a29 : PySem.W.nsIn K mainGlobals "_law_coloured" = some (some (.ref f29))) (l29 : K.lookup f29 = some ⟨oc29, od29, .func (PySem.W.fnOf "_law_coloured" "_law_coloured" (defArgs s_law_coloured) (defBody s_law_coloured) (defScope s_law_coloured) .none kV29 dc29 pm29 an29 cd29 ct29), sl29⟩) (c29 : PySem.W.codeIn K cd29 "_law_coloured" = true) (k29 : PySem.W.keepIn K (.ref f29) = true)
    (a30 : PySem.W.nsIn K mainGlobals "law" = some (some (.ref f30))) (l30 : K.lookup f30 = some ⟨oc30, od30, .func (PySem.W.fnOf "law" "law" (defArgs s_law) (defBody s_law) (defScope s_law) .none kV30 dc30 pm30 an30 cd30 ct30), sl30⟩) (c30 : PySem.W.codeIn K cd30 "law" = true) (k30 : PySem.W.keepIn K (.ref f30) = true)
    (z_all : PySem.W.nsIn K mainGlobals "all" = some none)
    (z_bool : PySem.W.nsIn K mainGlobals "bool" = some none)
    (z_enumerate : PySem.W.nsIn K mainGlobals "enumerate" = some none)
    (z_int : PySem.W.nsIn K mainGlobals "int" = some none)
    (z_isinstance : PySem.W.nsIn K mainGlobals "isinstance" = some none)
    (z_len : PySem.W.nsIn K mainGlobals "len" = some none)
    (z_list : PySem.W.nsIn K mainGlobals "list" = some none)
    (z_max : PySem.W.nsIn K mainGlobals "max" = some none)
    (z_range : PySem.W.nsIn K mainGlobals "range" = some none)
    (z_sorted : PySem.W.nsIn K mainGlobals "sorted" = some none)
    (z_str : PySem.W.nsIn K mainGlobals "str" = some none)
    (z_sum : PySem.W.nsIn K mainGlobals "sum" = some none)
    (z_tuple : PySem.W.nsIn K mainGlobals "tuple" = some none)
    (hlaw : ∀ ns : List Int, ns.length ≤ 63 → F_law ns = .ok (.sh (.bl true)) []) :
    ∃ fd : FuncData, (∀ (s : Shared) (v : Value), BindsTo s fd ⟨[v], []⟩ [("script", v)]) ∧ ∀ base : Heap, K.In base → base.Ns mainGlobals mg → FnOk l.prog w K mg base (L2.CX l.prog w) 8 fa fd ["script"] (Z.spLaw K) := by
  have dd_arcs_of : Dd K mg "arcs_of" s_arcs_of ["thing"] := dd_mk X G a0 l0 c0 k0 fun _ _ _ _ _ _ us hl => match us, hl with | [_], _ => rfl
  have dd_ways_from : Dd K mg "ways_from" s_ways_from ["leads", "x"] := dd_mk X G a1 l1 c1 k1 fun _ _ _ _ _ _ us hl => match us, hl with | [_, _], _ => rfl
  have dd_distances_of : Dd K mg "distances_of" s_distances_of ["rows"] := dd_mk X G a2 l2 c2 k2 fun _ _ _ _ _ _ us hl => match us, hl with | [_], _ => rfl
  have dd_view_of : Dd K mg "view_of" s_view_of ["thing"] := dd_mk X G a3 l3 c3 k3 fun _ _ _ _ _ _ us hl => match us, hl with | [_], _ => rfl
  have dd_first_colours : Dd K mg "first_colours" s_first_colours ["n", "thing"] := dd_mk X G a4 l4 c4 k4 fun _ _ _ _ _ _ us hl => match us, hl with | [_, _], _ => rfl
  have dd_ranks_of : Dd K mg "ranks_of" s_ranks_of ["colours"] := dd_mk X G a5 l5 c5 k5 fun _ _ _ _ _ _ us hl => match us, hl with | [_], _ => rfl
  have dd_next_colours : Dd K mg "next_colours" s_next_colours ["n", "view", "colours"] := dd_mk X G a6 l6 c6 k6 fun _ _ _ _ _ _ us hl => match us, hl with | [_, _, _], _ => rfl
  have dd_all_rounds : Dd K mg "all_rounds" s_all_rounds ["n", "thing"] := dd_mk X G a7 l7 c7 k7 fun _ _ _ _ _ _ us hl => match us, hl with | [_, _], _ => rfl
  have dd_colours_by_round : Dd K mg "colours_by_round" s_colours_by_round ["n", "thing", "rounds"] := dd_mk X G a8 l8 c8 k8 fun _ _ _ _ _ _ us hl => match us, hl with | [_, _, _], _ => rfl
  have dd_law_pool : Dd K mg "_law_pool" s_law_pool ["script"] := dd_mk X G a9 l9 c9 k9 fun _ _ _ _ _ _ us hl => match us, hl with | [_], _ => rfl
  have dd_law_stream : Dd K mg "_law_stream" s_law_stream ["script"] := dd_mk X G a10 l10 c10 k10 fun _ _ _ _ _ _ us hl => match us, hl with | [_], _ => rfl
  have dd_law_pick : Dd K mg "_law_pick" s_law_pick ["pool", "many"] := dd_mk X G a11 l11 c11 k11 fun _ _ _ _ _ _ us hl => match us, hl with | [_, _], _ => rfl
  have dd_law_back : Dd K mg "_law_back" s_law_back ["p"] := dd_mk X G a12 l12 c12 k12 fun _ _ _ _ _ _ us hl => match us, hl with | [_], _ => rfl
  have dd_law_moved : Dd K mg "_law_moved" s_law_moved ["p", "g"] := dd_mk X G a13 l13 c13 k13 fun _ _ _ _ _ _ us hl => match us, hl with | [_, _], _ => rfl
  have dd_law_turning : Dd K mg "_law_turning" s_law_turning ["pool", "n"] := dd_mk X G a14 l14 c14 k14 fun _ _ _ _ _ _ us hl => match us, hl with | [_, _], _ => rfl
  have dd_law_same : Dd K mg "_law_same" s_law_same ["told", "due"] := dd_mk X G a15 l15 c15 k15 fun _ _ _ _ _ _ us hl => match us, hl with | [_, _], _ => rfl
  have dd_law_copy : Dd K mg "_law_copy" s_law_copy ["value"] := dd_mk X G a16 l16 c16 k16 fun _ _ _ _ _ _ us hl => match us, hl with | [_], _ => rfl
  have dd_law_spoil : Dd K mg "_law_spoil" s_law_spoil ["value"] := dd_mk X G a17 l17 c17 k17 fun _ _ _ _ _ _ us hl => match us, hl with | [_], _ => rfl
  have dd_law_unlike : Dd K mg "_law_unlike" s_law_unlike ["rows"] := dd_mk X G a18 l18 c18 k18 fun _ _ _ _ _ _ us hl => match us, hl with | [_], _ => rfl
  have dd_law_some : Dd K mg "_law_some" s_law_some ["pool", "n"] := dd_mk X G a19 l19 c19 k19 fun _ _ _ _ _ _ us hl => match us, hl with | [_, _], _ => rfl
  have dd_law_rows : Dd K mg "_law_rows" s_law_rows ["pool", "n"] := dd_mk X G a20 l20 c20 k20 fun _ _ _ _ _ _ us hl => match us, hl with | [_, _], _ => rfl
  have dd_law_sets : Dd K mg "_law_sets" s_law_sets ["pool", "n"] := dd_mk X G a21 l21 c21 k21 fun _ _ _ _ _ _ us hl => match us, hl with | [_, _], _ => rfl
  have dd_law_thing : Dd K mg "_law_thing" s_law_thing ["pool", "n", "kind"] := dd_mk X G a22 l22 c22 k22 fun _ _ _ _ _ _ us hl => match us, hl with | [_, _, _], _ => rfl
  have dd_law_goes : Dd K mg "_law_goes" s_law_goes ["thing", "g"] := dd_mk X G a23 l23 c23 k23 fun _ _ _ _ _ _ us hl => match us, hl with | [_, _], _ => rfl
  have dd_law_far : Dd K mg "_law_far" s_law_far ["rows"] := dd_mk X G a24 l24 c24 k24 fun _ _ _ _ _ _ us hl => match us, hl with | [_], _ => rfl
  have dd_law_view : Dd K mg "_law_view" s_law_view ["thing"] := dd_mk X G a25 l25 c25 k25 fun _ _ _ _ _ _ us hl => match us, hl with | [_], _ => rfl
  have dd_law_ranks : Dd K mg "_law_ranks" s_law_ranks ["colours"] := dd_mk X G a26 l26 c26 k26 fun _ _ _ _ _ _ us hl => match us, hl with | [_], _ => rfl
  have dd_law_begin : Dd K mg "_law_begin" s_law_begin ["thing", "n"] := dd_mk X G a27 l27 c27 k27 fun _ _ _ _ _ _ us hl => match us, hl with | [_, _], _ => rfl
  have dd_law_rounds : Dd K mg "_law_rounds" s_law_rounds ["thing", "n"] := dd_mk X G a28 l28 c28 k28 fun _ _ _ _ _ _ us hl => match us, hl with | [_, _], _ => rfl
  have dd_law_coloured : Dd K mg "_law_coloured" s_law_coloured ["pool", "n", "thing", "g"] := dd_mk X G a29 l29 c29 k29 fun _ _ _ _ _ _ us hl => match us, hl with | [_, _, _, _], _ => rfl
  have dd_law : Dd K mg "law" s_law ["script"] := dd_mk X G a30 l30 c30 k30 fun _ _ _ _ _ _ us hl => match us, hl with | [_], _ => rfl
  have b_all := PySem.W.mg_none_of X G z_all
  have b_bool := PySem.W.mg_none_of X G z_bool
  have b_enumerate := PySem.W.mg_none_of X G z_enumerate
  have b_int := PySem.W.mg_none_of X G z_int
  have b_isinstance := PySem.W.mg_none_of X G z_isinstance
  have b_len := PySem.W.mg_none_of X G z_len
  have b_list := PySem.W.mg_none_of X G z_list
  have b_max := PySem.W.mg_none_of X G z_max
  have b_range := PySem.W.mg_none_of X G z_range
  have b_sorted := PySem.W.mg_none_of X G z_sorted
  have b_str := PySem.W.mg_none_of X G z_str
  have b_sum := PySem.W.mg_none_of X G z_sum
  have b_tuple := PySem.W.mg_none_of X G z_tuple
  refine law_at (st := s_law) X G hfa a30 l30 (fun _ _ _ _ _ _ us hl => match us, hl with | [_], _ => rfl) fun base _ _ => ?_
  have g_arcs_of : Fn l.prog w K mg base "arcs_of" 1 ["thing"] (spM (fun _ => none) 1 F_arcs_of) := ok_arcs_of dd_arcs_of b_len b_range
  have g_ways_from : Fn l.prog w K mg base "ways_from" 1 ["leads", "x"] (spM (fun _ => none) 2 F_ways_from) := ok_ways_from dd_ways_from b_len
  have g_distances_of : Fn l.prog w K mg base "distances_of" 2 ["rows"] (spM (fun _ => none) 1 F_distances_of) := ok_distances_of dd_distances_of b_enumerate g_ways_from
  have g_view_of : Fn l.prog w K mg base "view_of" 3 ["thing"] (spM (fun _ => none) 1 F_view_of) := ok_view_of dd_view_of g_distances_of g_arcs_of
  have g_first_colours : Fn l.prog w K mg base "first_colours" 2 ["n", "thing"] (spM (fun _ => none) 2 F_first_colours) := ok_first_colours dd_first_colours b_len b_range b_sorted b_sum g_arcs_of
  have g_ranks_of : Fn l.prog w K mg base "ranks_of" 1 ["colours"] (spM (fun _ => none) 1 F_ranks_of) := ok_ranks_of dd_ranks_of b_sorted
  have g_next_colours : Fn l.prog w K mg base "next_colours" 2 ["n", "view", "colours"] (spM (fun _ => none) 3 F_next_colours) := ok_next_colours dd_next_colours b_range b_sorted g_ranks_of
  have g_all_rounds : Fn l.prog w K mg base "all_rounds" 4 ["n", "thing"] (spM (fun _ => none) 2 F_all_rounds) := ok_all_rounds dd_all_rounds g_next_colours g_first_colours g_view_of
  have g_next_id : Fn l.prog w K mg base "next_colours" 2 ["n", "view", "colours"] spId := ok_next_id dd_next_colours b_range b_sorted g_ranks_of
  have g_rounds_al : Fn l.prog w K mg base "all_rounds" 4 ["n", "thing"] (spAl (fun _ => none)) := ok_rounds_al dd_all_rounds g_next_id g_first_colours g_view_of
  have g_colours_by_round : Fn l.prog w K mg base "colours_by_round" 5 ["n", "thing", "rounds"] (spM (fun _ => none) 3 F_colours_by_round) := ok_cbr dd_colours_by_round g_all_rounds g_rounds_al
  have g_law_pool : Fn l.prog w K mg base "_law_pool" 1 ["script"] (spSc (fun _ => none) K F_law_pool) := ok_law_pool dd_law_pool b_int b_range
  have g_law_stream := ok_law_stream dd_law_stream g_law_pool
  have g_law_pick : Fn l.prog w K mg base "_law_pick" 1 ["pool", "many"] (spM (fun _ => none) 2 F_law_pick) := ok_law_pick dd_law_pick b_int b_len
  have g_law_back : Fn l.prog w K mg base "_law_back" 1 ["p"] (spM (fun _ => none) 1 F_law_back) := ok_law_back dd_law_back b_len b_range
  have g_law_moved : Fn l.prog w K mg base "_law_moved" 1 ["p", "g"] (spM (fun _ => none) 2 F_law_moved) := ok_law_moved dd_law_moved b_len b_range
  have g_law_turning : Fn l.prog w K mg base "_law_turning" 2 ["pool", "n"] (spM (fun _ => none) 2 F_law_turning) := ok_law_turning dd_law_turning b_len b_list b_range g_law_pick
  have g_law_same : Fn l.prog w K mg base "_law_same" 6 ["told", "due"] (spM (fun _ => none) 2 (F_law_same 6)) := all_law_same dd_law_same b_all b_bool b_int b_isinstance b_len b_list b_range b_str b_tuple 6
  have g_law_copy : Fn l.prog w K mg base "_law_copy" 6 ["value"] (spM (fun _ => none) 1 (F_law_copy 6)) := all_law_copy dd_law_copy b_isinstance b_list b_tuple 6
  have g_law_spoil : Fn l.prog w K mg base "_law_spoil" 6 ["value"] (spM (fun _ => none) 1 (F_law_spoil 6)) := all_law_spoil dd_law_spoil b_isinstance b_list b_tuple 6
  have g_law_unlike : Fn l.prog w K mg base "_law_unlike" 1 ["rows"] (spM (fun _ => none) 1 F_law_unlike) := ok_law_unlike dd_law_unlike b_len b_range
  have g_law_some : Fn l.prog w K mg base "_law_some" 3 ["pool", "n"] (spM (fun _ => none) 2 F_law_some) := ok_law_some dd_law_some g_law_pick g_law_turning
  have g_law_rows : Fn l.prog w K mg base "_law_rows" 3 ["pool", "n"] (spM (fun _ => none) 2 F_law_rows) := ok_law_rows dd_law_rows b_int b_max b_range g_law_pick g_law_turning
  have g_law_sets : Fn l.prog w K mg base "_law_sets" 4 ["pool", "n"] (spM (fun _ => none) 2 F_law_sets) := ok_law_sets dd_law_sets b_range b_sorted g_law_unlike g_law_some g_law_pick
  have g_law_thing : Fn l.prog w K mg base "_law_thing" 5 ["pool", "n", "kind"] (spM (fun _ => none) 3 F_law_thing) := ok_law_thing dd_law_thing b_range g_law_some g_law_turning g_law_sets g_law_rows g_law_pick
  have g_law_goes : Fn l.prog w K mg base "_law_goes" 2 ["thing", "g"] (spM (fun _ => none) 2 F_law_goes) := ok_law_goes dd_law_goes b_sorted g_law_moved g_law_back
  have g_law_far : Fn l.prog w K mg base "_law_far" 1 ["rows"] (spM (fun _ => none) 1 F_law_far) := ok_law_far dd_law_far b_len b_range
  have g_law_view : Fn l.prog w K mg base "_law_view" 2 ["thing"] (spM (fun _ => none) 1 F_law_view) := ok_law_view dd_law_view b_int b_len b_range g_law_far
  have g_law_ranks : Fn l.prog w K mg base "_law_ranks" 2 ["colours"] (spM (fun _ => none) 1 F_law_ranks) := ok_law_ranks dd_law_ranks b_sorted g_law_unlike
  have g_law_begin : Fn l.prog w K mg base "_law_begin" 1 ["thing", "n"] (spM (fun _ => none) 2 F_law_begin) := ok_law_begin dd_law_begin b_int b_len b_max b_range b_sorted b_sum
  have g_law_rounds : Fn l.prog w K mg base "_law_rounds" 3 ["thing", "n"] (spM (fun _ => none) 2 F_law_rounds) := ok_law_rounds dd_law_rounds b_range b_sorted g_law_ranks g_law_begin g_law_view
  have g_law_coloured : Fn l.prog w K mg base "_law_coloured" 7 ["pool", "n", "thing", "g"] (spM (fun _ => none) 4 F_law_coloured) := ok_law_coloured dd_law_coloured b_isinstance b_len b_list b_range g_law_same g_colours_by_round g_law_spoil g_law_turning g_law_copy g_law_goes g_law_rounds
  exact fn_law (ok_law dd_law b_range g_law_stream g_law_coloured g_law_thing g_law_turning g_law_pick) hlaw
end Cl

open PySem PySem.W PyProof.Rows
set_option maxRecDepth 100000 in
set_option maxHeartbeats 0 in
theorem PySem.Challenge.cw_siftyard_k45_whole_colours_by_rounds_holds : PySem.Challenge.rw_siftyard_k45_whole_colours_by_rounds.Holds := by
  w_on; o_law; k_head; (case hw => w_witness2)
  k_fill
  refine Z.walk (l := PySem.Challenge.rw_siftyard_k45_whole_colours_by_rounds) 8 ⟨rfl, by decide, by decide⟩ rfl rfl (fun w h Y => PySem.W.kIn_of Y) ?F
  case F =>
    intro w mg fa h KX G hmg
    refine' Cl.all_mk KX G hmg ?a0 ?l0 ?c0 ?k0 ?a1 ?l1 ?c1 ?k1 ?a2 ?l2 ?c2 ?k2 ?a3 ?l3 ?c3 ?k3 ?a4 ?l4 ?c4 ?k4 ?a5 ?l5 ?c5 ?k5 ?a6 ?l6 ?c6 ?k6 ?a7 ?l7 ?c7 ?k7 ?a8 ?l8 ?c8 ?k8 ?a9 ?l9 ?c9 ?k9 ?a10 ?l10 ?c10 ?k10 ?a11 ?l11 ?c11 ?k11 ?a12 ?l12 ?c12 ?k12 ?a13 ?l13 ?c13 ?k13 ?a14 ?l14 ?c14 ?k14 ?a15 ?l15 ?c15 ?k15 ?a16 ?l16 ?c16 ?k16 ?a17 ?l17 ?c17 ?k17 ?a18 ?l18 ?c18 ?k18 ?a19 ?l19 ?c19 ?k19 ?a20 ?l20 ?c20 ?k20 ?a21 ?l21 ?c21 ?k21 ?a22 ?l22 ?c22 ?k22 ?a23 ?l23 ?c23 ?k23 ?a24 ?l24 ?c24 ?k24 ?a25 ?l25 ?c25 ?k25 ?a26 ?l26 ?c26 ?k26 ?a27 ?l27 ?c27 ?k27 ?a28 ?l28 ?c28 ?k28 ?a29 ?l29 ?c29 ?k29 ?a30 ?l30 ?c30 ?k30  ?z_all ?z_bool ?z_enumerate ?z_int ?z_isinstance ?z_len ?z_list ?z_max ?z_range ?z_sorted ?z_str ?z_sum ?z_tuple  Cl.law_true
    (case a0 => k_is); (case l0 => k_is); (case c0 => k_is); (case k0 => k_is)
    (case a1 => k_is); (case l1 => k_is); (case c1 => k_is); (case k1 => k_is)
    (case a2 => k_is); (case l2 => k_is); (case c2 => k_is); (case k2 => k_is)
    (case a3 => k_is); (case l3 => k_is); (case c3 => k_is); (case k3 => k_is)
    (case a4 => k_is); (case l4 => k_is); (case c4 => k_is); (case k4 => k_is)
    (case a5 => k_is); (case l5 => k_is); (case c5 => k_is); (case k5 => k_is)
    (case a6 => k_is); (case l6 => k_is); (case c6 => k_is); (case k6 => k_is)
    (case a7 => k_is); (case l7 => k_is); (case c7 => k_is); (case k7 => k_is)
    (case a8 => k_is); (case l8 => k_is); (case c8 => k_is); (case k8 => k_is)
    (case a9 => k_is); (case l9 => k_is); (case c9 => k_is); (case k9 => k_is)
    (case a10 => k_is); (case l10 => k_is); (case c10 => k_is); (case k10 => k_is)
    (case a11 => k_is); (case l11 => k_is); (case c11 => k_is); (case k11 => k_is)
    (case a12 => k_is); (case l12 => k_is); (case c12 => k_is); (case k12 => k_is)
    (case a13 => k_is); (case l13 => k_is); (case c13 => k_is); (case k13 => k_is)
    (case a14 => k_is); (case l14 => k_is); (case c14 => k_is); (case k14 => k_is)
    (case a15 => k_is); (case l15 => k_is); (case c15 => k_is); (case k15 => k_is)
    (case a16 => k_is); (case l16 => k_is); (case c16 => k_is); (case k16 => k_is)
    (case a17 => k_is); (case l17 => k_is); (case c17 => k_is); (case k17 => k_is)
    (case a18 => k_is); (case l18 => k_is); (case c18 => k_is); (case k18 => k_is)
    (case a19 => k_is); (case l19 => k_is); (case c19 => k_is); (case k19 => k_is)
    (case a20 => k_is); (case l20 => k_is); (case c20 => k_is); (case k20 => k_is)
    (case a21 => k_is); (case l21 => k_is); (case c21 => k_is); (case k21 => k_is)
    (case a22 => k_is); (case l22 => k_is); (case c22 => k_is); (case k22 => k_is)
    (case a23 => k_is); (case l23 => k_is); (case c23 => k_is); (case k23 => k_is)
    (case a24 => k_is); (case l24 => k_is); (case c24 => k_is); (case k24 => k_is)
    (case a25 => k_is); (case l25 => k_is); (case c25 => k_is); (case k25 => k_is)
    (case a26 => k_is); (case l26 => k_is); (case c26 => k_is); (case k26 => k_is)
    (case a27 => k_is); (case l27 => k_is); (case c27 => k_is); (case k27 => k_is)
    (case a28 => k_is); (case l28 => k_is); (case c28 => k_is); (case k28 => k_is)
    (case a29 => k_is); (case l29 => k_is); (case c29 => k_is); (case k29 => k_is)
    (case a30 => k_is); (case l30 => k_is); (case c30 => k_is); (case k30 => k_is)

    (case z_all => k_is)
    (case z_bool => k_is)
    (case z_enumerate => k_is)
    (case z_int => k_is)
    (case z_isinstance => k_is)
    (case z_len => k_is)
    (case z_list => k_is)
    (case z_max => k_is)
    (case z_range => k_is)
    (case z_sorted => k_is)
    (case z_str => k_is)
    (case z_sum => k_is)
    (case z_tuple => k_is)
