import PyProof.Rows.All
import HandS.ForMost
import HandS.Wide
import HandS.Style
import HandS.IsInst
import HandS.TupAny
import HandS.Deep
import HandS.ForExc
import HandS.Conv
import HandS.SortInts
import PyProof.ReprRoads
import HandS.DictComp
import HandS.WordsDict
import HandS.ExcInit
import KE.KExcSuper
import HandS.RaiseMore
import HandS.ExcIs
import HandS.ExcField
import KE.KExcIs
import PySem.Challenge.RW_siftyard_k09_whole_programs_written_out
set_option Elab.async false
set_option linter.all false
set_option maxRecDepth 100000
set_option maxHeartbeats 4000000
namespace Z
open PySem L2

/-! ### data, and data with marks of what is owned -/
inductive D where
  | non | bl (b : Bool) | int (i : Int) | str (s : Str) | lst (l : List D) | tup (l : List D) | dic (ks : List Key) (l : List D)
inductive T where
  | sh (d : D) | ol (l : List T) | ot (l : List T) | od (ks : List Key) (l : List T)
mutual
def T.d : T → D
  | .sh d => d
  | .ol l => .lst (dl l)
  | .ot l => .tup (dl l)
  | .od ks l => .dic ks (dl l)
def dl : List T → List D
  | [] => []
  | t :: l => t.d :: dl l
end
mutual
def Rp (S : Hp) : D → V → Prop
  | .non, v => v = .non
  | .bl b, v => v = .bl b
  | .int i, v => v = .int i
  | .str s, v => v = .str s
  | .lst l, v => ∃ a vs, v = .ref a ∧ S a = some (.lst vs) ∧ Rpl S l vs
  | .tup l, v => ∃ a vs, v = .ref a ∧ S a = some (.tup vs) ∧ Rpl S l vs
  | .dic ks l, v => ∃ a vs, v = .ref a ∧ S a = some (.dK (ks.zip vs)) ∧ ks.length = l.length ∧ Rpl S l vs
def Rpl (S : Hp) : List D → List V → Prop
  | [], vs => vs = []
  | d :: l, vs => ∃ v r, vs = v :: r ∧ Rp S d v ∧ Rpl S l r
end
mutual
def Rt (S H : Hp) : T → V → List Addr → Prop
  | .sh d, v, as => as = [] ∧ Rp S d v
  | .ol l, v, as => ∃ a vs bs, v = .ref a ∧ as = a :: bs ∧ H a = some (.lst vs) ∧ Rtl S H l vs bs
  | .ot l, v, as => ∃ a vs bs, v = .ref a ∧ as = a :: bs ∧ H a = some (.tup vs) ∧ Rtl S H l vs bs
  | .od ks l, v, as => ∃ a vs bs, v = .ref a ∧ as = a :: bs ∧ H a = some (.dK (ks.zip vs)) ∧ ks.length = l.length ∧ Rtl S H l vs bs
def Rtl (S H : Hp) : List T → List V → List Addr → Prop
  | [], vs, as => vs = [] ∧ as = []
  | t :: l, vs, as => ∃ v r b c, vs = v :: r ∧ as = b ++ c ∧ Rt S H t v b ∧ Rtl S H l r c
end
mutual
theorem Rp.mono {S S' : Hp} (e : Same S S') : ∀ {d : D} {v : V}, Rp S d v → Rp S' d v
  | .non, _, h => h
  | .bl _, _, h => h
  | .int _, _, h => h
  | .str _, _, h => h
  | .lst _, _, ⟨a, vs, h1, h2, h3⟩ => ⟨a, vs, h1, e _ _ h2, Rpl.mono e h3⟩
  | .tup _, _, ⟨a, vs, h1, h2, h3⟩ => ⟨a, vs, h1, e _ _ h2, Rpl.mono e h3⟩
  | .dic _ _, _, ⟨a, vs, h1, h2, h4, h3⟩ => ⟨a, vs, h1, e _ _ h2, h4, Rpl.mono e h3⟩
theorem Rpl.mono {S S' : Hp} (e : Same S S') : ∀ {d : List D} {v : List V}, Rpl S d v → Rpl S' d v
  | [], _, h => h
  | _ :: _, _, ⟨v, r, h1, h2, h3⟩ => ⟨v, r, h1, Rp.mono e h2, Rpl.mono e h3⟩
end
mutual
theorem Rt.mono {S S' H H' : Hp} (e : Same S S') : ∀ {t : T} {v : V} {as : List Addr}, (∀ a ∈ as, H' a = H a) → Rt S H t v as → Rt S' H' t v as
  | .sh _, _, _, _, ⟨h1, h2⟩ => ⟨h1, h2.mono e⟩
  | .ol l, _, _, k, ⟨a, vs, bs, h1, h2, h3, h4⟩ => by
    subst h2
    exact ⟨a, vs, bs, h1, rfl, (k a (by simp)).trans h3, Rtl.mono e (fun b hb => k b (by simp [hb])) h4⟩
  | .ot l, _, _, k, ⟨a, vs, bs, h1, h2, h3, h4⟩ => by
    subst h2
    exact ⟨a, vs, bs, h1, rfl, (k a (by simp)).trans h3, Rtl.mono e (fun b hb => k b (by simp [hb])) h4⟩
  | .od ks l, _, _, k, ⟨a, vs, bs, h1, h2, h3, h5, h4⟩ => by
    subst h2
    exact ⟨a, vs, bs, h1, rfl, (k a (by simp)).trans h3, h5, Rtl.mono e (fun b hb => k b (by simp [hb])) h4⟩
theorem Rtl.mono {S S' H H' : Hp} (e : Same S S') : ∀ {t : List T} {v : List V} {as : List Addr}, (∀ a ∈ as, H' a = H a) → Rtl S H t v as → Rtl S' H' t v as
  | [], _, _, _, h => h
  | _ :: _, _, _, k, ⟨v, r, b, c, h1, h2, h3, h4⟩ => by
    subst h2
    exact ⟨v, r, b, c, h1, rfl, Rt.mono e (fun a ha => k a (by simp [ha])) h3, Rtl.mono e (fun a ha => k a (by simp [ha])) h4⟩
end
mutual
theorem Rt.toRp {S H S' : Hp} (e : Same S S') : ∀ {t : T} {v : V} {as : List Addr}, (∀ a ∈ as, ∀ o, H a = some o → S' a = some o) → Rt S H t v as → Rp S' t.d v
  | .sh _, _, _, _, ⟨h1, h2⟩ => h2.mono e
  | .ol l, _, _, k, ⟨a, vs, bs, h1, h2, h3, h4⟩ => by
    subst h2
    exact ⟨a, vs, h1, k a (by simp) _ h3, Rtl.toRpl e (fun b hb => k b (by simp [hb])) h4⟩
  | .ot l, _, _, k, ⟨a, vs, bs, h1, h2, h3, h4⟩ => by
    subst h2
    exact ⟨a, vs, h1, k a (by simp) _ h3, Rtl.toRpl e (fun b hb => k b (by simp [hb])) h4⟩
  | .od ks l, _, _, k, ⟨a, vs, bs, h1, h2, h3, h5, h4⟩ => by
    subst h2
    have hl : ∀ l : List T, (dl l).length = l.length := by
      intro l
      induction l with
      | nil => rfl
      | cons t l ih => simp only [dl, List.length_cons, ih]
    exact ⟨a, vs, h1, k a (by simp) _ h3, h5.trans (hl l).symm, Rtl.toRpl e (fun b hb => k b (by simp [hb])) h4⟩
theorem Rtl.toRpl {S H S' : Hp} (e : Same S S') : ∀ {t : List T} {v : List V} {as : List Addr}, (∀ a ∈ as, ∀ o, H a = some o → S' a = some o) → Rtl S H t v as → Rpl S' (dl t) v
  | [], _, _, _, h => h.1
  | _ :: _, _, _, k, ⟨v, r, b, c, h1, h2, h3, h4⟩ => by
    subst h2
    exact ⟨v, r, h1, Rt.toRp e (fun a ha => k a (by simp [ha])) h3, Rtl.toRpl e (fun a ha => k a (by simp [ha])) h4⟩
end
mutual
theorem Rt.there {S H : Hp} : ∀ {t : T} {v : V} {as : List Addr}, Rt S H t v as → ∀ a ∈ as, H a ≠ none
  | .sh _, _, _, ⟨h1, h2⟩, a, ha => by subst h1; cases ha
  | .ol l, _, _, ⟨a, vs, bs, h1, h2, h3, h4⟩, b, hb => by
    subst h2
    rcases List.mem_cons.mp hb with rfl | hb
    · rw [h3]; simp
    · exact Rtl.there h4 b hb
  | .ot l, _, _, ⟨a, vs, bs, h1, h2, h3, h4⟩, b, hb => by
    subst h2
    rcases List.mem_cons.mp hb with rfl | hb
    · rw [h3]; simp
    · exact Rtl.there h4 b hb
  | .od ks l, _, _, ⟨a, vs, bs, h1, h2, h3, h5, h4⟩, b, hb => by
    subst h2
    rcases List.mem_cons.mp hb with rfl | hb
    · rw [h3]; simp
    · exact Rtl.there h4 b hb
theorem Rtl.there {S H : Hp} : ∀ {t : List T} {v : List V} {as : List Addr}, Rtl S H t v as → ∀ a ∈ as, H a ≠ none
  | [], _, _, h, a, ha => by rw [h.2] at ha; cases ha
  | _ :: _, _, _, ⟨v, r, b, c, h1, h2, h3, h4⟩, a, ha => by
    subst h2
    rcases List.mem_append.mp ha with ha | ha
    · exact Rt.there h3 a ha
    · exact Rtl.there h4 a ha
end
theorem dl_eq : ∀ l : List T, dl l = l.map T.d
  | [] => rfl
  | t :: l => by simp only [dl, dl_eq l, List.map_cons]
theorem Rpl.len {S : Hp} : ∀ {l : List D} {vs : List V}, Rpl S l vs → vs.length = l.length
  | [], _, h => by rw [h]; rfl
  | _ :: _, _, ⟨v, r, h1, h2, h3⟩ => by subst h1; simp only [List.length_cons, Rpl.len h3]
theorem Rtl.len {S H : Hp} : ∀ {l : List T} {vs : List V} {as : List Addr}, Rtl S H l vs as → vs.length = l.length
  | [], _, _, h => by rw [h.1]; rfl
  | _ :: _, _, _, ⟨v, r, _, _, h1, _, h2, h3⟩ => by subst h1; simp only [List.length_cons, Rtl.len h3]
theorem Rpl.get {S : Hp} : ∀ {l : List D} {vs : List V} {i : Nat} {d : D}, Rpl S l vs → l[i]? = some d → ∃ v, vs[i]? = some v ∧ Rp S d v
  | [], _, _, _, _, e => by simp at e
  | _ :: _, _, 0, d, ⟨v, r, h1, h2, h3⟩, e => by subst h1; simp at e; subst e; exact ⟨v, rfl, h2⟩
  | _ :: _, _, i + 1, d, ⟨v, r, h1, h2, h3⟩, e => by subst h1; simp at e; simpa using Rpl.get h3 e
theorem Rpl.append {S : Hp} : ∀ {l m : List D} {vs ws : List V}, Rpl S l vs → Rpl S m ws → Rpl S (l ++ m) (vs ++ ws)
  | [], _, _, _, h, k => by rw [show _ = [] from h]; exact k
  | _ :: _, _, _, _, ⟨v, r, h1, h2, h3⟩, k => by subst h1; exact ⟨v, _, rfl, h2, Rpl.append h3 k⟩
theorem Rpl.take {S : Hp} : ∀ {l : List D} {vs : List V} (n : Nat), Rpl S l vs → Rpl S (l.take n) (vs.take n)
  | [], _, n, h => by rw [show _ = [] from h]; simp [Rpl]
  | _ :: _, _, 0, h => by simp [Rpl]
  | _ :: _, _, n + 1, ⟨v, r, h1, h2, h3⟩ => by subst h1; exact ⟨v, _, rfl, h2, Rpl.take n h3⟩
theorem Rpl.drop {S : Hp} : ∀ {l : List D} {vs : List V} (n : Nat), Rpl S l vs → Rpl S (l.drop n) (vs.drop n)
  | [], _, n, h => by rw [show _ = [] from h]; simp [Rpl]
  | _ :: _, _, 0, h => h
  | _ :: _, _, n + 1, ⟨v, r, h1, h2, h3⟩ => by subst h1; exact Rpl.drop n h3
theorem Rpl.rev {S : Hp} : ∀ {l : List D} {vs : List V}, Rpl S l vs → Rpl S l.reverse vs.reverse
  | [], _, h => by rw [show _ = [] from h]; rfl
  | _ :: _, _, ⟨v, r, h1, h2, h3⟩ => by
    subst h1
    rw [List.reverse_cons, List.reverse_cons]
    exact Rpl.append (Rpl.rev h3) ⟨v, [], rfl, h2, rfl⟩
/-- a tree with all its marks gone, as shared data -/
theorem Rpl.toRtl {S H : Hp} : ∀ {l : List D} {vs : List V}, Rpl S l vs → Rtl S H (l.map T.sh) vs []
  | [], _, h => ⟨h, rfl⟩
  | _ :: _, _, ⟨v, r, h1, h2, h3⟩ => ⟨v, r, [], [], h1, rfl, ⟨rfl, h2⟩, Rpl.toRtl h3⟩
theorem Rtl.append {S H : Hp} : ∀ {l m : List T} {vs ws : List V} {as bs : List Addr}, Rtl S H l vs as → Rtl S H m ws bs → Rtl S H (l ++ m) (vs ++ ws) (as ++ bs)
  | [], _, _, _, _, _, ⟨h1, h2⟩, k => by subst h1 h2; exact k
  | _ :: _, _, _, _, _, _, ⟨v, r, b, c, h1, h2, h3, h4⟩, k => by
    subst h1 h2
    exact ⟨v, _, b, c ++ _, rfl, List.append_assoc .., h3, Rtl.append h4 k⟩
/-- the i-th of a row, and another in its place -/
theorem Rtl.at {S H : Hp} : ∀ {l : List T} {vs : List V} {as : List Addr} {i : Nat} {t : T}, Rtl S H l vs as → l[i]? = some t →
    ∃ v b c d, vs[i]? = some v ∧ as = b ++ c ++ d ∧ Rt S H t v c ∧ ∀ S' H' t' v' c', Same S S' → (∀ a ∈ b ++ d, H' a = H a) → Rt S' H' t' v' c' → Rtl S' H' (l.set i t') (vs.set i v') (b ++ c' ++ d)
  | [], _, _, _, _, _, e => by simp at e
  | u :: l, _, _, 0, t, ⟨v, r, b, c, h1, h2, h3, h4⟩, e => by
    subst h1 h2
    simp at e
    subst e
    refine ⟨v, [], b, c, rfl, rfl, h3, fun S' H' t' v' c' es k q => ?_⟩
    exact ⟨v', r, c', c, rfl, rfl, q, h4.mono es (fun a ha => k a (by simp [ha]))⟩
  | u :: l, _, _, i + 1, t, ⟨v, r, b, c, h1, h2, h3, h4⟩, e => by
    subst h1 h2
    simp at e
    obtain ⟨w, b1, c1, d1, e1, e2, e3, k⟩ := Rtl.at h4 e
    subst e2
    refine ⟨w, b ++ b1, c1, d1, by simpa using e1, by simp [List.append_assoc], e3, fun S' H' t' v' c' es k' q => ?_⟩
    refine ⟨v, r.set i v', b, b1 ++ c' ++ d1, rfl, by simp [List.append_assoc], h3.mono es (fun a ha => k' a (by simp [ha])), ?_⟩
    exact k S' H' t' v' c' es (fun a ha => k' a (by simp at ha ⊢; rcases ha with h | h <;> simp [h])) q

/-! ### the names of a def -/
abbrev Env := List (Option T)
def Re (S H : Hp) : Env → St → List Addr → Prop
  | [], σ, as => σ = [] ∧ as = []
  | none :: ρ, σ, as => ∃ o r, σ = o :: r ∧ Re S H ρ r as
  | some t :: ρ, σ, as => ∃ v r b c, σ = some v :: r ∧ as = b ++ c ∧ Rt S H t v b ∧ Re S H ρ r c
theorem Re.mono {S S' H H' : Hp} (e : Same S S') : ∀ {ρ : Env} {σ : St} {as : List Addr}, (∀ a ∈ as, H' a = H a) → Re S H ρ σ as → Re S' H' ρ σ as
  | [], _, _, _, h => h
  | none :: _, _, _, k, ⟨o, r, h1, h2⟩ => ⟨o, r, h1, Re.mono e k h2⟩
  | some _ :: _, _, _, k, ⟨v, r, b, c, h1, h2, h3, h4⟩ => by
    subst h2
    exact ⟨v, r, b, c, h1, rfl, h3.mono e (fun a ha => k a (by simp [ha])), Re.mono e (fun a ha => k a (by simp [ha])) h4⟩
theorem Re.there {S H : Hp} : ∀ {ρ : Env} {σ : St} {as : List Addr}, Re S H ρ σ as → ∀ a ∈ as, H a ≠ none
  | [], _, _, h, a, ha => by rw [h.2] at ha; cases ha
  | none :: _, _, _, ⟨o, r, h1, h2⟩, a, ha => Re.there h2 a ha
  | some _ :: _, _, _, ⟨v, r, b, c, h1, h2, h3, h4⟩, a, ha => by
    subst h2
    rcases List.mem_append.mp ha with ha | ha
    · exact h3.there a ha
    · exact Re.there h4 a ha
theorem Re.len {S H : Hp} : ∀ {ρ : Env} {σ : St} {as : List Addr}, Re S H ρ σ as → σ.length = ρ.length
  | [], _, _, h => by rw [h.1]; rfl
  | none :: _, _, _, ⟨o, r, h1, h2⟩ => by subst h1; simp only [List.length_cons, Re.len h2]
  | some _ :: _, _, _, ⟨v, r, b, c, h1, h2, h3, h4⟩ => by subst h1; simp only [List.length_cons, Re.len h4]
/-- the i-th name's value (if it has one), and another in its place, or none -/
theorem Re.at {S H : Hp} : ∀ {ρ : Env} {σ : St} {as : List Addr} {i : Nat} {t : T}, Re S H ρ σ as → ρ[i]? = some (some t) →
    ∃ v b c d, σ[i]? = some (some v) ∧ as = b ++ c ++ d ∧ Rt S H t v c ∧ (∀ S' H' t' v' c', Same S S' → (∀ a ∈ b ++ d, H' a = H a) → Rt S' H' t' v' c' → Re S' H' (ρ.set i (some t')) (σ.set i (some v')) (b ++ c' ++ d)) ∧
      (∀ S' H' o, Same S S' → (∀ a ∈ b ++ d, H' a = H a) → Re S' H' (ρ.set i none) (σ.set i o) (b ++ d))
  | [], _, _, _, _, _, e => by simp at e
  | none :: _, _, _, 0, _, _, e => by simp at e
  | some _ :: _, _, _, 0, t, ⟨v, r, b, c, h1, h2, h3, h4⟩, e => by
    subst h1 h2
    simp at e
    subst e
    refine ⟨v, [], b, c, rfl, rfl, h3, fun S' H' t' v' c' es k q => ?_, fun S' H' o es k => ?_⟩
    · exact ⟨v', r, c', c, rfl, rfl, q, h4.mono es (fun a ha => k a (by simp [ha]))⟩
    · exact ⟨o, r, rfl, h4.mono es (fun a ha => k a (by simpa using ha))⟩
  | none :: _, _, _, i + 1, t, ⟨o, r, h1, h2⟩, e => by
    subst h1
    simp at e
    obtain ⟨w, b1, c1, d1, e1, e2, e3, k, k2⟩ := Re.at h2 e
    refine ⟨w, b1, c1, d1, by simpa using e1, e2, e3, fun S' H' t' v' c' es k' q => ⟨o, _, rfl, k S' H' t' v' c' es k' q⟩, fun S' H' o' es k' => ⟨o, _, rfl, k2 S' H' o' es k'⟩⟩
  | some _ :: _, _, _, i + 1, t, ⟨v, r, b, c, h1, h2, h3, h4⟩, e => by
    subst h1 h2
    simp at e
    obtain ⟨w, b1, c1, d1, e1, e2, e3, k, k2⟩ := Re.at h4 e
    subst e2
    refine ⟨w, b ++ b1, c1, d1, by simpa using e1, by simp [List.append_assoc], e3, fun S' H' t' v' c' es k' q => ?_, fun S' H' o' es k' => ?_⟩
    · refine ⟨v, _, b, b1 ++ c' ++ d1, rfl, by simp [List.append_assoc], h3.mono es (fun a ha => k' a (by simp [ha])), ?_⟩
      exact k S' H' t' v' c' es (fun a ha => k' a (by simp at ha ⊢; rcases ha with h | h <;> simp [h])) q
    · refine ⟨v, _, b, b1 ++ d1, rfl, by simp [List.append_assoc], h3.mono es (fun a ha => k' a (by simp [ha])), ?_⟩
      exact k2 S' H' o' es (fun a ha => k' a (by simp at ha ⊢; rcases ha with h | h <;> simp [h]))
/-- a name without a (known) value gets one -/
theorem Re.put {S H : Hp} : ∀ {ρ : Env} {σ : St} {as : List Addr} {i : Nat}, Re S H ρ σ as → ρ[i]? = some none →
    ∃ b d, as = b ++ d ∧ ∀ S' H' t' v' c', Same S S' → (∀ a ∈ as, H' a = H a) → Rt S' H' t' v' c' → Re S' H' (ρ.set i (some t')) (σ.set i (some v')) (b ++ c' ++ d)
  | [], _, _, _, _, e => by simp at e
  | none :: _, _, _, 0, ⟨o, r, h1, h2⟩, e => by
    subst h1
    exact ⟨[], _, rfl, fun S' H' t' v' c' es k q => ⟨v', r, c', _, rfl, rfl, q, h2.mono es k⟩⟩
  | some _ :: _, _, _, 0, _, e => by simp at e
  | none :: _, _, _, i + 1, ⟨o, r, h1, h2⟩, e => by
    subst h1
    simp at e
    obtain ⟨b, d, e2, k⟩ := Re.put h2 e
    exact ⟨b, d, e2, fun S' H' t' v' c' es k' q => ⟨o, _, rfl, k S' H' t' v' c' es k' q⟩⟩
  | some _ :: _, _, _, i + 1, ⟨v, r, b, c, h1, h2, h3, h4⟩, e => by
    subst h1 h2
    simp at e
    obtain ⟨b1, d1, e2, k⟩ := Re.put h4 e
    subst e2
    refine ⟨b ++ b1, d1, by simp [List.append_assoc], fun S' H' t' v' c' es k' q => ?_⟩
    refine ⟨v, _, b, b1 ++ c' ++ d1, rfl, by simp [List.append_assoc], h3.mono es (fun a ha => k' a (by simp [ha])), ?_⟩
    exact k S' H' t' v' c' es (fun a ha => k' a (by simp at ha ⊢; rcases ha with h | h <;> simp [h])) q

structure G (W S0 S H : Hp) (ρ : Env) (σ : St) (tm : List T) (vm : List V) (as bs : List Addr) : Prop where
  s0 : Same S0 S
  sh : Same S H
  wh : Same W H
  nw : ∀ a, W a ≠ none → S a ≠ none → S0 a ≠ none
  re : Re S H ρ σ as
  rt : Rtl S H tm vm bs
  nd : (as ++ bs).Nodup
  fs : ∀ a ∈ as ++ bs, S a = none
  fw : ∀ a ∈ as ++ bs, W a = none
def GX (W S0 : Hp) (ρ : Env) (σ : St) (tm : List T) (vm : List V) (H : Hp) : Prop := ∃ S as bs, G W S0 S H ρ σ tm vm as bs
end Z

namespace Z
open PySem L2
variable {W S0 S H H' : Hp} {ρ : Env} {σ : St} {t u : T} {ts us tm : List T} {v w : V} {vs ws vm : List V} {as bs : List Addr} {i : Nat} {d : D}
theorem same_at {a : Addr} (e : Same H H') (h : H a ≠ none) : H' a = H a := by
  cases q : H a with
  | none => exact absurd q h
  | some o => exact e a o q
theorem same_new {p : Addr} {o : HO} (h : H p = none) : Same H (upd H p o) := fun b x e => by rw [upd_ne (ne_of_none e h)]; exact e
theorem Rtl.split : ∀ {ts tm : List T} {vs vm : List V} {as : List Addr}, vs.length = ts.length → Rtl S H (ts ++ tm) (vs ++ vm) as → ∃ b c, as = b ++ c ∧ Rtl S H ts vs b ∧ Rtl S H tm vm c
  | [], _, [], _, _, _, h => ⟨[], _, rfl, ⟨rfl, rfl⟩, h⟩
  | [], _, _ :: _, _, _, e, _ => by simp at e
  | _ :: _, _, [], _, _, e, _ => by simp at e
  | t :: ts, tm, v :: vs, vm, as, e, ⟨w, r, b, c, h1, h2, h3, h4⟩ => by
    simp only [List.cons_append, List.cons.injEq] at h1
    obtain ⟨rfl, rfl⟩ := h1
    obtain ⟨b1, c1, rfl, h5, h6⟩ := Rtl.split (by simpa using e) h4
    exact ⟨b ++ b1, c1, by rw [h2, List.append_assoc], ⟨v, vs, b, b1, rfl, rfl, h3, h5⟩, h6⟩
theorem GX.ext (e : Same H H') (g : GX W S0 ρ σ tm vm H) : GX W S0 ρ σ tm vm H' := by
  obtain ⟨S, as, bs, g⟩ := g
  refine ⟨S, as, bs, g.s0, fun a o h => e a o (g.sh a o h), fun a o h => e a o (g.wh a o h), g.nw, g.re.mono (fun _ _ h => h) fun a ha => same_at e (g.re.there a ha), g.rt.mono (fun _ _ h => h) fun a ha => same_at e (g.rt.there a ha), g.nd, g.fs, g.fw⟩
/-- what the names hold, as data that can be read -/
def RV (H : Hp) (ρ : Env) (σ : St) : Prop := ∀ (i : Nat) t, ρ[i]? = some (some t) → ∃ v, σ[i]? = some (some v) ∧ Rp H t.d v
theorem GX.rv (g : GX W S0 ρ σ tm vm H) : RV H ρ σ := fun i t e => by
  obtain ⟨S, as, bs, g⟩ := g
  obtain ⟨v, b, c, d, e1, e2, e3, _⟩ := g.re.at e
  exact ⟨v, e1, e3.toRp g.sh fun a _ o h => h⟩
theorem RV.ext (e : Same H H') (g : RV H ρ σ) : RV H' ρ σ := fun i t h => let ⟨v, h1, h2⟩ := g i t h; ⟨v, h1, h2.mono e⟩
/-- a new list or tuple of the last temporaries -/
theorem G.new {p : Addr} {o : HO} (g : G W S0 S H ρ σ (ts ++ tm) (vs ++ vm) as bs) (e : vs.length = ts.length) (hp : H p = none) (hn : ∀ H' b, H' p = some o → Rtl S H' ts vs b → Rt S H' t (.ref p) (p :: b)) : GX W S0 ρ σ (t :: tm) (.ref p :: vm) (upd H p o) := by
  obtain ⟨b, c, rfl, h1, h2⟩ := g.rt.split e
  have en : Same H (upd H p o) := same_new hp
  have hw : W p = none := by
    cases q : W p with
    | none => rfl
    | some x => have := g.wh p x q; rw [hp] at this; cases this
  have hs : S p = none := by
    cases q : S p with
    | none => rfl
    | some x => have := g.sh p x q; rw [hp] at this; cases this
  have n1 : p ∉ as := fun h => g.re.there p h hp
  have n2 : p ∉ b := fun h => h1.there p h hp
  have n3 : p ∉ c := fun h => h2.there p h hp
  refine ⟨S, as, (p :: b) ++ c, g.s0, fun a o h => en a o (g.sh a o h), fun a o h => en a o (g.wh a o h), g.nw, g.re.mono (fun _ _ h => h) fun a ha => same_at en (g.re.there a ha), ?_, ?_, ?_, ?_⟩
  · exact ⟨.ref p, vm, p :: b, c, rfl, rfl, hn _ _ upd_same (h1.mono (fun _ _ h => h) fun a ha => same_at en (h1.there a ha)), h2.mono (fun _ _ h => h) fun a ha => same_at en (h2.there a ha)⟩
  · have := g.nd
    grind
  · have := g.fs
    grind
  · have := g.fw
    grind
theorem GX.newL {p : Addr} (g : GX W S0 ρ σ (ts ++ tm) (vs ++ vm) H) (e : vs.length = ts.length) (hp : H p = none) : GX W S0 ρ σ (.ol ts :: tm) (.ref p :: vm) (upd H p (.lst vs)) := by
  obtain ⟨S, as, bs, g⟩ := g
  exact g.new (o := .lst vs) e hp fun H' b h1 h2 => ⟨p, vs, b, rfl, rfl, h1, h2⟩
theorem GX.newT {p : Addr} (g : GX W S0 ρ σ (ts ++ tm) (vs ++ vm) H) (e : vs.length = ts.length) (hp : H p = none) : GX W S0 ρ σ (.ot ts :: tm) (.ref p :: vm) (upd H p (.tup vs)) := by
  obtain ⟨S, as, bs, g⟩ := g
  exact g.new (o := .tup vs) e hp fun H' b h1 h2 => ⟨p, vs, b, rfl, rfl, h1, h2⟩
theorem GX.newD {p : Addr} {ks : List Key} (g : GX W S0 ρ σ (ts ++ tm) (vs ++ vm) H) (e : vs.length = ts.length) (ek : ks.length = ts.length) (hp : H p = none) : GX W S0 ρ σ (.od ks ts :: tm) (.ref p :: vm) (upd H p (.dK (ks.zip vs))) := by
  obtain ⟨S, as, bs, g⟩ := g
  exact g.new (o := .dK (ks.zip vs)) e hp fun H' b h1 h2 => ⟨p, vs, b, rfl, rfl, h1, ek, h2⟩
theorem GX.len (g : GX W S0 ρ σ tm vm H) : vm.length = tm.length := let ⟨_, _, _, g⟩ := g; g.rt.len
theorem GX.lenE (g : GX W S0 ρ σ tm vm H) : σ.length = ρ.length := let ⟨_, _, _, g⟩ := g; g.re.len
theorem GX.pop (g : GX W S0 ρ σ (ts ++ tm) (vs ++ vm) H) (e : vs.length = ts.length) : GX W S0 ρ σ tm vm H := by
  obtain ⟨S, as, bs, g⟩ := g
  obtain ⟨b, c, rfl, h1, h2⟩ := g.rt.split e
  exact ⟨S, as, c, g.s0, g.sh, g.wh, g.nw, g.re, h2, by have := g.nd; grind, by have := g.fs; grind, by have := g.fw; grind⟩
theorem GX.pop1 (g : GX W S0 ρ σ (t :: tm) (v :: vm) H) : GX W S0 ρ σ tm vm H := GX.pop (ts := [t]) (vs := [v]) g rfl
/-- temporaries in another order -/
theorem GX.rot (g : GX W S0 ρ σ (ts ++ t :: tm) (vs ++ v :: vm) H) (e : vs.length = ts.length) : GX W S0 ρ σ (t :: (ts ++ tm)) (v :: (vs ++ vm)) H := by
  obtain ⟨S, as, bs, g⟩ := g
  obtain ⟨b, c, rfl, h1, h2⟩ := g.rt.split e
  obtain ⟨v', r, b1, c1, h3, rfl, h4, h5⟩ := h2
  simp only [List.cons.injEq] at h3
  obtain ⟨rfl, rfl⟩ := h3
  refine ⟨S, as, b1 ++ (b ++ c1), g.s0, g.sh, g.wh, g.nw, g.re, ⟨v, _, b1, _, rfl, rfl, h4, h1.append h5⟩, ?_, ?_, ?_⟩
  · have := g.nd; grind
  · have := g.fs; grind
  · have := g.fw; grind
theorem GX.unrot (g : GX W S0 ρ σ (t :: (ts ++ tm)) (v :: (vs ++ vm)) H) (e : vs.length = ts.length) : GX W S0 ρ σ (ts ++ t :: tm) (vs ++ v :: vm) H := by
  obtain ⟨S, as, bs, g⟩ := g
  obtain ⟨v', r, b1, c1, h3, rfl, h4, h5⟩ := g.rt
  simp only [List.cons.injEq] at h3
  obtain ⟨rfl, rfl⟩ := h3
  obtain ⟨b, c, rfl, h1, h2⟩ := h5.split e
  refine ⟨S, as, b ++ (b1 ++ c), g.s0, g.sh, g.wh, g.nw, g.re, h1.append ⟨v, _, b1, _, rfl, rfl, h4, h2⟩, ?_, ?_, ?_⟩
  · have := g.nd; grind
  · have := g.fs; grind
  · have := g.fw; grind
/-- shared data -/
theorem G.pushS (g : G W S0 S H ρ σ tm vm as bs) (h : Rp S d v) : GX W S0 ρ σ (.sh d :: tm) (v :: vm) H :=
  ⟨S, as, bs, g.s0, g.sh, g.wh, g.nw, g.re, ⟨v, vm, [], bs, rfl, rfl, ⟨rfl, h⟩, g.rt⟩, g.nd, g.fs, g.fw⟩
def D.scal : D → Bool
  | .lst _ | .tup _ | .dic _ _ => false
  | _ => true
theorem Rp.scal {S S' : Hp} (h : Rp S d v) (e : d.scal = true) : Rp S' d v := by
  cases d <;> first | exact h | (simp [D.scal] at e)
theorem GX.pushC (g : GX W S0 ρ σ tm vm H) (e : d.scal = true) (h : Rp S d v) : GX W S0 ρ σ (.sh d :: tm) (v :: vm) H := by
  obtain ⟨S, as, bs, g⟩ := g
  exact g.pushS (h.scal e)
/-- S with what stands at as -/
def more (S H : Hp) (as : List Addr) : Hp := fun a => if a ∈ as then H a else S a
theorem more_in {a : Addr} (h : a ∈ as) : more S H as a = H a := if_pos h
theorem more_out {a : Addr} (h : a ∉ as) : more S H as a = S a := if_neg h
theorem more_same (h : ∀ a ∈ as, S a = none) : Same S (more S H as) := fun a o e => by
  by_cases q : a ∈ as
  · rw [h a q] at e; cases e
  · rw [more_out q]; exact e
theorem more_sub (h : Same S H) : Same (more S H as) H := fun a o e => by
  by_cases q : a ∈ as
  · rw [more_in q] at e; exact e
  · rw [more_out q] at e; exact h a o e
/-- the last temporary is frozen -/
theorem GX.frz (g : GX W S0 ρ σ (t :: tm) (v :: vm) H) : GX W S0 ρ σ (.sh t.d :: tm) (v :: vm) H := by
  obtain ⟨S, as, bs, g⟩ := g
  obtain ⟨v', r, b, c, h3, rfl, h4, h5⟩ := g.rt
  simp only [List.cons.injEq] at h3
  obtain ⟨rfl, rfl⟩ := h3
  have nd := g.nd
  have fs := g.fs
  have fw := g.fw
  have e1 : Same S (more S H b) := more_same (by grind)
  refine ⟨more S H b, as, c, fun a o h => e1 a o (g.s0 a o h), more_sub g.sh, g.wh, ?_, g.re.mono e1 fun _ _ => rfl, ⟨v, vm, [], c, rfl, rfl, ⟨rfl, ?_⟩, h5.mono e1 fun _ _ => rfl⟩, by grind, ?_, by grind⟩
  · intro a hw hm
    by_cases q : a ∈ b
    · exact absurd (fw a (by grind)) hw
    · rw [more_out q] at hm; exact g.nw a hw hm
  · exact h4.toRp e1 fun a ha o h => by rw [more_in ha]; exact h
  · intro a ha
    have q : a ∉ b := by grind
    rw [more_out q]; exact fs a (by grind)
theorem set_self {α : Type} : ∀ {l : List α} {i : Nat} {x : α}, l[i]? = some x → l.set i x = l
  | [], _, _, h => by simp at h
  | a :: l, 0, x, h => by simp at h; simp [h]
  | a :: l, i + 1, x, h => by simp at h; simp [set_self h]
/-- a name's value is taken -/
theorem GX.take (g : GX W S0 ρ σ tm vm H) (e : ρ[i]? = some (some t)) : ∃ v, σ[i]? = some (some v) ∧ GX W S0 (ρ.set i none) σ (t :: tm) (v :: vm) H := by
  obtain ⟨S, as, bs, g⟩ := g
  obtain ⟨v, b, c, d, e1, rfl, e3, _, k⟩ := g.re.at e
  have nd := g.nd
  have fs := g.fs
  have fw := g.fw
  refine ⟨v, e1, S, b ++ d, c ++ bs, g.s0, g.sh, g.wh, g.nw, ?_, ⟨v, vm, c, bs, rfl, rfl, e3, g.rt⟩, by grind, by grind, by grind⟩
  have := k S H (some v) (fun _ _ h => h) (fun _ _ => rfl)
  rw [set_self e1] at this
  exact this
/-- .. and put there -/
theorem GX.put (g : GX W S0 ρ σ (t :: tm) (v :: vm) H) (hi : i < ρ.length) : GX W S0 (ρ.set i (some t)) (σ.set i (some v)) tm vm H := by
  obtain ⟨S, as, bs, g⟩ := g
  obtain ⟨v', r, c, c2, h3, rfl, h4, h5⟩ := g.rt
  simp only [List.cons.injEq] at h3
  obtain ⟨rfl, rfl⟩ := h3
  have nd := g.nd
  have fs := g.fs
  have fw := g.fw
  cases e : ρ[i]? with
  | none => rw [List.getElem?_eq_none_iff] at e; omega
  | some o =>
    cases o with
    | none =>
      obtain ⟨b, d, rfl, k⟩ := g.re.put e
      exact ⟨S, b ++ c ++ d, c2, g.s0, g.sh, g.wh, g.nw, k S H t v c (fun _ _ h => h) (fun _ _ => rfl) h4, h5, by grind, by grind, by grind⟩
    | some t0 =>
      obtain ⟨v0, b, c0, d, e1, rfl, e3, k, _⟩ := g.re.at e
      exact ⟨S, b ++ c ++ d, c2, g.s0, g.sh, g.wh, g.nw, k S H t v c (fun _ _ h => h) (fun _ _ => rfl) h4, h5, by grind, by grind, by grind⟩
theorem GX.back (g : GX W S0 ρ σ (t :: tm) (v :: vm) H) (e : σ[i]? = some (some v)) : GX W S0 (ρ.set i (some t)) σ tm vm H := by
  have hi : i < ρ.length := by rw [← g.lenE]; exact (List.getElem?_eq_some_iff.mp e).1
  have := g.put hi
  rw [set_self e] at this
  exact this
theorem GX.forget (g : GX W S0 ρ σ tm vm H) (i : Nat) : GX W S0 (ρ.set i none) σ tm vm H := by
  cases e : ρ[i]? with
  | none => rw [List.set_eq_of_length_le (by rw [List.getElem?_eq_none_iff] at e; exact e)]; exact g
  | some o =>
    cases o with
    | none => rw [set_self e]; exact g
    | some t => obtain ⟨v, _, g'⟩ := g.take e; exact g'.pop1
/-- a name is read: what it holds is frozen -/
theorem GX.read (g : GX W S0 ρ σ tm vm H) (e : ρ[i]? = some (some t)) : ∃ v, σ[i]? = some (some v) ∧ GX W S0 (ρ.set i (some (.sh t.d))) σ (.sh t.d :: tm) (v :: vm) H := by
  obtain ⟨v, e1, g1⟩ := g.take e
  obtain ⟨S, as, bs, g2⟩ := g1.frz
  obtain ⟨v', r, c, c2, h3, rfl, ⟨h4, h4'⟩, h5⟩ := g2.rt
  simp only [List.cons.injEq] at h3
  obtain ⟨rfl, rfl⟩ := h3
  subst h4
  have g3 : GX W S0 (ρ.set i none) σ (.sh t.d :: .sh t.d :: tm) (v :: v :: vm) H := g2.pushS h4'
  refine ⟨v, e1, ?_⟩
  have := g3.back e1
  rw [List.set_set] at this
  exact this
/-- an owned list or dict (the last temporary) and the others change -/
theorem G.mut {a : Addr} {o : HO} {ts' : List T} {tm' : List T} {vm' : List V} {xs xs' : List V} {b c : List Addr} (g : G W S0 S H ρ σ tm0 vm0 as (a :: b ++ c)) (hb : Rtl S H ts xs b) (hc : Rtl S H tm vm c)
    (hr : ∀ S H b c, Rtl S H ts xs b → Rtl S H tm vm c → ∃ b' c', Rtl S H ts' xs' b' ∧ Rtl S H tm' vm' c' ∧ ((b ++ c).Nodup → (b' ++ c').Nodup) ∧ ∀ x ∈ b' ++ c', x ∈ b ++ c)
    (hn : ∀ H' b, H' a = some o → Rtl S H' ts' xs' b → Rt S H' t (.ref a) (a :: b)) (ha : H a ≠ none) : GX W S0 ρ σ (t :: tm') (.ref a :: vm') (upd H a o) := by
  have nd := g.nd
  have fs := g.fs
  have fw := g.fw
  have n1 : a ∉ as := by grind
  have n2 : a ∉ b ++ c := by grind
  have hk : ∀ x, x ≠ a → (upd H a o) x = H x := fun x h => upd_ne h
  have hb2 : Rtl S (upd H a o) ts xs b := hb.mono (fun _ _ h => h) fun x hx => hk x (by grind)
  have hc2 : Rtl S (upd H a o) tm vm c := hc.mono (fun _ _ h => h) fun x hx => hk x (by grind)
  obtain ⟨b', c', q1, q2, q3, q4⟩ := hr S _ b c hb2 hc2
  refine ⟨S, as, (a :: b') ++ c', g.s0, fun x y h => ?_, fun x y h => ?_, g.nw, g.re.mono (fun _ _ h => h) fun x hx => hk x (by grind), ⟨.ref a, vm', a :: b', c', rfl, rfl, hn _ _ upd_same q1, q2⟩, ?_, ?_, ?_⟩
  · rw [hk x (by rintro rfl; rw [fs x (by grind)] at h; cases h)]; exact g.sh x y h
  · rw [hk x (by rintro rfl; rw [fw x (by grind)] at h; cases h)]; exact g.wh x y h
  · have h1 : (b ++ c).Nodup := by grind
    have h2 := q3 h1
    grind
  · grind
  · grind
theorem GX.mutL (g : GX W S0 ρ σ (.ol ts :: tm) (v :: vm) H) : ∃ a xs, v = .ref a ∧ H a = some (.lst xs) ∧ xs.length = ts.length ∧
    ∀ ts' tm' xs' vm', (∀ S H b c, Rtl S H ts xs b → Rtl S H tm vm c → ∃ b' c', Rtl S H ts' xs' b' ∧ Rtl S H tm' vm' c' ∧ ((b ++ c).Nodup → (b' ++ c').Nodup) ∧ ∀ x ∈ b' ++ c', x ∈ b ++ c) →
      GX W S0 ρ σ (.ol ts' :: tm') (v :: vm') (upd H a (.lst xs')) := by
  obtain ⟨S, as, bs, g⟩ := g
  obtain ⟨v', r, c1, c2, h3, rfl, ⟨a, xs, b, rfl, rfl, h4, h5⟩, h6⟩ := g.rt
  simp only [List.cons.injEq] at h3
  obtain ⟨rfl, rfl⟩ := h3
  refine ⟨a, xs, rfl, h4, h5.len, fun ts' tm' xs' vm' hr => ?_⟩
  exact g.mut h5 h6 hr (fun H' b q1 q2 => ⟨a, xs', b, rfl, rfl, q1, q2⟩) (by rw [h4]; simp)
theorem GX.mutD {ks : List Key} (g : GX W S0 ρ σ (.od ks ts :: tm) (v :: vm) H) : ∃ a xs, v = .ref a ∧ H a = some (.dK (ks.zip xs)) ∧ ks.length = ts.length ∧ xs.length = ts.length ∧
    ∀ ks' ts' tm' xs' vm', ks'.length = ts'.length → (∀ S H b c, Rtl S H ts xs b → Rtl S H tm vm c → ∃ b' c', Rtl S H ts' xs' b' ∧ Rtl S H tm' vm' c' ∧ ((b ++ c).Nodup → (b' ++ c').Nodup) ∧ ∀ x ∈ b' ++ c', x ∈ b ++ c) →
      GX W S0 ρ σ (.od ks' ts' :: tm') (v :: vm') (upd H a (.dK (ks'.zip xs'))) := by
  obtain ⟨S, as, bs, g⟩ := g
  obtain ⟨v', r, c1, c2, h3, rfl, ⟨a, xs, b, rfl, rfl, h4, h7, h5⟩, h6⟩ := g.rt
  simp only [List.cons.injEq] at h3
  obtain ⟨rfl, rfl⟩ := h3
  refine ⟨a, xs, rfl, h4, h7, h5.len, fun ks' ts' tm' xs' vm' hk hr => ?_⟩
  exact g.mut h5 h6 hr (fun H' b q1 q2 => ⟨a, xs', b, rfl, rfl, q1, hk, q2⟩) (by rw [h4]; simp)
/-- all but what stands at as -/
def less (H : Hp) (as : List Addr) : Hp := fun a => if a ∈ as then none else H a
theorem less_in {a : Addr} (h : a ∈ as) : less H as a = none := if_pos h
theorem less_out {a : Addr} (h : a ∉ as) : less H as a = H a := if_neg h
/-- a call: what the callee sees, and what comes back -/
theorem GX.call (g : GX W S0 ρ σ (ts ++ tm) (vs ++ vm) H) (e : vs.length = ts.length) : ∃ W' S', GX W' S' [] [] ts vs H ∧
    (∀ us ws H', us.length = ws.length → GX W' S' [] [] us ws H' → GX W S0 ρ σ (us ++ tm) (ws ++ vm) H') := by
  obtain ⟨S, as, bs, g⟩ := g
  obtain ⟨b, c, rfl, h1, h2⟩ := g.rt.split e
  have nd := g.nd
  have fs := g.fs
  have fw := g.fw
  refine ⟨less H b, S, ⟨S, [], b, fun _ _ h => h, g.sh, fun a o h => ?_, fun a h1 h2 => h2, ⟨rfl, rfl⟩, h1, by grind, by grind, fun a ha => less_in (by simpa using ha)⟩, fun us ws H' hl g' => ?_⟩
  · by_cases q : a ∈ b
    · rw [less_in q] at h; cases h
    · rw [less_out q] at h; exact h
  obtain ⟨S', as', b', g'⟩ := g'
  have ea : as' = [] := g'.re.2
  subst ea
  have nd' := g'.nd
  have fs' := g'.fs
  have fw' := g'.fw
  have keep : ∀ a, a ∉ b → H a ≠ none → H' a = H a := fun a h h' => by
    have : less H b a ≠ none := by rw [less_out h]; exact h'
    rw [same_at g'.wh this, less_out h]
  have ka : ∀ a ∈ as, H' a = H a := fun a ha => keep a (by grind) (g.re.there a ha)
  have kc : ∀ a ∈ c, H' a = H a := fun a ha => keep a (by grind) (h2.there a ha)
  have nS : ∀ a, a ∉ b → H a ≠ none → S a = none → S' a = none := fun a h h' hs => by
    cases q : S' a with
    | none => rfl
    | some o => exact absurd hs (g'.nw a (by rw [less_out h]; exact h') (by rw [q]; simp))
  have nb : ∀ a ∈ b', ∀ x, (x ∈ as ∨ x ∈ c) → a ≠ x := fun a ha x hx e => by
    subst e
    have h0 := fw' a (by simpa using ha)
    have h3 : a ∉ b := by grind
    rw [less_out h3] at h0
    rcases hx with h | h
    · exact g.re.there a h h0
    · exact h2.there a h h0
  refine ⟨S', as, b' ++ c, fun a o h => g'.s0 a o (g.s0 a o h), g'.sh, fun a o h => ?_, fun a hw hs => ?_, g.re.mono g'.s0 ka, g'.rt.append (h2.mono g'.s0 kc), ?_, ?_, ?_⟩
  · have hb : a ∉ b := fun q => by rw [fw a (by grind)] at h; cases h
    rw [keep a hb (by rw [g.wh a o h]; simp)]; exact g.wh a o h
  · have hb : a ∉ b := fun q => hw (fw a (by grind))
    have hh : H a ≠ none := by
      cases q : W a with
      | none => exact absurd q hw
      | some o => rw [g.wh a o q]; simp
    exact g.nw a hw (g'.nw a (by rw [less_out hb]; exact hh) hs)
  · grind
  · intro a ha
    rcases List.mem_append.mp ha with h | h
    · exact nS a (by grind) (g.re.there a h) (fs a (by grind))
    · rcases List.mem_append.mp h with h | h
      · exact fs' a (by simpa using h)
      · exact nS a (by grind) (h2.there a h) (fs a (by grind))
  · intro a ha
    rcases List.mem_append.mp ha with h | h
    · exact fw a (by grind)
    · rcases List.mem_append.mp h with h | h
      · have h0 := fw' a (by simpa using h)
        by_cases hb : a ∈ b
        · exact fw a (by grind)
        · rw [less_out hb] at h0
          cases q : W a with
          | none => rfl
          | some o => rw [g.wh a o q] at h0; cases h0
      · exact fw a (by grind)
end Z

namespace Z
noncomputable section
open PySem L2

/-! ### readings that change nothing: values of expressions, of tests, of arguments -/
abbrev PM := Env → Option D
abbrev TM := Env → Option Bool
abbrev AM := Env → Option (List D)
def SP (te : TE) (m : PM) : Prop := ∀ ρ σ H, RV H ρ σ → ∀ d, m ρ = some d → ∀ Q : VK, (∀ v H', Same H H' → Rp H' d v → Q v H') → te σ H Q
def SPT (tt : TT) (m : TM) : Prop := ∀ ρ σ H, RV H ρ σ → ∀ b, m ρ = some b → ∀ Q : Bool → Hp → Prop, (∀ H', Same H H' → Q b H') → tt σ H Q
def SPA (ta : TA) (m : AM) : Prop := ∀ ρ σ H, RV H ρ σ → ∀ ds, m ρ = some ds → ∀ Q : List V → Hp → Prop, (∀ vs H', Same H H' → Rpl H' ds vs → Q vs H') → ta σ H Q
def OpS (r : R2) (o : D → D → Option D) : Prop := ∀ H dx dy x y d, Rp H dx x → Rp H dy y → o dx dy = some d → ∀ Q : VK, (∀ v H', Same H H' → Rp H' d v → Q v H') → r x y H Q
def UnS (r : V → Hp → VK → Prop) (o : D → Option D) : Prop := ∀ H dx x d, Rp H dx x → o dx = some d → ∀ Q : VK, (∀ v H', Same H H' → Rp H' d v → Q v H') → r x H Q
def CallS (r : List V → Hp → VK → Prop) (o : List D → Option D) : Prop := ∀ H ds vs d, Rpl H ds vs → o ds = some d → ∀ Q : VK, (∀ v H', Same H H' → Rp H' d v → Q v H') → r vs H Q
theorem some_bind {α β : Type} {o : Option α} {f : α → Option β} {b : β} (h : o.bind f = some b) : ∃ a, o = some a ∧ f a = some b := Option.bind_eq_some_iff.mp h

def pV (i : Nat) : PM := fun ρ => match ρ[i]? with
  | some (some t) => some t.d
  | _ => none
theorem pV_some {i : Nat} {ρ : Env} {d : D} (h : pV i ρ = some d) : ∃ t, ρ[i]? = some (some t) ∧ t.d = d := by
  unfold pV at h
  split at h
  · rename_i t e
    exact ⟨t, e, Option.some.inj h⟩
  · cases h
theorem sp_var {i : Nat} : SP (tVar i) (pV i) := fun ρ σ H g d h Q q => by
  obtain ⟨t, e, rfl⟩ := pV_some h
  obtain ⟨v, e1, e2⟩ := g i t e
  exact ⟨v, e1, q v H (fun _ _ h => h) e2⟩
def pC (d : D) : PM := fun _ => some d
theorem sp_int {i : Int} : SP (tC (.int i)) (pC (.int i)) := fun ρ σ H g d h Q q => by cases h; exact q _ H (fun _ _ h => h) rfl
theorem sp_bl {i : Bool} : SP (tC (.bl i)) (pC (.bl i)) := fun ρ σ H g d h Q q => by cases h; exact q _ H (fun _ _ h => h) rfl
theorem sp_str {i : Str} : SP (tC (.str i)) (pC (.str i)) := fun ρ σ H g d h Q q => by cases h; exact q _ H (fun _ _ h => h) rfl
theorem sp_non : SP (tC .non) (pC .non) := fun ρ σ H g d h Q q => by cases h; exact q _ H (fun _ _ h => h) rfl
def pOp (o : D → D → Option D) (a b : PM) : PM := fun ρ => (a ρ).bind fun x => (b ρ).bind fun y => o x y
theorem sp_op {r : R2} {o : D → D → Option D} {ta tb : TE} {a b : PM} (hr : OpS r o) (ha : SP ta a) (hb : SP tb b) : SP (tOp r ta tb) (pOp o a b) := fun ρ σ H g d h Q q => by
  obtain ⟨x, h1, h⟩ := some_bind h
  obtain ⟨y, h2, h⟩ := some_bind h
  refine ha ρ σ H g x h1 _ fun v H1 e1 r1 => hb ρ σ H1 (g.ext e1) y h2 _ fun w H2 e2 r2 => hr H2 x y v w d (r1.mono e2) r2 h Q fun z H3 e3 r3 => q z H3 (e1.trans (e2.trans e3)) r3
def pUn (o : D → Option D) (a : PM) : PM := fun ρ => (a ρ).bind o
theorem sp_un {r : V → Hp → VK → Prop} {o : D → Option D} {ta : TE} {a : PM} (hr : UnS r o) (ha : SP ta a) : SP (tUn r ta) (pUn o a) := fun ρ σ H g d h Q q => by
  obtain ⟨x, h1, h⟩ := some_bind h
  refine ha ρ σ H g x h1 _ fun v H1 e1 r1 => hr H1 x v d r1 h Q fun z H3 e3 r3 => q z H3 (e1.trans e3) r3
def pIf (t : TM) (a b : PM) : PM := fun ρ => (t ρ).bind fun c => if c = true then a ρ else b ρ
theorem sp_if {tt : TT} {t : TM} {ta tb : TE} {a b : PM} (ht : SPT tt t) (ha : SP ta a) (hb : SP tb b) : SP (tIf tt ta tb) (pIf t a b) := fun ρ σ H g d h Q q => by
  obtain ⟨c, h1, h⟩ := some_bind h
  refine ht ρ σ H g c h1 _ fun H1 e1 => ?_
  cases c with
  | true => exact ha ρ σ H1 (g.ext e1) d h Q fun v H2 e2 r => q v H2 (e1.trans e2) r
  | false => exact hb ρ σ H1 (g.ext e1) d h Q fun v H2 e2 r => q v H2 (e1.trans e2) r
def D.tru : D → Option Bool
  | .bl b => some b
  | _ => none
def pB (a : PM) : TM := fun ρ => (a ρ).bind D.tru
theorem tru_bl {d : D} {b : Bool} (h : d.tru = some b) : d = .bl b := by
  cases d <;> first | (cases h; rfl) | cases h
theorem sp_b {ta : TE} {a : PM} (ha : SP ta a) : SPT (tB ta) (pB a) := fun ρ σ H g d h Q q => by
  obtain ⟨x, h1, h⟩ := some_bind h
  cases tru_bl h
  exact ha ρ σ H g _ h1 _ fun v H1 e1 r1 => ⟨_, r1, q H1 e1⟩
theorem sp_test {ta : TE} {a : PM} (ha : SP ta a) : SPT (tTest ta) (pB a) := fun ρ σ H g d h Q q => by
  obtain ⟨x, h1, h⟩ := some_bind h
  cases tru_bl h
  exact ha ρ σ H g _ h1 _ fun v H1 e1 r1 => ⟨_, r1, q H1 e1⟩
def qAnd (a b : TM) : TM := fun ρ => (a ρ).bind fun c => if c = true then b ρ else some false
def qOr (a b : TM) : TM := fun ρ => (a ρ).bind fun c => if c = true then some true else b ρ
def qNot (a : TM) : TM := fun ρ => (a ρ).map (!·)
theorem st_and {ta tb : TT} {a b : TM} (ha : SPT ta a) (hb : SPT tb b) : SPT (tAnd ta tb) (qAnd a b) := fun ρ σ H g d h Q q => by
  obtain ⟨c, h1, h⟩ := some_bind h
  refine ha ρ σ H g c h1 _ fun H1 e1 => ?_
  cases c with
  | true => exact hb ρ σ H1 (g.ext e1) d h Q fun H2 e2 => q H2 (e1.trans e2)
  | false => cases h; exact q H1 e1
theorem st_or {ta tb : TT} {a b : TM} (ha : SPT ta a) (hb : SPT tb b) : SPT (tOr ta tb) (qOr a b) := fun ρ σ H g d h Q q => by
  obtain ⟨c, h1, h⟩ := some_bind h
  refine ha ρ σ H g c h1 _ fun H1 e1 => ?_
  cases c with
  | false => exact hb ρ σ H1 (g.ext e1) d h Q fun H2 e2 => q H2 (e1.trans e2)
  | true => cases h; exact q H1 e1
theorem st_not {ta : TT} {a : TM} (ha : SPT ta a) : SPT (tNot ta) (qNot a) := fun ρ σ H g d h Q q => by
  obtain ⟨c, h1, rfl⟩ := Option.map_eq_some_iff.mp h
  exact ha ρ σ H g c h1 _ fun H1 e1 => q H1 e1
def pAndV (a b : PM) : PM := fun ρ => (a ρ).bind fun x => x.tru.bind fun c => if c = true then b ρ else some (.bl false)
def pOrV (a b : PM) : PM := fun ρ => (a ρ).bind fun x => x.tru.bind fun c => if c = true then some (.bl true) else b ρ
def pNotV (a : PM) : PM := fun ρ => (a ρ).bind fun x => x.tru.bind fun c => some (.bl (!c))
theorem sp_andV {ta tb : TE} {a b : PM} (ha : SP ta a) (hb : SP tb b) : SP (tAndV ta tb) (pAndV a b) := fun ρ σ H g d h Q q => by
  obtain ⟨x, h1, h⟩ := some_bind h
  obtain ⟨c, h2, h⟩ := some_bind h
  cases tru_bl h2
  refine ha ρ σ H g _ h1 _ fun v H1 e1 r1 => ⟨c, r1, ?_⟩
  cases c with
  | true => exact hb ρ σ H1 (g.ext e1) d h Q fun w H2 e2 r2 => q w H2 (e1.trans e2) r2
  | false => cases h; exact q _ H1 e1 rfl
theorem sp_orV {ta tb : TE} {a b : PM} (ha : SP ta a) (hb : SP tb b) : SP (tOrV ta tb) (pOrV a b) := fun ρ σ H g d h Q q => by
  obtain ⟨x, h1, h⟩ := some_bind h
  obtain ⟨c, h2, h⟩ := some_bind h
  cases tru_bl h2
  refine ha ρ σ H g _ h1 _ fun v H1 e1 r1 => ⟨c, r1, ?_⟩
  cases c with
  | false => exact hb ρ σ H1 (g.ext e1) d h Q fun w H2 e2 r2 => q w H2 (e1.trans e2) r2
  | true => cases h; exact q _ H1 e1 rfl
theorem sp_notV {ta : TE} {a : PM} (ha : SP ta a) : SP (tNotV ta) (pNotV a) := fun ρ σ H g d h Q q => by
  obtain ⟨x, h1, h⟩ := some_bind h
  obtain ⟨c, h2, h⟩ := some_bind h
  cases tru_bl h2
  cases h
  exact ha ρ σ H g _ h1 _ fun v H1 e1 r1 => ⟨c, r1, q _ H1 e1 rfl⟩
def pChain (o o' : D → D → Option D) (a b c : PM) : PM := fun ρ => (a ρ).bind fun x => (b ρ).bind fun y => (o x y).bind fun z => z.tru.bind fun k => if k = true then (c ρ).bind fun w => o' y w else some (.bl false)
theorem sp_chain {r r' : R2} {o o' : D → D → Option D} {ta tb tc : TE} {a b c : PM} (hr : OpS r o) (hr' : OpS r' o') (ha : SP ta a) (hb : SP tb b) (hc : SP tc c) : SP (tChain r r' ta tb tc) (pChain o o' a b c) := fun ρ σ H g d h Q q => by
  obtain ⟨x, h1, ha1⟩ := some_bind h
  obtain ⟨y, h2, ha2⟩ := some_bind ha1
  obtain ⟨z, h3, ha3⟩ := some_bind ha2
  obtain ⟨k, h4, ha4⟩ := some_bind ha3
  clear h ha1 ha2 ha3
  cases tru_bl h4
  refine ha ρ σ H g x h1 _ fun v H1 e1 r1 => hb ρ σ H1 (g.ext e1) y h2 _ fun w H2 e2 r2 => hr H2 x y v w _ (r1.mono e2) r2 h3 _ fun z H3 e3 r3 => ⟨k, r3, ?_⟩
  cases k with
  | false => cases ha4; exact q _ H3 (e1.trans (e2.trans e3)) rfl
  | true =>
    rw [if_pos rfl] at ha4
    obtain ⟨w', h5, h6⟩ := some_bind ha4
    exact hc ρ σ H3 (g.ext (e1.trans (e2.trans e3))) w' h5 _ fun u H4 e4 r4 => hr' H4 y w' w u d (r2.mono (e3.trans e4)) r4 h6 Q fun z H5 e5 r5 => q z H5 (e1.trans (e2.trans (e3.trans (e4.trans e5)))) r5
def aNil : AM := fun _ => some []
def aCons (a : PM) (b : AM) : AM := fun ρ => (a ρ).bind fun x => (b ρ).bind fun y => some (x :: y)
theorem sa_nil : SPA tNil aNil := fun ρ σ H g d h Q q => by cases h; exact q [] H (fun _ _ h => h) rfl
theorem sa_cons {ta : TE} {tb : TA} {a : PM} {b : AM} (ha : SP ta a) (hb : SPA tb b) : SPA (tCons ta tb) (aCons a b) := fun ρ σ H g d h Q q => by
  obtain ⟨x, h1, h⟩ := some_bind h
  obtain ⟨y, h2, h⟩ := some_bind h
  cases h
  exact ha ρ σ H g x h1 _ fun v H1 e1 r1 => hb ρ σ H1 (g.ext e1) y h2 _ fun w H2 e2 r2 => q _ H2 (e1.trans e2) ⟨v, w, rfl, r1.mono e2, r2⟩
def pCB (o : List D → Option D) (a : AM) : PM := fun ρ => (a ρ).bind o
theorem sp_cb {r : List V → Hp → VK → Prop} {o : List D → Option D} {ta : TA} {a : AM} (hr : CallS r o) (ha : SPA ta a) : SP (tCB r ta) (pCB o a) := fun ρ σ H g d h Q q => by
  obtain ⟨x, h1, h⟩ := some_bind h
  exact ha ρ σ H g x h1 _ fun v H1 e1 r1 => hr H1 x v d r1 h Q fun w H2 e2 r2 => q w H2 (e1.trans e2) r2
def lim : Nat := 1000000
/-- an int that a machine word holds -/
def InR (j : Int) : Prop := -4611686018427387904 ≤ j ∧ j < 4611686018427387904
noncomputable instance (j : Int) : Decidable (InR j) := Classical.propDecidable _
theorem InR.out {j : Int} (h : InR j) : -(2 ^ 62) ≤ j ∧ j < 2 ^ 62 := by
  unfold InR at h
  have e : (2 : Int) ^ 62 = 4611686018427387904 := by decide
  rw [e]; exact h
theorem InR.of {j : Int} (h0 : -1000000000 ≤ j) (h1 : j ≤ 1000000000) : InR j := by unfold InR; omega
theorem lim_le {n : Nat} (h : n ≤ lim) : n ≤ sizeLine := Nat.le_trans h (by decide)
theorem lim_lt {n : Nat} (h : n < lim) : n < sizeLine := Nat.lt_of_lt_of_le h (by decide)
def pLst (a : AM) : PM := fun ρ => (a ρ).bind fun l => if l.length ≤ lim then some (.lst l) else none
def pTup (a : AM) : PM := fun ρ => (a ρ).bind fun l => if l.length ≤ lim then some (.tup l) else none
theorem ite_some {c : Prop} [Decidable c] {α : Type} {o : Option α} {a : α} (h : (if c then o else none) = some a) : c ∧ o = some a := by
  by_cases k : c
  · rw [if_pos k] at h; exact ⟨k, h⟩
  · rw [if_neg k] at h; cases h
theorem sp_lst {ta : TA} {a : AM} (ha : SPA ta a) : SP (tLst ta) (pLst a) := fun ρ σ H g d h Q q => by
  obtain ⟨x, h1, h⟩ := some_bind h
  obtain ⟨hz, h⟩ := ite_some h
  cases h
  refine ha ρ σ H g x h1 _ fun v H1 e1 r1 => ⟨lim_le (by rw [r1.len]; exact hz), fun p hp => ?_⟩
  exact q _ _ (e1.trans (same_new hp)) ⟨p, v, rfl, upd_same, r1.mono (same_new hp)⟩
theorem sp_tup {ta : TA} {a : AM} (ha : SPA ta a) : SP (tTup ta) (pTup a) := fun ρ σ H g d h Q q => by
  obtain ⟨x, h1, h⟩ := some_bind h
  obtain ⟨hz, h⟩ := ite_some h
  cases h
  refine ha ρ σ H g x h1 _ fun v H1 e1 r1 => ⟨lim_le (by rw [r1.len]; exact hz), fun p hp => ?_⟩
  exact q _ _ (e1.trans (same_new hp)) ⟨p, v, rfl, upd_same, r1.mono (same_new hp)⟩

/-! ### operators by data -/
def rOr (r r' : R2) : R2 := fun x y H Q => r x y H Q ∨ r' x y H Q
def oOr (o o' : D → D → Option D) : D → D → Option D := fun x y => match o x y with
  | some d => some d
  | none => o' x y
theorem os_or {r r' : R2} {o o' : D → D → Option D} (h : OpS r o) (h' : OpS r' o') : OpS (rOr r r') (oOr o o') := fun H dx dy x y d hx hy e Q q => by
  unfold oOr at e
  split at e
  · rename_i z ez
    cases e
    exact .inl (h H dx dy x y _ hx hy ez Q q)
  · exact .inr (h' H dx dy x y _ hx hy e Q q)
def oI (C : Int → Int → Prop) [∀ i j, Decidable (C i j)] (g : Int → Int → D) : D → D → Option D
  | .int i, .int j => if C i j then some (g i j) else none
  | _, _ => none
theorem os_I {C C' : Int → Int → Prop} [∀ i j, Decidable (C i j)] {g : Int → Int → D} {gv : Int → Int → V} (hc : ∀ i j, C i j → C' i j) (hg : ∀ i j H, Rp H (g i j) (gv i j)) : OpS (rI C' gv) (oI C g) := fun H dx dy x y d hx hy e Q q => by
  cases dx <;> cases dy <;> first | (cases e; done) | skip
  obtain ⟨hz, e⟩ := ite_some e
  cases e
  cases hx
  cases hy
  exact ⟨_, _, rfl, rfl, hc _ _ hz, q _ H (fun _ _ h => h) (hg _ _ H)⟩
def oI0 (g : Int → Int → D) : D → D → Option D
  | .int i, .int j => some (g i j)
  | _, _ => none
theorem os_I0 {g : Int → Int → D} {gv : Int → Int → V} (hg : ∀ i j H, Rp H (g i j) (gv i j)) : OpS (rI0 gv) (oI0 g) := fun H dx dy x y d hx hy e Q q => by
  cases dx <;> cases dy <;> first | (cases e; done) | skip
  cases e
  cases hx
  cases hy
  exact ⟨_, _, rfl, rfl, q _ H (fun _ _ h => h) (hg _ _ H)⟩
/-- lists put together -/
def oCat : D → D → Option D
  | .lst l, .lst m => if l.length + m.length ≤ lim then some (.lst (l ++ m)) else none
  | _, _ => none
theorem os_cat : OpS rCat oCat := fun H dx dy x y d hx hy e Q q => by
  cases dx <;> cases dy <;> first | (cases e; done) | skip
  obtain ⟨hz, e⟩ := ite_some e
  cases e
  obtain ⟨a, vs, rfl, h1, h2⟩ := hx
  obtain ⟨b, ws, rfl, h3, h4⟩ := hy
  refine ⟨a, b, vs, ws, rfl, rfl, h1, h3, lim_le (by rw [h2.len, h4.len]; exact hz), fun p hp => ?_⟩
  exact q _ _ (same_new hp) ⟨p, _, rfl, upd_same, (h2.append h4).mono (same_new hp)⟩
def rAddS : R2 := fun x y H Q => ∃ i j, x = .str i ∧ y = .str j ∧ i.length + j.length ≤ sizeLine ∧ Q (.str (i ++ j)) H
def oAddS : D → D → Option D
  | .str i, .str j => if i.length + j.length ≤ lim then some (.str (i ++ j)) else none
  | _, _ => none
theorem os_addS : OpS rAddS oAddS := fun H dx dy x y d hx hy e Q q => by
  cases dx <;> cases dy <;> first | (cases e; done) | skip
  obtain ⟨hz, e⟩ := ite_some e
  cases e
  cases hx
  cases hy
  exact ⟨_, _, rfl, rfl, lim_le hz, q _ H (fun _ _ h => h) rfl⟩
/-- a list some times over -/
def oRep : D → D → Option D
  | .lst l, .int k => if l.length * k.toNat ≤ lim ∧ -(2 ^ 62) < k ∧ k < 2 ^ 62 then some (.lst ((List.replicate k.toNat l).flatten)) else none
  | _, _ => none
section
variable {X : Cx}
def rUAdd : R2 := rOr (rI0 fun i j => .int (i + j)) (rOr rCat rAddS)
theorem u_add : OpR X (binaryOp .Add) rUAdd := op_add.or (op_cat.or op_add_str)
def oAdd : D → D → Option D := oOr (oI0 fun i j => .int (i + j)) (oOr oCat oAddS)
theorem os_add : OpS rUAdd oAdd := os_or (os_I0 fun _ _ _ => rfl) (os_or os_cat os_addS)
def rUSub : R2 := rI0 fun i j => .int (i - j)
def oSub : D → D → Option D := oI0 fun i j => .int (i - j)
theorem u_sub : OpR X (binaryOp .Sub) rUSub := op_sub
theorem os_sub : OpS rUSub oSub := os_I0 fun _ _ _ => rfl
def smallM (i j : Int) : Prop := (-(2 ^ 64) < i ∧ i < 2 ^ 64) ∨ (-(2 ^ 64) < j ∧ j < 2 ^ 64) ∨ i.natAbs.log2 + j.natAbs.log2 < 1000000
noncomputable instance (i j : Int) : Decidable (smallM i j) := Classical.propDecidable _
def rMulI : R2 := rOr (rI CMul fun i j => .int (i * j)) (rI CMulW fun i j => .int (i * j))
theorem os_mulI : OpS rMulI (oI smallM fun i j => .int (i * j)) := fun H dx dy x y d hx hy e Q q => by
  cases dx <;> cases dy <;> first | (cases e; done) | skip
  obtain ⟨hz, e⟩ := ite_some e
  cases e
  cases hx
  cases hy
  rcases hz with h | h | h
  · exact .inl ⟨_, _, rfl, rfl, .inl h, q _ H (fun _ _ h => h) rfl⟩
  · exact .inl ⟨_, _, rfl, rfl, .inr h, q _ H (fun _ _ h => h) rfl⟩
  · exact .inr ⟨_, _, rfl, rfl, h, q _ H (fun _ _ h => h) rfl⟩
def rUDiv : R2 := rI CDivW fun i j => .int (i / j)
def smallD (i j : Int) : Prop := 0 < j ∧ j.natAbs.log2 < 9000
noncomputable instance (i j : Int) : Decidable (smallD i j) := Classical.propDecidable _
def oDiv : D → D → Option D := oI smallD fun i j => .int (i / j)
theorem u_div : OpR X (binaryOp .FloorDiv) rUDiv := op_fdivW
theorem os_div : OpS rUDiv oDiv := os_I (fun _ _ h => h) fun _ _ _ => rfl
def rUMod : R2 := rI (fun _ j => 0 < j) fun i j => .int (i % j)
def oMod : D → D → Option D := oI (fun _ j => 0 < j) fun i j => .int (i % j)
theorem u_mod : OpR X (binaryOp .Mod) rUMod := op_mod
theorem os_mod : OpS rUMod oMod := os_I (fun _ _ h => h) fun _ _ _ => rfl
def rUPow : R2 := rI CPow fun i j => .int (i ^ j.toNat)
def smallP (i j : Int) : Prop := 0 ≤ j ∧ j ≤ 1000000 ∧ i.natAbs < 2 ^ 64
noncomputable instance (i j : Int) : Decidable (smallP i j) := Classical.propDecidable _
def oPow : D → D → Option D := oI smallP fun i j => .int (i ^ j.toNat)
theorem u_pow : OpR X (binaryOp .Pow) rUPow := op_pow
theorem os_pow : OpS rUPow oPow := os_I (fun _ _ h => h) fun _ _ _ => rfl
def rULt : R2 := rI0 fun i j => .bl (decide (i < j))
def oLt : D → D → Option D := oI0 fun i j => .bl (decide (i < j))
theorem u_lt : OpR X (compareOp .Lt) rULt := op_lt
theorem os_lt : OpS rULt oLt := os_I0 fun _ _ _ => rfl
def rULe : R2 := rI0 fun i j => .bl (decide (i ≤ j))
def oLe : D → D → Option D := oI0 fun i j => .bl (decide (i ≤ j))
theorem u_le : OpR X (compareOp .LtE) rULe := op_le
theorem os_le : OpS rULe oLe := os_I0 fun _ _ _ => rfl
def rUGt : R2 := rI0 fun i j => .bl (decide (j < i))
def oGt : D → D → Option D := oI0 fun i j => .bl (decide (j < i))
theorem u_gt : OpR X (compareOp .Gt) rUGt := op_gt
theorem os_gt : OpS rUGt oGt := os_I0 fun _ _ _ => rfl
def rUGe : R2 := rI0 fun i j => .bl (decide (j ≤ i))
def oGe : D → D → Option D := oI0 fun i j => .bl (decide (j ≤ i))
theorem u_ge : OpR X (compareOp .GtE) rUGe := op_ge
theorem os_ge : OpS rUGe oGe := os_I0 fun _ _ _ => rfl
end

/-! ### == of data -/
mutual
def D.py : D → PyData
  | .non => .none
  | .bl b => .bool b
  | .int i => .int i
  | .str s => .str s
  | .lst l => .list (pyl l)
  | .tup l => .tuple (pyl l)
  | .dic _ _ => .dict []
def pyl : List D → List PyData
  | [] => []
  | d :: l => d.py :: pyl l
end
/- no dict within, and not deeper than n -/
mutual
def D.dat : Nat → D → Bool
  | _, .non => true
  | _, .bl _ => true
  | _, .int _ => true
  | _, .str s => PyData.strOk s
  | n + 1, .lst l => datl n l
  | n + 1, .tup l => datl n l
  | _, _ => false
def datl : Nat → List D → Bool
  | _, [] => true
  | n, d :: l => d.dat n && datl n l
end
mutual
theorem Rp.dp {K : PySem.W.Frag} {H : Hp} : ∀ {d : D} {v : V} {n : Nat}, d.dat n = true → Rp H d v → Dp K H v d.py
  | .non, _, _, _, h => by cases h; exact .non
  | .bl _, _, _, _, h => by cases h; exact .bl _
  | .int _, _, _, _, h => by cases h; exact .int _
  | .str _, _, _, _, h => by cases h; exact .str _
  | .lst l, _, n + 1, k, ⟨a, vs, h1, h2, h3⟩ => by subst h1; exact .lst (.of h2) (Rpl.dp (by simpa [D.dat] using k) h3)
  | .tup l, _, n + 1, k, ⟨a, vs, h1, h2, h3⟩ => by subst h1; exact .tup (.of h2) (Rpl.dp (by simpa [D.dat] using k) h3)
  | .lst l, _, 0, k, _ => by simp [D.dat] at k
  | .tup l, _, 0, k, _ => by simp [D.dat] at k
  | .dic _ _, _, _, k, _ => by simp [D.dat] at k
theorem Rpl.dp {K : PySem.W.Frag} {H : Hp} : ∀ {l : List D} {vs : List V} {n : Nat}, datl n l = true → Rpl H l vs → DpAll K H vs (pyl l)
  | [], _, _, _, h => by rw [show _ = [] from h]; exact .nil
  | d :: l, _, n, k, ⟨v, r, h1, h2, h3⟩ => by
    subst h1
    simp only [datl, Bool.and_eq_true] at k
    exact .cons (Rp.dp k.1 h2) (Rpl.dp k.2 h3)
end
mutual
theorem dat_lay : ∀ {d : D} {n : Nat}, d.dat n = true → d.py.canLay0 = true ∧ d.py.depth ≤ n
  | .non, _, _ => ⟨rfl, Nat.zero_le _⟩
  | .bl _, _, _ => ⟨rfl, Nat.zero_le _⟩
  | .int _, _, _ => ⟨rfl, Nat.zero_le _⟩
  | .str s, n, k => ⟨by simpa [D.py, PyData.canLay0, D.dat] using k, Nat.zero_le _⟩
  | .lst l, n + 1, k => by
    have := datl_lay (n := n) (l := l) (by simpa [D.dat] using k)
    simp only [D.py, PyData.canLay0, PyData.depth]
    exact ⟨this.1, by omega⟩
  | .tup l, n + 1, k => by
    have := datl_lay (n := n) (l := l) (by simpa [D.dat] using k)
    simp only [D.py, PyData.canLay0, PyData.depth]
    exact ⟨this.1, by omega⟩
  | .lst l, 0, k => by simp [D.dat] at k
  | .tup l, 0, k => by simp [D.dat] at k
  | .dic _ _, _, k => by simp [D.dat] at k
theorem datl_lay : ∀ {l : List D} {n : Nat}, datl n l = true → PyData.canLayAll0 (pyl l) = true ∧ PyData.depthAll (pyl l) ≤ n
  | [], _, _ => ⟨rfl, Nat.zero_le _⟩
  | d :: l, n, k => by
    simp only [datl, Bool.and_eq_true] at k
    have h1 := dat_lay k.1
    have h2 := datl_lay k.2
    simp only [pyl, PyData.canLayAll0, PyData.depthAll, h1.1, h2.1, Bool.and_self, true_and]
    omega
end
theorem dat_shaped {d : D} (h : d.dat 60 = true) : SeqAt.shaped d.py = true := by
  have := dat_lay h
  unfold SeqAt.shaped
  rw [this.1, decide_eq_true (by omega)]
  rfl
def oEq : D → D → Option D := fun x y => if x.dat 60 = true ∧ y.dat 60 = true then some (.bl (PyData.eqv x.py y.py)) else none
def oNe : D → D → Option D := fun x y => if x.dat 60 = true ∧ y.dat 60 = true then some (.bl (!PyData.eqv x.py y.py)) else none
theorem os_eq {K : PySem.W.Frag} : OpS (rEqD K) oEq := fun H dx dy x y d hx hy e Q q => by
  obtain ⟨⟨k1, k2⟩, e⟩ := ite_some e
  cases e
  exact ⟨_, _, hx.dp k1, hy.dp k2, dat_shaped k1, dat_shaped k2, q _ H (fun _ _ h => h) rfl⟩
theorem os_ne {K : PySem.W.Frag} : OpS (rNeD K) oNe := fun H dx dy x y d hx hy e Q q => by
  obtain ⟨⟨k1, k2⟩, e⟩ := ite_some e
  cases e
  exact ⟨_, _, hx.dp k1, hy.dp k2, dat_shaped k1, dat_shaped k2, q _ H (fun _ _ h => h) rfl⟩
/-! ### items -/
theorem atI_map {α β : Type} {f : α → β} {xs : List α} {i : Int} : atI (xs.map f) i = (atI xs i).map f := by
  unfold atI
  rw [List.length_map]
  cases ixN xs.length i with
  | none => rfl
  | some j => simp
theorem Rpl.atI {S : Hp} {l : List D} {vs : List V} {i : Int} {d : D} (h : Rpl S l vs) (e : L2.atI l i = some d) : ∃ v, L2.atI vs i = some v ∧ Rp S d v := by
  unfold L2.atI at e ⊢
  rw [h.len]
  obtain ⟨j, h1, h2⟩ := some_bind e
  obtain ⟨v, h3, h4⟩ := h.get h2
  exact ⟨v, by rw [h1]; exact h3, h4⟩
def oIx : D → D → Option D
  | .lst l, .int i => atI l i
  | .tup l, .int i => atI l i
  | .str z, .int i => if z.length ≤ lim then (atI z.cps.toList i).map fun c => .str ⟨#[c]⟩ else none
  | _, _ => none
theorem os_ix {K : PySem.W.Frag} : OpS (rIx K) oIx := fun H dx dy x y d hx hy e Q q => by
  cases dx <;> cases dy <;> first | (cases e; done) | skip
  · obtain ⟨hz, e⟩ := ite_some e
    obtain ⟨c, e1, rfl⟩ := Option.map_eq_some_iff.mp e
    cases hx
    cases hy
    exact .inr (.inr ⟨_, _, c, rfl, rfl, lim_le hz, e1, q _ H (fun _ _ h => h) rfl⟩)
  · obtain ⟨a, vs, rfl, h1, h2⟩ := hx
    cases hy
    obtain ⟨v, e1, e2⟩ := h2.atI e
    exact .inl ⟨a, vs, _, v, rfl, rfl, .of h1, e1, q _ H (fun _ _ h => h) e2⟩
  · obtain ⟨a, vs, rfl, h1, h2⟩ := hx
    cases hy
    obtain ⟨v, e1, e2⟩ := h2.atI e
    exact .inr (.inl ⟨a, vs, _, v, rfl, rfl, .of h1, e1, q _ H (fun _ _ h => h) e2⟩)
def cutD {α : Type} (xs : List α) (lo hi : Option Int) : List α := (xs.drop (HT.sIx xs.length 0 lo)).take (HT.sIx xs.length xs.length hi - HT.sIx xs.length 0 lo)
theorem Rpl.cut {S : Hp} {l : List D} {vs : List V} {lo hi : Option Int} (h : Rpl S l vs) : Rpl S (cutD l lo hi) (cutV vs lo hi) := by
  unfold cutD cutV
  rw [h.len]
  exact (h.drop _).take _
/-! ### built-in calls by data -/
def o1 (f : D → Option D) : List D → Option D
  | [d] => f d
  | _ => none
def o2 (f : D → D → Option D) : List D → Option D
  | [d, e] => f d e
  | _ => none
def oLen : D → Option D
  | .lst l => some (.int l.length)
  | .tup l => some (.int l.length)
  | .str z => if z.length ≤ lim then some (.int z.length) else none
  | _ => none
def rLenU (K : PySem.W.Frag) : List V → Hp → VK → Prop := fun xs H Q => ∃ x n, xs = [x] ∧ LenV K x H n ∧ Q (.int n) H
theorem rpl1 {H : Hp} {d : D} {vs : List V} (h : Rpl H [d] vs) : ∃ v, vs = [v] ∧ Rp H d v := by
  obtain ⟨v, r, rfl, h1, h2⟩ := h
  rw [show r = [] from h2]
  exact ⟨v, rfl, h1⟩
theorem rpl2 {H : Hp} {d e : D} {vs : List V} (h : Rpl H [d, e] vs) : ∃ v w, vs = [v, w] ∧ Rp H d v ∧ Rp H e w := by
  obtain ⟨v, r, rfl, h1, h2⟩ := h
  obtain ⟨w, rfl, h3⟩ := rpl1 h2
  exact ⟨v, w, rfl, h1, h3⟩
theorem o1_some {f : D → Option D} {ds : List D} {d : D} (h : o1 f ds = some d) : ∃ x, ds = [x] ∧ f x = some d := by
  match ds, h with
  | [x], h => exact ⟨x, rfl, h⟩
theorem o2_some {f : D → D → Option D} {ds : List D} {d : D} (h : o2 f ds = some d) : ∃ x y, ds = [x, y] ∧ f x y = some d := by
  match ds, h with
  | [x, y], h => exact ⟨x, y, rfl, h⟩
theorem cs_len {K : PySem.W.Frag} : CallS (rLenU K) (o1 oLen) := fun H ds vs d h e Q q => by
  obtain ⟨x, rfl, e⟩ := o1_some e
  obtain ⟨v, rfl, hv⟩ := rpl1 h
  clear h
  cases x <;> first | (cases e; done) | skip
  · obtain ⟨hz, e⟩ := ite_some e
    cases e
    cases hv
    exact ⟨_, _, rfl, ⟨lim_le hz, rfl⟩, q _ H (fun _ _ h => h) rfl⟩
  · cases e
    obtain ⟨a, ws, rfl, h1, h2⟩ := hv
    exact ⟨_, _, rfl, .inl ⟨ws, .of h1, rfl⟩, q _ H (fun _ _ h => h) (by rw [h2.len]; rfl)⟩
  · cases e
    obtain ⟨a, ws, rfl, h1, h2⟩ := hv
    exact ⟨_, _, rfl, .inr ⟨ws, .of h1, rfl⟩, q _ H (fun _ _ h => h) (by rw [h2.len]; rfl)⟩
def rInt : List V → Hp → VK → Prop := fun xs H Q => (∃ i, xs = [.int i] ∧ Q (.int i) H) ∨ ∃ k, xs = [.bl k] ∧ Q (.int (if k then 1 else 0)) H
def oInt : D → Option D
  | .int i => some (.int i)
  | .bl k => some (.int (if k then 1 else 0))
  | _ => none
theorem cs_int : CallS rInt (o1 oInt) := fun H ds vs d h e Q q => by
  obtain ⟨x, rfl, e⟩ := o1_some e
  obtain ⟨v, rfl, hv⟩ := rpl1 h
  clear h
  cases x <;> first | (cases e; done) | skip
  · cases e
    cases hv
    exact .inr ⟨_, rfl, q _ H (fun _ _ h => h) rfl⟩
  · cases e
    cases hv
    exact .inl ⟨_, rfl, q _ H (fun _ _ h => h) rfl⟩
def rAbs : List V → Hp → VK → Prop := fun xs H Q => ∃ i, xs = [.int i] ∧ Q (.int (if i < 0 then -i else i)) H
def oAbs : D → Option D
  | .int i => some (.int (if i < 0 then -i else i))
  | _ => none
theorem cs_abs : CallS rAbs (o1 oAbs) := fun H ds vs d h e Q q => by
  obtain ⟨x, rfl, e⟩ := o1_some e
  obtain ⟨v, rfl, hv⟩ := rpl1 h
  clear h
  cases x <;> first | (cases e; done) | skip
  cases e
  cases hv
  exact ⟨_, rfl, q _ H (fun _ _ h => h) rfl⟩
def rMaxU : List V → Hp → VK → Prop := fun xs H Q => ∃ i j, xs = [.int i, .int j] ∧ Q (.int (if j > i then j else i)) H
def rMinU : List V → Hp → VK → Prop := fun xs H Q => ∃ i j, xs = [.int i, .int j] ∧ Q (.int (if j < i then j else i)) H
theorem cs_max2 : CallS rMaxU (o2 (oI0 fun i j => .int (if j > i then j else i))) := fun H ds vs d h e Q q => by
  obtain ⟨x, y, rfl, e⟩ := o2_some e
  obtain ⟨v, w, rfl, hv, hw⟩ := rpl2 h
  clear h
  cases x <;> cases y <;> first | (cases e; done) | skip
  cases e
  cases hv
  cases hw
  exact ⟨_, _, rfl, q _ H (fun _ _ h => h) rfl⟩
theorem cs_min2 : CallS rMinU (o2 (oI0 fun i j => .int (if j < i then j else i))) := fun H ds vs d h e Q q => by
  obtain ⟨x, y, rfl, e⟩ := o2_some e
  obtain ⟨v, w, rfl, hv, hw⟩ := rpl2 h
  clear h
  cases x <;> cases y <;> first | (cases e; done) | skip
  cases e
  cases hv
  cases hw
  exact ⟨_, _, rfl, q _ H (fun _ _ h => h) rfl⟩
/-- all, any of lists of boolsOf -/
def boolsOf : List D → Option (List Bool)
  | [] => some []
  | .bl b :: l => (boolsOf l).map (b :: ·)
  | _ :: _ => none
theorem boolsOf_rp {H : Hp} : ∀ {l : List D} {bs : List Bool} {vs : List V}, boolsOf l = some bs → Rpl H l vs → vs = bs.map V.bl
  | [], bs, vs, e, h => by cases e; exact h
  | d :: l, bs, vs, e, ⟨v, r, h1, h2, h3⟩ => by
    cases d <;> first | (cases e; done) | skip
    obtain ⟨bs', e1, rfl⟩ := Option.map_eq_some_iff.mp e
    subst h1
    rw [boolsOf_rp e1 h3, show v = V.bl _ from h2]
    rfl
def oAll : D → Option D
  | .lst l => (boolsOf l).map fun bs => .bl (bs.all id)
  | _ => none
def oAny : D → Option D
  | .lst l => (boolsOf l).map fun bs => .bl (bs.any id)
  | _ => none
theorem cs_all {K : PySem.W.Frag} : CallS (rAll K) (o1 oAll) := fun H ds vs d h e Q q => by
  obtain ⟨x, rfl, e⟩ := o1_some e
  obtain ⟨v, rfl, hv⟩ := rpl1 h
  clear h
  cases x <;> first | (cases e; done) | skip
  obtain ⟨bs, e1, rfl⟩ := Option.map_eq_some_iff.mp e
  obtain ⟨a, ws, rfl, h1, h2⟩ := hv
  exact ⟨a, bs, rfl, .of (by rw [← boolsOf_rp e1 h2]; exact h1), q _ H (fun _ _ h => h) rfl⟩
theorem cs_any {K : PySem.W.Frag} : CallS (rAny K) (o1 oAny) := fun H ds vs d h e Q q => by
  obtain ⟨x, rfl, e⟩ := o1_some e
  obtain ⟨v, rfl, hv⟩ := rpl1 h
  clear h
  cases x <;> first | (cases e; done) | skip
  obtain ⟨bs, e1, rfl⟩ := Option.map_eq_some_iff.mp e
  obtain ⟨a, ws, rfl, h1, h2⟩ := hv
  exact ⟨a, bs, rfl, .of (by rw [← boolsOf_rp e1 h2]; exact h1), q _ H (fun _ _ h => h) rfl⟩
def intsOf : List D → Option (List Int)
  | [] => some []
  | .int b :: l => (intsOf l).map (b :: ·)
  | _ :: _ => none
theorem intsOf_rp {H : Hp} : ∀ {l : List D} {bs : List Int} {vs : List V}, intsOf l = some bs → Rpl H l vs → vs = bs.map V.int
  | [], bs, vs, e, h => by cases e; exact h
  | d :: l, bs, vs, e, ⟨v, r, h1, h2, h3⟩ => by
    cases d <;> first | (cases e; done) | skip
    obtain ⟨bs', e1, rfl⟩ := Option.map_eq_some_iff.mp e
    subst h1
    rw [intsOf_rp e1 h3, show v = V.int _ from h2]
    rfl
def oSum : D → Option D
  | .lst l => (intsOf l).map fun bs => .int bs.sum
  | _ => none
theorem cs_sum {K : PySem.W.Frag} : CallS (rSum K) (o1 oSum) := fun H ds vs d h e Q q => by
  obtain ⟨x, rfl, e⟩ := o1_some e
  obtain ⟨v, rfl, hv⟩ := rpl1 h
  clear h
  cases x <;> first | (cases e; done) | skip
  obtain ⟨bs, e1, rfl⟩ := Option.map_eq_some_iff.mp e
  obtain ⟨a, ws, rfl, h1, h2⟩ := hv
  exact ⟨a, bs, rfl, .of (by rw [← intsOf_rp e1 h2]; exact h1), q _ H (fun _ _ h => h) rfl⟩
/-! ### isinstance -/
inductive Ty where
  | int | bool | str | list | tuple
  deriving DecidableEq
def Ty.name : Ty → String
  | .int => "int"
  | .bool => "bool"
  | .str => "str"
  | .list => "list"
  | .tuple => "tuple"
inductive Kd where
  | non | bl | int | str | lst | tup | dic
def D.kd : D → Kd
  | .non => .non
  | .bl _ => .bl
  | .int _ => .int
  | .str _ => .str
  | .lst _ => .lst
  | .tup _ => .tup
  | .dic _ _ => .dic
def Kd.name : Kd → String
  | .non => "NoneType"
  | .bl => "bool"
  | .int => "int"
  | .str => "str"
  | .lst => "list"
  | .tup => "tuple"
  | .dic => "dict"
def Kd.isi : Ty → Kd → Bool
  | .int, .int => true
  | .int, .bl => true
  | .bool, .bl => true
  | .str, .str => true
  | .list, .lst => true
  | .tuple, .tup => true
  | _, _ => false
theorem kd_isi (t : Ty) (k : Kd) : kitB k.name t.name = some (k.isi t) := by
  cases k <;> cases t <;> decide +kernel
def D.isi (t : Ty) (d : D) : Bool := d.kd.isi t
def pIsi (t : Ty) (a : PM) : PM := fun ρ => (a ρ).map fun d => .bl (d.isi t)
theorem isi_kit {K : PySem.W.Frag} {H : Hp} {d : D} {v : V} (h : Rp H d v) (t : Ty) : ∃ u, TyX K H v u ∧ PySem.W.kitOne K u (.type t.name) = some (d.isi t) := by
  refine ⟨.type d.kd.name, ?_, kit_ty (kd_isi t d.kd)⟩
  cases d with
  | non => cases h; exact .base .non
  | bl b => cases h; exact .base (.bl _)
  | int b => cases h; exact .base (.int _)
  | str b => cases h; exact .base (.str _)
  | lst l => obtain ⟨a, vs, rfl, h1, _⟩ := h; exact .base (.lst h1)
  | tup l => obtain ⟨a, vs, rfl, h1, _⟩ := h; exact .base (.tup h1)
  | dic ks l => obtain ⟨a, vs, rfl, h1, _⟩ := h; exact .base (.dK h1)
theorem sp_isi {K : PySem.W.Frag} {ta : TE} {a : PM} (t : Ty) {n : String} (hn : n = t.name) (ha : SP ta a) : SP (tCB (rIsi K) (tCons ta (tCons (tC (.ty n)) tNil))) (pIsi t a) := fun ρ σ H g d h Q q => by
  obtain ⟨x, h1, rfl⟩ := Option.map_eq_some_iff.mp h
  subst hn
  refine ha ρ σ H g x h1 _ fun v H1 e1 r1 => ?_
  obtain ⟨u, k1, k2⟩ := isi_kit (K := K) r1 t
  exact ⟨v, _, u, _, _, rfl, .ty _, k1, k2, q _ H1 e1 rfl⟩
end
end Z

namespace Z
noncomputable section
open PySem L2
/-! ### readings that change what the names hold: expressions, arguments, tests -/
structure Exn where
  cls : Str
  fs : List (Str × D)
abbrev CT := Str → Option Addr
def XOk (ct : CT) (x : Exn) (c : Value) (d : Option Addr) (H : Hp) : Prop := ∃ C, ct x.cls = some C ∧ c = .ref C ∧ (∀ q ∈ x.fs, q.2.scal = true) ∧
  ((x.fs = [] ∧ d = none) ∨ ∃ a vs, d = some a ∧ H a = some (.xd ((x.fs.map (·.1)).zip vs)) ∧ Rpl H (x.fs.map (·.2)) vs)
abbrev XW := Value → Option Addr → St → Hp → Prop
inductive Out (α : Type) where
  | bad | ok (a : α) (ρ : Env) | ex (x : Exn) (ρ : Env)
def Out.P {α : Type} (Φ : α → Env → Prop) (Ψ : Exn → Env → Prop) : Out α → Prop
  | .bad => False
  | .ok a ρ => Φ a ρ
  | .ex x ρ => Ψ x ρ
def Out.bnd {α β : Type} (o : Out α) (f : α → Env → Out β) : Out β := match o with
  | .bad => .bad
  | .ok a ρ => f a ρ
  | .ex x ρ => .ex x ρ
theorem Out.P_bnd {α β : Type} {o : Out α} {f : α → Env → Out β} {Φ : β → Env → Prop} {Ψ : Exn → Env → Prop} : (o.bnd f).P Φ Ψ ↔ o.P (fun a ρ => (f a ρ).P Φ Ψ) Ψ := by
  cases o <;> exact Iff.rfl
theorem Out.P.mono {α : Type} {o : Out α} {Φ Φ' : α → Env → Prop} {Ψ Ψ' : Exn → Env → Prop} (h : o.P Φ Ψ) (h1 : ∀ a ρ, Φ a ρ → Φ' a ρ) (h2 : ∀ a ρ, Ψ a ρ → Ψ' a ρ) : o.P Φ' Ψ' := by
  cases o with
  | bad => exact h
  | ok a ρ => exact h1 _ _ h
  | ex x ρ => exact h2 _ _ h
abbrev EM := Env → Out T
abbrev EMs := Env → Out (List T)
abbrev EMb := Env → Out Bool
/-- what is wanted of an exception -/
def XE (ct : CT) (Wx : XW) (W S0 : Hp) (σ : St) (tm : List T) (vm : List V) : Exn → Env → Prop := fun x ρ' => ∀ c d H', GX W S0 ρ' σ tm vm H' → XOk ct x c d H' → Wx c d σ H'
def SE (ct : CT) (Wx : XW) (te : TE) (m : EM) : Prop := ∀ W S0 ρ σ tm vm H (Q : VK), GX W S0 ρ σ tm vm H → (m ρ).P (fun t ρ' => ∀ v H', GX W S0 ρ' σ (t :: tm) (v :: vm) H' → Q v H') (XE ct Wx W S0 σ tm vm) → te σ H Q
def SEA (ct : CT) (Wx : XW) (ta : TA) (m : EMs) : Prop := ∀ W S0 ρ σ tm vm H (Q : List V → Hp → Prop), GX W S0 ρ σ tm vm H → (m ρ).P (fun ts ρ' => ∀ vs H', vs.length = ts.length → GX W S0 ρ' σ (ts ++ tm) (vs ++ vm) H' → Q vs H') (XE ct Wx W S0 σ tm vm) → ta σ H Q
def SET (ct : CT) (Wx : XW) (tt : TT) (m : EMb) : Prop := ∀ W S0 ρ σ tm vm H (Q : Bool → Hp → Prop), GX W S0 ρ σ tm vm H → (m ρ).P (fun b ρ' => ∀ H', GX W S0 ρ' σ tm vm H' → Q b H') (XE ct Wx W S0 σ tm vm) → tt σ H Q
def OpE (r : R2) (o : T → T → Option T) : Prop := ∀ W S0 ρ σ tm vm H t u v w z (Q : VK), GX W S0 ρ σ (u :: t :: tm) (w :: v :: vm) H → o t u = some z → (∀ x H', GX W S0 ρ σ (z :: tm) (x :: vm) H' → Q x H') → r v w H Q
def CallE (r : List V → Hp → VK → Prop) (o : List T → Option T) : Prop := ∀ W S0 ρ σ tm vm H ts vs z (Q : VK), GX W S0 ρ σ (ts ++ tm) (vs ++ vm) H → vs.length = ts.length → o ts = some z → (∀ x H', GX W S0 ρ σ (z :: tm) (x :: vm) H' → Q x H') → r vs H Q
variable {ct : CT} {Wx : XW} {W S0 S H H' : Hp} {ρ : Env} {σ : St} {t u : T} {ts us tm : List T} {v w : V} {vs ws vm : List V} {as bs : List Addr} {i : Nat} {d : D}
theorem XE.pop (g : XE ct Wx W S0 σ tm vm x ρ) (h : vs.length = ts.length) : XE ct Wx W S0 σ (ts ++ tm) (vs ++ vm) x ρ := fun c d H' q k => g c d H' (q.pop h) k
theorem GX.tmp (g : GX W S0 ρ σ (t :: tm) (v :: vm) H) : Rp H t.d v := by
  obtain ⟨S, as, bs, g⟩ := g
  obtain ⟨v', r, b, c, h3, rfl, h4, h5⟩ := g.rt
  simp only [List.cons.injEq] at h3
  obtain ⟨rfl, rfl⟩ := h3
  exact h4.toRp g.sh fun _ _ _ h => h
theorem GX.tmps (g : GX W S0 ρ σ (ts ++ tm) (vs ++ vm) H) (e : vs.length = ts.length) : Rpl H (dl ts) vs := by
  obtain ⟨S, as, bs, g⟩ := g
  obtain ⟨b, c, rfl, h1, h2⟩ := g.rt.split e
  exact h1.toRpl g.sh fun _ _ _ h => h

def eP (p : PM) : EM := fun ρ => match p ρ with
  | some d => if d.scal = true then .ok (.sh d) ρ else .bad
  | none => .bad
theorem se_p {te : TE} {p : PM} (h : SP te p) : SE ct Wx te (eP p) := fun W S0 ρ σ tm vm H Q g k => by
  unfold eP at k
  split at k
  · rename_i d e
    by_cases hs : d.scal = true
    · rw [if_pos hs] at k
      exact h ρ σ H g.rv d e Q fun v H' e1 r => k v H' ((g.ext e1).pushC hs r)
    · rw [if_neg hs] at k; exact k.elim
  · exact k.elim
def eV (i : Nat) : EM := fun ρ => match ρ[i]? with
  | some (some (.sh d)) => .ok (.sh d) ρ
  | some (some t) => .ok (.sh t.d) (ρ.set i (some (.sh t.d)))
  | _ => .bad
theorem se_var {i : Nat} : SE ct Wx (tVar i) (eV i) := fun W S0 ρ σ tm vm H Q g k => by
  unfold eV at k
  split at k
  · rename_i d e
    obtain ⟨v, e1, g1⟩ := g.read e
    rw [show T.d (.sh d) = d from rfl, set_self e] at g1
    exact ⟨v, e1, k v H g1⟩
  · rename_i t _ e
    obtain ⟨v, e1, g1⟩ := g.read e
    exact ⟨v, e1, k v H g1⟩
  · exact k.elim
/-- a name's value moved out of it -/
def eM (i : Nat) : EM := fun ρ => match ρ[i]? with
  | some (some t) => .ok t (ρ.set i none)
  | _ => .bad
theorem se_mv {i : Nat} : SE ct Wx (tVar i) (eM i) := fun W S0 ρ σ tm vm H Q g k => by
  unfold eM at k
  split at k
  · rename_i t e
    obtain ⟨v, e1, g1⟩ := g.take e
    exact ⟨v, e1, k v H g1⟩
  · exact k.elim
def eNil : EMs := fun ρ => .ok [] ρ
def eCons (a : EM) (b : EMs) : EMs := fun ρ => (a ρ).bnd fun t ρ => (b ρ).bnd fun ts ρ => .ok (t :: ts) ρ
theorem sea_nil : SEA ct Wx tNil eNil := fun W S0 ρ σ tm vm H Q g k => k [] H rfl g
theorem sea_cons {ta : TE} {tr : TA} {a : EM} {b : EMs} (ha : SE ct Wx ta a) (hb : SEA ct Wx tr b) : SEA ct Wx (tCons ta tr) (eCons a b) := fun W S0 ρ σ tm vm H Q g k => by
  refine ha W S0 ρ σ tm vm H _ g ((Out.P_bnd.mp k).mono (fun t ρ1 k1 v H1 g1 => ?_) fun _ _ h => h)
  refine hb W S0 ρ1 σ (t :: tm) (v :: vm) H1 _ g1 ((Out.P_bnd.mp k1).mono (fun ts ρ2 k2 vs H2 e2 g2 => ?_) fun _ _ h => XE.pop (ts := [t]) (vs := [v]) h rfl)
  exact k2 (v :: vs) H2 (by simp [e2]) (g2.rot e2)
def eLst (a : EMs) : EM := fun ρ => (a ρ).bnd fun ts ρ => if ts.length ≤ lim then .ok (.ol ts) ρ else .bad
def eTup (a : EMs) : EM := fun ρ => (a ρ).bnd fun ts ρ => if ts.length ≤ lim then .ok (.ot ts) ρ else .bad
theorem P_ite {α : Type} {c : Prop} [Decidable c] {o : Out α} {Φ : α → Env → Prop} {Ψ : Exn → Env → Prop} (h : (if c then o else .bad).P Φ Ψ) : c ∧ o.P Φ Ψ := by
  by_cases k : c
  · rw [if_pos k] at h; exact ⟨k, h⟩
  · rw [if_neg k] at h; exact h.elim
theorem se_lst {ta : TA} {a : EMs} (ha : SEA ct Wx ta a) : SE ct Wx (tLst ta) (eLst a) := fun W S0 ρ σ tm vm H Q g k => by
  refine ha W S0 ρ σ tm vm H _ g ((Out.P_bnd.mp k).mono (fun ts ρ1 k1 vs H1 e1 g1 => ?_) fun _ _ h => h)
  obtain ⟨hz, k1⟩ := P_ite k1
  exact ⟨lim_le (by omega), fun p hp => k1 _ _ (g1.newL e1 hp)⟩
theorem se_tup {ta : TA} {a : EMs} (ha : SEA ct Wx ta a) : SE ct Wx (tTup ta) (eTup a) := fun W S0 ρ σ tm vm H Q g k => by
  refine ha W S0 ρ σ tm vm H _ g ((Out.P_bnd.mp k).mono (fun ts ρ1 k1 vs H1 e1 g1 => ?_) fun _ _ h => h)
  obtain ⟨hz, k1⟩ := P_ite k1
  exact ⟨lim_le (by omega), fun p hp => k1 _ _ (g1.newT e1 hp)⟩
def optO {α : Type} (o : Option α) (ρ : Env) : Out α := match o with
  | some a => .ok a ρ
  | none => .bad
theorem P_opt {α : Type} {o : Option α} {Φ : α → Env → Prop} {Ψ : Exn → Env → Prop} (h : (optO o ρ).P Φ Ψ) : ∃ a, o = some a ∧ Φ a ρ := by
  cases o with
  | none => exact h.elim
  | some a => exact ⟨a, rfl, h⟩
def eOp (o : T → T → Option T) (a b : EM) : EM := fun ρ => (a ρ).bnd fun t ρ => (b ρ).bnd fun u ρ => optO (o t u) ρ
theorem se_op {r : R2} {o : T → T → Option T} {ta tb : TE} {a b : EM} (hr : OpE r o) (ha : SE ct Wx ta a) (hb : SE ct Wx tb b) : SE ct Wx (tOp r ta tb) (eOp o a b) := fun W S0 ρ σ tm vm H Q g k => by
  refine ha W S0 ρ σ tm vm H _ g ((Out.P_bnd.mp k).mono (fun t ρ1 k1 v H1 g1 => ?_) fun _ _ h => h)
  refine hb W S0 ρ1 σ (t :: tm) (v :: vm) H1 _ g1 ((Out.P_bnd.mp k1).mono (fun u ρ2 k2 w H2 g2 => ?_) fun _ _ h => XE.pop (ts := [t]) (vs := [v]) h rfl)
  obtain ⟨z, e, k2⟩ := P_opt k2
  exact hr W S0 ρ2 σ tm vm H2 t u v w z Q g2 e k2
def eCB (o : List T → Option T) (a : EMs) : EM := fun ρ => (a ρ).bnd fun ts ρ => optO (o ts) ρ
theorem se_cb {r : List V → Hp → VK → Prop} {o : List T → Option T} {ta : TA} {a : EMs} (hr : CallE r o) (ha : SEA ct Wx ta a) : SE ct Wx (tCB r ta) (eCB o a) := fun W S0 ρ σ tm vm H Q g k => by
  refine ha W S0 ρ σ tm vm H _ g ((Out.P_bnd.mp k).mono (fun ts ρ1 k1 vs H1 e1 g1 => ?_) fun _ _ h => h)
  obtain ⟨z, e, k2⟩ := P_opt k1
  exact hr W S0 ρ1 σ tm vm H1 ts vs z Q g1 e1 e k2
def scalO (o : Option D) : Option T := o.bind fun d => if d.scal = true then some (.sh d) else none
def oS (o : D → D → Option D) : T → T → Option T := fun t u => scalO (o t.d u.d)
theorem scalO_some {o : Option D} {z : T} (h : scalO o = some z) : ∃ d, o = some d ∧ d.scal = true ∧ z = .sh d := by
  obtain ⟨d, e, h⟩ := some_bind h
  obtain ⟨k, h⟩ := ite_some h
  exact ⟨d, e, k, (Option.some.inj h).symm⟩
theorem oe_s {r : R2} {o : D → D → Option D} (h : OpS r o) : OpE r (oS o) := fun W S0 ρ σ tm vm H t u v w z Q g e k => by
  obtain ⟨d, e1, e2, rfl⟩ := scalO_some e
  refine h H t.d u.d v w d g.pop1.tmp g.tmp |> fun _ => ?_
  exact h H t.d u.d v w d (GX.tmp (g.pop1)) g.tmp e1 Q fun x H' es r => k x H' ((g.pop1.pop1.ext es).pushC e2 r)
def cS (o : List D → Option D) : List T → Option T := fun ts => scalO (o (dl ts))
theorem ce_s {r : List V → Hp → VK → Prop} {o : List D → Option D} (h : CallS r o) : CallE r (cS o) := fun W S0 ρ σ tm vm H ts vs z Q g e0 e k => by
  obtain ⟨d, e1, e2, rfl⟩ := scalO_some e
  exact h H _ vs d (g.tmps e0) e1 Q fun x H' es r => k x H' (((g.pop e0).ext es).pushC e2 r)

/-! ### lists taken apart -/
def T.els : T → Option (List T)
  | .sh (.lst l) => some (l.map .sh)
  | .ol l => some l
  | _ => none
def T.elsT : T → Option (List T)
  | .sh (.tup l) => some (l.map .sh)
  | .ot l => some l
  | _ => none
theorem GX.els (g : GX W S0 ρ σ (t :: tm) (v :: vm) H) (e : t.els = some ts) : ∃ a xs, v = .ref a ∧ H a = some (.lst xs) ∧ xs.length = ts.length ∧ GX W S0 ρ σ (ts ++ tm) (xs ++ vm) H := by
  obtain ⟨S, as, bs, g⟩ := g
  obtain ⟨v', r, b, c, h3, rfl, h4, h5⟩ := g.rt
  simp only [List.cons.injEq] at h3
  obtain ⟨rfl, rfl⟩ := h3
  have nd := g.nd
  have fs := g.fs
  have fw := g.fw
  unfold T.els at e
  split at e
  · cases e
    obtain ⟨rfl, a, xs, rfl, h6, h7⟩ := h4
    refine ⟨a, xs, rfl, g.sh _ _ h6, by simp [h7.len], S, as, c, g.s0, g.sh, g.wh, g.nw, g.re, (h7.toRtl (H := H)).append h5, by grind, by grind, by grind⟩
  · cases e
    obtain ⟨a, xs, b', rfl, rfl, h6, h7⟩ := h4
    refine ⟨a, xs, rfl, h6, h7.len, S, as, b' ++ c, g.s0, g.sh, g.wh, g.nw, g.re, h7.append h5, by grind, by grind, by grind⟩
  · cases e
theorem GX.elsT (g : GX W S0 ρ σ (t :: tm) (v :: vm) H) (e : t.elsT = some ts) : ∃ a xs, v = .ref a ∧ H a = some (.tup xs) ∧ xs.length = ts.length ∧ GX W S0 ρ σ (ts ++ tm) (xs ++ vm) H := by
  obtain ⟨S, as, bs, g⟩ := g
  obtain ⟨v', r, b, c, h3, rfl, h4, h5⟩ := g.rt
  simp only [List.cons.injEq] at h3
  obtain ⟨rfl, rfl⟩ := h3
  have nd := g.nd
  have fs := g.fs
  have fw := g.fw
  unfold T.elsT at e
  split at e
  · cases e
    obtain ⟨rfl, a, xs, rfl, h6, h7⟩ := h4
    refine ⟨a, xs, rfl, g.sh _ _ h6, by simp [h7.len], S, as, c, g.s0, g.sh, g.wh, g.nw, g.re, (h7.toRtl (H := H)).append h5, by grind, by grind, by grind⟩
  · cases e
    obtain ⟨a, xs, b', rfl, rfl, h6, h7⟩ := h4
    refine ⟨a, xs, rfl, h6, h7.len, S, as, b' ++ c, g.s0, g.sh, g.wh, g.nw, g.re, h7.append h5, by grind, by grind, by grind⟩
  · cases e
/-- temporaries left out, or in another order -/
theorem GX.sub (g : GX W S0 ρ σ (ts ++ tm) (vs ++ vm) H) (e : vs.length = ts.length) (h : ∀ S H b, Rtl S H ts vs b → ∃ b', Rtl S H us ws b' ∧ (b.Nodup → b'.Nodup) ∧ ∀ x ∈ b', x ∈ b) : GX W S0 ρ σ (us ++ tm) (ws ++ vm) H := by
  obtain ⟨S, as, bs, g⟩ := g
  obtain ⟨b, c, rfl, h1, h2⟩ := g.rt.split e
  obtain ⟨b', q1, q2, q3⟩ := h S H b h1
  have nd := g.nd
  have fs := g.fs
  have fw := g.fw
  have n1 : b.Nodup := by grind
  have n2 := q2 n1
  refine ⟨S, as, b' ++ c, g.s0, g.sh, g.wh, g.nw, g.re, q1.append h2, by grind, by grind, by grind⟩
theorem Rtl.take {S H : Hp} : ∀ {ts : List T} {vs : List V} {b : List Addr} (n : Nat), Rtl S H ts vs b → ∃ b', Rtl S H (ts.take n) (vs.take n) b' ∧ (b.Nodup → b'.Nodup) ∧ ∀ x ∈ b', x ∈ b
  | [], _, _, n, ⟨h1, h2⟩ => by subst h1 h2; exact ⟨[], by simp [Rtl], fun h => h, fun _ h => h⟩
  | _ :: _, _, _, 0, _ => ⟨[], by simp [Rtl], fun _ => .nil, fun _ h => nomatch h⟩
  | t :: ts, _, _, n + 1, ⟨v, r, b, c, h1, h2, h3, h4⟩ => by
    subst h1 h2
    obtain ⟨b', q1, q2, q3⟩ := Rtl.take n h4
    exact ⟨b ++ b', ⟨v, _, b, b', rfl, rfl, h3, q1⟩, by grind, by grind⟩
theorem Rtl.drop {S H : Hp} : ∀ {ts : List T} {vs : List V} {b : List Addr} (n : Nat), Rtl S H ts vs b → ∃ b', Rtl S H (ts.drop n) (vs.drop n) b' ∧ (b.Nodup → b'.Nodup) ∧ ∀ x ∈ b', x ∈ b
  | [], _, _, n, ⟨h1, h2⟩ => by subst h1 h2; exact ⟨[], by simp [Rtl], fun h => h, fun _ h => h⟩
  | _ :: _, _, b, 0, h => ⟨b, h, fun h => h, fun _ h => h⟩
  | t :: ts, _, _, n + 1, ⟨v, r, b, c, h1, h2, h3, h4⟩ => by
    subst h1 h2
    obtain ⟨b', q1, q2, q3⟩ := Rtl.drop n h4
    exact ⟨b', q1, by grind, by grind⟩
theorem Rtl.cut {S H : Hp} {ts : List T} {vs : List V} {b : List Addr} {lo hi : Option Int} (h : Rtl S H ts vs b) : ∃ b', Rtl S H (cutD ts lo hi) (cutV vs lo hi) b' ∧ (b.Nodup → b'.Nodup) ∧ ∀ x ∈ b', x ∈ b := by
  unfold cutD cutV
  rw [h.len]
  obtain ⟨b1, q1, q2, q3⟩ := h.drop (HT.sIx ts.length 0 lo)
  obtain ⟨b2, q4, q5, q6⟩ := q1.take (HT.sIx ts.length ts.length hi - HT.sIx ts.length 0 lo)
  exact ⟨b2, q4, fun h => q5 (q2 h), fun x hx => q3 x (q6 x hx)⟩
def catT (t u : T) : Option T := t.els.bind fun a => u.els.bind fun b => if a.length + b.length ≤ lim then some (.ol (a ++ b)) else none
theorem oe_cat : OpE rCat catT := fun W S0 ρ σ tm vm H t u v w z Q g e k => by
  obtain ⟨ts, e1, e⟩ := some_bind e
  obtain ⟨us, e2, e⟩ := some_bind e
  obtain ⟨hz, e⟩ := ite_some e
  cases e
  obtain ⟨b, ys, rfl, h3, h4, g1⟩ := g.els e2
  have g2 := g1.rot h4
  obtain ⟨a, xs, rfl, h1, h2, g3⟩ := g2.els e1
  refine ⟨a, b, xs, ys, rfl, rfl, h1, h3, lim_le (by omega), fun p hp => k _ _ ?_⟩
  rw [← List.append_assoc, ← List.append_assoc] at g3
  exact g3.newL (by simp [h2, h4]) hp
def eAddT (t u : T) : Option T := match oS oAdd t u with
  | some z => some z
  | none => catT t u
theorem oe_or {r r' : R2} {o o' : T → T → Option T} (h : OpE r o) (h' : OpE r' o') : OpE (rOr r r') (fun t u => match o t u with | some z => some z | none => o' t u) := fun W S0 ρ σ tm vm H t u v w z Q g e k => by
  simp only at e
  split at e
  · rename_i z' ez
    cases e
    exact .inl (h W S0 ρ σ tm vm H t u v w _ Q g ez k)
  · exact .inr (h' W S0 ρ σ tm vm H t u v w _ Q g e k)
theorem oe_add : OpE rUAdd eAddT := fun W S0 ρ σ tm vm H t u v w z Q g e k => by
  unfold eAddT at e
  split at e
  · rename_i z' ez
    cases e
    exact oe_s os_add W S0 ρ σ tm vm H t u v w _ Q g ez k
  · exact .inr (.inl (oe_cat W S0 ρ σ tm vm H t u v w _ Q g e k))

/-! ### places: what stands there is looked at and stays as it is -/
def SV (te : TE) (m : Env → Option T) : Prop := ∀ W S0 S ρ σ tm vm H as bs, G W S0 S H ρ σ tm vm as bs → ∀ t, m ρ = some t → ∀ Q : VK, (∀ v H', Same H H' → (∃ cs, (∀ a ∈ cs, a ∈ as) ∧ Rt S H' t v cs) → Q v H') → te σ H Q
def vV (i : Nat) : Env → Option T := fun ρ => match ρ[i]? with
  | some (some t) => some t
  | _ => none
theorem sv_var {i : Nat} : SV (tVar i) (vV i) := fun W S0 S ρ σ tm vm H as bs g t h Q q => by
  unfold vV at h
  split at h
  · rename_i t' e
    cases h
    obtain ⟨v, b, c, d, e1, rfl, e3, _⟩ := g.re.at e
    exact ⟨v, e1, q v H (fun _ _ h => h) ⟨c, by grind, e3⟩⟩
  · cases h
def T.kids : T → Option (List T)
  | .sh (.lst l) => some (l.map .sh)
  | .sh (.tup l) => some (l.map .sh)
  | .ol l => some l
  | .ot l => some l
  | _ => none
theorem Rtl.atI {S H : Hp} {l : List T} {vs : List V} {as : List Addr} {i : Int} {t : T} (h : Rtl S H l vs as) (e : L2.atI l i = some t) : ∃ v c, L2.atI vs i = some v ∧ Rt S H t v c ∧ (∀ a ∈ c, a ∈ as) ∧ (as.Nodup → c.Nodup) := by
  unfold L2.atI at e ⊢
  rw [h.len]
  obtain ⟨j, h1, h2⟩ := some_bind e
  obtain ⟨v, b, c, d, h3, rfl, h4, _⟩ := h.at h2
  exact ⟨v, c, by rw [h1]; exact h3, h4, by grind, by grind⟩
theorem Rt.kid {S H : Hp} {K : PySem.W.Frag} {t u : T} {v : V} {as : List Addr} {l : List T} {i : Int} (e : Same S H) (h : Rt S H t v as) (hk : t.kids = some l) (hi : L2.atI l i = some u) {Q : VK} (q : ∀ w, (∃ cs, (∀ a ∈ cs, a ∈ as) ∧ (as.Nodup → cs.Nodup) ∧ Rt S H u w cs) → Q w H) : rIx K v (.int i) H Q := by
  unfold T.kids at hk
  split at hk
  · cases hk
    obtain ⟨rfl, a, vs, rfl, h1, h2⟩ := h
    obtain ⟨w, c, k1, k2, k3, k4⟩ := (h2.toRtl (H := H)).atI hi
    exact .inl ⟨a, vs, i, w, rfl, rfl, .of (e _ _ h1), k1, q w ⟨c, k3, k4, k2⟩⟩
  · cases hk
    obtain ⟨rfl, a, vs, rfl, h1, h2⟩ := h
    obtain ⟨w, c, k1, k2, k3, k4⟩ := (h2.toRtl (H := H)).atI hi
    exact .inr (.inl ⟨a, vs, i, w, rfl, rfl, .of (e _ _ h1), k1, q w ⟨c, k3, k4, k2⟩⟩)
  · cases hk
    obtain ⟨a, vs, b, rfl, rfl, h1, h2⟩ := h
    obtain ⟨w, c, k1, k2, k3, k4⟩ := h2.atI hi
    exact .inl ⟨a, vs, i, w, rfl, rfl, .of h1, k1, q w ⟨c, fun x hx => List.mem_cons_of_mem _ (k3 x hx), fun n => k4 (List.nodup_cons.mp n).2, k2⟩⟩
  · cases hk
    obtain ⟨a, vs, b, rfl, rfl, h1, h2⟩ := h
    obtain ⟨w, c, k1, k2, k3, k4⟩ := h2.atI hi
    exact .inr (.inl ⟨a, vs, i, w, rfl, rfl, .of h1, k1, q w ⟨c, fun x hx => List.mem_cons_of_mem _ (k3 x hx), fun n => k4 (List.nodup_cons.mp n).2, k2⟩⟩)
  · cases hk
def D.intO : D → Option Int
  | .int i => some i
  | _ => none
theorem intO_int {d : D} {i : Int} (h : d.intO = some i) : d = .int i := by
  cases d <;> first | (cases h; rfl) | cases h
def vIx (a : Env → Option T) (p : PM) : Env → Option T := fun ρ => (a ρ).bind fun t => (p ρ).bind fun d => d.intO.bind fun i => t.kids.bind fun l => atI l i
theorem sv_ix {K : PySem.W.Frag} {ta tb : TE} {a : Env → Option T} {p : PM} (ha : SV ta a) (hb : SP tb p) : SV (tOp (rIx K) ta tb) (vIx a p) := fun W S0 S ρ σ tm vm H as bs g t h Q q => by
  obtain ⟨t0, h1, ha1⟩ := some_bind h
  obtain ⟨d, h2, ha2⟩ := some_bind ha1
  obtain ⟨i, h3, ha3⟩ := some_bind ha2
  obtain ⟨l, h4, h5⟩ := some_bind ha3
  clear h ha1 ha2 ha3
  cases intO_int h3
  refine ha W S0 S ρ σ tm vm H as bs g t0 h1 _ fun v H1 e1 ⟨cs, c1, c2⟩ => ?_
  have rv : RV H1 ρ σ := (GX.rv ⟨S, as, bs, g⟩).ext e1
  refine hb ρ σ H1 rv _ h2 _ fun w H2 e2 r2 => ?_
  cases r2
  have c3 : Rt S H2 t0 v cs := c2.mono (fun _ _ h => h) fun a ha => same_at e2 (c2.there a ha)
  exact c3.kid (fun a o h => e2 a o (e1 a o (g.sh a o h))) h4 h5 fun w ⟨ds, d1, _, d2⟩ => q w H2 (e1.trans e2) ⟨ds, fun a ha => c1 a (d1 a ha), d2⟩
theorem SV.p {te : TE} {m : Env → Option T} (h : SV te m) : ∀ W S0 ρ σ tm vm H, GX W S0 ρ σ tm vm H → ∀ t, m ρ = some t → ∀ Q : VK, (∀ v H', Same H H' → Rp H' t.d v → Q v H') → te σ H Q := fun W S0 ρ σ tm vm H ⟨S, as, bs, g⟩ t e Q q =>
  h W S0 S ρ σ tm vm H as bs g t e Q fun v H' es ⟨cs, c1, c2⟩ => q v H' es (c2.toRp (fun a o h => es a o (g.sh a o h)) fun _ _ _ h => h)
/-- what stands at a place, shared -/
def eGet (a : Env → Option T) : EM := fun ρ => match a ρ with
  | some (.sh d) => .ok (.sh d) ρ
  | _ => .bad
theorem se_get {te : TE} {m : Env → Option T} (h : SV te m) : SE ct Wx te (eGet m) := fun W S0 ρ σ tm vm H Q g k => by
  unfold eGet at k
  split at k
  · rename_i d e
    obtain ⟨S, as, bs, g⟩ := g
    refine h W S0 S ρ σ tm vm H as bs g _ e Q fun v H' es ⟨cs, c1, ⟨c2, c3⟩⟩ => k v H' ?_
    obtain ⟨S', as', bs', g'⟩ := (GX.ext es ⟨S, as, bs, g⟩)
    have g2 : G W S0 S H' ρ σ tm vm as bs := ⟨g.s0, fun a o h => es a o (g.sh a o h), fun a o h => es a o (g.wh a o h), g.nw, g.re.mono (fun _ _ h => h) fun a ha => same_at es (g.re.there a ha), g.rt.mono (fun _ _ h => h) fun a ha => same_at es (g.rt.there a ha), g.nd, g.fs, g.fw⟩
    exact g2.pushS c3
  · exact k.elim
theorem G.ext (g : G W S0 S H ρ σ tm vm as bs) (es : Same H H') : G W S0 S H' ρ σ tm vm as bs := ⟨g.s0, fun a o h => es a o (g.sh a o h), fun a o h => es a o (g.wh a o h), g.nw, g.re.mono (fun _ _ h => h) fun a ha => same_at es (g.re.there a ha), g.rt.mono (fun _ _ h => h) fun a ha => same_at es (g.rt.there a ha), g.nd, g.fs, g.fw⟩
/-- the shared items of a list at a place -/
def shsL : List T → Option (List D)
  | [] => some []
  | .sh d :: l => (shsL l).map (d :: ·)
  | _ :: _ => none
theorem Rtl.shs {S H : Hp} : ∀ {l : List T} {vs : List V} {as : List Addr} {ds : List D}, Rtl S H l vs as → shsL l = some ds → Rpl S ds vs
  | [], _, _, _, h, e => by cases e; exact h.1
  | t :: l, _, _, _, ⟨v, r, b, c, h1, h2, h3, h4⟩, e => by
    cases t <;> first | (cases e; done) | skip
    obtain ⟨ds', e1, rfl⟩ := Option.map_eq_some_iff.mp e
    subst h1
    exact ⟨v, r, rfl, h3.2, h4.shs e1⟩
def T.shs : T → Option (List D)
  | .sh (.lst l) => some l
  | .ol l => shsL l
  | _ => none
def T.shsT : T → Option (List D)
  | .sh (.tup l) => some l
  | .ot l => shsL l
  | _ => none
theorem Rt.shs {S H : Hp} {t : T} {v : V} {as : List Addr} {ds : List D} (e : Same S H) (h : Rt S H t v as) (k : t.shs = some ds) : ∃ a xs, v = .ref a ∧ H a = some (.lst xs) ∧ Rpl S ds xs := by
  unfold T.shs at k
  split at k
  · cases k
    obtain ⟨rfl, a, xs, rfl, h1, h2⟩ := h
    exact ⟨a, xs, rfl, e _ _ h1, h2⟩
  · obtain ⟨a, xs, b, rfl, rfl, h1, h2⟩ := h
    exact ⟨a, xs, rfl, h1, h2.shs k⟩
  · cases k
theorem Rt.shsT {S H : Hp} {t : T} {v : V} {as : List Addr} {ds : List D} (e : Same S H) (h : Rt S H t v as) (k : t.shsT = some ds) : ∃ a xs, v = .ref a ∧ H a = some (.tup xs) ∧ Rpl S ds xs := by
  unfold T.shsT at k
  split at k
  · cases k
    obtain ⟨rfl, a, xs, rfl, h1, h2⟩ := h
    exact ⟨a, xs, rfl, e _ _ h1, h2⟩
  · obtain ⟨a, xs, b, rfl, rfl, h1, h2⟩ := h
    exact ⟨a, xs, rfl, h1, h2.shs k⟩
  · cases k
/-- shared data as temporaries -/
theorem G.pushSs (g : G W S0 S H ρ σ tm vm as bs) {ds : List D} {xs : List V} (h : Rpl S ds xs) : GX W S0 ρ σ (ds.map .sh ++ tm) (xs ++ vm) H :=
  ⟨S, as, bs, g.s0, g.sh, g.wh, g.nw, g.re, (h.toRtl (H := H)).append g.rt, g.nd, g.fs, g.fw⟩
/-! ### parts of a slice -/
def SPO (to : TO) (m : Env → Option (Option Int)) : Prop := ∀ ρ σ H, RV H ρ σ → ∀ o, m ρ = some o → ∀ Q : Option Int → Hp → Prop, (∀ H', Same H H' → Q o H') → to σ H Q
def oNo : Env → Option (Option Int) := fun _ => some none
def oYes (p : PM) : Env → Option (Option Int) := fun ρ => (p ρ).bind fun d => d.intO.map some
theorem spo_no : SPO tNoPart oNo := fun ρ σ H g o e Q q => by cases e; exact q H fun _ _ h => h
theorem spo_yes {te : TE} {p : PM} (h : SP te p) : SPO (tPart te) (oYes p) := fun ρ σ H g o e Q q => by
  obtain ⟨d, e1, e⟩ := some_bind e
  obtain ⟨i, e2, rfl⟩ := Option.map_eq_some_iff.mp e
  cases intO_int e2
  exact h ρ σ H g _ e1 _ fun v H1 es r => ⟨i, r, q H1 es⟩
/-- p[lo:hi] of a list at a place -/
def eSl (a : Env → Option T) (lo hi : Env → Option (Option Int)) : EM := fun ρ => optO ((a ρ).bind fun t => t.shs.bind fun ds => (lo ρ).bind fun l => (hi ρ).bind fun h => some (.ol ((cutD ds l h).map .sh))) ρ
theorem se_sl {K : PySem.W.Frag} {ta : TE} {tl th : TO} {a : Env → Option T} {lo hi : Env → Option (Option Int)} (ha : SV ta a) (hl : SPO tl lo) (hh : SPO th hi) : SE ct Wx (tSl (rSlL K) ta tl th) (eSl a lo hi) := fun W S0 ρ σ tm vm H Q g k => by
  obtain ⟨z, e, k⟩ := P_opt k
  obtain ⟨t, e1, e⟩ := some_bind e
  obtain ⟨ds, e2, e⟩ := some_bind e
  obtain ⟨l, e3, e⟩ := some_bind e
  obtain ⟨h, e4, e⟩ := some_bind e
  cases e
  obtain ⟨S, as, bs, g⟩ := g
  refine ha W S0 S ρ σ tm vm H as bs g t e1 _ fun v H1 s1 ⟨cs, c1, c2⟩ => ?_
  have g1 := g.ext s1
  obtain ⟨p, xs, rfl, h1, h2⟩ := c2.shs g1.sh e2
  refine hl ρ σ H1 (GX.rv ⟨S, as, bs, g1⟩) l e3 _ fun H2 s2 => hh ρ σ H2 (GX.rv ⟨S, as, bs, g1.ext s2⟩) h e4 _ fun H3 s3 => ?_
  refine ⟨p, xs, rfl, .of (s3 _ _ (s2 _ _ h1)), fun q hq => k _ _ ?_⟩
  exact (((g1.ext s2).ext s3).pushSs h2.cut).newL (by simp [h2.cut.len]) hq
/-- .. of a list that the expression makes -/
def eSlE (a : EM) (lo hi : Env → Option (Option Int)) : EM := fun ρ => (a ρ).bnd fun t ρ => optO (t.els.bind fun ds => (lo ρ).bind fun l => (hi ρ).bind fun h => some (.ol (cutD ds l h))) ρ
theorem se_slE {K : PySem.W.Frag} {ta : TE} {tl th : TO} {a : EM} {lo hi : Env → Option (Option Int)} (ha : SE ct Wx ta a) (hl : SPO tl lo) (hh : SPO th hi) : SE ct Wx (tSl (rSlL K) ta tl th) (eSlE a lo hi) := fun W S0 ρ σ tm vm H Q g k => by
  refine ha W S0 ρ σ tm vm H _ g ((Out.P_bnd.mp k).mono (fun t ρ1 k1 v H1 g1 => ?_) fun _ _ h => h)
  obtain ⟨z, e, k⟩ := P_opt k1
  obtain ⟨ts, e2, e⟩ := some_bind e
  obtain ⟨l, e3, e⟩ := some_bind e
  obtain ⟨h, e4, e⟩ := some_bind e
  cases e
  refine hl ρ1 σ H1 g1.rv l e3 _ fun H2 s2 => hh ρ1 σ H2 (g1.ext s2).rv h e4 _ fun H3 s3 => ?_
  obtain ⟨p, xs, rfl, h1, h2, g2⟩ := ((g1.ext s2).ext s3).els e2
  refine ⟨p, xs, rfl, .of h1, fun q hq => k _ _ ?_⟩
  have g3 := g2.sub (us := cutD ts l h) (ws := cutV xs l h) h2 fun S H b hb => hb.cut
  exact g3.newL (by unfold cutD cutV; simp [h2]) hq
/-- list(p), p a list or tuple at a place; list(e) -/
def rListU (K : PySem.W.Frag) : List V → Hp → VK → Prop := fun xs H Q => ∃ p ys, xs = [.ref p] ∧ (SqL K H p ys ∨ SqT K H p ys) ∧ ∀ l, H l = none → Q (.ref l) (upd H l (.lst ys))
def T.elsU (t : T) : Option (List T) := match t.els with
  | some l => some l
  | none => t.elsT
def T.shsU (t : T) : Option (List D) := match t.shs with
  | some l => some l
  | none => t.shsT
theorem Rt.shsU {S H : Hp} {K : PySem.W.Frag} {t : T} {v : V} {as : List Addr} {ds : List D} (e : Same S H) (h : Rt S H t v as) (k : t.shsU = some ds) : ∃ a xs, v = .ref a ∧ (SqL K H a xs ∨ SqT K H a xs) ∧ Rpl S ds xs := by
  unfold T.shsU at k
  split at k
  · rename_i l e1
    cases k
    obtain ⟨a, xs, h1, h2, h3⟩ := h.shs e e1
    exact ⟨a, xs, h1, .inl (.of h2), h3⟩
  · obtain ⟨a, xs, h1, h2, h3⟩ := h.shsT e k
    exact ⟨a, xs, h1, .inr (.of h2), h3⟩
def eList (a : Env → Option T) : EM := fun ρ => optO ((a ρ).bind fun t => t.shsU.bind fun ds => some (.ol (ds.map .sh))) ρ
theorem se_list {K : PySem.W.Frag} {ta : TE} {a : Env → Option T} (ha : SV ta a) : SE ct Wx (tCB (rListU K) (tCons ta tNil)) (eList a) := fun W S0 ρ σ tm vm H Q g k => by
  obtain ⟨z, e, k⟩ := P_opt k
  obtain ⟨t, e1, e⟩ := some_bind e
  obtain ⟨ds, e2, e⟩ := some_bind e
  cases e
  obtain ⟨S, as, bs, g⟩ := g
  refine ha W S0 S ρ σ tm vm H as bs g t e1 _ fun v H1 s1 ⟨cs, c1, c2⟩ => ?_
  have g1 := g.ext s1
  obtain ⟨p, xs, rfl, h1, h2⟩ := c2.shsU (K := K) g1.sh e2
  exact ⟨p, xs, rfl, h1, fun q hq => k _ _ ((g1.pushSs h2).newL (by simp [h2.len]) hq)⟩
theorem GX.elsU {K : PySem.W.Frag} (g : GX W S0 ρ σ (t :: tm) (v :: vm) H) (e : t.elsU = some ts) : ∃ a xs, v = .ref a ∧ (SqL K H a xs ∨ SqT K H a xs) ∧ xs.length = ts.length ∧ GX W S0 ρ σ (ts ++ tm) (xs ++ vm) H := by
  unfold T.elsU at e
  split at e
  · rename_i l e1
    cases e
    obtain ⟨a, xs, h1, h2, h3⟩ := g.els e1
    exact ⟨a, xs, h1, .inl (.of h2), h3⟩
  · obtain ⟨a, xs, h1, h2, h3⟩ := g.elsT e
    exact ⟨a, xs, h1, .inr (.of h2), h3⟩
def listT : List T → Option T
  | [t] => t.elsU.map .ol
  | _ => none
theorem ce_list {K : PySem.W.Frag} : CallE (rListU K) listT := fun W S0 ρ σ tm vm H ts vs z Q g e0 e k => by
  match ts, vs, e0, e, g with
  | [t], [v], _, e, g =>
    obtain ⟨us, e1, rfl⟩ := Option.map_eq_some_iff.mp e
    obtain ⟨a, xs, rfl, h1, h2, g1⟩ := GX.elsU (K := K) g e1
    exact ⟨a, xs, rfl, h1, fun q hq => k _ _ (g1.newL h2 hq)⟩
def rTupU (K : PySem.W.Frag) : List V → Hp → VK → Prop := fun xs H Q => ∃ p ys, xs = [.ref p] ∧ ((SqL K H p ys ∧ ∀ l, H l = none → Q (.ref l) (upd H l (.tup ys))) ∨ (SqT K H p ys ∧ Q (.ref p) H))
def tupT : List T → Option T
  | [t] => match t.els with
    | some l => some (.ot l)
    | none => match t.elsT with
      | some _ => some t
      | none => none
  | _ => none
theorem ce_tup {K : PySem.W.Frag} : CallE (rTupU K) tupT := fun W S0 ρ σ tm vm H ts vs z Q g e0 e k => by
  match ts, vs, e0, e, g with
  | [t], [v], _, e, g =>
    unfold tupT at e
    simp only at e
    split at e
    · rename_i l e1
      cases e
      obtain ⟨a, xs, rfl, h1, h2, g1⟩ := g.els e1
      exact ⟨a, xs, rfl, .inl ⟨.of h1, fun q hq => k _ _ (g1.newT h2 hq)⟩⟩
    · split at e
      · rename_i l e1
        cases e
        obtain ⟨a, xs, rfl, h1, h2, g1⟩ := g.elsT e1
        exact ⟨a, xs, rfl, .inr ⟨.of h1, k _ _ g⟩⟩
      · cases e
/-! ### tests and choices -/
def eB (a : EM) : EMb := fun ρ => (a ρ).bnd fun t ρ => optO (t.d.tru) ρ
theorem set_b {te : TE} {a : EM} (ha : SE ct Wx te a) : SET ct Wx (tB te) (eB a) := fun W S0 ρ σ tm vm H Q g k => by
  refine ha W S0 ρ σ tm vm H _ g ((Out.P_bnd.mp k).mono (fun t ρ1 k1 v H1 g1 => ?_) fun _ _ h => h)
  obtain ⟨b, e, k⟩ := P_opt k1
  have := g1.tmp
  rw [tru_bl e] at this
  exact ⟨b, this, k H1 g1.pop1⟩
theorem set_test {te : TE} {a : EM} (ha : SE ct Wx te a) : SET ct Wx (tTest te) (eB a) := fun W S0 ρ σ tm vm H Q g k => by
  refine ha W S0 ρ σ tm vm H _ g ((Out.P_bnd.mp k).mono (fun t ρ1 k1 v H1 g1 => ?_) fun _ _ h => h)
  obtain ⟨b, e, k⟩ := P_opt k1
  have := g1.tmp
  rw [tru_bl e] at this
  exact ⟨b, this, k H1 g1.pop1⟩
def eT (t : TM) : EMb := fun ρ => optO (t ρ) ρ
theorem set_p {tt : TT} {t : TM} (h : SPT tt t) : SET ct Wx tt (eT t) := fun W S0 ρ σ tm vm H Q g k => by
  obtain ⟨b, e, k⟩ := P_opt k
  exact h ρ σ H g.rv b e Q fun H' es => k H' (g.ext es)
def eAnd (a b : EMb) : EMb := fun ρ => (a ρ).bnd fun c ρ => if c = true then b ρ else .ok false ρ
def eOr (a b : EMb) : EMb := fun ρ => (a ρ).bnd fun c ρ => if c = true then .ok true ρ else b ρ
def eNot (a : EMb) : EMb := fun ρ => (a ρ).bnd fun c ρ => .ok (!c) ρ
theorem set_and {ta tb : TT} {a b : EMb} (ha : SET ct Wx ta a) (hb : SET ct Wx tb b) : SET ct Wx (tAnd ta tb) (eAnd a b) := fun W S0 ρ σ tm vm H Q g k => by
  refine ha W S0 ρ σ tm vm H _ g ((Out.P_bnd.mp k).mono (fun c ρ1 k1 H1 g1 => ?_) fun _ _ h => h)
  cases c with
  | true => exact hb W S0 ρ1 σ tm vm H1 Q g1 k1
  | false => exact k1 H1 g1
theorem set_or {ta tb : TT} {a b : EMb} (ha : SET ct Wx ta a) (hb : SET ct Wx tb b) : SET ct Wx (tOr ta tb) (eOr a b) := fun W S0 ρ σ tm vm H Q g k => by
  refine ha W S0 ρ σ tm vm H _ g ((Out.P_bnd.mp k).mono (fun c ρ1 k1 H1 g1 => ?_) fun _ _ h => h)
  cases c with
  | false => exact hb W S0 ρ1 σ tm vm H1 Q g1 k1
  | true => exact k1 H1 g1
theorem set_not {ta : TT} {a : EMb} (ha : SET ct Wx ta a) : SET ct Wx (tNot ta) (eNot a) := fun W S0 ρ σ tm vm H Q g k => by
  refine ha W S0 ρ σ tm vm H _ g ((Out.P_bnd.mp k).mono (fun c ρ1 k1 H1 g1 => k1 H1 g1) fun _ _ h => h)
def eAndV (a b : EM) : EM := fun ρ => (a ρ).bnd fun t ρ => match t.d.tru with
  | some true => b ρ
  | some false => .ok (.sh (.bl false)) ρ
  | none => .bad
def eOrV (a b : EM) : EM := fun ρ => (a ρ).bnd fun t ρ => match t.d.tru with
  | some false => b ρ
  | some true => .ok (.sh (.bl true)) ρ
  | none => .bad
theorem se_andV {ta tb : TE} {a b : EM} (ha : SE ct Wx ta a) (hb : SE ct Wx tb b) : SE ct Wx (tAndV ta tb) (eAndV a b) := fun W S0 ρ σ tm vm H Q g k => by
  refine ha W S0 ρ σ tm vm H _ g ((Out.P_bnd.mp k).mono (fun t ρ1 k1 v H1 g1 => ?_) fun _ _ h => h)
  have q := g1.tmp
  split at k1
  · rename_i e
    rw [tru_bl e] at q
    exact ⟨true, q, hb W S0 ρ1 σ tm vm H1 Q g1.pop1 k1⟩
  · rename_i e
    rw [tru_bl e] at q
    exact ⟨false, q, k1 _ H1 (g1.pop1.pushC (S := H1) rfl rfl)⟩
  · exact k1.elim
theorem se_orV {ta tb : TE} {a b : EM} (ha : SE ct Wx ta a) (hb : SE ct Wx tb b) : SE ct Wx (tOrV ta tb) (eOrV a b) := fun W S0 ρ σ tm vm H Q g k => by
  refine ha W S0 ρ σ tm vm H _ g ((Out.P_bnd.mp k).mono (fun t ρ1 k1 v H1 g1 => ?_) fun _ _ h => h)
  have q := g1.tmp
  split at k1
  · rename_i e
    rw [tru_bl e] at q
    exact ⟨false, q, hb W S0 ρ1 σ tm vm H1 Q g1.pop1 k1⟩
  · rename_i e
    rw [tru_bl e] at q
    exact ⟨true, q, k1 _ H1 (g1.pop1.pushC (S := H1) rfl rfl)⟩
  · exact k1.elim
def eNotV (a : EM) : EM := fun ρ => (a ρ).bnd fun t ρ => optO (t.d.tru.map fun c => .sh (.bl (!c))) ρ
theorem se_notV {ta : TE} {a : EM} (ha : SE ct Wx ta a) : SE ct Wx (tNotV ta) (eNotV a) := fun W S0 ρ σ tm vm H Q g k => by
  refine ha W S0 ρ σ tm vm H _ g ((Out.P_bnd.mp k).mono (fun t ρ1 k1 v H1 g1 => ?_) fun _ _ h => h)
  obtain ⟨z, e, k1⟩ := P_opt k1
  obtain ⟨c, e1, rfl⟩ := Option.map_eq_some_iff.mp e
  have q := g1.tmp
  rw [tru_bl e1] at q
  exact ⟨c, q, k1 _ H1 (g1.pop1.pushC (S := H1) rfl rfl)⟩
def eIf (c : EMb) (a b : EM) : EM := fun ρ => (c ρ).bnd fun k ρ => if k = true then a ρ else b ρ
theorem se_if {tc : TT} {ta tb : TE} {c : EMb} {a b : EM} (hc : SET ct Wx tc c) (ha : SE ct Wx ta a) (hb : SE ct Wx tb b) : SE ct Wx (tIf tc ta tb) (eIf c a b) := fun W S0 ρ σ tm vm H Q g k => by
  refine hc W S0 ρ σ tm vm H _ g ((Out.P_bnd.mp k).mono (fun k ρ1 k1 H1 g1 => ?_) fun _ _ h => h)
  cases k with
  | true => exact ha W S0 ρ1 σ tm vm H1 Q g1 k1
  | false => exact hb W S0 ρ1 σ tm vm H1 Q g1 k1
/-- an item of what an expression makes, at a reckoned place -/
def ixT (t u : T) : Option T := t.kids.bind fun l => u.d.intO.bind fun i => atI l i
theorem oe_ix {K : PySem.W.Frag} : OpE (rIx K) ixT := fun W S0 ρ σ tm vm H t u v w z Q g e k => by
  obtain ⟨l, e1, e⟩ := some_bind e
  obtain ⟨i, e2, e⟩ := some_bind e
  have q := g.tmp
  rw [intO_int e2] at q
  cases q
  obtain ⟨S, as, bs, g⟩ := g.pop1
  obtain ⟨v', r, b, c, h3, rfl, h4, h5⟩ := g.rt
  simp only [List.cons.injEq] at h3
  obtain ⟨rfl, rfl⟩ := h3
  have nd := g.nd
  have fs := g.fs
  have fw := g.fw
  refine h4.kid g.sh e1 e fun x ⟨b', k3, k2, k1⟩ => k x H ?_
  exact ⟨S, as, b' ++ c, g.s0, g.sh, g.wh, g.nw, g.re, ⟨x, vm, b', c, rfl, rfl, k1, h5⟩, by grind, by grind, by grind⟩
end
end Z

namespace Z
noncomputable section
open PySem L2
variable {ct : CT} {Wx : XW} {W S0 S H H' : Hp} {ρ : Env} {σ : St} {t u : T} {ts us tm : List T} {v w : V} {vs ws vm : List V} {as bs : List Addr} {i : Nat} {d : D}
/-! ### defs by what they make of data -/
inductive FOut where
  | bad | ok (t : T) (ts : List T) | ex (x : Exn)
def FOut.P (Φ : T → List T → Prop) (Ψ : Exn → Prop) : FOut → Prop
  | .bad => False
  | .ok t ts => Φ t ts
  | .ex x => Ψ x
abbrev FM := List T → FOut
/-- a def's promise -/
def spM (ct : CT) (n : Nat) (F : FM) : Sp := fun vs H Q E => vs.length = n ∧ ∃ ts W S, GX W S [] [] ts vs H ∧
  (F ts).P (fun t ts' => ts'.length = n ∧ ∀ v H', GX W S [] [] (t :: ts') (v :: vs) H' → Q v H') (fun x => ∀ c d H', GX W S [] [] [] [] H' → XOk ct x c d H' → E c d H')
def T.fz (t : T) : T := .sh t.d
theorem GX.frzs : ∀ {ts tm : List T} {vs vm : List V}, vs.length = ts.length → GX W S0 ρ σ (ts ++ tm) (vs ++ vm) H → GX W S0 ρ σ (ts.map T.fz ++ tm) (vs ++ vm) H
  | [], _, [], _, _, g => g
  | t :: ts, tm, v :: vs, vm, e, g => by
    have g1 : GX W S0 ρ σ (t.fz :: (ts ++ tm)) (v :: (vs ++ vm)) H := g.frz
    have g2 := GX.unrot g1 (by simpa using e)
    have g3 := GX.frzs (ts := ts) (vs := vs) (tm := t.fz :: tm) (vm := v :: vm) (by simpa using e) g2
    have g4 := GX.rot g3 (by simpa using e)
    exact g4
theorem GX.nil_call {ts : List T} {vs : List V} (g : GX W S0 ρ σ (ts ++ tm) (vs ++ vm) H) (e : vs.length = ts.length) {F : FM} {n : Nat} {Q : VK} {E : XK} (hn : ts.length = n)
    (k : (F ts).P (fun t ts' => ts'.length = n ∧ ∀ v H', GX W S0 ρ σ (t :: (ts' ++ tm)) (v :: (vs ++ vm)) H' → Q v H') (fun x => ∀ c d H', GX W S0 ρ σ tm vm H' → XOk ct x c d H' → E c d H')) : spM ct n F vs H Q E := by
  obtain ⟨W', S', g1, back⟩ := g.call e
  refine ⟨e.trans hn, ts, W', S', g1, ?_⟩
  generalize ho : F ts = o
  rw [ho] at k
  cases o with
  | bad => exact k
  | ok t ts' => exact ⟨k.1, fun v H' g2 => k.2 v H' (back (t :: ts') (v :: vs) H' (by simp [k.1, e, hn]) g2)⟩
  | ex x => exact fun c d H' g2 hx => k c d H' (back [] [] H' rfl g2) hx
/-- a call, all arguments handed over as they are read -/
def eCall (n : Nat) (F : FM) (a : EMs) : EM := fun ρ => (a ρ).bnd fun ts ρ => if ts.length = n then match F (ts.map T.fz) with
  | .ok t ts' => if ts'.length = n then .ok t ρ else .bad
  | .ex x => .ex x ρ
  | .bad => .bad else .bad
theorem se_call {n : Nat} {F : FM} {ta : TA} {a : EMs} (ha : SEA ct Wx ta a) : SE ct Wx (tCallS (spM ct n F) (WE Wx) ta) (eCall n F a) := fun W S0 ρ σ tm vm H Q g k => by
  refine ha W S0 ρ σ tm vm H _ g ((Out.P_bnd.mp k).mono (fun ts ρ1 k1 vs H1 e1 g1 => ?_) fun _ _ h => h)
  obtain ⟨hn, k1⟩ := P_ite k1
  refine (g1.frzs e1).nil_call (by simp [e1]) (by simpa using hn) ?_
  generalize F (ts.map T.fz) = o at k1 ⊢
  cases o with
  | bad => exact k1
  | ok t ts' =>
    obtain ⟨hl, k1⟩ := P_ite k1
    refine ⟨hl, fun v H' g2 => k1 v H' ?_⟩
    have g3 : GX W S0 ρ1 σ (ts' ++ t :: tm) (vs ++ v :: vm) H' := GX.unrot g2 (by omega)
    exact g3.pop (by omega)
  | ex x => exact fun c d H' g2 hx => k1 c d H' g2 hx
/-- the same where no exception is let out (in a comprehension) -/
theorem se_call0 {n : Nat} {F : FM} {ta : TA} {a : EMs} (ha : SEA ct (fun _ _ _ _ => False) ta a) : SE ct (fun _ _ _ _ => False) (tCall (spM ct n F) [] E0 ta) (eCall n F a) := fun W S0 ρ σ tm vm H Q g k => by
  have h := se_call (n := n) (F := F) ha W S0 ρ σ tm vm H Q g k
  unfold tCall
  unfold tCallS at h
  simpa using h
/-- .. with a name's value first, that the def may change -/
def eCallI (n i : Nat) (F : FM) (a : EMs) : EM := fun ρ => match ρ[i]? with
  | some (some _) => (a ρ).bnd fun ts ρ => match ρ[i]? with
    | some (some t0) => if ts.length + 1 = n then match F (t0 :: ts.map T.fz) with
      | .ok t (t1 :: ts') => if ts'.length + 1 = n then .ok t (ρ.set i (some t1)) else .bad
      | .ex x => .ex x (ρ.set i none)
      | _ => .bad else .bad
    | _ => .bad
  | _ => .bad
theorem se_callI {n i : Nat} {F : FM} {ta : TA} {a : EMs} (ha : SEA ct Wx ta a) : SE ct Wx (tCallS (spM ct n F) (WE Wx) (tCons (tVar i) ta)) (eCallI n i F a) := fun W S0 ρ σ tm vm H Q g k => by
  unfold eCallI at k
  split at k
  case h_2 => exact k.elim
  rename_i t00 e00
  obtain ⟨v0, hv0, _⟩ := g.take e00
  refine ⟨v0, hv0, ?_⟩
  refine ha W S0 ρ σ tm vm H _ g ((Out.P_bnd.mp k).mono (fun ts ρ1 k1 vs H1 e1 g1 => ?_) fun _ _ h => h)
  split at k1
  case h_2 => exact k1.elim
  rename_i t0 e0
  obtain ⟨hn, k1⟩ := P_ite k1
  obtain ⟨v1, hv1, g2⟩ := g1.take e0
  rw [hv0] at hv1
  cases hv1
  have g3 : GX W S0 (ρ1.set i none) σ (t0 :: (ts.map T.fz ++ tm)) (v0 :: (vs ++ vm)) H1 := by
    have h1 := GX.unrot g2 e1
    have h2 := GX.frzs e1 h1
    exact GX.rot h2 (by simpa using e1)
  refine GX.nil_call (ts := t0 :: ts.map T.fz) (vs := v0 :: vs) g3 (by simp [e1]) (by simpa using hn) ?_
  generalize F (t0 :: ts.map T.fz) = o at k1 ⊢
  cases o with
  | bad => exact k1
  | ok t ts' =>
    cases ts' with
    | nil => exact k1.elim
    | cons t1 ts' =>
      obtain ⟨hl, k1⟩ := P_ite k1
      refine ⟨by simpa using hl, fun v H' g4 => k1 v H' ?_⟩
      have g5 : GX W S0 (ρ1.set i none) σ (t :: t1 :: (ts' ++ tm)) (v :: v0 :: (vs ++ vm)) H' := g4
      have g7 : GX W S0 (ρ1.set i none) σ (t1 :: t :: (ts' ++ tm)) (v0 :: v :: (vs ++ vm)) H' := GX.rot (ts := [t]) (vs := [v]) g5 rfl
      have g8 := g7.back hv0
      rw [List.set_set] at g8
      have g9 : GX W S0 (ρ1.set i (some t1)) σ (ts' ++ t :: tm) (vs ++ v :: vm) H' := GX.unrot g8 (by omega)
      exact g9.pop (by omega)
  | ex x => exact fun c d H' g4 hx => k1 c d H' g4 hx
theorem se_callI0 {n i : Nat} {F : FM} {ta : TA} {a : EMs} (ha : SEA ct (fun _ _ _ _ => False) ta a) : SE ct (fun _ _ _ _ => False) (tCall (spM ct n F) [] E0 (tCons (tVar i) ta)) (eCallI n i F a) := fun W S0 ρ σ tm vm H Q g k => by
  have h := se_callI (n := n) (F := F) ha W S0 ρ σ tm vm H Q g k
  unfold tCall
  unfold tCallS at h
  simpa using h
/-- a call whose answer is read only: arguments are read where they stand -/
def pCall (n : Nat) (F : FM) (a : AM) : PM := fun ρ => (a ρ).bind fun ds => if ds.length = n then match F (ds.map T.sh) with
  | .ok t ts' => if ts'.length = n then some t.d else none
  | _ => none else none
theorem Rpl.gx {S : Hp} {ds : List D} {vs : List V} (h : Rpl S ds vs) : GX S S [] [] (ds.map T.sh) vs S :=
  ⟨S, [], [], fun _ _ h => h, fun _ _ h => h, fun _ _ h => h, fun _ _ h => h, ⟨rfl, rfl⟩, h.toRtl, .nil, by simp, by simp⟩
theorem sp_callG {n : Nat} {F : FM} {E : St → XK} {ta : TA} {a : AM} (ha : SPA ta a) : SP (tCallS (spM ct n F) E ta) (pCall n F a) := fun ρ σ H g d h Q q => by
  obtain ⟨ds, h1, h2⟩ := some_bind h
  obtain ⟨hn, h3⟩ := ite_some h2
  refine ha ρ σ H g ds h1 _ fun vs H1 e1 r1 => ⟨by rw [r1.len]; exact hn, ds.map T.sh, H1, H1, r1.gx, ?_⟩
  generalize hF : F (ds.map T.sh) = o at h3 ⊢
  cases o with
  | bad => cases h3
  | ex x => cases h3
  | ok t ts' =>
    obtain ⟨hl, h4⟩ := ite_some h3
    cases h4
    refine ⟨hl, fun v H' g2 => ?_⟩
    have e2 : Same H1 H' := by obtain ⟨_, _, _, g3⟩ := g2; exact g3.wh
    exact q v H' (e1.trans e2) g2.tmp
theorem sp_call0 {n : Nat} {F : FM} {ta : TA} {a : AM} (ha : SPA ta a) : SP (tCall (spM ct n F) [] E0 ta) (pCall n F a) := fun ρ σ H g d h Q q => by
  have h := sp_callG (ct := ct) (n := n) (F := F) (E := fun _ => E0) ha ρ σ H g d h Q q
  unfold tCall
  unfold tCallS at h
  simpa using h
end
end Z

namespace Z
noncomputable section
open PySem L2
variable {ct : CT} {Wx : XW} {W S0 S H H' : Hp} {ρ : Env} {σ σ0 : St} {t u : T} {ts us tm : List T} {v w : V} {vs ws vm : List V} {as bs : List Addr} {i : Nat} {d : D} {pin : List Nat} {D0 : Ends}
/-! ### statements -/
inductive SOut where
  | bad | nx (ρ : Env) | rt (t : T) (ρ : Env) | bk (ρ : Env) | ct (ρ : Env) | ex (x : Exn) (ρ : Env)
abbrev SM := Env → SOut
def Pin (pin : List Nat) (σ σ' : St) : Prop := ∀ i ∈ pin, σ'[i]? = σ[i]?
theorem Pin.refl : Pin pin σ σ := fun _ _ => rfl
theorem Pin.set {o : Option V} (h : Pin pin σ0 σ) (hi : i ∉ pin) : Pin pin σ0 (σ.set i o) := fun j hj => by
  rw [List.getElem?_set_ne (fun e => hi (by rw [e]; exact hj))]; exact h j hj
/-- what is wanted behind a statement -/
def SK (ct : CT) (Wx : XW) (W S0 : Hp) (pin : List Nat) (σ0 : St) (D : Ends) : SOut → Prop
  | .bad => False
  | .nx ρ => ∀ σ H, GX W S0 ρ σ [] [] H → Pin pin σ0 σ → D.nx σ H
  | .rt t ρ => ∀ v σ H, GX W S0 ρ σ [t] [v] H → Pin pin σ0 σ → D.rt v H
  | .bk ρ => ∀ σ H, GX W S0 ρ σ [] [] H → Pin pin σ0 σ → D.bk σ H
  | .ct ρ => ∀ σ H, GX W S0 ρ σ [] [] H → Pin pin σ0 σ → D.ct σ H
  | .ex x ρ => ∀ c d σ H, GX W S0 ρ σ [] [] H → Pin pin σ0 σ → XOk ct x c d H → Wx c d σ H
def SS (ct : CT) (Wx : XW) (pin : List Nat) (s : TS) (m : SM) : Prop := ∀ W S0 σ0 ρ σ H (D : Ends), GX W S0 ρ σ [] [] H → Pin pin σ0 σ → SK ct Wx W S0 pin σ0 D (m ρ) → s D σ H
def Out.st {α : Type} (o : Out α) (f : α → Env → SOut) : SOut := match o with
  | .bad => .bad
  | .ok a ρ => f a ρ
  | .ex x ρ => .ex x ρ
theorem SK.st {α : Type} {o : Out α} {f : α → Env → SOut} (p : Pin pin σ0 σ) (h : SK ct Wx W S0 pin σ0 D0 (o.st f)) : o.P (fun a ρ => SK ct Wx W S0 pin σ0 D0 (f a ρ)) (XE ct Wx W S0 σ [] []) := by
  cases o with
  | bad => exact h
  | ok a ρ => exact h
  | ex x ρ => exact fun c d H' g k => h c d σ H' g p k
def mSeq (a b : SM) : SM := fun ρ => match a ρ with
  | .nx ρ => b ρ
  | r => r
def mNil : SM := fun ρ => .nx ρ
theorem ss_nil : SS ct Wx pin tNext mNil := fun W S0 σ0 ρ σ H D g p k => k σ H g p
theorem ss_seq {s u : TS} {a b : SM} (ha : SS ct Wx pin s a) (hb : SS ct Wx pin u b) : SS ct Wx pin (tSeq s u) (mSeq a b) := fun W S0 σ0 ρ σ H D g p k => by
  refine ha W S0 σ0 ρ σ H { D with nx := u D } g p ?_
  unfold mSeq at k
  generalize a ρ = o at k ⊢
  cases o with
  | nx ρ' => exact fun σ' H' g' p' => hb W S0 σ0 ρ' σ' H' D g' p' k
  | _ => exact k
theorem GX.putA (g : GX W S0 ρ σ (t :: tm) (v :: vm) H) (i : Nat) : GX W S0 (ρ.set i (some t)) (σ.set i (some v)) tm vm H := by
  by_cases hi : i < ρ.length
  · exact g.put hi
  · rw [List.set_eq_of_length_le (by omega), List.set_eq_of_length_le (by rw [g.lenE]; omega)]; exact g.pop1
def mSet (i : Nat) (e : EM) : SM := fun ρ => (e ρ).st fun t ρ => .nx (ρ.set i (some t))
theorem ss_set {i : Nat} {te : TE} {e : EM} (he : SE ct Wx te e) (hi : i ∉ pin) : SS ct Wx pin (tAsg te (gName i)) (mSet i e) := fun W S0 σ0 ρ σ H D g p k => by
  refine he W S0 ρ σ [] [] H _ g ((SK.st p k).mono (fun t ρ1 k1 v H1 g1 => ?_) fun _ _ h => h)
  exact k1 _ _ (g1.putA i) (p.set hi)
def mDrop (e : EM) : SM := fun ρ => (e ρ).st fun _ ρ => .nx ρ
theorem ss_drop {te : TE} {e : EM} (he : SE ct Wx te e) : SS ct Wx pin (tDrop te) (mDrop e) := fun W S0 σ0 ρ σ H D g p k => by
  refine he W S0 ρ σ [] [] H _ g ((SK.st p k).mono (fun t ρ1 k1 v H1 g1 => ?_) fun _ _ h => h)
  exact k1 _ _ g1.pop1 p
def mRet (e : EM) : SM := fun ρ => (e ρ).st fun t ρ => .rt t ρ
theorem ss_ret {te : TE} {e : EM} (he : SE ct Wx te e) : SS ct Wx pin (tRet te) (mRet e) := fun W S0 σ0 ρ σ H D g p k => by
  refine he W S0 ρ σ [] [] H _ g ((SK.st p k).mono (fun t ρ1 k1 v H1 g1 => ?_) fun _ _ h => h)
  exact k1 v σ H1 g1 p
def mRetN : SM := fun ρ => .rt (.sh .non) ρ
theorem ss_retN : SS ct Wx pin tRetN mRetN := fun W S0 σ0 ρ σ H D g p k => k .non σ H (g.pushC (S := H) rfl rfl) p
def mBk : SM := fun ρ => .bk ρ
def mCt : SM := fun ρ => .ct ρ
theorem ss_bk : SS ct Wx pin tBreak mBk := fun W S0 σ0 ρ σ H D g p k => k σ H g p
theorem ss_ct : SS ct Wx pin tCont mCt := fun W S0 σ0 ρ σ H D g p k => k σ H g p
def mIf (c : EMb) (a b : SM) : SM := fun ρ => (c ρ).st fun k ρ => if k = true then a ρ else b ρ
theorem ss_if {tc : TT} {s u : TS} {c : EMb} {a b : SM} (hc : SET ct Wx tc c) (ha : SS ct Wx pin s a) (hb : SS ct Wx pin u b) : SS ct Wx pin (tIfS tc s u) (mIf c a b) := fun W S0 σ0 ρ σ H D g p k => by
  refine hc W S0 ρ σ [] [] H _ g ((SK.st p k).mono (fun c ρ1 k1 H1 g1 => ?_) fun _ _ h => h)
  cases c with
  | true => exact ha W S0 σ0 ρ1 σ H1 D g1 p k1
  | false => exact hb W S0 σ0 ρ1 σ H1 D g1 p k1
/-- a, b = e1, e2 -/
def mPar (i j : Nat) (a : EMs) : SM := fun ρ => (a ρ).st fun ts ρ => match ts with
  | [t, u] => .nx ((ρ.set i (some t)).set j (some u))
  | _ => .bad
theorem ss_par {i j : Nat} {ta : TA} {a : EMs} (ha : SEA ct Wx ta a) (hi : i ∉ pin) (hj : j ∉ pin) : SS ct Wx pin (tPar i j ta) (mPar i j a) := fun W S0 σ0 ρ σ H D g p k => by
  refine ha W S0 ρ σ [] [] H _ g ((SK.st p k).mono (fun ts ρ1 k1 vs H1 e1 g1 => ?_) fun _ _ h => h)
  match ts, vs, e1, k1, g1 with
  | [t, u], [v, w], _, k1, g1 => exact ⟨v, w, rfl, k1 _ _ ((g1.putA i).putA j) ((p.set hi).set hj)⟩
def mPar3 (i j l : Nat) (a : EMs) : SM := fun ρ => (a ρ).st fun ts ρ => match ts with
  | [t, u, w] => .nx (((ρ.set i (some t)).set j (some u)).set l (some w))
  | _ => .bad
theorem ss_par3 {i j l : Nat} {ta : TA} {a : EMs} (ha : SEA ct Wx ta a) (hi : i ∉ pin) (hj : j ∉ pin) (hl : l ∉ pin) : SS ct Wx pin (tPar3 i j l ta) (mPar3 i j l a) := fun W S0 σ0 ρ σ H D g p k => by
  refine ha W S0 ρ σ [] [] H _ g ((SK.st p k).mono (fun ts ρ1 k1 vs H1 e1 g1 => ?_) fun _ _ h => h)
  match ts, vs, e1, k1, g1 with
  | [t, u, z], [v, w, y], _, k1, g1 => exact ⟨v, w, y, rfl, k1 _ _ (((g1.putA i).putA j).putA l) (((p.set hi).set hj).set hl)⟩

/-! ### targets -/
theorem wipe_get {σ : St} {i : Nat} : ∀ {vs : List Nat}, i ∉ vs → (wipe σ vs)[i]? = σ[i]?
  | [], _ => rfl
  | v :: vs, h => by
    unfold wipe
    rw [List.getElem?_set_ne (fun e => h (by simp [e])), wipe_get (fun k => h (by simp [k]))]
theorem wipe_in {σ : St} {i : Nat} : ∀ {vs : List Nat}, i ∈ vs → i < σ.length → (wipe σ vs)[i]? = some none
  | v :: vs, h, hl => by
    unfold wipe
    by_cases e : v = i
    · subst e
      rw [List.getElem?_set_self (by rw [wipe_length]; exact hl)]
    · rw [List.getElem?_set_ne e]
      exact wipe_in (by rcases List.mem_cons.mp h with h | h; exact absurd h.symm e; exact h) hl
theorem wipe_set {σ : St} {i : Nat} {o : Option V} {vs : List Nat} (h : i ∈ vs) : wipe (σ.set i o) vs = wipe σ vs := by
  apply List.ext_getElem?
  intro j
  by_cases hj : j ∈ vs
  · by_cases hl : j < σ.length
    · rw [wipe_in hj (by simpa using hl), wipe_in hj hl]
    · rw [List.getElem?_eq_none (by rw [wipe_length, List.length_set]; omega), List.getElem?_eq_none (by rw [wipe_length]; omega)]
  · rw [wipe_get hj, wipe_get hj, List.getElem?_set_ne (fun e => hj (by rw [← e]; exact h))]
abbrev BM := T → Env → Option Env
def SG (slots : List Nat) (g : TG) (b : BM) : Prop := ∀ W S0 ρ σ tm vm H t v ρ', GX W S0 ρ σ (t :: tm) (v :: vm) H → b t ρ = some ρ' → ∀ Q : St → Hp → Prop, (∀ σ', GX W S0 ρ' σ' tm vm H → wipe σ' slots = wipe σ slots → Q σ' H) → g v σ H Q
def bName (i : Nat) : BM := fun t ρ => some (ρ.set i (some t))
theorem sg_name {i : Nat} : SG [i] (gName i) (bName i) := fun W S0 ρ σ tm vm H t v ρ' g e Q q => by
  cases e
  exact q _ (g.putA i) (wipe_set (by simp))
def gNames : List Nat → TGs
  | [] => gNil
  | i :: is => gCons (gName i) (gNames is)
def bNames : List Nat → List T → Env → Option Env
  | [], [], ρ => some ρ
  | i :: is, t :: ts, ρ => bNames is ts (ρ.set i (some t))
  | _, _, _ => none
theorem sg_names {slots : List Nat} : ∀ {is : List Nat} {ts : List T} {vs : List V} {ρ ρ' : Env} {σ : St}, (∀ i ∈ is, i ∈ slots) → vs.length = ts.length → GX W S0 ρ σ (ts ++ tm) (vs ++ vm) H → bNames is ts ρ = some ρ' → ∀ Q : St → Hp → Prop, (∀ σ', GX W S0 ρ' σ' tm vm H → wipe σ' slots = wipe σ slots → Q σ' H) → gNames is vs σ H Q
  | [], [], [], ρ, ρ', σ, _, _, g, e, Q, q => by cases e; exact ⟨rfl, q σ g rfl⟩
  | i :: is, t :: ts, v :: vs, ρ, ρ', σ, hs, hl, g, e, Q, q => by
    refine ⟨v, vs, rfl, ?_⟩
    exact sg_names (ρ := ρ.set i (some t)) (σ := σ.set i (some v)) (fun j hj => hs j (by simp [hj])) (by simpa using hl) (GX.putA (tm := ts ++ tm) (vm := vs ++ vm) g i) e Q fun σ' g' k => q σ' g' (k.trans (wipe_set (hs i (by simp))))
  | [], _ :: _, _, _, _, _, _, _, _, e, _, _ => by cases e
  | _ :: _, [], _, _, _, _, _, _, _, e, _, _ => by cases e
  | _, _ :: _, [], _, _, _, _, hl, _, _, _, _ => by simp at hl
  | _, [], _ :: _, _, _, _, _, hl, _, _, _, _ => by simp at hl
def bTup (is : List Nat) : BM := fun t ρ => t.elsT.bind fun ts => bNames is ts ρ
theorem bNames_len : ∀ {is : List Nat} {ts : List T} {ρ ρ' : Env}, bNames is ts ρ = some ρ' → ts.length = is.length
  | [], [], _, _, _ => rfl
  | i :: is, t :: ts, ρ, ρ', e => by
    have := bNames_len (is := is) (ts := ts) (ρ := ρ.set i (some t)) (ρ' := ρ') e
    simp only [List.length_cons]
    omega
  | [], _ :: _, _, _, e => by cases e
  | _ :: _, [], _, _, e => by cases e
theorem sg_tup {K : PySem.W.Frag} {is : List Nat} {n : Nat} (hn : n = is.length) : SG is (gTup K n (gNames is)) (bTup is) := fun W S0 ρ σ tm vm H t v ρ' g e Q q => by
  obtain ⟨ts, e1, e2⟩ := some_bind e
  obtain ⟨a, xs, rfl, h1, h2, g1⟩ := g.elsT e1
  exact ⟨a, xs, rfl, .of h1, by rw [h2, bNames_len e2, hn], sg_names (fun _ h => h) h2 g1 e2 Q q⟩
def mUnp (b : BM) (e : EM) : SM := fun ρ => (e ρ).st fun t ρ => match b t ρ with
  | some ρ => .nx ρ
  | none => .bad
theorem Pin.wipe {slots : List Nat} {σ' : St} (h : Pin pin σ0 σ) (e : L2.wipe σ' slots = L2.wipe σ slots) (hs : ∀ i ∈ slots, i ∉ pin) : Pin pin σ0 σ' := fun j hj => by
  have hn : j ∉ slots := fun k => hs j k hj
  have := congrArg (fun l => l[j]?) e
  simp only [wipe_get hn] at this
  rw [this]; exact h j hj
theorem ss_unp {slots : List Nat} {te : TE} {e : EM} {g : TG} {b : BM} (he : SE ct Wx te e) (hg : SG slots g b) (hs : ∀ i ∈ slots, i ∉ pin) : SS ct Wx pin (tAsg te g) (mUnp b e) := fun W S0 σ0 ρ σ H D gx p k => by
  refine he W S0 ρ σ [] [] H _ gx ((SK.st p k).mono (fun t ρ1 k1 v H1 g1 => ?_) fun _ _ h => h)
  split at k1
  · rename_i ρ' e1
    exact hg W S0 ρ1 σ [] [] H1 t v ρ' g1 e1 _ fun σ' g2 e2 => k1 σ' H1 g2 (p.wipe e2 hs)
  · exact k1.elim
/-! ### owned lists change -/
/-- x[k] = e -/
def mStore (i : Nat) (e : EM) (ix : PM) : SM := fun ρ => (e ρ).st fun t ρ => match ρ[i]?, ix ρ with
  | some (some (.ol ts)), some (.int k) => match ixN ts.length k with
    | some j => .nx (ρ.set i (some (.ol (ts.set j t))))
    | none => .bad
  | _, _ => .bad
theorem ss_store {i : Nat} {te ti : TE} {e : EM} {ix : PM} (he : SE ct Wx te e) (hx : SP ti ix) : SS ct Wx pin (tAsg te (gSub (tVar i) ti rSetL)) (mStore i e ix) := fun W S0 σ0 ρ σ H D g p k => by
  refine he W S0 ρ σ [] [] H _ g ((SK.st p k).mono (fun t ρ1 k1 v H1 g1 => ?_) fun _ _ h => h)
  split at k1
  case h_2 => exact k1.elim
  rename_i ts k e1 e2
  split at k1
  case h_2 => exact k1.elim
  rename_i j e3
  obtain ⟨x, hx1, g2⟩ := g1.take e1
  refine ⟨x, hx1, hx ρ1 σ H1 g1.rv _ e2 _ fun y H2 es r => ?_⟩
  cases r
  obtain ⟨a, xs, rfl, h1, h2, mk⟩ := (g2.ext es).mutL
  refine ⟨a, xs, k, j, rfl, rfl, h1, by rw [h2]; exact e3, ?_⟩
  have hj : j < ts.length := (ixN_seq e3).2.1
  have g3 := mk (ts.set j t) [] (xs.set j v) [] (fun S H b c hb hc => by
    obtain ⟨v', r, c1, c2, h3, rfl, h4, h5⟩ := hc
    cases h3
    obtain ⟨_, rfl⟩ := h5
    obtain ⟨w, b1, d1, d2, k1, rfl, k2, k3⟩ := hb.at (List.getElem?_eq_getElem hj)
    refine ⟨b1 ++ c1 ++ d2, [], k3 S H t v c1 (fun _ _ h => h) (fun _ _ => rfl) h4, ⟨rfl, rfl⟩, by grind, by grind⟩)
  have g4 := g3.back hx1
  rw [List.set_set] at g4
  exact k1 _ _ g4 p
/-- x.append(e) -/
def mApp (i : Nat) (e : EM) : SM := fun ρ => (e ρ).st fun t ρ => match ρ[i]? with
  | some (some (.ol ts)) => if ts.length < lim then .nx (ρ.set i (some (.ol (ts ++ [t])))) else .bad
  | _ => .bad
theorem SK_ite {c : Prop} [Decidable c] {o : SOut} (h : SK ct Wx W S0 pin σ0 D0 (if c then o else .bad)) : c ∧ SK ct Wx W S0 pin σ0 D0 o := by
  by_cases k : c
  · rw [if_pos k] at h; exact ⟨k, h⟩
  · rw [if_neg k] at h; exact h.elim
def mAppG (i : Nat) (e : EM) : SM := fun ρ => match ρ[i]? with
  | some (some (.ol _)) => mApp i e ρ
  | _ => .bad
/-- the list at a name that an expression evaluated ahead of others has read -/
theorem GX.refL (g : GX W S0 ρ σ tm vm H) (e : ρ[i]? = some (some (.ol ts))) : ∃ a xs, σ[i]? = some (some (.ref a)) ∧ H a = some (.lst xs) ∧ xs.length = ts.length := by
  obtain ⟨v, e1, g1⟩ := g.take e
  obtain ⟨a, xs, rfl, h1, h2, _⟩ := g1.mutL
  exact ⟨a, xs, e1, h1, h2⟩
theorem ss_app {K : PySem.W.Frag} {i : Nat} {te : TE} {e : EM} (he : SE ct Wx te e) : SS ct Wx pin (tDrop (tBM K "list" rAppend (tVar i) (tCons te tNil))) (mAppG i e) := fun W S0 σ0 ρ σ H D g p k => by
  unfold mAppG at k
  split at k
  case h_2 => exact k.elim
  rename_i ts0 e0
  obtain ⟨a0, xs0, ea, h0, _⟩ := g.refL e0
  refine ⟨.ref a0, ea, .inl ⟨rfl, xs0, .of h0⟩, ?_⟩
  refine he W S0 ρ σ [] [] H _ g ((SK.st p k).mono (fun t ρ1 k1 v H1 g1 => ?_) fun _ _ h => h)
  split at k1
  case h_2 => exact k1.elim
  rename_i ts e1
  obtain ⟨hz, k1⟩ := SK_ite k1
  obtain ⟨x, hx1, g2⟩ := g1.take e1
  rw [ea] at hx1
  cases hx1
  obtain ⟨a, xs, e5, h1, h2, mk⟩ := g2.mutL
  cases e5
  refine ⟨a0, xs, v, rfl, rfl, h1, lim_lt (by omega), ?_⟩
  have g3 := mk (ts ++ [t]) [] (xs ++ [v]) [] (fun S H b c hb hc => by
    obtain ⟨v', r, c1, c2, h3, rfl, h4, h5⟩ := hc
    cases h3
    obtain ⟨_, rfl⟩ := h5
    have h6 : Rtl S H [t] [v] c1 := ⟨v, [], c1, [], rfl, by simp, h4, rfl, rfl⟩
    exact ⟨b ++ c1, [], hb.append h6, ⟨rfl, rfl⟩, by grind, by grind⟩)
  have g4 := g3.back ea
  rw [List.set_set] at g4
  exact k1 _ _ g4 p
/-- x.extend(e) -/
def mExt (i : Nat) (e : EM) : SM := fun ρ => match ρ[i]? with
  | some (some (.ol _)) => (e ρ).st fun t ρ => match ρ[i]? with
    | some (some (.ol ts)) => match t.els with
      | some us => if ts.length + us.length ≤ lim then .nx (ρ.set i (some (.ol (ts ++ us)))) else .bad
      | none => .bad
    | _ => .bad
  | _ => .bad
theorem ss_ext {K : PySem.W.Frag} {i : Nat} {te : TE} {e : EM} (he : SE ct Wx te e) : SS ct Wx pin (tDrop (tBM K "list" rExtend (tVar i) (tCons te tNil))) (mExt i e) := fun W S0 σ0 ρ σ H D g p k => by
  unfold mExt at k
  split at k
  case h_2 => exact k.elim
  rename_i ts0 e0
  obtain ⟨a0, xs0, ea, h0, _⟩ := g.refL e0
  refine ⟨.ref a0, ea, .inl ⟨rfl, xs0, .of h0⟩, ?_⟩
  refine he W S0 ρ σ [] [] H _ g ((SK.st p k).mono (fun t ρ1 k1 v H1 g1 => ?_) fun _ _ h => h)
  split at k1
  case h_2 => exact k1.elim
  rename_i ts e1
  split at k1
  case h_2 => exact k1.elim
  rename_i us e2
  obtain ⟨hz, k1⟩ := SK_ite k1
  obtain ⟨b, ys, rfl, h3, h4, g1'⟩ := g1.els e2
  obtain ⟨x, hx1, g2⟩ := g1'.take e1
  rw [ea] at hx1
  cases hx1
  obtain ⟨a, xs, e5, h1, h2, mk⟩ := g2.mutL
  cases e5
  refine ⟨a0, b, xs, ys, rfl, rfl, h1, h3, lim_le (by omega), ?_⟩
  have g3 := mk (ts ++ us) [] (xs ++ ys) [] (fun S H b c hb hc => by
    have hc' : Rtl S H us ys c := by simpa using hc
    exact ⟨b ++ c, [], hb.append hc', ⟨rfl, rfl⟩, by grind, by grind⟩)
  have g4 := g3.back ea
  rw [List.set_set] at g4
  exact k1 _ _ g4 p
/-- x.pop() -/
def ePop (i : Nat) : EM := fun ρ => match ρ[i]? with
  | some (some (.ol ts)) => match ts[ts.length - 1]? with
    | some t => .ok t (ρ.set i (some (.ol ts.dropLast)))
    | none => .bad
  | _ => .bad
theorem Rtl.last {S H : Hp} {ts : List T} {vs : List V} {b : List Addr} {t : T} (h : Rtl S H ts vs b) (e : ts[ts.length - 1]? = some t) : ∃ v b' c, vs[vs.length - 1]? = some v ∧ Rtl S H ts.dropLast vs.dropLast b' ∧ Rt S H t v c ∧ b = b' ++ c := by
  have hl := h.len
  have hp : 0 < ts.length := by
    rcases Nat.eq_zero_or_pos ts.length with k | k
    · rw [List.length_eq_zero_iff.mp k] at e; simp at e
    · exact k
  have e1 : ts = ts.dropLast ++ [t] := by
    have := List.dropLast_concat_getLast (l := ts) (by intro k; rw [k] at hp; simp at hp)
    have h2 := (List.getElem?_eq_some_iff.mp e).2
    rw [List.getLast_eq_getElem, h2] at this
    exact this.symm
  have hv : vs ≠ [] := by intro k; rw [k] at hl; simp at hl; omega
  have e2 : vs = vs.dropLast ++ [vs.getLast hv] := (List.dropLast_concat_getLast hv).symm
  rw [e1, e2] at h
  obtain ⟨b', c, rfl, h1, h2⟩ := Rtl.split (by simp [hl]) h
  obtain ⟨w, r, c1, c2, h3, rfl, h4, h5⟩ := h2
  cases h3
  obtain ⟨_, rfl⟩ := h5
  refine ⟨_, b', c1, ?_, h1, h4, by simp⟩
  rw [List.getLast_eq_getElem]
  exact List.getElem?_eq_getElem _
theorem se_pop {K : PySem.W.Frag} {i : Nat} : SE ct Wx (tBM0 K "list" rPop (tVar i)) (ePop i) := fun W S0 ρ σ tm vm H Q g k => by
  unfold ePop at k
  split at k
  case h_2 => exact k.elim
  rename_i ts e1
  split at k
  case h_2 => exact k.elim
  rename_i t e2
  obtain ⟨x, hx1, g2⟩ := g.take e1
  obtain ⟨a, xs, rfl, h1, h2, mk⟩ := g2.mutL
  obtain ⟨y, hy⟩ : ∃ y, xs[xs.length - 1]? = some y := by
    have := (List.getElem?_eq_some_iff.mp e2).1
    exact ⟨_, List.getElem?_eq_getElem (by omega)⟩
  refine ⟨.ref a, hx1, .inl ⟨rfl, xs, .of h1⟩, a, xs, y, rfl, rfl, h1, hy, ?_⟩
  have g3 := mk ts.dropLast (t :: tm) xs.dropLast (y :: vm) (fun S H b c hb hc => by
    obtain ⟨w, b', c', k1, k2, k3, rfl⟩ := hb.last e2
    rw [hy] at k1
    cases k1
    exact ⟨b', c' ++ c, k2, ⟨y, vm, c', c, rfl, rfl, k3, hc⟩, by grind, by grind⟩)
  have g4 := g3.back hx1
  rw [List.set_set] at g4
  exact k y _ g4
/-- x.pop(k) -/
def ePopAt (i : Nat) (e : EM) : EM := fun ρ => match ρ[i]? with
  | some (some (.ol _)) => (e ρ).bnd fun u ρ => match ρ[i]? with
    | some (some (.ol ts)) => match u.d.intO with
      | some k => if InR k then match seqIndex? k ts.length with
        | some j => match ts[j]? with
          | some t => .ok t (ρ.set i (some (.ol (ts.eraseIdx j))))
          | none => .bad
        | none => .bad else .bad
      | none => .bad
    | _ => .bad
  | _ => .bad
theorem Rtl.erase {S H : Hp} : ∀ {ts : List T} {vs : List V} {b : List Addr} {j : Nat} {t : T}, Rtl S H ts vs b → ts[j]? = some t → ∃ v b1 c b2, vs[j]? = some v ∧ b = b1 ++ c ++ b2 ∧ Rt S H t v c ∧ Rtl S H (ts.eraseIdx j) (vs.eraseIdx j) (b1 ++ b2)
  | [], _, _, _, _, _, e => by simp at e
  | u :: l, _, _, 0, t, ⟨v, r, b, c, h1, h2, h3, h4⟩, e => by
    subst h1 h2
    simp at e
    subst e
    exact ⟨v, [], b, c, rfl, rfl, h3, h4⟩
  | u :: l, _, _, j + 1, t, ⟨v, r, b, c, h1, h2, h3, h4⟩, e => by
    subst h1 h2
    simp at e
    obtain ⟨w, b1, c1, b2, e1, rfl, e3, e4⟩ := Rtl.erase h4 e
    exact ⟨w, b ++ b1, c1, b2, by simpa using e1, by simp [List.append_assoc], e3, ⟨v, _, b, b1 ++ b2, rfl, by simp [List.append_assoc], h3, e4⟩⟩
theorem se_popAt {K : PySem.W.Frag} {i : Nat} {te : TE} {e : EM} (he : SE ct Wx te e) : SE ct Wx (tBM K "list" rPopAt (tVar i) (tCons te tNil)) (ePopAt i e) := fun W S0 ρ σ tm vm H Q g k => by
  unfold ePopAt at k
  split at k
  case h_2 => exact k.elim
  rename_i ts0 e0
  obtain ⟨a0, xs0, ea, h0, _⟩ := g.refL e0
  refine ⟨.ref a0, ea, .inl ⟨rfl, xs0, .of h0⟩, ?_⟩
  refine he W S0 ρ σ tm vm H _ g ((Out.P_bnd.mp k).mono (fun u ρ1 k1 v H1 g1 => ?_) fun _ _ h => h)
  split at k1
  case h_2 => exact k1.elim
  rename_i ts e1
  split at k1
  case h_2 => exact k1.elim
  rename_i kk e2
  obtain ⟨hz0, k1⟩ := P_ite k1
  have hz1 : -(2 ^ 63) ≤ kk := by unfold InR at hz0; omega
  have hz2 : kk < 2 ^ 63 := by unfold InR at hz0; omega
  split at k1
  case h_2 => exact k1.elim
  rename_i j e3
  split at k1
  case h_2 => exact k1.elim
  rename_i t e4
  have q := g1.tmp
  rw [intO_int e2] at q
  cases q
  obtain ⟨x, hx1, g2⟩ := g1.pop1.take e1
  rw [ea] at hx1
  cases hx1
  obtain ⟨a, xs, e5, h1, h2, mk⟩ := g2.mutL
  cases e5
  obtain ⟨y, hy⟩ : ∃ y, xs[j]? = some y := by
    have := (List.getElem?_eq_some_iff.mp e4).1
    exact ⟨_, List.getElem?_eq_getElem (by omega)⟩
  refine ⟨a0, xs, kk, j, y, rfl, rfl, h1, hz1, hz2, by rw [h2]; exact e3, hy, ?_⟩
  have g3 := mk (ts.eraseIdx j) (t :: tm) (xs.eraseIdx j) (y :: vm) (fun S H b c hb hc => by
    obtain ⟨w, b1, c', b2, k1, rfl, k3, k4⟩ := hb.erase e4
    rw [hy] at k1
    cases k1
    exact ⟨b1 ++ b2, c' ++ c, k4, ⟨y, vm, c', c, rfl, rfl, k3, hc⟩, by grind, by grind⟩)
  have g4 := g3.back ea
  rw [List.set_set] at g4
  exact k1 y _ g4
/-- x += e, ints -/
def mAug (i : Nat) (f : Int → Int → Int) (e : EM) : SM := fun ρ => match ρ[i]? with
  | some (some (.sh (.int a))) => (e ρ).st fun t ρ => match t.d.intO with
    | some b => .nx (ρ.set i (some (.sh (.int (f a b)))))
    | none => .bad
  | _ => .bad
theorem ss_aug {i : Nat} {te : TE} {e : EM} {f : Int → Int → Int} (he : SE ct Wx te e) (hi : i ∉ pin) : SS ct Wx pin (tAug i te (ipI f)) (mAug i f e) := fun W S0 σ0 ρ σ H D g p k => by
  unfold mAug at k
  split at k
  case h_2 => exact k.elim
  rename_i a e0
  obtain ⟨v0, hv0, r0⟩ := g.rv i _ e0
  cases r0
  refine ⟨_, hv0, he W S0 ρ σ [] [] H _ g ((SK.st p k).mono (fun t ρ1 k1 v H1 g1 => ?_) fun _ _ h => h)⟩
  split at k1
  case h_2 => exact k1.elim
  rename_i b e1
  have q := g1.tmp
  rw [intO_int e1] at q
  refine ⟨a, b, rfl, q, k1 _ _ ?_ (p.set hi)⟩
  exact GX.putA (g1.pop1.pushC (S := H1) (d := .int (f a b)) (v := .int (f a b)) rfl rfl) i
end
end Z

namespace Z
noncomputable section
open PySem L2
variable {ct : CT} {Wx : XW} {W S0 S S1 H H' : Hp} {ρ ρ' : Env} {σ σ0 : St} {t u : T} {ts us tm its : List T} {v w : V} {vs ws vm : List V} {as bs : List Addr} {i : Nat} {d : D} {pin : List Nat} {D0 : Ends} {J : It}
def Up (W S0 S : Hp) : Prop := Same S0 S ∧ ∀ a, W a ≠ none → S a ≠ none → S0 a ≠ none
theorem G.up (g : G W S0 S H ρ σ tm vm as bs) : Up W S0 S ∧ G W S S H ρ σ tm vm as bs := ⟨⟨g.s0, g.nw⟩, fun _ _ h => h, g.sh, g.wh, fun _ _ h => h, g.re, g.rt, g.nd, g.fs, g.fw⟩
theorem Up.trans (a : Up W S0 S) (b : Up W S S1) : Up W S0 S1 := ⟨a.1.trans b.1, fun x h k => a.2 x h (b.2 x h k)⟩
theorem GX.join (e : Up W S0 S) (g : GX W S ρ σ tm vm H) : GX W S0 ρ σ tm vm H := by
  obtain ⟨S1, as, bs, g⟩ := g
  exact ⟨S1, as, bs, e.1.trans g.s0, g.sh, g.wh, fun a h k => e.2 a h (g.nw a h k), g.re, g.rt, g.nd, g.fs, g.fw⟩
theorem GX.up (g : GX W S0 ρ σ tm vm H) : ∃ S as bs, Up W S0 S ∧ G W S S H ρ σ tm vm as bs := by
  obtain ⟨S, as, bs, g⟩ := g
  exact ⟨S, as, bs, g.up.1, g.up.2⟩
theorem GX.under (g : GX W S ρ σ tm vm H) : Same S H := by
  obtain ⟨S1, as, bs, g⟩ := g
  exact fun a o h => g.sh a o (g.s0 a o h)
theorem XE.up {x : Exn} (e : Up W S0 S) (h : XE ct Wx W S0 σ tm vm x ρ) : XE ct Wx W S σ tm vm x ρ := fun c d H' g k => h c d H' (g.join e) k
theorem SK.up {o : SOut} (e : Up W S0 S) (h : SK ct Wx W S0 pin σ0 D0 o) : SK ct Wx W S pin σ0 D0 o := by
  cases o with
  | bad => exact h
  | nx ρ => exact fun σ H g p => h σ H (g.join e) p
  | rt t ρ => exact fun v σ H g p => h v σ H (g.join e) p
  | bk ρ => exact fun σ H g p => h σ H (g.join e) p
  | ct ρ => exact fun σ H g p => h σ H (g.join e) p
  | ex x ρ => exact fun c d σ H g p k => h c d σ H (g.join e) p k

/-! ### what is walked -/
structure JOk (S : Hp) (J : It) (its : List T) : Prop where
  go : ∀ i H, Same S H → i < its.length → J.go i H
  stop : ∀ i H, Same S H → its.length ≤ i → J.stop i H
  yld : ∀ i H x H', Same S H → i < its.length → J.yld i H x H' → ∃ t, its[i]? = some t ∧ ((H' = H ∧ ∃ d, t = .sh d ∧ Rp S d x) ∨ ∃ p es vs, t = .ot (es.map .sh) ∧ x = .ref p ∧ H p = none ∧ H' = upd H p (.tup vs) ∧ Rpl S es vs)
theorem GX.item {x : V} (g : GX W S ρ σ tm vm H) (h : (H' = H ∧ ∃ d, t = .sh d ∧ Rp S d x) ∨ ∃ p es vs, t = .ot (es.map .sh) ∧ x = .ref p ∧ H p = none ∧ H' = upd H p (.tup vs) ∧ Rpl S es vs) : GX W S ρ σ (t :: tm) (x :: vm) H' := by
  obtain ⟨S1, as, bs, g⟩ := g
  rcases h with ⟨rfl, d, rfl, h⟩ | ⟨p, es, vs, rfl, rfl, hp, rfl, h⟩
  · exact g.pushS (h.mono g.s0)
  · exact (g.pushSs (h.mono g.s0)).newT (by simp [h.len]) hp
abbrev IM := Env → Out (List T)
def SI (ct : CT) (Wx : XW) (wi : TI) (m : IM) : Prop := ∀ W S0 ρ σ tm vm H (R : It → Hp → Prop), GX W S0 ρ σ tm vm H → (m ρ).P (fun its ρ' => ∀ J S H', Up W S0 S → GX W S ρ' σ tm vm H' → JOk S J its → R J H') (XE ct Wx W S0 σ tm vm) → wi σ H R
def iSeq (K : PySem.W.Frag) (tl : TE) : TI := fun σ H R => tl σ H fun x H1 => ∃ a, x = .ref a ∧ (((∃ xs, SqL K H1 a xs) ∧ R (Itl K a) H1) ∨ ((∃ xs, SqT K H1 a xs) ∧ R (Itt K a) H1))
theorem pi_seq {X : Cx} {tg l : Expr} {tl : TE} (hl : PE X l tl) : PI X tg l (iSeq X.K tl) := by
  refine ⟨fun pins s σ H R I h => ?_⟩
  refine thn (hl.run pins s σ H _ I h) fun v s1 ⟨x, H1, I1, r1, q1⟩ => ?_
  obtain ⟨a, e, q⟩ := q1
  subst e
  cases r1
  rcases q with ⟨⟨xs, hq⟩, q⟩ | ⟨⟨xs, hq⟩, q⟩
  · obtain ⟨its, rv, p, hz⟩ := I1.list hq
    refine wpAny_pyIter_list p.isList ?_
    refine ⟨s1.heap.objs.size, [s1.heap.objs.size], _, _, H1, rfl, I1.kept (t' := s1.toks) fun b o e => Heap.get?_push_of_some _ e, turn_list a _, ⟨_, Heap.get?_push_size _ rfl, rfl, rfl⟩, fun b hb => ?_, q⟩
    have e : b = s1.heap.objs.size := by simpa using hb
    subst e
    exact I1.fpOk (Nat.le_refl _) (I1.hok.fresh (Nat.le_refl _))
  · obtain ⟨its, rv, p, hz⟩ := I1.tuple hq
    refine wpAny_pyIter_tuple (show s1.heap.IsTuple a its.toArray from p) ?_
    refine ⟨s1.heap.objs.size, [s1.heap.objs.size], _, _, H1, rfl, I1.kept (t' := s1.toks) fun b o e => Heap.get?_push_of_some _ e, turn_tuple a _, ⟨_, Heap.get?_push_size _ rfl, rfl, rfl⟩, fun b hb => ?_, q⟩
    have e : b = s1.heap.objs.size := by simpa using hb
    subst e
    exact I1.fpOk (Nat.le_refl _) (I1.hok.fresh (Nat.le_refl _))
theorem jok_list {K : PySem.W.Frag} {a : Addr} {l : List D} {xs : List V} (h : S a = some (.lst xs)) (r : Rpl S l xs) : JOk S (Itl K a) (l.map .sh) where
  go i H e hi := ⟨xs, xs[i]'(by simpa [r.len] using hi), .of (e _ _ h), List.getElem?_eq_getElem _⟩
  stop i H e hi := ⟨xs, .of (e _ _ h), by simpa [r.len] using hi⟩
  yld i H x H' e hi y := by
    obtain ⟨e1, y⟩ := y
    have hx := y xs (.of (e _ _ h))
    have hl : i < l.length := by simpa using hi
    obtain ⟨v, e2, e3⟩ := r.get (List.getElem?_eq_getElem hl)
    rw [hx] at e2
    cases e2
    exact ⟨.sh l[i], by simp [hl], .inl ⟨e1, _, rfl, e3⟩⟩
theorem jok_tup {K : PySem.W.Frag} {a : Addr} {l : List D} {xs : List V} (h : S a = some (.tup xs)) (r : Rpl S l xs) : JOk S (Itt K a) (l.map .sh) where
  go i H e hi := ⟨xs, xs[i]'(by simpa [r.len] using hi), .of (e _ _ h), List.getElem?_eq_getElem _⟩
  stop i H e hi := ⟨xs, .of (e _ _ h), by simpa [r.len] using hi⟩
  yld i H x H' e hi y := by
    obtain ⟨e1, y⟩ := y
    have hx := y xs (.of (e _ _ h))
    have hl : i < l.length := by simpa using hi
    obtain ⟨v, e2, e3⟩ := r.get (List.getElem?_eq_getElem hl)
    rw [hx] at e2
    cases e2
    exact ⟨.sh l[i], by simp [hl], .inl ⟨e1, _, rfl, e3⟩⟩
def rangeT (lo : Int) (n : Nat) : List T := (List.range n).map fun k : Nat => .sh (.int (lo + (k : Int)))
theorem rangeT_len {lo : Int} {n : Nat} : (rangeT lo n).length = n := by simp [rangeT]
theorem jok_range {lo : Int} {n : Nat} : JOk S (Itr lo n) (rangeT lo n) where
  go i H e hi := by
    show i < n
    simpa [rangeT] using hi
  stop i H e hi := by
    show n ≤ i
    simpa [rangeT] using hi
  yld i H x H' e hi y := by
    obtain ⟨e1, rfl⟩ := y
    have hi' : i < n := by simpa [rangeT] using hi
    exact ⟨.sh (.int (lo + i)), by simp [rangeT, hi'], .inl ⟨e1, _, rfl, rfl⟩⟩
def D.seq : D → Option (List D)
  | .lst l => some l
  | .tup l => some l
  | _ => none
def iE (e : EM) : IM := fun ρ => (e ρ).bnd fun t ρ => optO (t.d.seq.map fun l => l.map .sh) ρ
/-- a frozen temporary -/
theorem GX.frozen (g : GX W S0 ρ σ (t :: tm) (v :: vm) H) : ∃ S, Up W S0 S ∧ Rp S t.d v ∧ GX W S ρ σ tm vm H := by
  obtain ⟨S, as, bs, hu, g⟩ := g.frz.up
  obtain ⟨v', r, b, c, h3, h0, ⟨h4, h4'⟩, h5⟩ := g.rt
  cases h3
  exact ⟨S, hu, h4', GX.pop1 ⟨S, as, bs, g⟩⟩
theorem si_e {K : PySem.W.Frag} {te : TE} {e : EM} (he : SE ct Wx te e) : SI ct Wx (iSeq K te) (iE e) := fun W S0 ρ σ tm vm H R g k => by
  refine he W S0 ρ σ tm vm H _ g ((Out.P_bnd.mp k).mono (fun t ρ1 k1 v H1 g1 => ?_) fun _ _ h => h)
  obtain ⟨its, e1, k1⟩ := P_opt k1
  obtain ⟨l, e2, rfl⟩ := Option.map_eq_some_iff.mp e1
  obtain ⟨S, hu, hr, g2⟩ := g1.frozen
  generalize t.d = d at e2 hr
  cases d <;> first | (cases e2; done) | skip
  · cases e2
    obtain ⟨a, xs, rfl, h1, h2⟩ := hr
    exact ⟨a, rfl, .inl ⟨⟨xs, .of (g2.under _ _ h1)⟩, k1 _ S H1 hu g2 (jok_list h1 h2)⟩⟩
  · cases e2
    obtain ⟨a, xs, rfl, h1, h2⟩ := hr
    exact ⟨a, rfl, .inr ⟨⟨xs, .of (g2.under _ _ h1)⟩, k1 _ S H1 hu g2 (jok_tup h1 h2)⟩⟩
def iR1 (a : EMs) : IM := fun ρ => (a ρ).bnd fun ts ρ => match dl ts with
  | [.int j] => if InR j then .ok (rangeT 0 j.toNat) ρ else .bad
  | _ => .bad
theorem si_r1 {ta : TA} {a : EMs} (ha : SEA ct Wx ta a) : SI ct Wx (iRng1 ta) (iR1 a) := fun W S0 ρ σ tm vm H R g k => by
  refine ha W S0 ρ σ tm vm H _ g ((Out.P_bnd.mp k).mono (fun ts ρ1 k1 vs H1 e1 g1 => ?_) fun _ _ h => h)
  have q := g1.tmps e1
  split at k1
  case h_2 => exact k1.elim
  rename_i j ej
  rw [ej] at q
  obtain ⟨v, rfl, q1⟩ := rpl1 q
  cases q1
  obtain ⟨h0, k1⟩ := P_ite k1
  obtain ⟨h1, h2⟩ := h0.out
  obtain ⟨S, as, bs, hu, g2⟩ := (g1.pop e1).up
  exact ⟨j, rfl, h1, h2, k1 _ S H1 hu ⟨S, as, bs, g2⟩ jok_range⟩
def iR2 (a : EMs) : IM := fun ρ => (a ρ).bnd fun ts ρ => match dl ts with
  | [.int i, .int j] => if InR i ∧ InR j then .ok (rangeT i (j - i).toNat) ρ else .bad
  | _ => .bad
theorem si_r2 {ta : TA} {a : EMs} (ha : SEA ct Wx ta a) : SI ct Wx (iRng2 ta) (iR2 a) := fun W S0 ρ σ tm vm H R g k => by
  refine ha W S0 ρ σ tm vm H _ g ((Out.P_bnd.mp k).mono (fun ts ρ1 k1 vs H1 e1 g1 => ?_) fun _ _ h => h)
  have q := g1.tmps e1
  split at k1
  case h_2 => exact k1.elim
  rename_i i j ej
  rw [ej] at q
  obtain ⟨v, w, rfl, q1, q2⟩ := rpl2 q
  cases q1
  cases q2
  obtain ⟨⟨h1, h2⟩, k1⟩ := P_ite k1
  have h1 : -(2 ^ 62) ≤ i ∧ i < 2 ^ 62 ∧ -(2 ^ 62) ≤ j ∧ j < 2 ^ 62 := ⟨h1.out.1, h1.out.2, h2.out.1, h2.out.2⟩
  obtain ⟨S, as, bs, hu, g2⟩ := (g1.pop e1).up
  exact ⟨i, j, rfl, h1, k1 _ S H1 hu ⟨S, as, bs, g2⟩ jok_range⟩
def enumT : Nat → List D → List T
  | _, [] => []
  | k, d :: l => .ot ([D.int (k : Int), d].map .sh) :: enumT (k + 1) l
theorem enumT_get : ∀ {k : Nat} {l : List D} {i : Nat}, (enumT k l)[i]? = l[i]?.map fun d => .ot ([D.int ((k + i : Nat) : Int), d].map .sh)
  | _, [], _ => by simp [enumT]
  | k, d :: l, 0 => by simp [enumT]
  | k, d :: l, i + 1 => by
    have := enumT_get (k := k + 1) (l := l) (i := i)
    simp only [enumT, List.getElem?_cons_succ, this]
    rw [show k + 1 + i = k + (i + 1) from by omega]
theorem enumT_len : ∀ {k : Nat} {l : List D}, (enumT k l).length = l.length
  | _, [] => rfl
  | k, d :: l => by simp only [enumT, List.length_cons, enumT_len]
theorem jok_enum {K : PySem.W.Frag} {a : Addr} {l : List D} {xs : List V} (h : S a = some (.lst xs)) (r : Rpl S l xs) : JOk S (Ite K a) (enumT 0 l) where
  go i H e hi := ⟨xs, xs[i]'(by simpa [r.len, enumT_len] using hi), .of (e _ _ h), List.getElem?_eq_getElem _⟩
  stop i H e hi := ⟨xs, .of (e _ _ h), by simpa [r.len, enumT_len] using hi⟩
  yld i H x H' e hi y := by
    obtain ⟨p, z, rfl, h1, e1, y⟩ := y
    have hx := y xs (.of (e _ _ h))
    have hl : i < l.length := by simpa [enumT_len] using hi
    obtain ⟨v, e2, e3⟩ := r.get (List.getElem?_eq_getElem hl)
    rw [hx] at e2
    cases e2
    refine ⟨.ot ([D.int (i : Int), l[i]].map .sh), ?_, .inr ⟨p, [D.int (i : Int), l[i]], _, rfl, rfl, h1, e1, ⟨_, _, rfl, rfl, _, _, rfl, e3, rfl⟩⟩⟩
    rw [enumT_get, List.getElem?_eq_getElem hl]
    simp
def D.lstO : D → Option (List D)
  | .lst l => some l
  | _ => none
theorem lstO_some {d : D} {l : List D} (h : d.lstO = some l) : d = .lst l := by
  cases d <;> first | (cases h; rfl) | cases h
def iEn (a : EM) : IM := fun ρ => (a ρ).bnd fun t ρ => optO (t.d.lstO.map fun l => enumT 0 l) ρ
theorem si_en {K : PySem.W.Frag} {te : TE} {e : EM} (he : SE ct Wx te e) : SI ct Wx (iEnum K (tCons te tNil)) (iEn e) := fun W S0 ρ σ tm vm H R g k => by
  refine he W S0 ρ σ tm vm H _ g ((Out.P_bnd.mp k).mono (fun t ρ1 k1 v H1 g1 => ?_) fun _ _ h => h)
  obtain ⟨its, e1, k1⟩ := P_opt k1
  obtain ⟨l, e2, rfl⟩ := Option.map_eq_some_iff.mp e1
  obtain ⟨S, hu, hr, g2⟩ := g1.frozen
  rw [lstO_some e2] at hr
  obtain ⟨a, xs, rfl, h1, h2⟩ := hr
  exact ⟨a, xs, rfl, .of (g2.under _ _ h1), k1 _ S H1 hu g2 (jok_enum h1 h2)⟩
def zipT : List D → List D → List T
  | d :: l, e :: m => .ot ([d, e].map .sh) :: zipT l m
  | _, _ => []
theorem zipT_get : ∀ {l m : List D} {i : Nat} {d e : D}, l[i]? = some d → m[i]? = some e → (zipT l m)[i]? = some (.ot ([d, e].map .sh))
  | [], _, _, _, _, h, _ => by simp at h
  | _ :: _, [], _, _, _, _, h => by simp at h
  | d :: l, e :: m, 0, _, _, h, k => by simp at h k; subst h k; rfl
  | d :: l, e :: m, i + 1, _, _, h, k => by simp at h k; simpa [zipT] using zipT_get h k
theorem zipT_len : ∀ {l m : List D}, (zipT l m).length = min l.length m.length
  | [], _ => by simp [zipT]
  | _ :: _, [] => by simp [zipT]
  | d :: l, e :: m => by simp only [zipT, List.length_cons, zipT_len]; omega
theorem jok_zip {K : PySem.W.Frag} {a b : Addr} {l m : List D} {xs ys : List V} (h : S a = some (.lst xs)) (r : Rpl S l xs) (h' : S b = some (.lst ys)) (r' : Rpl S m ys) : JOk S (Itz K a b) (zipT l m) where
  go i H e hi := by
    rw [zipT_len] at hi
    exact ⟨xs, ys, xs[i]'(by rw [r.len]; omega), ys[i]'(by rw [r'.len]; omega), .of (e _ _ h), .of (e _ _ h'), List.getElem?_eq_getElem _, List.getElem?_eq_getElem _⟩
  stop i H e hi := by
    rw [zipT_len] at hi
    exact ⟨xs, ys, .of (e _ _ h), .of (e _ _ h'), by rw [r.len, r'.len]; omega⟩
  yld i H x H' e hi y := by
    rw [zipT_len] at hi
    obtain ⟨p, z, z', rfl, h1, e1, y, y'⟩ := y
    have hx := y xs (.of (e _ _ h))
    have hx' := y' ys (.of (e _ _ h'))
    have hl : i < l.length := by omega
    have hl' : i < m.length := by omega
    obtain ⟨v, e2, e3⟩ := r.get (List.getElem?_eq_getElem hl)
    obtain ⟨v', e2', e3'⟩ := r'.get (List.getElem?_eq_getElem hl')
    rw [hx] at e2
    cases e2
    rw [hx'] at e2'
    cases e2'
    exact ⟨_, zipT_get (List.getElem?_eq_getElem hl) (List.getElem?_eq_getElem hl'), .inr ⟨p, [l[i], m[i]], _, rfl, rfl, h1, e1, ⟨_, _, rfl, e3, _, _, rfl, e3', rfl⟩⟩⟩
def iZp (a b : EM) : IM := fun ρ => (a ρ).bnd fun t ρ => (b ρ).bnd fun u ρ => optO (t.d.lstO.bind fun l => u.d.lstO.map fun m => zipT l m) ρ
theorem si_zp {K : PySem.W.Frag} {te tf : TE} {e f : EM} (he : SE ct Wx te e) (hf : SE ct Wx tf f) : SI ct Wx (iZip K (tCons te (tCons tf tNil))) (iZp e f) := fun W S0 ρ σ tm vm H R g k => by
  refine he W S0 ρ σ tm vm H _ g ((Out.P_bnd.mp k).mono (fun t ρ1 k1 v H1 g1 => ?_) fun _ _ h => h)
  obtain ⟨S, hu, hr, g2⟩ := g1.frozen
  refine hf W S ρ1 σ tm vm H1 _ g2 ((Out.P_bnd.mp k1).mono (fun u ρ2 k2 w H2 g3 => ?_) fun _ _ h => h.up hu)
  obtain ⟨its, e1, k3⟩ := P_opt k2
  obtain ⟨l, e2, e1⟩ := some_bind e1
  obtain ⟨m, e3, rfl⟩ := Option.map_eq_some_iff.mp e1
  obtain ⟨S', hu', hr', g4⟩ := g3.frozen
  rw [lstO_some e2] at hr
  rw [lstO_some e3] at hr'
  obtain ⟨a, xs, rfl, h1, h2⟩ := hr
  obtain ⟨b, ys, rfl, h3, h4⟩ := hr'
  have h1' := hu'.1 _ _ h1
  exact ⟨a, b, xs, ys, rfl, .of (g4.under _ _ h1'), .of (g4.under _ _ h3), k3 _ S' H2 (hu.trans hu') g4 (jok_zip h1' (h2.mono hu'.1) h3 h4)⟩

/-! ### for -/
theorem for_J {g : TG} {tb : TS} {D : Ends} {σ : St} {H : Hp} (jo : JOk S J its) (Pv : Nat → St → Hp → Prop) (h0 : Pv 0 σ H) (hS : ∀ i σ H, Pv i σ H → Same S H)
    (hs : ∀ i t x σ H H', its[i]? = some t → Pv i σ H → ((H' = H ∧ ∃ d, t = .sh d ∧ Rp S d x) ∨ ∃ p es vs, t = .ot (es.map .sh) ∧ x = .ref p ∧ H p = none ∧ H' = upd H p (.tup vs) ∧ Rpl S es vs) → g x σ H' fun σ2 H2 => tb { D with nx := Pv (i + 1), ct := Pv (i + 1), bk := D.nx } σ2 H2) (hd : ∀ σ H, Pv its.length σ H → D.nx σ H) :
    ∃ W : Nat → Nat → St → Hp → Prop, (∃ m, W 0 m σ H) ∧ ∀ i m σ H, W i m σ H →
      (J.stop i H ∧ D.nx σ H) ∨ (J.go i H ∧ ∃ N : St → Hp → Prop, (∀ σ' H', N σ' H' → ∃ m', m' < m ∧ W (i + 1) m' σ' H') ∧ ∀ x H', J.yld i H x H' → g x σ H' fun σ2 H2 => tb { D with nx := N, ct := N, bk := D.nx } σ2 H2) := by
  refine ⟨fun i m σ H => m = its.length - i ∧ i ≤ its.length ∧ Pv i σ H, ⟨its.length, by simp, Nat.zero_le _, h0⟩, ?_⟩
  rintro i m σ H ⟨rfl, hi, p⟩
  have e := hS i σ H p
  by_cases hlt : i < its.length
  · refine .inr ⟨jo.go i H e hlt, Pv (i + 1), fun σ' H' p' => ⟨its.length - (i + 1), by omega, rfl, hlt, p'⟩, fun x H' y => ?_⟩
    obtain ⟨t, e1, y⟩ := jo.yld i H x H' e hlt y
    exact hs i t x σ H H' e1 p y
  · have e2 : i = its.length := by omega
    subst e2
    exact .inl ⟨jo.stop _ H e (Nat.le_refl _), hd σ H p⟩
def forL (b : BM) (body : SM) : List T → SM
  | [], ρ => .nx ρ
  | t :: ts, ρ => match b t ρ with
    | none => .bad
    | some ρ => match body ρ with
      | .nx ρ => forL b body ts ρ
      | .ct ρ => forL b body ts ρ
      | .bk ρ => .nx ρ
      | r => r
def mFor (src : IM) (b : BM) (body : SM) : SM := fun ρ => (src ρ).st fun its ρ => forL b body its ρ
theorem ss_for {slots : List Nat} {wi : TI} {g : TG} {tb : TS} {src : IM} {b : BM} {body : SM} (hi : SI ct Wx wi src) (hg : SG slots g b) (hs : ∀ i ∈ slots, i ∉ pin) (hb : SS ct Wx pin tb body) : SS ct Wx pin (tFor wi g tb) (mFor src b body) := fun W S0 σ0 ρ σ H D gx p k => by
  refine hi W S0 ρ σ [] [] H _ gx ((SK.st p k).mono (fun its ρ1 k1 J S H1 hu g1 jo => ?_) fun _ _ h => h)
  refine for_J jo (fun i σ' H' => i ≤ its.length ∧ ∃ ρ', GX W S ρ' σ' [] [] H' ∧ Pin pin σ0 σ' ∧ SK ct Wx W S pin σ0 D (forL b body (its.drop i) ρ')) ⟨Nat.zero_le _, ρ1, g1, p, k1.up hu⟩ (fun i σ' H' ⟨_, ρ', g', _⟩ => g'.under) ?_ ?_
  · rintro i t x σ' H' H2 e ⟨hle, ρ', g', p', k'⟩ y
    have hlt := (List.getElem?_eq_some_iff.mp e).1
    rw [List.drop_eq_getElem_cons hlt, (List.getElem?_eq_some_iff.mp e).2] at k'
    unfold forL at k'
    split at k'
    · exact k'.elim
    rename_i ρ2 e2
    refine hg W S ρ' σ' [] [] H2 t x ρ2 (g'.item y) e2 _ fun σ2 g2 ew => ?_
    refine hb W S σ0 ρ2 σ2 H2 _ g2 (p'.wipe ew hs) ?_
    generalize body ρ2 = o at k'
    cases o with
    | bad => exact k'
    | nx ρ3 => exact fun σ3 H3 g3 p3 => ⟨hlt, ρ3, g3, p3, k'⟩
    | ct ρ3 => exact fun σ3 H3 g3 p3 => ⟨hlt, ρ3, g3, p3, k'⟩
    | bk ρ3 => exact k'
    | rt t' ρ3 => exact k'
    | ex x' ρ3 => exact k'
  · rintro σ' H' ⟨_, ρ', g', p', k'⟩
    rw [List.drop_eq_nil_of_le (Nat.le_refl _)] at k'
    exact k' σ' H' g' p'
/-! ### while -/
def whileL (c : EMb) (body : SM) : Nat → SM
  | 0, _ => .bad
  | n + 1, ρ => (c ρ).st fun k ρ => if k = true then match body ρ with
      | .nx ρ => whileL c body n ρ
      | .ct ρ => whileL c body n ρ
      | .bk ρ => .nx ρ
      | r => r else .nx ρ
theorem ss_while {tc : TT} {tb : TS} {c : EMb} {body : SM} (n : Nat) (hc : SET ct Wx tc c) (hb : SS ct Wx pin tb body) : SS ct Wx pin (tWhile tc tb) (whileL c body n) := fun W S0 σ0 ρ σ H D g p k => by
  refine ⟨fun m σ' H' => ∃ ρ', GX W S0 ρ' σ' [] [] H' ∧ Pin pin σ0 σ' ∧ SK ct Wx W S0 pin σ0 D (whileL c body m ρ'), ⟨n, ρ, g, p, k⟩, ?_⟩
  rintro m σ' H' ⟨ρ', g', p', k'⟩
  cases m with
  | zero => exact k'.elim
  | succ m =>
    refine hc W S0 ρ' σ' [] [] H' _ g' ((SK.st p' k').mono (fun b ρ1 k1 H1 g1 => ?_) fun _ _ h => h)
    cases b with
    | false => exact k1 σ' H1 g1 p'
    | true =>
      refine ⟨fun σ2 H2 => ∃ ρ2, GX W S0 ρ2 σ2 [] [] H2 ∧ Pin pin σ0 σ2 ∧ SK ct Wx W S0 pin σ0 D (whileL c body m ρ2), fun σ2 H2 h => ⟨m, Nat.lt_succ_self m, h⟩, ?_⟩
      refine hb W S0 σ0 ρ1 σ' H1 _ g1 p' ?_
      rw [if_pos rfl] at k1
      generalize body ρ1 = o at k1
      cases o with
      | bad => exact k1
      | nx ρ3 => exact fun σ3 H3 g3 p3 => ⟨ρ3, g3, p3, k1⟩
      | ct ρ3 => exact fun σ3 H3 g3 p3 => ⟨ρ3, g3, p3, k1⟩
      | bk ρ3 => exact k1
      | rt t' ρ3 => exact k1
      | ex x' ρ3 => exact k1
/-! ### comprehensions -/
abbrev NoX : XW := fun _ _ _ _ => False
def Out.nox {α : Type} : Out α → Out α
  | .ex _ _ => .bad
  | o => o
theorem P_nox {α : Type} {o : Out α} {Φ : α → Env → Prop} {Ψ Ψ' : Exn → Env → Prop} (h : o.nox.P Φ Ψ) : o.P Φ Ψ' := by
  cases o with
  | bad => exact h
  | ok a ρ => exact h
  | ex x ρ => exact h.elim
def wipeE (ρ : Env) : List Nat → Env
  | [] => ρ
  | i :: is => (wipeE ρ is).set i none
theorem Re.junk {S H : Hp} : ∀ {ρ : Env} {σ : St} {as : List Addr} {i : Nat} {o : Option V}, Re S H ρ σ as → ρ[i]? = some none → Re S H ρ (σ.set i o) as
  | [], _, _, _, _, _, e => by simp at e
  | none :: _, _, _, 0, o, ⟨o', r, h1, h2⟩, _ => by subst h1; exact ⟨o, r, rfl, h2⟩
  | some _ :: _, _, _, 0, _, _, e => by simp at e
  | none :: _, _, _, i + 1, o, ⟨o', r, h1, h2⟩, e => by subst h1; exact ⟨o', _, rfl, Re.junk h2 (by simpa using e)⟩
  | some _ :: _, _, _, i + 1, o, ⟨v, r, b, c, h1, h2, h3, h4⟩, e => by subst h1; exact ⟨v, _, b, c, rfl, h2, h3, Re.junk h4 (by simpa using e)⟩
theorem GX.junk {o : Option V} (g : GX W S0 (ρ.set i none) σ tm vm H) : GX W S0 (ρ.set i none) (σ.set i o) tm vm H := by
  obtain ⟨S, as, bs, g⟩ := g
  by_cases hi : i < ρ.length
  · exact ⟨S, as, bs, g.s0, g.sh, g.wh, g.nw, g.re.junk (by simp [hi]), g.rt, g.nd, g.fs, g.fw⟩
  · have hl := g.re.len
    rw [List.set_eq_of_length_le (l := σ) (by rw [hl]; simp; omega)]
    exact ⟨S, as, bs, g⟩
theorem GX.wipe : ∀ {slots : List Nat}, GX W S0 ρ σ tm vm H → GX W S0 (wipeE ρ slots) (L2.wipe σ slots) tm vm H
  | [], g => g
  | i :: is, g => ((GX.wipe (slots := is) g).forget i).junk
theorem wipe_wipe {σ : St} {slots : List Nat} : wipe (wipe σ slots) slots = wipe σ slots := by
  apply List.ext_getElem?
  intro j
  by_cases hj : j ∈ slots
  · by_cases hl : j < σ.length
    · rw [wipe_in hj (by simpa [wipe_length] using hl), wipe_in hj hl]
    · rw [List.getElem?_eq_none (by rw [wipe_length, wipe_length]; omega), List.getElem?_eq_none (by rw [wipe_length]; omega)]
  · rw [wipe_get hj]
def lcL (slots : List Nat) (b : BM) (tst : EMb) (elt : EM) : List T → List T → Env → Out (List T)
  | [], acc, ρ => .ok acc ρ
  | t :: ts, acc, ρ => match b t ρ with
    | none => .bad
    | some ρ => (tst ρ).bnd fun c ρ => if c = true then (elt ρ).bnd fun u ρ => if acc.length < lim then lcL slots b tst elt ts (acc ++ [u]) (wipeE ρ slots) else .bad
        else lcL slots b tst elt ts acc (wipeE ρ slots)
/-- the block's own names as they were -/
def keepE (ρ1 : Env) : List Nat → Env → Env
  | [], ρ => ρ
  | i :: is, ρ => match ρ1[i]? with
    | some (some (.sh d)) => (keepE ρ1 is ρ).set i (some (.sh d))
    | _ => (keepE ρ1 is ρ).set i none
def eLC (slots : List Nat) (src : IM) (b : BM) (tst : EMb) (elt : EM) : EM := fun ρ => (src ρ).bnd fun its ρ1 => ((lcL slots b tst elt its [] (wipeE ρ1 slots)).nox).bnd fun acc ρ2 => .ok (.ol acc) (keepE ρ1 slots (wipeE ρ2 slots))
theorem GX.keep : ∀ {slots : List Nat} {ρ1 ρ : Env}, GX W S (wipeE ρ slots) (L2.wipe σ slots) tm vm H → (∀ (i : Nat) d, ρ1[i]? = some (some (.sh d)) → ∃ v, σ[i]? = some (some v) ∧ Rp S d v) → GX W S (keepE ρ1 slots (wipeE ρ slots)) σ tm vm H := by
  intro slots ρ1 ρ g hk
  have h0 : ∀ is : List Nat, (∀ i ∈ is, i ∈ slots) → ∃ σ', GX W S (keepE ρ1 is (wipeE ρ slots)) σ' tm vm H ∧ σ'.length = σ.length ∧ ∀ j, (j ∈ is ∨ j ∉ slots) → σ'[j]? = σ[j]? := by
    intro is
    induction is with
    | nil => exact fun _ => ⟨_, g, wipe_length _ _, fun j hj => wipe_get (by rcases hj with h | h; cases h; exact h)⟩
    | cons i is ih =>
      intro hs
      obtain ⟨σ', g', hl, he⟩ := ih fun j hj => hs j (by simp [hj])
      have he2 : ∀ (o : Option V), σ[i]? = some o → ∀ j, (j ∈ i :: is ∨ j ∉ slots) → (σ'.set i o)[j]? = σ[j]? := fun o ho j hj => by
        by_cases e : i = j
        · subst e
          have : i < σ.length := (List.getElem?_eq_some_iff.mp ho).1
          rw [List.getElem?_set_self (by omega), ho]
        · rw [List.getElem?_set_ne e]
          exact he j (by rcases hj with h | h; rcases List.mem_cons.mp h with h | h; exact absurd h.symm e; exact .inl h; exact .inr h)
      unfold keepE
      split
      · rename_i d e
        obtain ⟨v, h1, h2⟩ := hk i d e
        obtain ⟨S1, as, bs, g1⟩ := g'
        exact ⟨σ'.set i (some v), (g1.pushS (h2.mono g1.s0)).putA i, by simp [hl], he2 _ h1⟩
      · cases ho : σ[i]? with
        | none =>
          refine ⟨σ', g'.forget i, hl, fun j hj => ?_⟩
          by_cases e : i = j
          · subst e
            rw [ho, List.getElem?_eq_none]
            rw [List.getElem?_eq_none_iff] at ho
            omega
          · exact he j (by rcases hj with h | h; rcases List.mem_cons.mp h with h | h; exact absurd h.symm e; exact .inl h; exact .inr h)
        | some o => exact ⟨σ'.set i o, (g'.forget i).junk, by simp [hl], he2 o ho⟩
  obtain ⟨σ', g', hl, he⟩ := h0 slots fun _ h => h
  have : σ' = σ := List.ext_getElem? fun j => by
    by_cases hj : j ∈ slots
    · exact he j (.inl hj)
    · exact he j (.inr hj)
  rw [this] at g'
  exact g'
theorem lc_J {g : TG} {tt : TT} {te : TE} {slots : List Nat} {σ : St} {H1 : Hp} {D : Addr} {Qd : Hp → Prop} (jo : JOk S J its) (Pv : Nat → Hp → Prop) (h0 : Pv 0 (upd H1 D (.lst []))) (hS : ∀ i H, Pv i H → Same S H)
    (hs : ∀ i t x H H', its[i]? = some t → Pv i H → ((H' = H ∧ ∃ d, t = .sh d ∧ Rp S d x) ∨ ∃ p es vs, t = .ot (es.map .sh) ∧ x = .ref p ∧ H p = none ∧ H' = upd H p (.tup vs) ∧ Rpl S es vs) → g x (wipe σ slots) H' fun σ2 H2 => wipe σ2 slots = wipe σ slots ∧ tt σ2 H2 fun b H3 =>
      if b = true then te σ2 H3 fun y H4 => ∃ acc, H4 D = some (.lst acc) ∧ acc.length < sizeLine ∧ Pv (i + 1) (upd H4 D (.lst (acc ++ [y]))) else Pv (i + 1) H3) (hd : ∀ H, Pv its.length H → Qd H) :
    ∃ W : Nat → Nat → Hp → Prop, (∃ m, W 0 m (upd H1 D (.lst []))) ∧ ∀ i m H, W i m H →
      (J.stop i H ∧ Qd H) ∨ (J.go i H ∧ ∃ Nx : Hp → Prop, (∀ H', Nx H' → ∃ m', m' < m ∧ W (i + 1) m' H') ∧ ∀ x H', J.yld i H x H' → g x (wipe σ slots) H' fun σ2 H2 => wipe σ2 slots = wipe σ slots ∧ tt σ2 H2 fun b H3 =>
        if b = true then te σ2 H3 fun y H4 => ∃ acc, H4 D = some (.lst acc) ∧ acc.length < sizeLine ∧ Nx (upd H4 D (.lst (acc ++ [y]))) else Nx H3) := by
  refine ⟨fun i m H => m = its.length - i ∧ i ≤ its.length ∧ Pv i H, ⟨its.length, by simp, Nat.zero_le _, h0⟩, ?_⟩
  rintro i m H ⟨rfl, hi, p⟩
  have e := hS i H p
  by_cases hlt : i < its.length
  · refine .inr ⟨jo.go i H e hlt, Pv (i + 1), fun H' p' => ⟨its.length - (i + 1), by omega, rfl, hlt, p'⟩, fun x H' y => ?_⟩
    obtain ⟨t, e1, y⟩ := jo.yld i H x H' e hlt y
    exact hs i t x H H' e1 p y
  · have e2 : i = its.length := by omega
    subst e2
    exact .inl ⟨jo.stop _ H e (Nat.le_refl _), hd H p⟩
theorem se_lc {slots : List Nat} {wi : TI} {g : TG} {tt : TT} {te : TE} {src : IM} {b : BM} {tst : EMb} {elt : EM} (hi : SI ct Wx wi src) (hg : SG slots g b) (ht : SET ct NoX tt tst) (he : SE ct NoX te elt) : SE ct Wx (tLc wi g tt te slots) (eLC slots src b tst elt) := fun W S0 ρ σ tm vm H Q gx k => by
  refine hi W S0 ρ σ tm vm H _ gx ((Out.P_bnd.mp k).mono (fun its ρ1 k1 J S H1 hu g1 jo => ?_) fun _ _ h => h)
  have k2 := P_nox (Ψ' := fun _ _ => False) (Out.P_bnd.mp k1)
  intro D hD
  obtain ⟨S1, as, bs, hu1, g1⟩ := g1.up
  have hk : ∀ (i : Nat) d, ρ1[i]? = some (some (.sh d)) → ∃ v, σ[i]? = some (some v) ∧ Rp S1 d v := fun i d e => by
    obtain ⟨v, b, c, d', e1, _, ⟨_, e3⟩, _⟩ := g1.re.at e
    exact ⟨v, e1, e3⟩
  have g2 : GX W S1 (wipeE ρ1 slots) (wipe σ slots) (.ol [] :: tm) (.ref D :: vm) (upd H1 D (.lst [])) := GX.wipe (GX.newL (ts := []) (vs := []) ⟨S1, as, bs, g1⟩ rfl hD)
  refine lc_J (S := S) jo (fun i H' => i ≤ its.length ∧ ∃ ρ' acc, GX W S1 ρ' (wipe σ slots) (.ol acc :: tm) (.ref D :: vm) H' ∧ (lcL slots b tst elt (its.drop i) acc ρ').P (fun acc ρ2 => ∀ H', GX W S1 (wipeE ρ2 slots) (wipe σ slots) (.ol acc :: tm) (.ref D :: vm) H' → Q (.ref D) H') (fun _ _ => False)) ?_ ?_ ?_ ?_
  · refine ⟨Nat.zero_le _, _, [], g2, k2.mono (fun acc ρ2 k3 H' g3 => ?_) fun _ _ h => h⟩
    exact k3 (.ref D) H' ((GX.keep g3 hk).join (hu.trans hu1))
  · exact fun i H' ⟨_, ρ', acc, g', _⟩ a o h => g'.under a o (hu1.1 a o h)
  · rintro i t x H' H2 e ⟨hle, ρ', acc, g', k'⟩ y
    have hlt := (List.getElem?_eq_some_iff.mp e).1
    rw [List.drop_eq_getElem_cons hlt, (List.getElem?_eq_some_iff.mp e).2] at k'
    unfold lcL at k'
    split at k'
    · exact k'.elim
    rename_i ρ2 e2
    have y' : ((H2 = H' ∧ ∃ d, t = .sh d ∧ Rp S1 d x) ∨ ∃ p es vs, t = .ot (es.map .sh) ∧ x = .ref p ∧ H' p = none ∧ H2 = upd H' p (.tup vs) ∧ Rpl S1 es vs) := by
      rcases y with ⟨h1, d, h2, h3⟩ | ⟨p, es, vs, h1, h2, h3, h4, h5⟩
      · exact .inl ⟨h1, d, h2, h3.mono hu1.1⟩
      · exact .inr ⟨p, es, vs, h1, h2, h3, h4, h5.mono hu1.1⟩
    refine hg W S1 ρ' _ _ _ H2 t x ρ2 (g'.item y') e2 _ fun σ2 g2 ew => ?_
    rw [wipe_wipe] at ew
    refine ⟨ew, ht W S1 ρ2 σ2 _ _ H2 _ g2 ((Out.P_bnd.mp k').mono (fun c ρ3 k3 H3 g3 => ?_) fun _ _ h => h.elim)⟩
    cases c with
    | false =>
      refine ⟨hlt, wipeE ρ3 slots, acc, ?_, k3⟩
      have := GX.wipe (slots := slots) g3
      rw [ew] at this
      exact this
    | true =>
      rw [if_pos rfl] at k3
      refine he W S1 ρ3 σ2 _ _ H3 _ g3 ((Out.P_bnd.mp k3).mono (fun u ρ4 k4 yv H4 g4 => ?_) fun _ _ h => h.elim)
      obtain ⟨hz, k4⟩ := P_ite k4
      have g5 : GX W S1 ρ4 σ2 (.ol acc :: u :: tm) (.ref D :: yv :: vm) H4 := GX.rot (ts := [u]) (vs := [yv]) g4 rfl
      obtain ⟨a, xs, e5, h1, h2, mk⟩ := g5.mutL
      cases e5
      refine ⟨xs, h1, lim_lt (by omega), hlt, wipeE ρ4 slots, acc ++ [u], ?_, k4⟩
      have g6 := mk (acc ++ [u]) tm (xs ++ [yv]) vm (fun S H b c hb hc => by
        obtain ⟨v', r, c1, c2, h3, rfl, h4, h5⟩ := hc
        cases h3
        have h6 : Rtl S H [u] [yv] c1 := ⟨yv, [], c1, [], rfl, by simp, h4, rfl, rfl⟩
        exact ⟨b ++ c1, c2, hb.append h6, h5, by grind, by grind⟩)
      have := GX.wipe (slots := slots) g6
      rw [ew] at this
      exact this
  · rintro H' ⟨_, ρ', acc, g', k'⟩
    rw [List.drop_eq_nil_of_le (Nat.le_refl _)] at k'
    refine k' H' ?_
    have := GX.wipe (slots := slots) g'
    rw [wipe_wipe] at this
    exact this
def tAll : EMb := fun ρ => .ok true ρ
theorem set_yes : SET ct Wx tYes tAll := fun W S0 ρ σ tm vm H Q g k => k H g

/-! ### a def by its body -/
def T.isSh : T → Bool
  | .sh _ => true
  | _ => false
def mFun (n nn : Nat) (body : SM) : FM := fun ts => if ts.length = n ∧ ts.all T.isSh = true then match body (ts.map some ++ List.replicate (nn - n) none) with
  | .nx _ => .ok (.sh .non) ts
  | .rt t _ => .ok t ts
  | .ex x _ => .ex x
  | _ => .bad else .bad
/-- the first argument is the def's to change -/
def mFunI (n nn : Nat) (body : SM) : FM := fun ts => if ts.length = n ∧ ts.tail.all T.isSh = true then match body (ts.map some ++ List.replicate (nn - n) none) with
  | .nx ρ => match ρ[0]? with
    | some (some t0) => .ok (.sh .non) (t0 :: ts.tail)
    | _ => .bad
  | .rt t ρ => match ρ[0]? with
    | some (some t0) => .ok t (t0 :: ts.tail)
    | _ => .bad
  | .ex x _ => .ex x
  | _ => .bad else .bad
theorem re_start {S H : Hp} {k : Nat} : ∀ {ts : List T} {vs : List V} {as : List Addr}, Rtl S H ts vs as → Re S H (ts.map some ++ List.replicate k none) (vs.map some ++ List.replicate k none) as
  | [], _, _, ⟨h1, h2⟩ => by
    subst h1 h2
    induction k with
    | zero => exact ⟨rfl, rfl⟩
    | succ k ih => exact ⟨none, _, rfl, ih⟩
  | t :: ts, _, _, ⟨v, r, b, c, h1, h2, h3, h4⟩ => by subst h1; exact ⟨v, _, b, c, rfl, h2, h3, re_start h4⟩
theorem GX.start {N : List Str} (g : GX W S0 [] [] ts vs H) (hn : vs.length = ts.length) : GX W S0 (ts.map some ++ List.replicate (N.length - ts.length) none) (L2.start N vs) [] [] H := by
  obtain ⟨S, as, bs, g⟩ := g
  have ea : as = [] := g.re.2
  subst ea
  have nd := g.nd
  have fs := g.fs
  have fw := g.fw
  refine ⟨S, bs, [], g.s0, g.sh, g.wh, g.nw, ?_, ⟨rfl, rfl⟩, by grind, by grind, by grind⟩
  have := re_start (k := N.length - ts.length) g.rt
  unfold L2.start
  rw [hn]; exact this
theorem GX.noEnv (g : GX W S0 ρ σ tm vm H) : GX W S0 [] [] tm vm H := by
  obtain ⟨S, as, bs, g⟩ := g
  have nd := g.nd
  have fs := g.fs
  have fw := g.fw
  exact ⟨S, [], bs, g.s0, g.sh, g.wh, g.nw, ⟨rfl, rfl⟩, g.rt, by grind, by grind, by grind⟩
theorem G.endS {ds : List D} {xs : List V} (g : G W S0 S H ρ σ tm vm as bs) (h : Rpl S ds xs) : GX W S0 ρ σ (tm ++ ds.map .sh) (vm ++ xs) H := by
  have hr := (g.rt).append (h.toRtl (H := H))
  rw [List.append_nil] at hr
  exact ⟨S, as, bs, g.s0, g.sh, g.wh, g.nw, g.re, hr, g.nd, g.fs, g.fw⟩
theorem allSh : ∀ {ts : List T}, ts.all T.isSh = true → ∃ ds : List D, ts = ds.map .sh
  | [], _ => ⟨[], rfl⟩
  | t :: ts, h => by
    simp only [List.all_cons, Bool.and_eq_true] at h
    obtain ⟨ds, rfl⟩ := allSh h.2
    cases t <;> first | (simp [T.isSh] at h; done) | skip
    exact ⟨_ :: ds, rfl⟩
theorem Rtl.toRpl' {S H : Hp} : ∀ {ds : List D} {vs : List V} {as : List Addr}, Rtl S H (ds.map .sh) vs as → Rpl S ds vs ∧ as = []
  | [], _, _, h => h
  | d :: ds, _, _, ⟨v, r, b, c, h1, h2, ⟨h3, h5⟩, h4⟩ => by
    subst h1 h2 h3
    have := Rtl.toRpl' h4
    exact ⟨⟨v, r, rfl, h5, this.1⟩, by simp [this.2]⟩
section
open PySem.Spec PyProof.Rows
variable {P : Program} {w : World} {K : PySem.W.Frag} {mg : Str → Option Value} {base : Heap}
theorem fn_mk {x qual : Str} {st : Stmt} {f : Addr} {fd : FuncData} {N ps : List Str} {k : Nat} {m : SM} (F : Fun K x qual st f fd) (Sc : FnScope N ps (defScope st))
    (hbody : ∀ (cdv : Value) (A : Around) (outer : List PySem.Env) (s : Shared) (H : Hp) (E : XK), Room k (A.deeper (envOfC qual (defScope st) s.heap.objs.size f cdv)) →
      ∃ t, PSs (cxOf (L2.CX P w) P w K mg base N qual (defScope st) f cdv A outer s H E) (defBody st) t ∧ SS ct (fun c d _ H => E c d H) [] t m) : FnOk P w K mg base (L2.CX P w) (k + 1) f fd ps (spM ct ps.length (mFun ps.length N.length m)) := by
  refine F.okX Sc (fun vs H Q E h => h.1) fun cdv A outer s H vs Q E hr h => ?_
  obtain ⟨t, ht, hs⟩ := hbody cdv A outer s H E hr
  refine ⟨t, ht, ?_⟩
  obtain ⟨hl, ts, W, S, g, k1⟩ := h
  unfold mFun at k1
  by_cases hc : ts.length = ps.length ∧ ts.all T.isSh = true
  case neg => rw [if_neg hc] at k1; exact k1.elim
  rw [if_pos hc] at k1
  obtain ⟨S1, as, bs, hu, g1⟩ := g.up
  obtain ⟨ds, rfl⟩ := allSh hc.2
  obtain ⟨hr1, rfl⟩ := g1.rt.toRpl'
  have g2 := GX.start (N := N) ⟨S1, as, [], g1⟩ (by rw [hl, hc.1])
  rw [hc.1] at g2
  refine hs W S1 (start N vs) _ _ H _ g2 Pin.refl ?_
  have fin : ∀ (t : T) (v : V) (ρ : Env) (σ : L2.St) (H' : Hp), GX W S1 ρ σ [t] [v] H' → GX W S [] [] (t :: ds.map .sh) (v :: vs) H' := fun t v ρ σ H' g3 => by
    obtain ⟨S2, as2, bs2, g4⟩ := g3.noEnv
    exact (g4.endS (hr1.mono g4.s0)).join hu
  generalize m _ = o at k1 ⊢
  cases o with
  | bad => exact k1
  | nx ρ => exact fun σ' H' g3 _ => k1.2 .non H' (fin (.sh .non) .non ρ σ' H' (g3.pushC (S := H') (d := .non) (v := .non) rfl rfl))
  | rt t ρ => exact fun v σ' H' g3 _ => k1.2 v H' (fin t v ρ σ' H' g3)
  | bk ρ => exact k1.elim
  | ct ρ => exact k1.elim
  | ex x ρ => exact fun c d σ' H' g3 _ hx => k1 c d H' (g3.noEnv.join hu) hx
theorem fn_mkI {x qual : Str} {st : Stmt} {f : Addr} {fd : FuncData} {N ps : List Str} {k : Nat} {m : SM} (F : Fun K x qual st f fd) (Sc : FnScope N ps (defScope st)) (hps : 0 < ps.length)
    (hbody : ∀ (cdv : Value) (A : Around) (outer : List PySem.Env) (s : Shared) (H : Hp) (E : XK), Room k (A.deeper (envOfC qual (defScope st) s.heap.objs.size f cdv)) →
      ∃ t, PSs (cxOf (L2.CX P w) P w K mg base N qual (defScope st) f cdv A outer s H E) (defBody st) t ∧ SS ct (fun c d _ H => E c d H) [0] t m) : FnOk P w K mg base (L2.CX P w) (k + 1) f fd ps (spM ct ps.length (mFunI ps.length N.length m)) := by
  refine F.okX Sc (fun vs H Q E h => h.1) fun cdv A outer s H vs Q E hr h => ?_
  obtain ⟨t, ht, hs⟩ := hbody cdv A outer s H E hr
  refine ⟨t, ht, ?_⟩
  obtain ⟨hl, ts, W, S, g, k1⟩ := h
  unfold mFunI at k1
  by_cases hc : ts.length = ps.length ∧ ts.tail.all T.isSh = true
  case neg => rw [if_neg hc] at k1; exact k1.elim
  rw [if_pos hc] at k1
  match ts, vs, hl, hc with
  | [], _, _, hc => simp at hc; omega
  | _ :: _, [], hl, _ => simp at hl; omega
  | t0 :: ts, v0 :: vs, hl, hc =>
  obtain ⟨ds, hds⟩ := allSh hc.2
  simp only [List.tail_cons] at hds
  subst hds
  obtain ⟨S1, as, bs, hu, g1⟩ := g.up
  have hr1 : Rpl S1 ds vs := by
    obtain ⟨v', r, b, c, h3, _, _, h5⟩ := g1.rt
    cases h3
    exact h5.toRpl'.1
  have g2 := GX.start (N := N) ⟨S1, as, bs, g1⟩ (by rw [hl, hc.1])
  rw [hc.1] at g2
  refine hs W S1 (start N (v0 :: vs)) _ _ H _ g2 Pin.refl ?_
  have hst : (start N (v0 :: vs))[0]? = some (some v0) := rfl
  have fin : ∀ (t : T) (v : V) (ρ : Env) (σ : L2.St) (H' : Hp) (t1 : T), ρ[0]? = some (some t1) → Pin [0] (start N (v0 :: vs)) σ → GX W S1 ρ σ [t] [v] H' → GX W S [] [] (t :: t1 :: ds.map .sh) (v :: v0 :: vs) H' := fun t v ρ σ H' t1 e p g3 => by
    obtain ⟨v1, e1, g4⟩ := g3.take e
    have e2 := p 0 (by simp)
    rw [hst, e1] at e2
    cases e2
    have g5 := GX.rot (ts := [t1]) (vs := [v0]) g4.noEnv rfl
    obtain ⟨S2, as2, bs2, g6⟩ := g5
    exact (g6.endS (hr1.mono g6.s0)).join hu
  generalize m _ = o at k1 ⊢
  cases o with
  | bad => exact k1
  | nx ρ =>
    simp only at k1
    split at k1
    · rename_i t1 e
      exact fun σ' H' g3 p => k1.2 .non H' (fin (.sh .non) .non ρ σ' H' t1 e p (g3.pushC (S := H') (d := .non) (v := .non) rfl rfl))
    · exact k1.elim
  | rt t ρ =>
    simp only at k1
    split at k1
    · rename_i t1 e
      exact fun v σ' H' g3 p => k1.2 v H' (fin t v ρ σ' H' t1 e p g3)
    · exact k1.elim
  | bk ρ => exact k1.elim
  | ct ρ => exact k1.elim
  | ex x ρ => exact fun c d σ' H' g3 _ hx => k1 c d H' (g3.noEnv.join hu) hx
end
end
end Z

namespace Z
noncomputable section
open PySem L2
variable {ct : CT} {Wx : XW} {W S0 S S1 H H' : Hp} {ρ ρ' : Env} {σ σ0 : St} {t u : T} {ts us tm its : List T} {v w : V} {vs ws vm : List V} {as bs : List Addr} {i : Nat} {d : D} {pin : List Nat} {D0 : Ends} {J : It}
/-! ### list(range(..)) -/
theorem rgV_rp {S : Hp} {a b : Int} : Rpl S ((List.range (b - a).toNat).map fun i : Nat => D.int (a + (i : Int))) (rgV a b) := by
  unfold rgV
  generalize List.range (b - a).toNat = l
  induction l with
  | nil => rfl
  | cons x l ih => exact ⟨_, _, rfl, rfl, ih⟩
def rgOk (a b : Int) : Bool := decide (InR a ∧ InR b ∧ (b - a).toNat ≤ lim)
theorem rgOk_of {a b : Int} (h0 : -1000000 ≤ a) (h1 : a ≤ 1000000) (h2 : -1000000 ≤ b) (h3 : b ≤ a + 1000000) : rgOk a b = true := by
  refine decide_eq_true ⟨InR.of (by omega) (by omega), InR.of (by omega) (by omega), ?_⟩
  unfold lim
  omega
theorem rgOk_ok {a b : Int} (h : rgOk a b = true) : RgOk a b := by
  have := of_decide_eq_true h
  exact ⟨this.1.out.1, this.1.out.2, this.2.1.out.1, this.2.1.out.2, Nat.le_trans this.2.2 (by decide)⟩
def eRg1 (p : PM) : EM := fun ρ => match p ρ with
  | some (.int n) => if rgOk 0 n = true then .ok (.ol (rangeT 0 n.toNat)) ρ else .bad
  | _ => .bad
theorem se_rg1 {te : TE} {p : PM} (h : SP te p) : SE ct Wx (tLstRg (tRg1 te)) (eRg1 p) := fun W S0 ρ σ tm vm H Q g k => by
  unfold eRg1 at k
  split at k
  case h_2 => exact k.elim
  rename_i n e
  obtain ⟨hz, k⟩ := P_ite k
  refine h ρ σ H g.rv _ e _ fun v H1 es r => ⟨n, r, rgOk_ok hz, fun q hq => k _ _ ?_⟩
  obtain ⟨S, as, bs, g1⟩ := g.ext es
  have h1 := g1.pushSs (rgV_rp (S := S) (a := 0) (b := n))
  rw [show n - 0 = n from by omega, List.map_map] at h1
  exact h1.newL (by simp [rgV_length]) hq
def eRg2 (p q : PM) : EM := fun ρ => match p ρ, q ρ with
  | some (.int m), some (.int n) => if rgOk m n = true then .ok (.ol (rangeT m (n - m).toNat)) ρ else .bad
  | _, _ => .bad
theorem se_rg2 {te tf : TE} {p q : PM} (h : SP te p) (h' : SP tf q) : SE ct Wx (tLstRg (tRg2 te tf)) (eRg2 p q) := fun W S0 ρ σ tm vm H Q g k => by
  unfold eRg2 at k
  split at k
  case h_2 => exact k.elim
  rename_i m n e e'
  obtain ⟨hz, k⟩ := P_ite k
  refine h ρ σ H g.rv _ e _ fun v H1 es r => h' ρ σ H1 (g.ext es).rv _ e' _ fun w H2 es' r' => ⟨m, n, r, r', rgOk_ok hz, fun q hq => k _ _ ?_⟩
  obtain ⟨S, as, bs, g1⟩ := (g.ext es).ext es'
  have h1 := g1.pushSs (rgV_rp (S := S) (a := m) (b := n))
  rw [List.map_map] at h1
  exact h1.newL (by simp [rgV_length]) hq
/-! ### a list some times over -/
def repT (t u : T) : Option T := t.shs.bind fun l => u.d.intO.bind fun k => if l.length * k.toNat ≤ lim ∧ InR k then some (.ol ((List.replicate k.toNat (l.map .sh)).flatten)) else none
theorem Rpl.rep {S : Hp} {l : List D} {xs : List V} (h : Rpl S l xs) : ∀ n : Nat, Rpl S (List.replicate n l).flatten (List.replicate n xs).flatten
  | 0 => rfl
  | n + 1 => by
    simp only [List.replicate_succ, List.flatten_cons]
    exact h.append (h.rep n)
theorem map_rep {α β : Type} (f : α → β) (l : List α) (n : Nat) : ((List.replicate n l).flatten).map f = (List.replicate n (l.map f)).flatten := by
  simp [List.map_flatten]
theorem oe_rep : OpE rRep repT := fun W S0 ρ σ tm vm H t u v w z Q g e k => by
  obtain ⟨l, e1, e⟩ := some_bind e
  obtain ⟨n, e2, e⟩ := some_bind e
  obtain ⟨⟨hz, hz0⟩, e⟩ := ite_some e
  have hz1 := hz0.out.1
  have hz2 := hz0.out.2
  cases e
  have q := g.tmp
  rw [intO_int e2] at q
  cases q
  obtain ⟨S, as, bs, g1⟩ := g.pop1
  obtain ⟨v', r, b, c, h3, _, h4, h5⟩ := g1.rt
  cases h3
  obtain ⟨a, xs, rfl, h6, h7⟩ := h4.shs g1.sh e1
  refine ⟨a, n, xs, rfl, rfl, h6, by omega, by omega, lim_le (by rw [h7.len]; exact hz), fun p hp => k _ _ ?_⟩
  have hg : G W S0 S H ρ σ tm vm as c := ⟨g1.s0, g1.sh, g1.wh, g1.nw, g1.re, h5, by have := g1.nd; grind, by have := g1.fs; grind, by have := g1.fw; grind⟩
  have h8 := hg.pushSs (h7.rep n.toNat)
  rw [map_rep] at h8
  refine h8.newL ?_ hp
  rw [← map_rep, List.length_map, (h7.rep _).len]
def oMax2 : D → D → Option D := oI0 fun i j => .int (if j > i then j else i)
def oMin2 : D → D → Option D := oI0 fun i j => .int (if j < i then j else i)
def rUMul : R2 := rOr rMulI rRep
section
variable {X : Cx}
theorem u_mul : OpR X (binaryOp .Mult) rUMul := (op_mul.or op_mulW).or op_rep
end
def oMul : D → D → Option D := oI smallM fun i j => .int (i * j)
theorem os_mul : OpS rUMul oMul := fun H dx dy x y d hx hy e Q q => .inl (os_mulI H dx dy x y d hx hy e Q q)
theorem oe_repU : OpE rUMul repT := fun W S0 ρ σ tm vm H t u v w z Q g e k => .inr (oe_rep W S0 ρ σ tm vm H t u v w z Q g e k)
/-! ### -a, truth, in -/
def oNeg : D → Option D
  | .int i => some (.int (-i))
  | _ => none
theorem us_neg : UnS (rU fun i => .int (-i)) oNeg := fun H dx x d hx e Q q => by
  cases dx <;> first | (cases e; done) | skip
  cases e
  cases hx
  exact ⟨_, rfl, q _ H (fun _ _ h => h) rfl⟩
def eUn (o : D → Option D) (a : EM) : EM := fun ρ => (a ρ).bnd fun t ρ => optO (scalO (o t.d)) ρ
theorem se_un {r : V → Hp → VK → Prop} {o : D → Option D} {ta : TE} {a : EM} (hr : UnS r o) (ha : SE ct Wx ta a) : SE ct Wx (tUn r ta) (eUn o a) := fun W S0 ρ σ tm vm H Q g k => by
  refine ha W S0 ρ σ tm vm H _ g ((Out.P_bnd.mp k).mono (fun t ρ1 k1 v H1 g1 => ?_) fun _ _ h => h)
  obtain ⟨z, e, k1⟩ := P_opt k1
  obtain ⟨d, e1, e2, rfl⟩ := scalO_some e
  exact hr H1 t.d v d g1.tmp e1 Q fun w H2 es r => k1 w H2 ((g1.pop1.ext es).pushC e2 r)
def D.truth : D → Option Bool
  | .non => some false
  | .bl b => some b
  | .int i => some (i != 0)
  | .str s => if s.length ≤ lim then some ((s.length : Int) != 0) else none
  | .lst l => some (!l.isEmpty)
  | .tup l => some (!l.isEmpty)
  | .dic ks _ => some (!ks.isEmpty)
theorem truth_V {K : PySem.W.Frag} {v : V} {b : Bool} (h : Rp H d v) (e : d.truth = some b) : TruV K v H b := by
  have hi : ∀ (l : List D) (vs : List V), Rpl H l vs → l.isEmpty = vs.isEmpty := fun l vs r => by
    have := r.len
    cases l <;> cases vs <;> first | rfl | (simp at this)
  cases d with
  | non => cases h; cases e; rfl
  | bl b => cases h; cases e; rfl
  | int b => cases h; cases e; rfl
  | str s => cases h; obtain ⟨hz, e⟩ := ite_some e; cases e; exact ⟨lim_le hz, rfl⟩
  | lst l => cases e; obtain ⟨a, vs, rfl, h1, h2⟩ := h; exact .inl ⟨vs, .of h1, by rw [hi l vs h2]⟩
  | tup l => cases e; obtain ⟨a, vs, rfl, h1, h2⟩ := h; exact .inr (.inl ⟨vs, .of h1, by rw [hi l vs h2]⟩)
  | dic ks l =>
    cases e
    obtain ⟨a, vs, rfl, h1, hk, h2⟩ := h
    refine .inr (.inr ⟨_, h1, ?_⟩)
    have := h2.len
    cases ks <;> cases vs <;> cases l <;> simp_all
def qTru (a : PM) : TM := fun ρ => (a ρ).bind D.truth
theorem st_tru {K : PySem.W.Frag} {ta : TE} {a : PM} (ha : SP ta a) : SPT (fun σ H Q => ta σ H fun x H' => ∃ k, TruV K x H' k ∧ Q k H') (qTru a) := fun ρ σ H g b h Q q => by
  obtain ⟨x, h1, h2⟩ := some_bind h
  exact ha ρ σ H g x h1 _ fun v H1 e1 r1 => ⟨b, truth_V r1 h2, q H1 e1⟩
def eTru (a : EM) : EMb := fun ρ => (a ρ).bnd fun t ρ => optO (t.d.truth) ρ
theorem set_tru {K : PySem.W.Frag} {ta : TE} {a : EM} (ha : SE ct Wx ta a) : SET ct Wx (fun σ H Q => ta σ H fun x H' => ∃ k, TruV K x H' k ∧ Q k H') (eTru a) := fun W S0 ρ σ tm vm H Q g k => by
  refine ha W S0 ρ σ tm vm H _ g ((Out.P_bnd.mp k).mono (fun t ρ1 k1 v H1 g1 => ?_) fun _ _ h => h)
  obtain ⟨b, e, k1⟩ := P_opt k1
  exact ⟨b, truth_V g1.tmp e, k1 H1 g1.pop1⟩
def flatD : D → Bool
  | .lst _ | .tup _ | .dic _ _ => false
  | _ => true
def eqD : D → D → Bool
  | .non, .non => true
  | .bl a, .bl b => a == b
  | .bl a, .int b => (if a then 1 else 0) == b
  | .int a, .bl b => a == (if b then 1 else 0)
  | .int a, .int b => a == b
  | .str a, .str b => a == b
  | _, _ => false
theorem flatD_V {v : V} (h : Rp H d v) (e : flatD d = true) : flatV v = true := by
  cases d <;> first | (cases h; rfl) | (simp [flatD] at e)
theorem eqD_V {d e : D} {v w : V} (h : Rp H d v) (h' : Rp H e w) (k : flatD d = true) (k' : flatD e = true) : eqV v w = eqD d e := by
  cases d <;> cases e <;> first | (simp [flatD] at k k'; done) | (cases h; cases h'; rfl)
theorem inD_V : ∀ {l : List D} {vs : List V} {x : D} {v : V}, Rpl H l vs → Rp H x v → flatD x = true → l.all flatD = true → vs.all flatV = true ∧ inV v vs = l.any fun y => eqD y x
  | [], _, _, _, h, _, _, _ => by rw [show _ = [] from h]; exact ⟨rfl, rfl⟩
  | d :: l, _, x, v, ⟨w, r, h1, h2, h3⟩, hx, kx, k => by
    subst h1
    simp only [List.all_cons, Bool.and_eq_true] at k
    have ih := inD_V h3 hx kx k.2
    refine ⟨by simp only [List.all_cons, Bool.and_eq_true]; exact ⟨flatD_V h2 k.1, ih.1⟩, ?_⟩
    have e2 := ih.2
    unfold inV at e2 ⊢
    simp only [List.any_cons]
    rw [e2, eqD_V h2 hx k.1 kx]
def oInB (neg : Bool) : D → D → Option D := fun x y => match y.seq with
  | some l => if flatD x = true ∧ l.all flatD = true then some (.bl (if neg then !(l.any fun y => eqD y x) else l.any fun y => eqD y x)) else none
  | none => none
theorem os_in {K : PySem.W.Frag} {neg : Bool} : OpS (rIn K neg) (oInB neg) := fun H dx dy x y d hx hy e Q q => by
  unfold oInB at e
  split at e
  case h_2 => cases e
  rename_i l e1
  obtain ⟨⟨k1, k2⟩, e⟩ := ite_some e
  cases e
  cases dy <;> first | (cases e1; done) | skip
  · cases e1
    obtain ⟨a, vs, rfl, h1, h2⟩ := hy
    have := inD_V h2 hx k1 k2
    refine ⟨a, vs, rfl, .inl (.of h1), flatD_V hx k1, this.1, ?_⟩
    rw [this.2]
    exact q _ H (fun _ _ h => h) rfl
  · cases e1
    obtain ⟨a, vs, rfl, h1, h2⟩ := hy
    have := inD_V h2 hx k1 k2
    refine ⟨a, vs, rfl, .inr (.of h1), flatD_V hx k1, this.1, ?_⟩
    rw [this.2]
    exact q _ H (fun _ _ h => h) rfl
def rIsN : R2 := fun x y H Q => y = .non ∧ Q (.bl (decide (x = .non))) H
def rNotN : R2 := fun x y H Q => y = .non ∧ Q (.bl (!decide (x = .non))) H
def D.isNon : D → Bool
  | .non => true
  | _ => false
theorem isNon_V {v : V} (h : Rp H d v) : decide (v = .non) = d.isNon := by
  cases d with
  | non => cases h; rfl
  | bl b => cases h; rfl
  | int b => cases h; rfl
  | str b => cases h; rfl
  | lst l => obtain ⟨a, vs, rfl, _⟩ := h; rfl
  | tup l => obtain ⟨a, vs, rfl, _⟩ := h; rfl
  | dic ks l => obtain ⟨a, vs, rfl, _⟩ := h; rfl
def oIsN (neg : Bool) : D → D → Option D := fun x y => match y with
  | .non => some (.bl (if neg then !x.isNon else x.isNon))
  | _ => none
theorem os_isN : OpS rIsN (oIsN false) := fun H dx dy x y d hx hy e Q q => by
  cases dy <;> first | (cases e; done) | skip
  cases e
  cases hy
  refine ⟨rfl, ?_⟩
  rw [isNon_V hx]
  exact q _ H (fun _ _ h => h) rfl
theorem os_notN : OpS rNotN (oIsN true) := fun H dx dy x y d hx hy e Q q => by
  cases dy <;> first | (cases e; done) | skip
  cases e
  cases hy
  refine ⟨rfl, ?_⟩
  rw [isNon_V hx]
  exact q _ H (fun _ _ h => h) rfl
/-- chains over expressions with effects are not needed: a < b < c is read -/
def eChain (m : PM) : EM := eP m

/-! ### isinstance(x, (T1, T2)) -/
def tys : List Ty → TA
  | [] => tNil
  | t :: l => tCons (tC (.ty t.name)) (tys l)
theorem tys_run : ∀ (l : List Ty) (σ : St) (H : Hp) (Q : List V → Hp → Prop), Q (l.map fun t => V.ty t.name) H → tys l σ H Q
  | [], σ, H, Q, h => h
  | t :: l, σ, H, Q, h => tys_run l σ H _ h
def pIsiM (l : List Ty) (a : PM) : PM := fun ρ => (a ρ).map fun d => .bl (l.any fun t => d.isi t)
theorem isiM_kit {K : PySem.W.Frag} {u : Value} {d : D} (h : ∀ t : Ty, PySem.W.kitOne K u (.type t.name) = some (d.isi t)) : ∀ l : List Ty, PySem.W.kitAny K u (l.map fun t => Value.type t.name) = some (l.any fun t => d.isi t)
  | [] => rfl
  | t :: l => kitAny_cons (h t) (fun e => by rw [isiM_kit h l, List.any_cons, e]; simp) (fun e => by rw [List.any_cons, e]; simp)
theorem sp_isiM {K : PySem.W.Frag} {ta : TE} {tt : TA} {a : PM} (l : List Ty) (hl : tt = tys l) (hz : l.length ≤ 10) (ha : SP ta a) : SP (tCB (rIsiT K) (tCons ta (tCons (tTup tt) tNil))) (pIsiM l a) := fun ρ σ H g d h Q q => by
  obtain ⟨x, h1, rfl⟩ := Option.map_eq_some_iff.mp h
  subst hl
  refine ha ρ σ H g x h1 _ fun v H1 e1 r1 => tys_run l σ H1 _ ⟨lim_le (by rw [List.length_map]; unfold lim; omega), fun p hp => ?_⟩
  have es : Same H1 (upd H1 p (.tup (l.map fun t => V.ty t.name))) := same_new hp
  have kt : ∀ t : Ty, PySem.W.kitOne K (.type x.kd.name) (.type t.name) = some (x.isi t) := fun t => kit_ty (kd_isi t x.kd)
  have ty : TyX K (upd H1 p (.tup (l.map fun t => V.ty t.name))) v (.type x.kd.name) := by
    have r2 := r1.mono es
    cases x with
    | non => cases r2; exact .base .non
    | bl b => cases r2; exact .base (.bl _)
    | int b => cases r2; exact .base (.int _)
    | str b => cases r2; exact .base (.str _)
    | lst l => obtain ⟨a, vs, rfl, h1, _⟩ := r2; exact .base (.lst h1)
    | tup l => obtain ⟨a, vs, rfl, h1, _⟩ := r2; exact .base (.tup h1)
    | dic ks l => obtain ⟨a, vs, rfl, h1, _⟩ := r2; exact .base (.dK h1)
  have pr : ∀ l : List Ty, Paired ClsV (l.map fun t => V.ty t.name) (l.map fun t => Value.type t.name) := fun l => by
    induction l with
    | nil => exact .nil
    | cons t l ih => exact .cons (.ty _) ih
  exact ⟨v, p, _, _, _, _, rfl, upd_same, pr l, ty, isiM_kit kt l, q _ _ (e1.trans es) rfl⟩

/-! ### the script -/
def spSc (ct : CT) (K : PySem.W.Frag) (F : List Int → FOut) : Sp := fun vs H Q E => ∃ a ns, vs = [.ref a] ∧ SqL K H a (ns.map V.int) ∧
  (F ns).P (fun t _ => ∀ v H', GX H (fun _ => none) [] [] [t] [v] H' → Q v H') (fun _ => False)
def SSa (A : Hp → St → Prop) (ct : CT) (Wx : XW) (pin : List Nat) (s : TS) (m : SM) : Prop := ∀ W S0 σ0 ρ σ H (D : Ends), A W σ0 → GX W S0 ρ σ [] [] H → Pin pin σ0 σ → SK ct Wx W S0 pin σ0 D (m ρ) → s D σ H
theorem SS.a {A : Hp → St → Prop} {s : TS} {m : SM} (h : SS ct Wx pin s m) : SSa A ct Wx pin s m := fun W S0 σ0 ρ σ H D _ => h W S0 σ0 ρ σ H D
theorem ssa_seq {A : Hp → St → Prop} {s u : TS} {a b : SM} (ha : SSa A ct Wx pin s a) (hb : SSa A ct Wx pin u b) : SSa A ct Wx pin (tSeq s u) (mSeq a b) := fun W S0 σ0 ρ σ H D x g p k => by
  refine ha W S0 σ0 ρ σ H { D with nx := u D } x g p ?_
  unfold mSeq at k
  generalize a ρ = o at k ⊢
  cases o with
  | nx ρ' => exact fun σ' H' g' p' => hb W S0 σ0 ρ' σ' H' D x g' p' k
  | _ => exact k
/-- the first name holds the script -/
def ScA (K : PySem.W.Frag) (ns : List Int) : Hp → St → Prop := fun W σ => ∃ a, σ[0]? = some (some (.ref a)) ∧ SqL K W a (ns.map V.int)
def mForS (ns : List Int) (b : BM) (body : SM) : SM := fun ρ => forL b body (ns.map fun i => .sh (.int i)) ρ
theorem jok_sc {K : PySem.W.Frag} {a : Addr} {ns : List Int} (h : SqL K W a (ns.map V.int)) (hu : ∀ xs, SqL K W a xs → xs = ns.map V.int) : True := trivial
theorem for_Sc {K : PySem.W.Frag} {ns : List Int} {a : Addr} {g : TG} {tb : TS} {D : Ends} {σ : St} {H : Hp} (Pv : Nat → St → Hp → Prop) (h0 : Pv 0 σ H) (hS : ∀ i σ H, Pv i σ H → SqL K H a (ns.map V.int))
    (hs : ∀ i n σ H, ns[i]? = some n → Pv i σ H → g (.int n) σ H fun σ2 H2 => tb { D with nx := Pv (i + 1), ct := Pv (i + 1), bk := D.nx } σ2 H2) (hd : ∀ σ H, Pv ns.length σ H → D.nx σ H) :
    ∃ W : Nat → Nat → St → Hp → Prop, (∃ m, W 0 m σ H) ∧ ∀ i m σ H, W i m σ H →
      ((Itl K a).stop i H ∧ D.nx σ H) ∨ ((Itl K a).go i H ∧ ∃ N : St → Hp → Prop, (∀ σ' H', N σ' H' → ∃ m', m' < m ∧ W (i + 1) m' σ' H') ∧ ∀ x H', (Itl K a).yld i H x H' → g x σ H' fun σ2 H2 => tb { D with nx := N, ct := N, bk := D.nx } σ2 H2) :=
  for_list (xs := ns.map V.int) Pv h0 (fun i σ H _ p => hS i σ H p) (fun i x σ H e p => by
    rw [List.getElem?_map] at e
    obtain ⟨n, e1, rfl⟩ := Option.map_eq_some_iff.mp e
    exact hs i n σ H e1 p) (fun σ H p => hd σ H (by rw [List.length_map] at p; exact p))
theorem SqL.up {K : PySem.W.Frag} {a : Addr} {xs : List V} (e : Same H H') (h : SqL K H a xs) : SqL K H' a xs := e.seq h
theorem GX.outer (g : GX W S0 ρ σ tm vm H) : Same W H := by
  obtain ⟨S, as, bs, g⟩ := g
  exact g.wh
theorem ssa_forS {K : PySem.W.Frag} {ns : List Int} {slots : List Nat} {g : TG} {tb : TS} {b : BM} {body : SM} (hg : SG slots g b) (hs : ∀ i ∈ slots, i ∉ pin) (hp : 0 ∈ pin) (hb : SS ct Wx pin tb body) : SSa (ScA K ns) ct Wx pin (tFor (iSeq K (tVar 0)) g tb) (mForS ns b body) := fun W S0 σ0 ρ σ H D ⟨a, ea, hA⟩ gx p k => by
  have e0 : σ[0]? = some (some (.ref a)) := (p 0 hp).trans ea
  refine ⟨.ref a, e0, a, rfl, .inl ⟨⟨_, SqL.up gx.outer hA⟩, ?_⟩⟩
  refine for_Sc (ns := ns) (fun i σ' H' => i ≤ ns.length ∧ ∃ ρ', GX W S0 ρ' σ' [] [] H' ∧ Pin pin σ0 σ' ∧ SK ct Wx W S0 pin σ0 D (forL b body ((ns.drop i).map fun i => .sh (.int i)) ρ')) ⟨Nat.zero_le _, ρ, gx, p, k⟩ (fun i σ' H' ⟨_, ρ', g', _⟩ => SqL.up g'.outer hA) ?_ ?_
  · rintro i n σ' H' e ⟨hle, ρ', g', p', k'⟩
    have hlt := (List.getElem?_eq_some_iff.mp e).1
    rw [List.drop_eq_getElem_cons hlt, (List.getElem?_eq_some_iff.mp e).2, List.map_cons] at k'
    unfold forL at k'
    split at k'
    · exact k'.elim
    rename_i ρ2 e2
    refine hg W S0 ρ' σ' [] [] H' _ (.int n) ρ2 (g'.pushC (S := H') (d := .int n) rfl rfl) e2 _ fun σ2 g2 ew => ?_
    refine hb W S0 σ0 ρ2 σ2 H' _ g2 (p'.wipe ew hs) ?_
    generalize body ρ2 = o at k'
    cases o with
    | bad => exact k'
    | nx ρ3 => exact fun σ3 H3 g3 p3 => ⟨hlt, ρ3, g3, p3, k'⟩
    | ct ρ3 => exact fun σ3 H3 g3 p3 => ⟨hlt, ρ3, g3, p3, k'⟩
    | bk ρ3 => exact k'
    | rt t' ρ3 => exact k'
    | ex x' ρ3 => exact k'
  · rintro σ' H' ⟨_, ρ', g', p', k'⟩
    rw [List.drop_eq_nil_of_le (Nat.le_refl _)] at k'
    exact k' σ' H' g' p'
/-- a body over the script: a plain answer -/
def mFunS (nn : Nat) (body : List Int → SM) : List Int → FOut := fun ns => match body ns (List.replicate nn none) with
  | .rt t _ => .ok t []
  | _ => .bad
section
open PySem.Spec PyProof.Rows
variable {P : Program} {w : World} {K : PySem.W.Frag} {mg : Str → Option Value} {base : Heap}
theorem re_none {S H : Hp} : ∀ (σ : L2.St), Re S H (List.replicate σ.length none) σ []
  | [] => ⟨rfl, rfl⟩
  | o :: σ => ⟨o, σ, rfl, re_none σ⟩
theorem fn_mkS {x qual : Str} {st : Stmt} {f : Addr} {fd : FuncData} {N : List Str} {sc : Str} {k : Nat} {m : List Int → SM} (F : Fun K x qual st f fd) (Sc : FnScope N [sc] (defScope st)) (hN : 1 ≤ N.length)
    (hbody : ∀ (cdv : Value) (A : Around) (outer : List PySem.Env) (s : Shared) (H : Hp) (E : XK), Room k (A.deeper (envOfC qual (defScope st) s.heap.objs.size f cdv)) →
      ∃ t, PSs (cxOf (L2.CX P w) P w K mg base N qual (defScope st) f cdv A outer s H E) (defBody st) t ∧ ∀ ns, SSa (ScA K ns) ct (fun c d _ H => E c d H) [0] t (m ns)) : FnOk P w K mg base (L2.CX P w) (k + 1) f fd [sc] (spSc ct K (mFunS N.length m)) := by
  refine F.okX Sc (fun vs H Q E h => by obtain ⟨a, ns, rfl, _⟩ := h; rfl) fun cdv A outer s H vs Q E hr h => ?_
  obtain ⟨t, ht, hs⟩ := hbody cdv A outer s H E hr
  refine ⟨t, ht, ?_⟩
  obtain ⟨a, ns, rfl, hA, k1⟩ := h
  have hl : (start N [.ref a]).length = N.length := by
    simp only [L2.start, List.length_append, List.length_map, List.length_replicate, List.length_cons, List.length_nil]
    omega
  have hr0 : Re (fun _ => none) H (List.replicate N.length none) (start N [.ref a]) [] := by
    have := re_none (S := fun _ => none) (H := H) (start N [.ref a])
    rw [hl] at this
    exact this
  have g : GX H (fun _ => none) (List.replicate N.length none) (start N [.ref a]) [] [] H := ⟨fun _ => none, [], [], fun _ _ h => h, (fun _ _ h => nomatch h), (fun _ _ h => h), (fun _ _ h => h), hr0, ⟨rfl, rfl⟩, by simp, by simp, by simp⟩
  refine hs ns H (fun _ => none) (start N [.ref a]) _ _ H _ ⟨a, rfl, hA⟩ g Pin.refl ?_
  unfold mFunS at k1
  generalize m ns _ = o at k1 ⊢
  cases o with
  | rt t ρ => exact fun v σ' H' g3 _ => k1 v H' g3.noEnv
  | _ => exact k1.elim
end
end
end Z

namespace Z
noncomputable section
open PySem L2
variable {ct : CT} {Wx : XW} {W S0 S S1 H H' : Hp} {ρ ρ' : Env} {σ σ0 : St} {t u : T} {ts us tm its : List T} {v w : V} {vs ws vm : List V} {as bs : List Addr} {i : Nat} {d : D} {pin : List Nat} {D0 : Ends} {K : PySem.W.Frag} {ns : List Int}
theorem GX.addS (e : Same S H) (g : GX H (fun _ => none) [] [] tm vm H') : GX H S [] [] tm vm H' := by
  obtain ⟨S1, as, bs, g⟩ := g
  have ea : as = [] := g.re.2
  subst ea
  have n1 : ∀ a, S1 a ≠ none → H a = none := fun a h => by
    cases q : H a with
    | none => rfl
    | some o => exact absurd rfl (g.nw a (by rw [q]; simp) h)
  let S2 : Hp := fun a => match S a with
    | some o => some o
    | none => S1 a
  have e1 : Same S S2 := fun a o h => by show (match S a with | some o => some o | none => S1 a) = some o; rw [h]
  have e2 : Same S1 S2 := fun a o h => by
    show (match S a with | some o => some o | none => S1 a) = some o
    cases q : S a with
    | none => exact h
    | some o' =>
      have := n1 a (by rw [h]; simp)
      rw [e a o' q] at this; cases this
  refine ⟨S2, [], bs, e1, fun a o h => ?_, g.wh, fun a h1 h2 => ?_, ⟨rfl, rfl⟩, g.rt.mono e2 fun _ _ => rfl, g.nd, fun a ha => ?_, g.fw⟩
  · have h : (match S a with | some o => some o | none => S1 a) = some o := h
    cases q : S a with
    | none => rw [q] at h; exact g.sh a o h
    | some z => rw [q] at h; cases h; exact g.wh a o (e a o q)
  · have h2 : (match S a with | some o => some o | none => S1 a) ≠ none := h2
    cases q : S a with
    | none => rw [q] at h2; exact absurd (n1 a h2) h1
    | some o' => simp
  · have h1 := g.fw a ha
    have h2 := g.fs a ha
    have h3 : S a = none := by
      cases q : S a with
      | none => rfl
      | some z => rw [e a z q] at h1; cases h1
    show (match S a with | some o => some o | none => S1 a) = none
    rw [h3]; exact h2
def SEa (K : PySem.W.Frag) (ns : List Int) (ct : CT) (Wx : XW) (te : TE) (m : EM) : Prop := ∀ W S0 ρ σ tm vm H (Q : VK), ScA K ns W σ → GX W S0 ρ σ tm vm H → (m ρ).P (fun t ρ' => ∀ v H', GX W S0 ρ' σ (t :: tm) (v :: vm) H' → Q v H') (XE ct Wx W S0 σ tm vm) → te σ H Q
def eCallS (F : List Int → FOut) (ns : List Int) : EM := fun ρ => match F ns with
  | .ok t _ => .ok t ρ
  | _ => .bad
theorem sea_callS {F : List Int → FOut} {E : St → XK} : SEa K ns ct Wx (tCallS (spSc ct K F) E (tCons (tVar 0) tNil)) (eCallS F ns) := fun W S0 ρ σ tm vm H Q ⟨a, ea, hA⟩ g k => by
  refine ⟨.ref a, ea, a, ns, rfl, SqL.up g.outer hA, ?_⟩
  unfold eCallS at k
  generalize F ns = o at k ⊢
  cases o with
  | ok t ts =>
    intro v H' g2
    obtain ⟨S, as, bs, g1⟩ := g
    have hw : ∀ x, less H ([] : List Addr) x = H x := fun x => less_out (by simp)
    obtain ⟨W', S', gc, back⟩ := GX.call (ts := []) (vs := []) ⟨S, as, bs, g1⟩ rfl
    refine k v H' ?_
    -- the callee saw nothing of S: what it made is new
    have g3 : GX H S [] [] [t] [v] H' := g2.addS g1.sh
    obtain ⟨S2, as2, bs2, g4⟩ := g3
    have ea2 : as2 = [] := g4.re.2
    subst ea2
    have hnS : ∀ x, H x ≠ none → S x = none → S2 x = none := fun x h1 h2 => by
      cases q : S2 x with
      | none => rfl
      | some o => exact absurd h2 (g4.nw x h1 (by rw [q]; simp))
    have nd := g1.nd
    have fs := g1.fs
    have fw := g1.fw
    have nd4 := g4.nd
    have fs4 := g4.fs
    have fw4 := g4.fw
    have hne : ∀ x ∈ bs2, ∀ y, (y ∈ as ∨ y ∈ bs) → x ≠ y := fun x hx y hy e => by
      subst e
      have h0 := fw4 x (by simpa using hx)
      rcases hy with h | h
      · exact g1.re.there x h h0
      · exact g1.rt.there x h h0
    refine ⟨S2, as, bs2 ++ bs, fun x o h => g4.s0 x o (g1.s0 x o h), g4.sh, fun x o h => g4.wh x o (g1.wh x o h), fun x h1 h2 => ?_, g1.re.mono g4.s0 fun x hx => same_at g4.wh (g1.re.there x hx), ?_, by grind, ?_, ?_⟩
    · refine g1.nw x h1 (g4.nw x ?_ h2)
      cases q : W x with
      | none => exact absurd q h1
      | some o => rw [g1.wh x o q]; simp
    · have := g4.rt.append (g1.rt.mono g4.s0 fun x hx => same_at g4.wh (g1.rt.there x hx))
      exact this
    · intro x hx
      rcases List.mem_append.mp hx with h | h
      · exact hnS x (g1.re.there x h) (fs x (by grind))
      · rcases List.mem_append.mp h with h | h
        · exact fs4 x (by simpa using h)
        · exact hnS x (g1.rt.there x h) (fs x (by grind))
    · intro x hx
      rcases List.mem_append.mp hx with h | h
      · exact fw x (by grind)
      · rcases List.mem_append.mp h with h | h
        · have h0 := fw4 x (by simpa using h)
          cases q : W x with
          | none => rfl
          | some o => rw [g1.wh x o q] at h0; cases h0
        · exact fw x (by grind)
  | _ => exact k.elim
theorem sea_op {r : R2} {o : T → T → Option T} {ta tb : TE} {a b : EM} (hr : OpE r o) (ha : SE ct Wx ta a) (hb : SEa K ns ct Wx tb b) : SEa K ns ct Wx (tOp r ta tb) (eOp o a b) := fun W S0 ρ σ tm vm H Q x g k => by
  refine ha W S0 ρ σ tm vm H _ g ((Out.P_bnd.mp k).mono (fun t ρ1 k1 v H1 g1 => ?_) fun _ _ h => h)
  refine hb W S0 ρ1 σ (t :: tm) (v :: vm) H1 _ x g1 ((Out.P_bnd.mp k1).mono (fun u ρ2 k2 w H2 g2 => ?_) fun _ _ h => XE.pop (ts := [t]) (vs := [v]) h rfl)
  obtain ⟨z, e, k2⟩ := P_opt k2
  exact hr W S0 ρ2 σ tm vm H2 t u v w z Q g2 e k2
theorem sca_pin (x : ScA K ns W σ0) (p : Pin pin σ0 σ) (h : 0 ∈ pin) : ScA K ns W σ := by
  obtain ⟨a, e, q⟩ := x
  exact ⟨a, (p 0 h).trans e, q⟩
theorem ssa_ret {te : TE} {e : EM} (hp : 0 ∈ pin) (he : SEa K ns ct Wx te e) : SSa (ScA K ns) ct Wx pin (tRet te) (mRet e) := fun W S0 σ0 ρ σ H D x g p k => by
  refine he W S0 ρ σ [] [] H _ (sca_pin x p hp) g ((SK.st p k).mono (fun t ρ1 k1 v H1 g1 => ?_) fun _ _ h => h)
  exact k1 v σ H1 g1 p
theorem ssa_set {i : Nat} {te : TE} {e : EM} (hp : 0 ∈ pin) (he : SEa K ns ct Wx te e) (hi : i ∉ pin) : SSa (ScA K ns) ct Wx pin (tAsg te (gName i)) (mSet i e) := fun W S0 σ0 ρ σ H D x g p k => by
  refine he W S0 ρ σ [] [] H _ (sca_pin x p hp) g ((SK.st p k).mono (fun t ρ1 k1 v H1 g1 => ?_) fun _ _ h => h)
  exact k1 _ _ (g1.putA i) (p.set hi)
/-! ### what the top holds -/
section
open PySem.Spec PyProof.Rows
variable {P : Program} {w : World} {mg : Str → Option Value} {base h : Heap}
def Dd (K : PySem.W.Frag) (mg : Str → Option Value) (x : Str) (st : Stmt) (ps : List Str) : Prop := ∃ (f : Addr) (fd : FuncData), Fun K x x st f fd ∧ mg x = some (.ref f) ∧ Binds K fd ps []
def Fn (P : Program) (w : World) (K : PySem.W.Frag) (mg : Str → Option Value) (base : Heap) (x : Str) (k : Nat) (ps : List Str) (sp : Sp) : Prop :=
  ∃ (f : Addr) (fd : FuncData), FnOk P w K mg base (L2.CX P w) k f fd ps sp ∧ mg x = some (.ref f) ∧ PySem.W.keepIn K (.ref f) = true ∧ Binds K fd ps []
theorem dd_mk {x : Str} {st : Stmt} {f : Addr} {oc : Value} {od an : Option Addr} {osl : Array (Option Value)} {kV doc pm cdv ctv : Value} {ps : List Str} (X : K.In h) (G : h.Ns mainGlobals mg)
    (a : PySem.W.nsIn K mainGlobals x = some (some (.ref f))) (l : K.lookup f = some ⟨oc, od, .func (PySem.W.fnOf x x (defArgs st) (defBody st) (defScope st) .none kV doc pm an cdv ctv), osl⟩) (c : PySem.W.codeIn K cdv x = true) (k : PySem.W.keepIn K (.ref f) = true)
    (hb : ∀ (kV doc pm : Value) (an : Option Addr) (cdv ct : Value) (us : List Value), us.length = ps.length → bindArgs (PySem.W.fnOf x x (defArgs st) (defBody st) (defScope st) .none kV doc pm an cdv ct) ⟨us, []⟩ = pure (ps.zip us)) : Dd K mg x st ps :=
  ⟨f, _, fun_mk l c k, PySem.W.mg_of X G a, (fun_mk l c k).binds hb⟩
theorem fn_def {x : Str} {st : Stmt} {N ps : List Str} {k : Nat} {m : SM} (F : Dd K mg x st ps) (Sc : FnScope N ps (defScope st))
    (hbody : ∀ (f : Addr) (cdv : Value) (A : Around) (outer : List PySem.Env) (s : Shared) (H : Hp) (E : XK), Room k (A.deeper (envOfC x (defScope st) s.heap.objs.size f cdv)) →
      ∃ t, PSs (cxOf (L2.CX P w) P w K mg base N x (defScope st) f cdv A outer s H E) (defBody st) t ∧ SS ct (fun c d _ H => E c d H) [] t m) : Fn P w K mg base x (k + 1) ps (spM ct ps.length (mFun ps.length N.length m)) := by
  obtain ⟨f, fd, F, hm, hb⟩ := F
  exact ⟨f, fd, fn_mk F Sc (hbody f), hm, F.kp, hb⟩
theorem fn_defI {x : Str} {st : Stmt} {N ps : List Str} {k : Nat} {m : SM} (F : Dd K mg x st ps) (Sc : FnScope N ps (defScope st)) (hps : 0 < ps.length)
    (hbody : ∀ (f : Addr) (cdv : Value) (A : Around) (outer : List PySem.Env) (s : Shared) (H : Hp) (E : XK), Room k (A.deeper (envOfC x (defScope st) s.heap.objs.size f cdv)) →
      ∃ t, PSs (cxOf (L2.CX P w) P w K mg base N x (defScope st) f cdv A outer s H E) (defBody st) t ∧ SS ct (fun c d _ H => E c d H) [0] t m) : Fn P w K mg base x (k + 1) ps (spM ct ps.length (mFunI ps.length N.length m)) := by
  obtain ⟨f, fd, F, hm, hb⟩ := F
  exact ⟨f, fd, fn_mkI F Sc hps (hbody f), hm, F.kp, hb⟩
theorem fn_defS {x : Str} {st : Stmt} {N : List Str} {sc : Str} {k : Nat} {m : List Int → SM} (F : Dd K mg x st [sc]) (Sc : FnScope N [sc] (defScope st)) (hN : 1 ≤ N.length)
    (hbody : ∀ (f : Addr) (cdv : Value) (A : Around) (outer : List PySem.Env) (s : Shared) (H : Hp) (E : XK), Room k (A.deeper (envOfC x (defScope st) s.heap.objs.size f cdv)) →
      ∃ t, PSs (cxOf (L2.CX P w) P w K mg base N x (defScope st) f cdv A outer s H E) (defBody st) t ∧ ∀ ns, SSa (ScA K ns) ct (fun c d _ H => E c d H) [0] t (m ns)) : Fn P w K mg base x (k + 1) [sc] (spSc ct K (mFunS N.length m)) := by
  obtain ⟨f, fd, F, hm, hb⟩ := F
  exact ⟨f, fd, fn_mkS F Sc hN (hbody f), hm, F.kp, hb⟩
theorem fn_bad {x : Str} {st : Stmt} {k n : Nat} {ps : List Str} (F : Dd K mg x st ps) : Fn P w K mg base x k ps (spM ct n (fun _ => .bad)) := by
  obtain ⟨f, fd, F, hm, hb⟩ := F
  have no : ∀ vs H Q E, ¬ spM ct n (fun _ => .bad) vs H Q E := fun vs H Q E h => by
    obtain ⟨_, _, _, _, _, h⟩ := h
    exact h
  exact ⟨f, fd, ⟨fun vs H Q E h => absurd h (no vs H Q E), fun A outer s H args us vs Q E _ _ _ _ h => absurd h (no vs H Q E)⟩, hm, F.kp, hb⟩
/-- law's own -/
def Fl (P : Program) (w : World) (K : PySem.W.Frag) (mg : Str → Option Value) (base : Heap) (x : Str) (st : Stmt) (k : Nat) (ps : List Str) (sp : Sp) : Prop :=
  ∃ (f : Addr) (fd : FuncData), FnOk P w K mg base (L2.CX P w) k f fd ps sp ∧ Fun K x x st f fd ∧ mg x = some (.ref f)
theorem fn_defL {x : Str} {st : Stmt} {N : List Str} {sc : Str} {k : Nat} {m : List Int → SM} (F : Dd K mg x st [sc]) (Sc : FnScope N [sc] (defScope st)) (hN : 1 ≤ N.length)
    (hbody : ∀ (f : Addr) (cdv : Value) (A : Around) (outer : List PySem.Env) (s : Shared) (H : Hp) (E : XK), Room k (A.deeper (envOfC x (defScope st) s.heap.objs.size f cdv)) →
      ∃ t, PSs (cxOf (L2.CX P w) P w K mg base N x (defScope st) f cdv A outer s H E) (defBody st) t ∧ ∀ ns, SSa (ScA K ns) ct (fun c d _ H => E c d H) [0] t (m ns)) : Fl P w K mg base x st (k + 1) [sc] (spSc ct K (mFunS N.length m)) := by
  obtain ⟨f, fd, F, hm, hb⟩ := F
  exact ⟨f, fd, fn_mkS F Sc hN (hbody f), F, hm⟩
theorem Fn.mono {x : Str} {j k : Nat} {ps : List Str} {sp : Sp} (F : Fn P w K mg base x j ps sp) (h : j ≤ k) : Fn P w K mg base x k ps sp := by
  obtain ⟨f, fd, F, r⟩ := F
  exact ⟨f, fd, F.mono h, r⟩
/-- what law(script) promises -/
def spLaw (K : PySem.W.Frag) : Sp := fun vs H Q _ => ∃ (a : Addr) (ns : List Int), vs = [.ref a] ∧ SqL K H a (ns.map V.int) ∧ ns.length ≤ 63 ∧ ∀ H', Q (.bl true) H'
theorem fn_law {x : Str} {st : Stmt} {sc : Str} {k : Nat} {F : List Int → FOut} (G : Fl P w K mg base x st k [sc] (spSc ct K F)) (hF : ∀ ns : List Int, ns.length ≤ 63 → F ns = .ok (.sh (.bl true)) []) : Fl P w K mg base x st k [sc] (spLaw K) := by
  obtain ⟨f, fd, G, r⟩ := G
  refine ⟨f, fd, G.imp fun vs H Q E h => ?_, r⟩
  obtain ⟨a, ns, rfl, hA, hl, q⟩ := h
  refine ⟨a, ns, rfl, hA, ?_⟩
  rw [hF ns hl]
  intro v H' g
  have := g.tmp
  rw [show v = .bl true from this]
  exact q H'
theorem law_at {fa : Addr} {x sc : Str} {st : Stmt} {f : Addr} {oc : Value} {od an : Option Addr} {osl : Array (Option Value)} {kV doc pm cdv ctv : Value} {k : Nat} {sp : Sp} (X : K.In h) (G : h.Ns mainGlobals mg) (hfa : mg x = some (.ref fa))
    (a : PySem.W.nsIn K mainGlobals x = some (some (.ref f))) (l : K.lookup f = some ⟨oc, od, .func (PySem.W.fnOf x x (defArgs st) (defBody st) (defScope st) .none kV doc pm an cdv ctv), osl⟩)
    (hb : ∀ (kV doc pm : Value) (an : Option Addr) (cdv ct : Value) (us : List Value), us.length = [sc].length → bindArgs (PySem.W.fnOf x x (defArgs st) (defBody st) (defScope st) .none kV doc pm an cdv ct) ⟨us, []⟩ = pure ([sc].zip us))
    (hF : ∀ base : Heap, K.In base → base.Ns mainGlobals mg → ∃ g gd, FnOk P w K mg base (L2.CX P w) k g gd [sc] sp ∧ Fun K x x st g gd ∧ mg x = some (.ref g)) :
    ∃ fd : FuncData, (∀ (s : Shared) (v : Value), BindsTo s fd ⟨[v], []⟩ [(sc, v)]) ∧ ∀ base : Heap, K.In base → base.Ns mainGlobals mg → FnOk P w K mg base (L2.CX P w) k fa fd [sc] sp := by
  have e := hfa.symm.trans (PySem.W.mg_of X G a)
  cases e
  refine ⟨_, fun s v => .of_eq (hb kV doc pm an cdv ctv [v] rfl), fun base b1 b2 => ?_⟩
  obtain ⟨g, gd, h1, h2, h3⟩ := hF base b1 b2
  rw [hfa] at h3
  cases h3
  obtain ⟨oc', od', kV', doc', pm', an', cdv', ct', osl', e1, lk, _⟩ := h2.ex
  rw [l] at lk
  have e2 : PySem.W.fnOf x x (defArgs st) (defBody st) (defScope st) .none kV doc pm an cdv ctv = gd := by
    injection lk with lk
    injection lk with _ _ e3 _
    injection e3
  rw [e2]
  exact h1
theorem cx_none {P : Program} {w : World} {H : Hp} {s : Shared} {e : Value} {s' : Shared} (h : L2.CX P w [] H s (fun _ _ _ => False) e s') : False := by
  obtain ⟨_, _, _, _, _, _, _, _, _, _, _, _, z⟩ := h
  exact z.elim
theorem walk {l : PySem.W.OpenLaw} {q : Program} {loose : List Str} {XP : (Str → Option Value) → Heap → Prop} {YP : World → Heap → Prop} {d : DefRec} {K : Params → PySem.W.Frag} (k : Nat) (hr : Room k callerA) (hn : l.most = some 63) (hdf : d.params.defaults = [])
    (hY : ∀ (w : World) (h : Heap), YP w h → (K w.params).In h)
    (F : ∀ (w : World) (mg : Str → Option Value) (fa : Addr) (h : Heap), (K w.params).In h → h.Ns mainGlobals mg → mg d.name = some (.ref fa) →
      ∃ fd : FuncData, (∀ (s : Shared) (u : Value), BindsTo s fd ⟨[u], []⟩ [("script", u)]) ∧ ∀ base : Heap, (K w.params).In base → base.Ns mainGlobals mg → FnOk l.prog w (K w.params) mg base (L2.CX l.prog w) k fa fd ["script"] (spLaw (K w.params))) :
    PySem.W.WalkO q loose XP YP l.row.toRowW d [] (fun f vs => PySem.call f vs) :=
  L2.walk_of (n := 63) (k := k) (x := "script") (CX := fun w => L2.CX l.prog w) (sp := fun w => spLaw (K w.params)) hn (by decide) hdf hr hY F (fun _ _ a ns hl _ hS => ⟨a, ns, rfl, hS, hl, fun _ => rfl⟩) fun _ _ _ _ _ z => cx_none z
theorem eqU {A : Around} {k : Nat} (hr : Room k A) : A.units + 64 < cLine := by
  have := hr.un
  omega
end
end
end Z

namespace Z
noncomputable section
open PySem L2
variable {ct : CT} {Wx : XW} {W S0 S S1 H H' : Hp} {ρ ρ' : Env} {σ σ0 : St} {t u : T} {ts us tm its : List T} {v w : V} {vs ws vm : List V} {as bs : List Addr} {i : Nat} {d : D} {pin : List Nat} {D0 : Ends} {K : PySem.W.Frag} {ns : List Int}
/-! ### a list at a name is walked; it stays the name's own, its items are shared -/
def also (W H : Hp) (a : Addr) : Hp := fun x => if x = a then H x else W x
theorem also_at {a : Addr} : also W H a a = H a := if_pos rfl
theorem also_ne {a x : Addr} (h : x ≠ a) : also W H a x = W x := if_neg h
theorem Rtl.fzs {S H : Hp} : ∀ {ts : List T} {vs : List V} {b : List Addr} {S' : Hp}, Same S S' → (∀ a ∈ b, ∀ o, H a = some o → S' a = some o) → Rtl S H ts vs b → Rpl S' (ts.map T.d) vs
  | ts, vs, b, S', e, k, h => by rw [← dl_eq]; exact h.toRpl e k
theorem map_fz (ts : List T) : ts.map T.fz = (ts.map T.d).map .sh := by
  rw [List.map_map]; rfl
/-- the name's list set aside: what is walked, and how it is put back -/
theorem GX.aside (g : GX W S0 ρ σ tm vm H) (e : ρ[i]? = some (some (.ol ts))) : ∃ a xs S, σ[i]? = some (some (.ref a)) ∧ H a = some (.lst xs) ∧ Rpl S (ts.map T.d) xs ∧ Up W S0 S ∧ S a = none ∧ W a = none ∧
    GX (also W H a) S (ρ.set i none) σ tm vm H ∧
    (∀ ρ' σ' tm' vm' H', GX (also W H a) S ρ' σ' tm' vm' H' → GX W S0 ρ' σ' tm' vm' H') ∧
    (∀ ρ' σ' tm' vm' H', GX (also W H a) S ρ' σ' tm' vm' H' → σ'[i]? = some (some (.ref a)) → GX W S0 (ρ'.set i (some (.ol (ts.map T.fz)))) σ' tm' vm' H') := by
  obtain ⟨v, e1, g1⟩ := g.take e
  obtain ⟨S, as, bs, g1⟩ := g1
  obtain ⟨v', r, c1, c2, h3, rfl, ⟨a, xs, b, rfl, rfl, h4, h5⟩, h6⟩ := g1.rt
  cases h3
  have nd := g1.nd
  have fs := g1.fs
  have fw := g1.fw
  have eS : Same S (more S H b) := more_same (by grind)
  have hr : Rpl (more S H b) (ts.map T.d) xs := h5.fzs eS fun x hx o h => by rw [more_in hx]; exact h
  have ha : a ∉ b := by grind
  have hSa : S a = none := fs a (by grind)
  have hWa : W a = none := fw a (by grind)
  have hMa : more S H b a = none := by rw [more_out ha]; exact hSa
  have sW : ∀ x, x ≠ a → also W H a x = W x := fun x h => also_ne h
  have wSame : Same W (also W H a) := fun x o h => by
    rw [sW x (by rintro rfl; rw [hWa] at h; cases h)]; exact h
  have hup : Up W S0 (more S H b) := ⟨g1.s0.trans eS, fun x h k => by
    by_cases q : x ∈ b
    · exact absurd (fw x (by grind)) h
    · rw [more_out q] at k; exact g1.nw x h k⟩
  have gN : GX (also W H a) (more S H b) (ρ.set i none) σ tm vm H := by
    refine ⟨more S H b, as, c2, fun _ _ h => h, more_sub g1.sh, fun x o h => ?_, fun _ _ h => h, g1.re.mono eS fun _ _ => rfl, h6.mono eS fun _ _ => rfl, by grind, fun x hx => ?_, fun x hx => ?_⟩
    · by_cases q : x = a
      · subst q; rw [also_at] at h; exact h
      · rw [sW x q] at h; exact g1.wh x o h
    · have q : x ∉ b := by grind
      rw [more_out q]; exact fs x (by grind)
    · rw [sW x (by rintro rfl; grind)]; exact fw x (by grind)
  refine ⟨a, xs, more S H b, e1, h4, hr, hup, hMa, hWa, gN, fun ρ' σ' tm' vm' H' g' => ?_, fun ρ' σ' tm' vm' H' g' es => ?_⟩
  · obtain ⟨S', as', bs', g'⟩ := g'
    refine ⟨S', as', bs', hup.1.trans g'.s0, g'.sh, fun x o h => g'.wh x o (wSame x o h), fun x h k => ?_, g'.re, g'.rt, g'.nd, g'.fs, fun x hx => ?_⟩
    · refine hup.2 x h (g'.nw x ?_ k)
      intro q
      cases hq : W x with
      | none => exact h hq
      | some o => rw [wSame x o hq] at q; cases q
    · have := g'.fw x hx
      cases hq : W x with
      | none => rfl
      | some o => rw [wSame x o hq] at this; cases this
  · obtain ⟨S', as', bs', g'⟩ := g'
    have hHa : H' a = some (.lst xs) := g'.wh a _ (by rw [also_at]; exact h4)
    have hS'a : S' a = none := by
      cases q : S' a with
      | none => rfl
      | some o => exact absurd hMa (g'.nw a (by rw [also_at, h4]; simp) (by rw [q]; simp))
    have nd' := g'.nd
    have fw' := g'.fw
    have fs' := g'.fs
    have hne : ∀ x ∈ as' ++ bs', x ≠ a := fun x hx q => by
      have := fw' x hx
      rw [q, also_at, h4] at this; cases this
    have g2 : GX W S0 ρ' σ' (.ol (ts.map T.fz) :: tm') (.ref a :: vm') H' := by
      refine ⟨S', as', a :: bs', hup.1.trans g'.s0, g'.sh, fun x o h => g'.wh x o (wSame x o h), fun x h k => ?_, g'.re, ⟨.ref a, vm', [a], bs', rfl, rfl, ⟨a, xs, [], rfl, rfl, hHa, ?_⟩, g'.rt⟩, ?_, ?_, ?_⟩
      · refine hup.2 x h (g'.nw x ?_ k)
        intro q
        cases hq : W x with
        | none => exact h hq
        | some o => rw [wSame x o hq] at q; cases q
      · rw [map_fz]; exact (hr.mono g'.s0).toRtl
      · grind
      · grind
      · intro x hx
        by_cases q : x = a
        · rw [q]; exact hWa
        · have := fw' x (by grind)
          rw [sW x q] at this; exact this
    exact g2.back es
def mForB (i : Nat) (b : BM) (body : SM) : SM := fun ρ => match ρ[i]? with
  | some (some (.ol ts)) => match forL b body (ts.map T.fz) (ρ.set i none) with
    | .nx ρ' => .nx (ρ'.set i (some (.ol (ts.map T.fz))))
    | r => r
  | _ => .bad
/-- a stable heap for the walk -/
theorem jok_mono {Z : Hp} {J : It} (h : JOk S J its) (e : Same S Z) : ∀ i H x H', Same Z H → i < its.length → J.yld i H x H' → ∃ t, its[i]? = some t ∧ ((H' = H ∧ ∃ d, t = .sh d ∧ Rp S d x) ∨ ∃ p es vs, t = .ot (es.map .sh) ∧ x = .ref p ∧ H p = none ∧ H' = upd H p (.tup vs) ∧ Rpl S es vs) := fun i H x H' s => h.yld i H x H' (e.trans s)
theorem yld_list {a : Addr} {l : List D} {xs : List V} (hH : H a = some (.lst xs)) (r : Rpl S l xs) {x : V} (hi : i < l.length) (y : (Itl K a).yld i H x H') : ∃ t, (l.map T.sh)[i]? = some t ∧ ((H' = H ∧ ∃ d, t = .sh d ∧ Rp S d x) ∨ ∃ p es vs, t = .ot (es.map .sh) ∧ x = .ref p ∧ H p = none ∧ H' = upd H p (.tup vs) ∧ Rpl S es vs) := by
  obtain ⟨e1, y⟩ := y
  have hx := y xs (.of hH)
  obtain ⟨v, e2, e3⟩ := r.get (List.getElem?_eq_getElem hi)
  rw [hx] at e2
  cases e2
  exact ⟨.sh l[i], by simp [hi], .inl ⟨e1, _, rfl, e3⟩⟩
theorem ss_forB {slots : List Nat} {g : TG} {tb : TS} {b : BM} {body : SM} (hg : SG slots g b) (hs : ∀ j ∈ slots, j ∉ i :: pin) (hb : SS ct Wx (i :: pin) tb body) : SS ct Wx pin (tFor (iSeq K (tVar i)) g tb) (mForB i b body) := fun W S0 σ0 ρ σ H D gx p k => by
  unfold mForB at k
  split at k
  case h_2 => exact k.elim
  rename_i ts e0
  obtain ⟨a, xs, S, ea, hH, hr, hu, hSa, hWa, gN, out1, out2⟩ := gx.aside e0
  have hlen : xs.length = ts.length := by have := hr.len; simpa using this
  refine ⟨.ref a, ea, a, rfl, .inl ⟨⟨xs, .of hH⟩, ?_⟩⟩
  have pinI : ∀ σ', Pin (i :: pin) σ σ' → Pin pin σ0 σ' ∧ σ'[i]? = some (some (.ref a)) := fun σ' q => ⟨fun j hj => (q j (by simp [hj])).trans (p j hj), (q i (by simp)).trans ea⟩
  refine for_list (xs := xs) (fun n σ' H' => ∃ ρ', GX (also W H a) S ρ' σ' [] [] H' ∧ Pin (i :: pin) σ σ' ∧ n ≤ ts.length ∧ (match forL b body ((ts.map T.fz).drop n) ρ' with
      | .nx ρ' => SK ct Wx W S0 pin σ0 D (.nx (ρ'.set i (some (.ol (ts.map T.fz)))))
      | r => SK ct Wx W S0 pin σ0 D r)) ⟨_, gN, Pin.refl, Nat.zero_le _, ?_⟩ ?_ ?_ ?_
  · simp only [List.drop_zero]
    generalize forL b body (ts.map T.fz) (ρ.set i none) = o at k ⊢
    cases o <;> exact k
  · rintro n σ' H' _ ⟨ρ', g', _⟩
    exact .of (g'.outer a _ (by rw [also_at]; exact hH))
  · rintro n x σ' H' hx ⟨ρ', g', p', hn, k'⟩
    have hlt : n < ts.length := by have := (List.getElem?_eq_some_iff.mp hx).1; omega
    have hH' : H' a = some (.lst xs) := g'.outer a _ (by rw [also_at]; exact hH)
    obtain ⟨w, e2, e3⟩ := hr.get (i := n) (d := (ts[n]).d) (by simp [hlt])
    rw [hx] at e2
    cases e2
    rw [List.drop_eq_getElem_cons (by simpa using hlt), List.getElem_map] at k'
    unfold forL at k'
    generalize hbt : b (T.fz ts[n]) ρ' = ob at k'
    cases ob with
    | none => exact k'.elim
    | some ρ2 =>
      simp only at k'
      obtain ⟨S1, as1, bs1, g1⟩ := g'
      refine hg _ S ρ' σ' [] [] H' _ x ρ2 (g1.pushS (e3.mono g1.s0)) hbt _ fun σ2 g2 ew => ?_
      refine hb _ S σ ρ2 σ2 H' _ g2 (p'.wipe ew hs) ?_
      generalize body ρ2 = o at k'
      cases o with
      | bad => exact k'
      | nx ρ3 => exact fun σ3 H3 g3 p3 => ⟨ρ3, g3, p3, hlt, k'⟩
      | ct ρ3 => exact fun σ3 H3 g3 p3 => ⟨ρ3, g3, p3, hlt, k'⟩
      | bk ρ3 => exact fun σ3 H3 g3 p3 => k' σ3 H3 (out2 _ _ _ _ _ g3 (pinI _ p3).2) (pinI _ p3).1
      | rt t' ρ3 => exact fun v3 σ3 H3 g3 p3 => k' v3 σ3 H3 (out1 _ _ _ _ _ g3) (pinI _ p3).1
      | ex x' ρ3 => exact fun c3 d3 σ3 H3 g3 p3 hx3 => k' c3 d3 σ3 H3 (out1 _ _ _ _ _ g3) (pinI _ p3).1 hx3
  · rintro σ' H' ⟨ρ', g', p', hn, k'⟩
    rw [hlen, List.drop_eq_nil_of_le (by simp)] at k'
    exact k' σ' H' (out2 _ _ _ _ _ g' (pinI _ p').2) (pinI _ p').1
def eLCB (slots : List Nat) (i : Nat) (b : BM) (tst : EMb) (elt : EM) : EM := fun ρ => match ρ[i]? with
  | some (some (.ol ts)) => ((lcL slots b tst elt (ts.map T.fz) [] (wipeE (ρ.set i none) slots)).nox).bnd fun acc ρ2 => .ok (.ol acc) ((keepE (ρ.set i none) slots (wipeE ρ2 slots)).set i (some (.ol (ts.map T.fz))))
  | _ => .bad
theorem se_lcB {slots : List Nat} {g : TG} {tt : TT} {te : TE} {b : BM} {tst : EMb} {elt : EM} (hg : SG slots g b) (ht : SET ct NoX tt tst) (he : SE ct NoX te elt) : SE ct Wx (tLc (iSeq K (tVar i)) g tt te slots) (eLCB slots i b tst elt) := fun W S0 ρ σ tm vm H Q gx k => by
  unfold eLCB at k
  split at k
  case h_2 => exact k.elim
  rename_i ts e0
  obtain ⟨a, xs, S, ea, hH, hr, hu, hSa, hWa, gN, out1, out2⟩ := gx.aside e0
  have hlen : xs.length = ts.length := by have := hr.len; simpa using this
  have k2 := P_nox (Ψ' := fun _ _ => False) (Out.P_bnd.mp k)
  refine ⟨.ref a, ea, a, rfl, .inl ⟨⟨xs, .of hH⟩, ?_⟩⟩
  intro D hD
  obtain ⟨S1, as, bs, hu1, g1⟩ := gN.up
  have hk : ∀ (j : Nat) d, (ρ.set i none)[j]? = some (some (.sh d)) → ∃ v, σ[j]? = some (some v) ∧ Rp S1 d v := fun j d e => by
    obtain ⟨v, b, c, d', e1, _, ⟨_, e3⟩, _⟩ := g1.re.at e
    exact ⟨v, e1, e3⟩
  have g2 : GX (also W H a) S1 (wipeE (ρ.set i none) slots) (wipe σ slots) (.ol [] :: tm) (.ref D :: vm) (upd H D (.lst [])) := GX.wipe (GX.newL (ts := []) (vs := []) ⟨S1, as, bs, g1⟩ rfl hD)
  have hr1 := hr.mono hu1.1
  refine lc_list (xs := xs) (fun n H' => n ≤ ts.length ∧ ∃ ρ' acc, GX (also W H a) S1 ρ' (wipe σ slots) (.ol acc :: tm) (.ref D :: vm) H' ∧ (lcL slots b tst elt ((ts.map T.fz).drop n) acc ρ').P (fun acc ρ2 => ∀ H', GX (also W H a) S1 (wipeE ρ2 slots) (wipe σ slots) (.ol acc :: tm) (.ref D :: vm) H' → Q (.ref D) H') (fun _ _ => False)) ?_ ?_ ?_ ?_
  · refine ⟨Nat.zero_le _, _, [], g2, k2.mono (fun acc ρ2 k3 H' g3 => ?_) fun _ _ h => h⟩
    exact k3 (.ref D) H' (out2 _ _ _ _ _ ((GX.keep g3 hk).join hu1) ea)
  · rintro n H' _ ⟨_, ρ', acc, g', _⟩
    exact .of (g'.outer a _ (by rw [also_at]; exact hH))
  · rintro n x H' hx ⟨hle, ρ', acc, g', k'⟩
    have hlt : n < ts.length := by have := (List.getElem?_eq_some_iff.mp hx).1; omega
    obtain ⟨w, e2, e3⟩ := hr1.get (i := n) (d := (ts[n]).d) (by simp [hlt])
    rw [hx] at e2
    cases e2
    rw [List.drop_eq_getElem_cons (by simpa using hlt), List.getElem_map] at k'
    unfold lcL at k'
    generalize hbt : b (T.fz ts[n]) ρ' = ob at k'
    cases ob with
    | none => exact k'.elim
    | some ρ2 =>
    simp only at k'
    obtain ⟨S2, as2, bs2, gg⟩ := g'
    refine hg _ S1 ρ' _ _ _ H' _ x ρ2 (gg.pushS (e3.mono gg.s0)) hbt _ fun σ2 g2 ew => ?_
    rw [wipe_wipe] at ew
    refine ⟨ew, ht _ S1 ρ2 σ2 _ _ H' _ g2 ((Out.P_bnd.mp k').mono (fun c ρ3 k3 H3 g3 => ?_) fun _ _ h => h.elim)⟩
    cases c with
    | false =>
      refine ⟨hlt, wipeE ρ3 slots, acc, ?_, k3⟩
      have := GX.wipe (slots := slots) g3
      rw [ew] at this
      exact this
    | true =>
      rw [if_pos rfl] at k3
      refine he _ S1 ρ3 σ2 _ _ H3 _ g3 ((Out.P_bnd.mp k3).mono (fun u ρ4 k4 yv H4 g4 => ?_) fun _ _ h => h.elim)
      obtain ⟨hz, k4⟩ := P_ite k4
      have g5 : GX (also W H a) S1 ρ4 σ2 (.ol acc :: u :: tm) (.ref D :: yv :: vm) H4 := GX.rot (ts := [u]) (vs := [yv]) g4 rfl
      obtain ⟨a', xs', e5, h1, h2, mk⟩ := g5.mutL
      cases e5
      refine ⟨xs', h1, lim_lt (by omega), hlt, wipeE ρ4 slots, acc ++ [u], ?_, k4⟩
      have g6 := mk (acc ++ [u]) tm (xs' ++ [yv]) vm (fun S H b c hb hc => by
        obtain ⟨v', r, c1, c2, h3, rfl, h4, h5⟩ := hc
        cases h3
        have h6 : Rtl S H [u] [yv] c1 := ⟨yv, [], c1, [], rfl, by simp, h4, rfl, rfl⟩
        exact ⟨b ++ c1, c2, hb.append h6, h5, by grind, by grind⟩)
      have := GX.wipe (slots := slots) g6
      rw [ew] at this
      exact this
  · rintro H' ⟨_, ρ', acc, g', k'⟩
    rw [hlen, List.drop_eq_nil_of_le (by simp)] at k'
    refine k' H' ?_
    have := GX.wipe (slots := slots) g'
    rw [wipe_wipe] at this
    exact this
/-! ### a fresh value shared at once -/
def eFz (m : EM) : EM := fun ρ => (m ρ).bnd fun u ρ => .ok u.fz ρ
theorem se_fz {te : TE} {m : EM} (h : SE ct Wx te m) : SE ct Wx te (eFz m) := fun W S0 ρ σ tm vm H Q g k => h W S0 ρ σ tm vm H Q g ((Out.P_bnd.mp k).mono (fun t ρ1 k1 v H1 g1 => k1 v H1 g1.frz) fun _ _ h => h)
end
end Z

namespace Z
noncomputable section
open PySem L2
/-! ### lists of ints -/
def ig (i : Int) : T := .sh (.int i)
@[simp] theorem ig_app (i : Int) : ig i = .sh (.int i) := rfl
abbrev si (i : Int) : T := .sh (.int i)
abbrev T.ints (l : List Int) : T := .ol (l.map ig)
abbrev D.ints (l : List Int) : D := .lst (l.map .int)
abbrev shi (l : List Int) : T := .sh (D.ints l)
@[simp] theorem dl_nil : dl [] = [] := rfl
@[simp] theorem dl_cons (t : T) (l : List T) : dl (t :: l) = t.d :: dl l := rfl
@[simp] theorem dl_app (l m : List T) : dl (l ++ m) = dl l ++ dl m := by simp [dl_eq]
@[simp] theorem dl_ig (l : List Int) : dl (l.map ig) = l.map D.int := by rw [dl_eq, List.map_map]; rfl
@[simp] theorem dl_set (l : List T) (k : Nat) (t : T) : dl (l.set k t) = (dl l).set k t.d := by simp [dl_eq]
@[simp] theorem sh_d (d : D) : (T.sh d).d = d := rfl
@[simp] theorem ol_d (l : List T) : (T.ol l).d = .lst (dl l) := rfl
@[simp] theorem ot_d (l : List T) : (T.ot l).d = .tup (dl l) := rfl
@[simp] theorem fz_def (t : T) : T.fz t = .sh t.d := rfl
@[simp] theorem els_ol (l : List T) : (T.ol l).els = some l := rfl
@[simp] theorem els_sh (l : List D) : (T.sh (.lst l)).els = some (l.map .sh) := rfl
@[simp] theorem kids_ol (l : List T) : (T.ol l).kids = some l := rfl
@[simp] theorem kids_sh (l : List D) : (T.sh (.lst l)).kids = some (l.map .sh) := rfl
@[simp] theorem shs_sh (l : List D) : (T.sh (.lst l)).shs = some l := rfl
@[simp] theorem shs_ol (l : List T) : (T.ol l).shs = shsL l := rfl
@[simp] theorem shsL_ig (l : List Int) : shsL (l.map ig) = some (l.map .int) := by
  induction l with
  | nil => rfl
  | cons a l ih => simp only [List.map_cons, ig_app, shsL, ih, Option.map_some]
@[simp] theorem shsL_nil : shsL [] = some [] := rfl
@[simp] theorem shsL_cons (d : D) (l : List T) : shsL (.sh d :: l) = (shsL l).map (d :: ·) := rfl
@[simp] theorem shsL_app (l m : List T) : shsL (l ++ m) = (shsL l).bind fun a => (shsL m).map (a ++ ·) := by
  induction l with
  | nil => cases h : shsL m <;> simp [shsL, h]
  | cons t l ih =>
    cases t <;> simp [shsL, ih]
    cases shsL l <;> simp
    cases shsL m <;> simp
@[simp] theorem map_sh_int (l : List Int) : (l.map D.int).map T.sh = l.map ig := by rw [List.map_map]; rfl
@[simp] theorem lst_lst (l : List D) : (D.lst l).lstO = some l := rfl
@[simp] theorem seq_lst (l : List D) : (D.lst l).seq = some l := rfl
@[simp] theorem int_int (i : Int) : (D.int i).intO = some i := rfl
@[simp] theorem tru_bool (b : Bool) : (D.bl b).tru = some b := rfl
@[simp] theorem scal_int (i : Int) : (D.int i).scal = true := rfl
@[simp] theorem scal_bl (i : Bool) : (D.bl i).scal = true := rfl
@[simp] theorem scal_str (i : Str) : (D.str i).scal = true := rfl
@[simp] theorem scal_non : D.non.scal = true := rfl
@[simp] theorem len_lst (l : List D) : oLen (.lst l) = some (.int l.length) := rfl
@[simp] theorem dl_len (l : List T) : (dl l).length = l.length := by simp [dl_eq]
@[simp] theorem int_o (i : Int) : oInt (.int i) = some (.int i) := rfl
@[simp] theorem add_int (i j : Int) : oAdd (.int i) (.int j) = some (.int (i + j)) := rfl
@[simp] theorem sub_int (i j : Int) : oSub (.int i) (.int j) = some (.int (i - j)) := rfl
@[simp] theorem lt_int (i j : Int) : oLt (.int i) (.int j) = some (.bl (decide (i < j))) := rfl
@[simp] theorem le_int (i j : Int) : oLe (.int i) (.int j) = some (.bl (decide (i ≤ j))) := rfl
@[simp] theorem gt_int (i j : Int) : oGt (.int i) (.int j) = some (.bl (decide (j < i))) := rfl
@[simp] theorem ge_int (i j : Int) : oGe (.int i) (.int j) = some (.bl (decide (j ≤ i))) := rfl
@[simp] theorem eq_int (a b : Int) : oEq (.int a) (.int b) = some (.bl (a == b)) := rfl
@[simp] theorem ne_int (a b : Int) : oNe (.int a) (.int b) = some (.bl (!(a == b))) := rfl
@[simp] theorem eq_bl (a b : Bool) : oEq (.bl a) (.bl b) = some (.bl (a == b)) := rfl
@[simp] theorem ne_bl (a b : Bool) : oNe (.bl a) (.bl b) = some (.bl (!(a == b))) := rfl
@[simp] theorem neg_int (a : Int) : oNeg (.int a) = some (.int (-a)) := rfl
@[simp] theorem max_int (i j : Int) : oMax2 (.int i) (.int j) = some (.int (if j > i then j else i)) := rfl
@[simp] theorem min_int (i j : Int) : oMin2 (.int i) (.int j) = some (.int (if j < i then j else i)) := rfl
theorem mod_int {i j : Int} (h : 0 < j) : oMod (.int i) (.int j) = some (.int (i % j)) := by
  show (if 0 < j then some (D.int (i % j)) else none) = _
  rw [if_pos h]
theorem mul_int {i j : Int} (h : smallM i j) : oMul (.int i) (.int j) = some (.int (i * j)) := by
  show (if smallM i j then some (D.int (i * j)) else none) = _
  rw [if_pos h]
theorem small_r {i j : Int} (h : -(2 ^ 64) < j ∧ j < 2 ^ 64) : smallM i j := .inr (.inl h)
theorem small_l {i j : Int} (h : -(2 ^ 64) < i ∧ i < 2 ^ 64) : smallM i j := .inl h
theorem log_lt {j : Int} (h0 : 0 < j) (h1 : j < 2 ^ 60) : j.natAbs.log2 < 9000 := by
  have h2 : j.natAbs < 2 ^ 60 := by omega
  have := (Nat.log2_lt (n := j.natAbs) (k := 60) (by omega)).mpr h2
  omega
theorem div_int {i j : Int} (h : 0 < j) (h1 : j < 2 ^ 60) : oDiv (.int i) (.int j) = some (.int (i / j)) := by
  show (if smallD i j then some (D.int (i / j)) else none) = _
  rw [if_pos ⟨h, log_lt h h1⟩]
theorem atI_ok {α : Type} {l : List α} {i : Int} (h0 : 0 ≤ i) (h1 : i < l.length) : atI l i = l[i.toNat]? := by
  unfold atI ixN
  rw [if_pos h0, if_pos h1]
  rfl
theorem atI_D (l : List Int) {i : Int} (h0 : 0 ≤ i) (h1 : i < l.length) : atI (l.map D.int) i = some (.int (l.getD i.toNat 0)) := by
  rw [atI_ok h0 (by simpa using h1), List.getElem?_map, List.getD_eq_getElem?_getD]
  have : i.toNat < l.length := by omega
  simp [this]
theorem atI_T (l : List Int) {i : Int} (h0 : 0 ≤ i) (h1 : i < l.length) : atI (l.map ig) i = some (.sh (.int (l.getD i.toNat 0))) := by
  rw [atI_ok h0 (by simpa using h1), List.getElem?_map, List.getD_eq_getElem?_getD]
  have : i.toNat < l.length := by omega
  simp [this]
@[simp] theorem oIx_lst (l : List D) (i : Int) : oIx (.lst l) (.int i) = atI l i := rfl
@[simp] theorem oIx_tup (l : List D) (i : Int) : oIx (.tup l) (.int i) = atI l i := rfl
@[simp] theorem atI_zero {α : Type} (a : α) (l : List α) : atI (a :: l) 0 = some a := by
  rw [atI_ok (by omega) (by simp <;> omega)]; rfl
theorem atI_nat {α : Type} (l : List α) (k : Nat) : atI l (k : Int) = l[k]? := by
  by_cases h : k < l.length
  · rw [atI_ok (by omega) (by omega)]; simp
  · unfold atI ixN
    rw [if_pos (by omega), if_neg (by omega), List.getElem?_eq_none (by omega)]
    rfl
theorem ixN_ok {n : Nat} {i : Int} (h0 : 0 ≤ i) (h1 : i < n) : ixN n i = some i.toNat := by
  unfold ixN
  rw [if_pos h0, if_pos h1]
@[simp] theorem ixN_zero {n : Nat} : ixN (n + 1) 0 = some 0 := ixN_ok (by omega) (by omega)
@[simp] theorem cut_map {α β : Type} (f : α → β) (l : List α) (a b : Option Int) : cutD (l.map f) a b = (cutD l a b).map f := by
  unfold cutD
  rw [List.length_map, List.map_take, List.map_drop]
theorem cut_to {α : Type} (l : List α) {i : Int} (h0 : 0 ≤ i) (h1 : i ≤ l.length) : cutD l none (some i) = l.take i.toNat := by
  unfold cutD HT.sIx
  simp only
  rw [if_neg (by omega), Nat.min_eq_left (by omega)]
  simp
theorem cut_from {α : Type} (l : List α) {i : Int} (h0 : 0 ≤ i) (h1 : i ≤ l.length) : cutD l (some i) none = l.drop i.toNat := by
  unfold cutD HT.sIx
  simp only
  rw [if_neg (by omega), Nat.min_eq_left (by omega)]
  rw [List.take_of_length_le (by simp)]
theorem rangeT_get {lo : Int} {n k : Nat} {t : T} (h : (rangeT lo n)[k]? = some t) : k < n ∧ t = si (lo + k) := by
  unfold rangeT at h
  rw [List.getElem?_map] at h
  obtain ⟨j, e, rfl⟩ := Option.map_eq_some_iff.mp h
  have := List.getElem?_eq_some_iff.mp e
  obtain ⟨h1, h2⟩ := this
  simp at h1 h2
  subst h2
  exact ⟨h1, rfl⟩
def iota (n : Nat) : List Int := (List.range n).map fun k : Nat => (k : Int)
@[simp] theorem iota_len (n : Nat) : (iota n).length = n := by simp [iota]
@[simp] theorem rangeT_iota (n : Nat) : rangeT 0 n = (iota n).map ig := by
  unfold rangeT iota
  rw [List.map_map]
  congr 1
  funext k
  simp
theorem iota_get (n k : Nat) (h : k < n) : (iota n)[k]? = some (k : Int) := by simp [iota, h]
theorem iota_getD (n k : Nat) (h : k < n) : (iota n).getD k 0 = (k : Int) := by simp [iota, h]
/-! ### running: what the combinators come to -/
@[simp] theorem bnd_ok {α β : Type} (a : α) (ρ : Env) (f : α → Env → Out β) : (Out.ok a ρ).bnd f = f a ρ := rfl
@[simp] theorem st_ok {α : Type} (a : α) (ρ : Env) (f : α → Env → SOut) : (Out.ok a ρ).st f = f a ρ := rfl
@[simp] theorem optO_some {α : Type} (a : α) (ρ : Env) : optO (some a) ρ = .ok a ρ := rfl
@[simp] theorem nox_ok {α : Type} (a : α) (ρ : Env) : (Out.ok a ρ).nox = .ok a ρ := rfl
/-! ### loops -/
theorem forL_inv {b : BM} {body : SM} : ∀ {its : List T} {ρ : Env} (I : Nat → Env → Prop) (_ : I 0 ρ) (_ : ∀ k t ρ, its[k]? = some t → I k ρ → ∃ ρ1 ρ2, b t ρ = some ρ1 ∧ (body ρ1 = .nx ρ2 ∨ body ρ1 = .ct ρ2) ∧ I (k + 1) ρ2),
    ∃ ρ', forL b body its ρ = .nx ρ' ∧ I its.length ρ'
  | [], ρ, I, h0, _ => ⟨ρ, rfl, h0⟩
  | t :: its, ρ, I, h0, hs => by
    obtain ⟨ρ1, ρ2, e1, e2, h2⟩ := hs 0 t ρ rfl h0
    obtain ⟨ρ', e3, h3⟩ := forL_inv (its := its) (fun k => I (k + 1)) h2 fun k t' ρ' e i => hs (k + 1) t' ρ' (by simpa using e) i
    refine ⟨ρ', ?_, h3⟩
    unfold forL
    rw [e1]
    simp only
    rcases e2 with e2 | e2 <;> rw [e2] <;> exact e3
/-- .. over a name's values -/
theorem forN_inv {i : Nat} {body : SM} {its : List T} {ρ : Env} (I : Nat → Env → Prop) (h0 : I 0 ρ) (hs : ∀ k t ρ, its[k]? = some t → I k ρ → ∃ ρ2, (body (ρ.set i (some t)) = .nx ρ2 ∨ body (ρ.set i (some t)) = .ct ρ2) ∧ I (k + 1) ρ2) :
    ∃ ρ', forL (bName i) body its ρ = .nx ρ' ∧ I its.length ρ' :=
  forL_inv I h0 fun k t ρ e h => by
    obtain ⟨ρ2, h1, h2⟩ := hs k t ρ e h
    exact ⟨_, ρ2, rfl, h1, h2⟩
theorem lcL_inv {slots : List Nat} {b : BM} {tst : EMb} {elt : EM} : ∀ {its acc : List T} {ρ : Env} (I : Nat → List T → Env → Prop) (_ : I 0 acc ρ)
    (_ : ∀ k t acc ρ, its[k]? = some t → I k acc ρ → ∃ ρ1 ρ2, b t ρ = some ρ1 ∧ ((∃ u ρ3, tst ρ1 = .ok true ρ2 ∧ elt ρ2 = .ok u ρ3 ∧ acc.length < lim ∧ I (k + 1) (acc ++ [u]) (wipeE ρ3 slots)) ∨ (tst ρ1 = .ok false ρ2 ∧ I (k + 1) acc (wipeE ρ2 slots)))),
    ∃ acc' ρ', lcL slots b tst elt its acc ρ = .ok acc' ρ' ∧ I its.length acc' ρ'
  | [], acc, ρ, I, h0, _ => ⟨acc, ρ, rfl, h0⟩
  | t :: its, acc, ρ, I, h0, hs => by
    obtain ⟨ρ1, ρ2, e1, e2⟩ := hs 0 t acc ρ rfl h0
    unfold lcL
    rw [e1]
    simp only
    rcases e2 with ⟨u, ρ3, e2, e3, hz, h2⟩ | ⟨e2, h2⟩
    · rw [e2]
      simp only [Out.bnd, if_pos, e3, if_pos hz]
      exact lcL_inv (its := its) (fun k => I (k + 1)) h2 fun k t' acc' ρ' e i => hs (k + 1) t' acc' ρ' (by simpa using e) i
    · rw [e2]
      simp only [Out.bnd]
      exact lcL_inv (its := its) (fun k => I (k + 1)) h2 fun k t' acc' ρ' e i => hs (k + 1) t' acc' ρ' (by simpa using e) i
/-- a comprehension whose items leave all else as it is -/
theorem lcL_map {slots : List Nat} {b : BM} {elt : EM} {ρ : Env} (f : T → T) : ∀ {its acc : List T} (_ : ∀ t ∈ its, ∃ ρ1 ρ2, b t ρ = some ρ1 ∧ elt ρ1 = .ok (f t) ρ2 ∧ wipeE ρ2 slots = ρ) (_ : acc.length + its.length ≤ lim),
    lcL slots b tAll elt its acc ρ = .ok (acc ++ its.map f) ρ
  | [], acc, _, _ => by simp [lcL]
  | t :: its, acc, h, hz => by
    obtain ⟨ρ1, ρ2, e1, e2, e3⟩ := h t (by simp)
    unfold lcL
    simp only [List.length_cons] at hz
    rw [e1]
    simp only [tAll, Out.bnd, if_pos, e2, e3, if_pos (show acc.length < lim by omega)]
    have := lcL_map f (its := its) (acc := acc ++ [f t]) (fun t' h' => h t' (by simp [h'])) (by simp; omega)
    rw [this]
    simp
end
end Z

namespace Z
noncomputable section
open PySem L2
@[simp ↓] theorem pV_run (i : Nat) (ρ : Env) : pV i ρ = (match ρ[i]? with
  | some (some t) => some t.d
  | _ => none) := rfl
@[simp ↓] theorem pC_run (d : D) (ρ : Env) : pC d ρ = (some d) := rfl
@[simp ↓] theorem pOp_run (o : D → D → Option D) (a b : PM) (ρ : Env) : pOp o a b ρ = ((a ρ).bind fun x => (b ρ).bind fun y => o x y) := rfl
@[simp ↓] theorem pUn_run (o : D → Option D) (a : PM) (ρ : Env) : pUn o a ρ = ((a ρ).bind o) := rfl
@[simp ↓] theorem pIf_run (t : TM) (a b : PM) (ρ : Env) : pIf t a b ρ = ((t ρ).bind fun c => if c = true then a ρ else b ρ) := rfl
@[simp ↓] theorem pB_run (a : PM) (ρ : Env) : pB a ρ = ((a ρ).bind D.tru) := rfl
@[simp ↓] theorem qAnd_run (a b : TM) (ρ : Env) : qAnd a b ρ = ((a ρ).bind fun c => if c = true then b ρ else some false) := rfl
@[simp ↓] theorem qOr_run (a b : TM) (ρ : Env) : qOr a b ρ = ((a ρ).bind fun c => if c = true then some true else b ρ) := rfl
@[simp ↓] theorem qNot_run (a : TM) (ρ : Env) : qNot a ρ = ((a ρ).map (!·)) := rfl
@[simp ↓] theorem pAndV_run (a b : PM) (ρ : Env) : pAndV a b ρ = ((a ρ).bind fun x => x.tru.bind fun c => if c = true then b ρ else some (.bl false)) := rfl
@[simp ↓] theorem pOrV_run (a b : PM) (ρ : Env) : pOrV a b ρ = ((a ρ).bind fun x => x.tru.bind fun c => if c = true then some (.bl true) else b ρ) := rfl
@[simp ↓] theorem pNotV_run (a : PM) (ρ : Env) : pNotV a ρ = ((a ρ).bind fun x => x.tru.bind fun c => some (.bl (!c))) := rfl
@[simp ↓] theorem pChain_run (o o' : D → D → Option D) (a b c : PM) (ρ : Env) : pChain o o' a b c ρ = ((a ρ).bind fun x => (b ρ).bind fun y => (o x y).bind fun z => z.tru.bind fun k => if k = true then (c ρ).bind fun w => o' y w else some (.bl false)) := rfl
@[simp ↓] theorem aNil_run (ρ : Env) : aNil  ρ = (some []) := rfl
@[simp ↓] theorem aCons_run (a : PM) (b : AM) (ρ : Env) : aCons a b ρ = ((a ρ).bind fun x => (b ρ).bind fun y => some (x :: y)) := rfl
@[simp ↓] theorem pCB_run (o : List D → Option D) (a : AM) (ρ : Env) : pCB o a ρ = ((a ρ).bind o) := rfl
@[simp ↓] theorem pLst_run (a : AM) (ρ : Env) : pLst a ρ = ((a ρ).bind fun l => if l.length ≤ lim then some (.lst l) else none) := rfl
@[simp ↓] theorem pTup_run (a : AM) (ρ : Env) : pTup a ρ = ((a ρ).bind fun l => if l.length ≤ lim then some (.tup l) else none) := rfl
@[simp ↓] theorem pIsi_run (t : Ty) (a : PM) (ρ : Env) : pIsi t a ρ = ((a ρ).map fun d => .bl (d.isi t)) := rfl
@[simp ↓] theorem eP_run (p : PM) (ρ : Env) : eP p ρ = (match p ρ with
  | some d => if d.scal = true then .ok (.sh d) ρ else .bad
  | none => .bad) := rfl
@[simp ↓] theorem eV_run (i : Nat) (ρ : Env) : eV i ρ = (match ρ[i]? with
  | some (some (.sh d)) => .ok (.sh d) ρ
  | some (some t) => .ok (.sh t.d) (ρ.set i (some (.sh t.d)))
  | _ => .bad) := rfl
@[simp ↓] theorem eM_run (i : Nat) (ρ : Env) : eM i ρ = (match ρ[i]? with
  | some (some t) => .ok t (ρ.set i none)
  | _ => .bad) := rfl
@[simp ↓] theorem eNil_run (ρ : Env) : eNil  ρ = (.ok [] ρ) := rfl
@[simp ↓] theorem eCons_run (a : EM) (b : EMs) (ρ : Env) : eCons a b ρ = ((a ρ).bnd fun t ρ => (b ρ).bnd fun ts ρ => .ok (t :: ts) ρ) := rfl
@[simp ↓] theorem eLst_run (a : EMs) (ρ : Env) : eLst a ρ = ((a ρ).bnd fun ts ρ => if ts.length ≤ lim then .ok (.ol ts) ρ else .bad) := rfl
@[simp ↓] theorem eTup_run (a : EMs) (ρ : Env) : eTup a ρ = ((a ρ).bnd fun ts ρ => if ts.length ≤ lim then .ok (.ot ts) ρ else .bad) := rfl
@[simp ↓] theorem eOp_run (o : T → T → Option T) (a b : EM) (ρ : Env) : eOp o a b ρ = ((a ρ).bnd fun t ρ => (b ρ).bnd fun u ρ => optO (o t u) ρ) := rfl
@[simp ↓] theorem eCB_run (o : List T → Option T) (a : EMs) (ρ : Env) : eCB o a ρ = ((a ρ).bnd fun ts ρ => optO (o ts) ρ) := rfl
@[simp ↓] theorem vV_run (i : Nat) (ρ : Env) : vV i ρ = (match ρ[i]? with
  | some (some t) => some t
  | _ => none) := rfl
@[simp ↓] theorem vIx_run (a : Env → Option T) (p : PM) (ρ : Env) : vIx a p ρ = ((a ρ).bind fun t => (p ρ).bind fun d => d.intO.bind fun i => t.kids.bind fun l => atI l i) := rfl
@[simp ↓] theorem eGet_run (a : Env → Option T) (ρ : Env) : eGet a ρ = (match a ρ with
  | some (.sh d) => .ok (.sh d) ρ
  | _ => .bad) := rfl
@[simp ↓] theorem oNo_run (ρ : Env) : oNo  ρ = (some none) := rfl
@[simp ↓] theorem oYes_run (p : PM) (ρ : Env) : oYes p ρ = ((p ρ).bind fun d => d.intO.map some) := rfl
@[simp ↓] theorem eList_run (a : Env → Option T) (ρ : Env) : eList a ρ = (optO ((a ρ).bind fun t => t.shsU.bind fun ds => some (.ol (ds.map .sh))) ρ) := rfl
@[simp ↓] theorem eB_run (a : EM) (ρ : Env) : eB a ρ = ((a ρ).bnd fun t ρ => optO (t.d.tru) ρ) := rfl
@[simp ↓] theorem eT_run (t : TM) (ρ : Env) : eT t ρ = (optO (t ρ) ρ) := rfl
@[simp ↓] theorem eAnd_run (a b : EMb) (ρ : Env) : eAnd a b ρ = ((a ρ).bnd fun c ρ => if c = true then b ρ else .ok false ρ) := rfl
@[simp ↓] theorem eOr_run (a b : EMb) (ρ : Env) : eOr a b ρ = ((a ρ).bnd fun c ρ => if c = true then .ok true ρ else b ρ) := rfl
@[simp ↓] theorem eNot_run (a : EMb) (ρ : Env) : eNot a ρ = ((a ρ).bnd fun c ρ => .ok (!c) ρ) := rfl
@[simp ↓] theorem eAndV_run (a b : EM) (ρ : Env) : eAndV a b ρ = ((a ρ).bnd fun t ρ => match t.d.tru with
  | some true => b ρ
  | some false => .ok (.sh (.bl false)) ρ
  | none => .bad) := rfl
@[simp ↓] theorem eOrV_run (a b : EM) (ρ : Env) : eOrV a b ρ = ((a ρ).bnd fun t ρ => match t.d.tru with
  | some false => b ρ
  | some true => .ok (.sh (.bl true)) ρ
  | none => .bad) := rfl
@[simp ↓] theorem eNotV_run (a : EM) (ρ : Env) : eNotV a ρ = ((a ρ).bnd fun t ρ => optO (t.d.tru.map fun c => .sh (.bl (!c))) ρ) := rfl
@[simp ↓] theorem eIf_run (c : EMb) (a b : EM) (ρ : Env) : eIf c a b ρ = ((c ρ).bnd fun k ρ => if k = true then a ρ else b ρ) := rfl
@[simp ↓] theorem eCall_run (n : Nat) (F : FM) (a : EMs) (ρ : Env) : eCall n F a ρ = ((a ρ).bnd fun ts ρ => if ts.length = n then match F (ts.map T.fz) with
  | .ok t ts' => if ts'.length = n then .ok t ρ else .bad
  | .ex x => .ex x ρ
  | .bad => .bad else .bad) := rfl
@[simp ↓] theorem eCallI_run (n i : Nat) (F : FM) (a : EMs) (ρ : Env) : eCallI n i F a ρ = (match ρ[i]? with
  | some (some _) => (a ρ).bnd fun ts ρ => match ρ[i]? with
    | some (some t0) => if ts.length + 1 = n then match F (t0 :: ts.map T.fz) with
      | .ok t (t1 :: ts') => if ts'.length + 1 = n then .ok t (ρ.set i (some t1)) else .bad
      | .ex x => .ex x (ρ.set i none)
      | _ => .bad else .bad
    | _ => .bad
  | _ => .bad) := rfl
@[simp ↓] theorem pCall_run (n : Nat) (F : FM) (a : AM) (ρ : Env) : pCall n F a ρ = ((a ρ).bind fun ds => if ds.length = n then match F (ds.map T.sh) with
  | .ok t ts' => if ts'.length = n then some t.d else none
  | _ => none else none) := rfl
@[simp ↓] theorem mSeq_run (a b : SM) (ρ : Env) : mSeq a b ρ = (match a ρ with
  | .nx ρ => b ρ
  | r => r) := rfl
@[simp ↓] theorem mNil_run (ρ : Env) : mNil  ρ = (.nx ρ) := rfl
@[simp ↓] theorem mSet_run (i : Nat) (e : EM) (ρ : Env) : mSet i e ρ = ((e ρ).st fun t ρ => .nx (ρ.set i (some t))) := rfl
@[simp ↓] theorem mDrop_run (e : EM) (ρ : Env) : mDrop e ρ = ((e ρ).st fun _ ρ => .nx ρ) := rfl
@[simp ↓] theorem mRet_run (e : EM) (ρ : Env) : mRet e ρ = ((e ρ).st fun t ρ => .rt t ρ) := rfl
@[simp ↓] theorem mRetN_run (ρ : Env) : mRetN  ρ = (.rt (.sh .non) ρ) := rfl
@[simp ↓] theorem mBk_run (ρ : Env) : mBk  ρ = (.bk ρ) := rfl
@[simp ↓] theorem mCt_run (ρ : Env) : mCt  ρ = (.ct ρ) := rfl
@[simp ↓] theorem mIf_run (c : EMb) (a b : SM) (ρ : Env) : mIf c a b ρ = ((c ρ).st fun k ρ => if k = true then a ρ else b ρ) := rfl
@[simp ↓] theorem mPar_run (i j : Nat) (a : EMs) (ρ : Env) : mPar i j a ρ = ((a ρ).st fun ts ρ => match ts with
  | [t, u] => .nx ((ρ.set i (some t)).set j (some u))
  | _ => .bad) := rfl
@[simp ↓] theorem mPar3_run (i j l : Nat) (a : EMs) (ρ : Env) : mPar3 i j l a ρ = ((a ρ).st fun ts ρ => match ts with
  | [t, u, w] => .nx (((ρ.set i (some t)).set j (some u)).set l (some w))
  | _ => .bad) := rfl
@[simp ↓] theorem mUnp_run (b : BM) (e : EM) (ρ : Env) : mUnp b e ρ = ((e ρ).st fun t ρ => match b t ρ with
  | some ρ => .nx ρ
  | none => .bad) := rfl
@[simp ↓] theorem mStore_run (i : Nat) (e : EM) (ix : PM) (ρ : Env) : mStore i e ix ρ = ((e ρ).st fun t ρ => match ρ[i]?, ix ρ with
  | some (some (.ol ts)), some (.int k) => match ixN ts.length k with
    | some j => .nx (ρ.set i (some (.ol (ts.set j t))))
    | none => .bad
  | _, _ => .bad) := rfl
@[simp ↓] theorem mApp_run (i : Nat) (e : EM) (ρ : Env) : mApp i e ρ = ((e ρ).st fun t ρ => match ρ[i]? with
  | some (some (.ol ts)) => if ts.length < lim then .nx (ρ.set i (some (.ol (ts ++ [t])))) else .bad
  | _ => .bad) := rfl
@[simp ↓] theorem mAppG_run (i : Nat) (e : EM) (ρ : Env) : mAppG i e ρ = (match ρ[i]? with
  | some (some (.ol _)) => mApp i e ρ
  | _ => .bad) := rfl
@[simp ↓] theorem mExt_run (i : Nat) (e : EM) (ρ : Env) : mExt i e ρ = (match ρ[i]? with
  | some (some (.ol _)) => (e ρ).st fun t ρ => match ρ[i]? with
    | some (some (.ol ts)) => match t.els with
      | some us => if ts.length + us.length ≤ lim then .nx (ρ.set i (some (.ol (ts ++ us)))) else .bad
      | none => .bad
    | _ => .bad
  | _ => .bad) := rfl
@[simp ↓] theorem ePop_run (i : Nat) (ρ : Env) : ePop i ρ = (match ρ[i]? with
  | some (some (.ol ts)) => match ts[ts.length - 1]? with
    | some t => .ok t (ρ.set i (some (.ol ts.dropLast)))
    | none => .bad
  | _ => .bad) := rfl
@[simp ↓] theorem ePopAt_run (i : Nat) (e : EM) (ρ : Env) : ePopAt i e ρ = (match ρ[i]? with
  | some (some (.ol _)) => (e ρ).bnd fun u ρ => match ρ[i]? with
    | some (some (.ol ts)) => match u.d.intO with
      | some k => if InR k then match seqIndex? k ts.length with
        | some j => match ts[j]? with
          | some t => .ok t (ρ.set i (some (.ol (ts.eraseIdx j))))
          | none => .bad
        | none => .bad else .bad
      | none => .bad
    | _ => .bad
  | _ => .bad) := rfl
@[simp ↓] theorem mAug_run (i : Nat) (f : Int → Int → Int) (e : EM) (ρ : Env) : mAug i f e ρ = (match ρ[i]? with
  | some (some (.sh (.int a))) => (e ρ).st fun t ρ => match t.d.intO with
    | some b => .nx (ρ.set i (some (.sh (.int (f a b)))))
    | none => .bad
  | _ => .bad) := rfl
@[simp ↓] theorem iE_run (e : EM) (ρ : Env) : iE e ρ = ((e ρ).bnd fun t ρ => optO (t.d.seq.map fun l => l.map .sh) ρ) := rfl
@[simp ↓] theorem iR1_run (a : EMs) (ρ : Env) : iR1 a ρ = ((a ρ).bnd fun ts ρ => match dl ts with
  | [.int j] => if InR j then .ok (rangeT 0 j.toNat) ρ else .bad
  | _ => .bad) := rfl
@[simp ↓] theorem iR2_run (a : EMs) (ρ : Env) : iR2 a ρ = ((a ρ).bnd fun ts ρ => match dl ts with
  | [.int i, .int j] => if InR i ∧ InR j then .ok (rangeT i (j - i).toNat) ρ else .bad
  | _ => .bad) := rfl
@[simp ↓] theorem iEn_run (a : EM) (ρ : Env) : iEn a ρ = ((a ρ).bnd fun t ρ => optO (t.d.lstO.map fun l => enumT 0 l) ρ) := rfl
@[simp ↓] theorem iZp_run (a b : EM) (ρ : Env) : iZp a b ρ = ((a ρ).bnd fun t ρ => (b ρ).bnd fun u ρ => optO (t.d.lstO.bind fun l => u.d.lstO.map fun m => zipT l m) ρ) := rfl
@[simp ↓] theorem mFor_run (src : IM) (b : BM) (body : SM) (ρ : Env) : mFor src b body ρ = ((src ρ).st fun its ρ => forL b body its ρ) := rfl
@[simp ↓] theorem eLC_run (slots : List Nat) (src : IM) (b : BM) (tst : EMb) (elt : EM) (ρ : Env) : eLC slots src b tst elt ρ = ((src ρ).bnd fun its ρ1 => ((lcL slots b tst elt its [] (wipeE ρ1 slots)).nox).bnd fun acc ρ2 => .ok (.ol acc) (keepE ρ1 slots (wipeE ρ2 slots))) := rfl
@[simp ↓] theorem tAll_run (ρ : Env) : tAll  ρ = (.ok true ρ) := rfl
@[simp ↓] theorem mFun_run (n nn : Nat) (body : SM) (ts : List T) : mFun n nn body ts = (if ts.length = n ∧ ts.all T.isSh = true then match body (ts.map some ++ List.replicate (nn - n) none) with
  | .nx _ => .ok (.sh .non) ts
  | .rt t _ => .ok t ts
  | .ex x _ => .ex x
  | _ => .bad else .bad) := rfl
@[simp ↓] theorem mFunI_run (n nn : Nat) (body : SM) (ts : List T) : mFunI n nn body ts = (if ts.length = n ∧ ts.tail.all T.isSh = true then match body (ts.map some ++ List.replicate (nn - n) none) with
  | .nx ρ => match ρ[0]? with
    | some (some t0) => .ok (.sh .non) (t0 :: ts.tail)
    | _ => .bad
  | .rt t ρ => match ρ[0]? with
    | some (some t0) => .ok t (t0 :: ts.tail)
    | _ => .bad
  | .ex x _ => .ex x
  | _ => .bad else .bad) := rfl
@[simp ↓] theorem eRg1_run (p : PM) (ρ : Env) : eRg1 p ρ = (match p ρ with
  | some (.int n) => if rgOk 0 n = true then .ok (.ol (rangeT 0 n.toNat)) ρ else .bad
  | _ => .bad) := rfl
@[simp ↓] theorem eRg2_run (p q : PM) (ρ : Env) : eRg2 p q ρ = (match p ρ, q ρ with
  | some (.int m), some (.int n) => if rgOk m n = true then .ok (.ol (rangeT m (n - m).toNat)) ρ else .bad
  | _, _ => .bad) := rfl
@[simp ↓] theorem eUn_run (o : D → Option D) (a : EM) (ρ : Env) : eUn o a ρ = ((a ρ).bnd fun t ρ => optO (scalO (o t.d)) ρ) := rfl
@[simp ↓] theorem qTru_run (a : PM) (ρ : Env) : qTru a ρ = ((a ρ).bind D.truth) := rfl
@[simp ↓] theorem eTru_run (a : EM) (ρ : Env) : eTru a ρ = ((a ρ).bnd fun t ρ => optO (t.d.truth) ρ) := rfl
@[simp ↓] theorem pIsiM_run (l : List Ty) (a : PM) (ρ : Env) : pIsiM l a ρ = ((a ρ).map fun d => .bl (l.any fun t => d.isi t)) := rfl
@[simp ↓] theorem mForS_run (ns : List Int) (b : BM) (body : SM) (ρ : Env) : mForS ns b body ρ = (forL b body (ns.map fun i => .sh (.int i)) ρ) := rfl
@[simp ↓] theorem eCallS_run (F : List Int → FOut) (ns : List Int) (ρ : Env) : eCallS F ns ρ = (match F ns with
  | .ok t _ => .ok t ρ
  | _ => .bad) := rfl
@[simp ↓] theorem mForB_run (i : Nat) (b : BM) (body : SM) (ρ : Env) : mForB i b body ρ = (match ρ[i]? with
  | some (some (.ol ts)) => match forL b body (ts.map T.fz) (ρ.set i none) with
    | .nx ρ' => .nx (ρ'.set i (some (.ol (ts.map T.fz))))
    | r => r
  | _ => .bad) := rfl
@[simp ↓] theorem eLCB_run (slots : List Nat) (i : Nat) (b : BM) (tst : EMb) (elt : EM) (ρ : Env) : eLCB slots i b tst elt ρ = (match ρ[i]? with
  | some (some (.ol ts)) => ((lcL slots b tst elt (ts.map T.fz) [] (wipeE (ρ.set i none) slots)).nox).bnd fun acc ρ2 => .ok (.ol acc) ((keepE (ρ.set i none) slots (wipeE ρ2 slots)).set i (some (.ol (ts.map T.fz))))
  | _ => .bad) := rfl
@[simp ↓] theorem eFz_run (m : EM) (ρ : Env) : eFz m ρ = ((m ρ).bnd fun u ρ => .ok u.fz ρ) := rfl
@[simp] theorem o1_run (f : D → Option D) (d : D) : o1 f [d] = f d := rfl
@[simp] theorem o2_run (f : D → D → Option D) (d e : D) : o2 f [d, e] = f d e := rfl
@[simp] theorem isSh_sh (d : D) : (T.sh d).isSh = true := rfl
@[simp ↓] theorem bnd_pre {α β : Type} (o : Out α) (f : α → Env → Out β) : o.bnd f = match o with
  | .bad => .bad
  | .ok a ρ => f a ρ
  | .ex x ρ => .ex x ρ := rfl
@[simp ↓] theorem st_pre {α : Type} (o : Out α) (f : α → Env → SOut) : o.st f = match o with
  | .bad => .bad
  | .ok a ρ => f a ρ
  | .ex x ρ => .ex x ρ := rfl
@[simp ↓] theorem bind_pre {α β : Type} (o : Option α) (f : α → Option β) : o.bind f = match o with
  | none => none
  | some a => f a := by cases o <;> rfl
@[simp ↓] theorem optO_pre {α : Type} (o : Option α) (ρ : Env) : optO o ρ = match o with
  | some a => .ok a ρ
  | none => .bad := by cases o <;> rfl
@[simp ↓] theorem nox_pre {α : Type} (o : Out α) : o.nox = match o with
  | .ex _ _ => .bad
  | .bad => .bad
  | .ok a ρ => .ok a ρ := by cases o <;> rfl
@[simp ↓] theorem eSl_run (a : Env → Option T) (lo hi : Env → Option (Option Int)) (ρ : Env) : eSl a lo hi ρ = optO ((a ρ).bind fun t => t.shs.bind fun ds => (lo ρ).bind fun l => (hi ρ).bind fun h => some (.ol ((cutD ds l h).map .sh))) ρ := rfl
@[simp ↓] theorem eSlE_run (a : EM) (lo hi : Env → Option (Option Int)) (ρ : Env) : eSlE a lo hi ρ = (a ρ).bnd fun t ρ => optO (t.els.bind fun ds => (lo ρ).bind fun l => (hi ρ).bind fun h => some (.ol (cutD ds l h))) ρ := rfl
@[simp ↓] theorem bTup_run (is : List Nat) (t : T) (ρ : Env) : bTup is t ρ = t.elsT.bind fun ts => bNames is ts ρ := rfl
@[simp] theorem bNames_nil (ρ : Env) : bNames [] [] ρ = some ρ := rfl
@[simp] theorem bNames_cons (i : Nat) (is : List Nat) (t : T) (ts : List T) (ρ : Env) : bNames (i :: is) (t :: ts) ρ = bNames is ts (ρ.set i (some t)) := rfl
@[simp] theorem elsT_ot (l : List T) : (T.ot l).elsT = some l := rfl
@[simp] theorem elsT_sh (l : List D) : (T.sh (.tup l)).elsT = some (l.map .sh) := rfl
@[simp] theorem ixT_run (t u : T) : ixT t u = t.kids.bind fun l => u.d.intO.bind fun i => atI l i := rfl
@[simp] theorem oS_run (o : D → D → Option D) (t u : T) : oS o t u = match o t.d u.d with
  | some d => if d.scal = true then some (.sh d) else none
  | none => none := by unfold oS scalO; cases o t.d u.d <;> rfl
@[simp] theorem cS_run (o : List D → Option D) (ts : List T) : cS o ts = match o (dl ts) with
  | some d => if d.scal = true then some (.sh d) else none
  | none => none := by unfold cS scalO; cases o (dl ts) <;> rfl
@[simp] theorem scalO_run (o : Option D) : scalO o = match o with
  | some d => if d.scal = true then some (.sh d) else none
  | none => none := by unfold scalO; cases o <;> rfl
@[simp] theorem addT_int (i j : Int) : eAddT (.sh (.int i)) (.sh (.int j)) = some (.sh (.int (i + j))) := rfl
theorem addT_lst {t u : T} {a b : List T} (h1 : t.els = some a) (h2 : u.els = some b) (h : a.length + b.length ≤ lim) : eAddT t u = some (.ol (a ++ b)) := by
  have hc : catT t u = some (.ol (a ++ b)) := by
    unfold catT
    rw [h1, h2]
    exact if_pos h
  unfold eAddT
  have : oS oAdd t u = none := by
    have h3 : ∃ l, t.d = .lst l := by cases t <;> first | (exact ⟨_, rfl⟩) | (rename_i d; cases d <;> first | (cases h1; done) | exact ⟨_, rfl⟩) | (cases h1)
    have h4 : ∃ l, u.d = .lst l := by cases u <;> first | (exact ⟨_, rfl⟩) | (rename_i d; cases d <;> first | (cases h2; done) | exact ⟨_, rfl⟩) | (cases h2)
    obtain ⟨l, e1⟩ := h3
    obtain ⟨m, e2⟩ := h4
    unfold oS
    rw [e1, e2]
    show scalO (oOr _ (oOr oCat oAddS) (.lst l) (.lst m)) = none
    show scalO (match (if l.length + m.length ≤ lim then some (D.lst (l ++ m)) else none) with | some d => some d | none => none) = none
    by_cases q : l.length + m.length ≤ lim
    · rw [if_pos q]; rfl
    · rw [if_neg q]; rfl
  rw [this]
  exact hc
/-- loops that may be left -/
theorem forL_brk {b : BM} {body : SM} : ∀ {its : List T} {ρ : Env} (I : Nat → Env → Prop) (J : Env → Prop) (_ : I 0 ρ) (_ : ∀ k t ρ, its[k]? = some t → I k ρ → ∃ ρ1 ρ2, b t ρ = some ρ1 ∧ (((body ρ1 = .nx ρ2 ∨ body ρ1 = .ct ρ2) ∧ I (k + 1) ρ2) ∨ (body ρ1 = .bk ρ2 ∧ J ρ2))) (_ : ∀ ρ, I its.length ρ → J ρ),
    ∃ ρ', forL b body its ρ = .nx ρ' ∧ J ρ'
  | [], ρ, I, J, h0, _, hd => ⟨ρ, rfl, hd ρ h0⟩
  | t :: its, ρ, I, J, h0, hs, hd => by
    obtain ⟨ρ1, ρ2, e1, e2⟩ := hs 0 t ρ rfl h0
    unfold forL
    rw [e1]
    simp only
    rcases e2 with ⟨e2, h2⟩ | ⟨e2, h2⟩
    · obtain ⟨ρ', e3, h3⟩ := forL_brk (its := its) (fun k => I (k + 1)) J h2 (fun k t' ρ' e i => hs (k + 1) t' ρ' (by simpa using e) i) fun ρ h => hd ρ (by simpa using h)
      refine ⟨ρ', ?_, h3⟩
      rcases e2 with e2 | e2 <;> rw [e2] <;> exact e3
    · rw [e2]; exact ⟨ρ2, rfl, h2⟩
theorem pow_int {i j : Int} (h : smallP i j) : oPow (.int i) (.int j) = some (.int (i ^ j.toNat)) := by
  show (if smallP i j then some (D.int (i ^ j.toNat)) else none) = _
  rw [if_pos h]
@[simp] theorem isi_int_non  : D.isi .int (.non) = false := rfl
@[simp] theorem isi_bool_non  : D.isi .bool (.non) = false := rfl
@[simp] theorem isi_str_non  : D.isi .str (.non) = false := rfl
@[simp] theorem isi_list_non  : D.isi .list (.non) = false := rfl
@[simp] theorem isi_tuple_non  : D.isi .tuple (.non) = false := rfl
@[simp] theorem isNon_non  : D.isNon (.non) = true := rfl
@[simp] theorem isi_int_bl (b : Bool) : D.isi .int (.bl b) = true := rfl
@[simp] theorem isi_bool_bl (b : Bool) : D.isi .bool (.bl b) = true := rfl
@[simp] theorem isi_str_bl (b : Bool) : D.isi .str (.bl b) = false := rfl
@[simp] theorem isi_list_bl (b : Bool) : D.isi .list (.bl b) = false := rfl
@[simp] theorem isi_tuple_bl (b : Bool) : D.isi .tuple (.bl b) = false := rfl
@[simp] theorem isNon_bl (b : Bool) : D.isNon (.bl b) = false := rfl
@[simp] theorem isi_int_int (i : Int) : D.isi .int (.int i) = true := rfl
@[simp] theorem isi_bool_int (i : Int) : D.isi .bool (.int i) = false := rfl
@[simp] theorem isi_str_int (i : Int) : D.isi .str (.int i) = false := rfl
@[simp] theorem isi_list_int (i : Int) : D.isi .list (.int i) = false := rfl
@[simp] theorem isi_tuple_int (i : Int) : D.isi .tuple (.int i) = false := rfl
@[simp] theorem isNon_int (i : Int) : D.isNon (.int i) = false := rfl
@[simp] theorem isi_int_str (s : Str) : D.isi .int (.str s) = false := rfl
@[simp] theorem isi_bool_str (s : Str) : D.isi .bool (.str s) = false := rfl
@[simp] theorem isi_str_str (s : Str) : D.isi .str (.str s) = true := rfl
@[simp] theorem isi_list_str (s : Str) : D.isi .list (.str s) = false := rfl
@[simp] theorem isi_tuple_str (s : Str) : D.isi .tuple (.str s) = false := rfl
@[simp] theorem isNon_str (s : Str) : D.isNon (.str s) = false := rfl
@[simp] theorem isi_int_lst (l : List D) : D.isi .int (.lst l) = false := rfl
@[simp] theorem isi_bool_lst (l : List D) : D.isi .bool (.lst l) = false := rfl
@[simp] theorem isi_str_lst (l : List D) : D.isi .str (.lst l) = false := rfl
@[simp] theorem isi_list_lst (l : List D) : D.isi .list (.lst l) = true := rfl
@[simp] theorem isi_tuple_lst (l : List D) : D.isi .tuple (.lst l) = false := rfl
@[simp] theorem isNon_lst (l : List D) : D.isNon (.lst l) = false := rfl
@[simp] theorem isi_int_tup (l : List D) : D.isi .int (.tup l) = false := rfl
@[simp] theorem isi_bool_tup (l : List D) : D.isi .bool (.tup l) = false := rfl
@[simp] theorem isi_str_tup (l : List D) : D.isi .str (.tup l) = false := rfl
@[simp] theorem isi_list_tup (l : List D) : D.isi .list (.tup l) = false := rfl
@[simp] theorem isi_tuple_tup (l : List D) : D.isi .tuple (.tup l) = true := rfl
@[simp] theorem isNon_tup (l : List D) : D.isNon (.tup l) = false := rfl
@[simp] theorem isi_int_dic (k : List Key) (l : List D) : D.isi .int (.dic k l) = false := rfl
@[simp] theorem isi_bool_dic (k : List Key) (l : List D) : D.isi .bool (.dic k l) = false := rfl
@[simp] theorem isi_str_dic (k : List Key) (l : List D) : D.isi .str (.dic k l) = false := rfl
@[simp] theorem isi_list_dic (k : List Key) (l : List D) : D.isi .list (.dic k l) = false := rfl
@[simp] theorem isi_tuple_dic (k : List Key) (l : List D) : D.isi .tuple (.dic k l) = false := rfl
@[simp] theorem isNon_dic (k : List Key) (l : List D) : D.isNon (.dic k l) = false := rfl
@[simp] theorem isN_run (neg : Bool) (x : D) : oIsN neg x .non = some (.bl (if neg then !x.isNon else x.isNon)) := rfl
@[simp] theorem ints_def (l : List Int) : T.ints l = .ol (l.map ig) := rfl
@[simp] theorem dints_def (l : List Int) : D.ints l = .lst (l.map .int) := rfl
@[simp] theorem shi_def (l : List Int) : shi l = .sh (.lst (l.map .int)) := rfl
@[simp] theorem sh_comp : (T.sh ∘ D.int) = ig := rfl
@[simp] theorem d_comp : (T.d ∘ ig) = D.int := rfl
@[simp] theorem dt_comp : (T.d ∘ T.sh) = id := rfl
@[simp] theorem lim_0 : 0 ≤ lim := by decide
@[simp] theorem lim_1 : 1 ≤ lim := by decide
@[simp] theorem lim_2 : 2 ≤ lim := by decide
@[simp] theorem lim_3 : 3 ≤ lim := by decide
@[simp] theorem lim_4 : 4 ≤ lim := by decide
@[simp] theorem lim_5 : 5 ≤ lim := by decide
@[simp] theorem lim_6 : 6 ≤ lim := by decide
@[simp] theorem lim_7 : 7 ≤ lim := by decide
@[simp] theorem lim_8 : 8 ≤ lim := by decide
@[simp] theorem lim_9 : 9 ≤ lim := by decide
@[simp] theorem lim_10 : 10 ≤ lim := by decide
@[simp] theorem lim_11 : 11 ≤ lim := by decide
@[simp] theorem lim_12 : 12 ≤ lim := by decide
@[simp] theorem lim_13 : 13 ≤ lim := by decide
@[simp] theorem lim_14 : 14 ≤ lim := by decide
@[simp] theorem lim_15 : 15 ≤ lim := by decide
@[simp] theorem lim_16 : 16 ≤ lim := by decide
@[simp] theorem lim_17 : 17 ≤ lim := by decide
@[simp] theorem lim_18 : 18 ≤ lim := by decide
@[simp] theorem lim_19 : 19 ≤ lim := by decide
@[simp] theorem lim_20 : 20 ≤ lim := by decide
@[simp] theorem lim_21 : 21 ≤ lim := by decide
@[simp] theorem lim_22 : 22 ≤ lim := by decide
@[simp] theorem lim_23 : 23 ≤ lim := by decide
@[simp] theorem lim_24 : 24 ≤ lim := by decide
@[simp] theorem lim_25 : 25 ≤ lim := by decide
@[simp] theorem lim_26 : 26 ≤ lim := by decide
@[simp] theorem lim_27 : 27 ≤ lim := by decide
@[simp] theorem lim_28 : 28 ≤ lim := by decide
@[simp] theorem lim_29 : 29 ≤ lim := by decide
@[simp] theorem lim_30 : 30 ≤ lim := by decide
@[simp] theorem lim_31 : 31 ≤ lim := by decide
@[simp] theorem lim_32 : 32 ≤ lim := by decide
@[simp] theorem lim_33 : 33 ≤ lim := by decide
@[simp] theorem lim_34 : 34 ≤ lim := by decide
@[simp] theorem lim_35 : 35 ≤ lim := by decide
@[simp] theorem lim_36 : 36 ≤ lim := by decide
@[simp] theorem lim_37 : 37 ≤ lim := by decide
@[simp] theorem lim_38 : 38 ≤ lim := by decide
@[simp] theorem lim_39 : 39 ≤ lim := by decide
@[simp] theorem lim_40 : 40 ≤ lim := by decide
@[simp] theorem lt_lim_0 : 0 < lim := by decide
@[simp] theorem lt_lim_1 : 1 < lim := by decide
@[simp] theorem lt_lim_2 : 2 < lim := by decide
@[simp] theorem lt_lim_3 : 3 < lim := by decide
@[simp] theorem lt_lim_4 : 4 < lim := by decide
@[simp] theorem lt_lim_5 : 5 < lim := by decide
@[simp] theorem lt_lim_6 : 6 < lim := by decide
@[simp] theorem lt_lim_7 : 7 < lim := by decide
@[simp] theorem lt_lim_8 : 8 < lim := by decide
@[simp] theorem lt_lim_9 : 9 < lim := by decide
@[simp] theorem lt_lim_10 : 10 < lim := by decide
@[simp] theorem lt_lim_11 : 11 < lim := by decide
@[simp] theorem lt_lim_12 : 12 < lim := by decide
@[simp] theorem lt_lim_13 : 13 < lim := by decide
@[simp] theorem lt_lim_14 : 14 < lim := by decide
@[simp] theorem lt_lim_15 : 15 < lim := by decide
@[simp] theorem lt_lim_16 : 16 < lim := by decide
@[simp] theorem lt_lim_17 : 17 < lim := by decide
@[simp] theorem lt_lim_18 : 18 < lim := by decide
@[simp] theorem lt_lim_19 : 19 < lim := by decide
@[simp] theorem lt_lim_20 : 20 < lim := by decide
@[simp] theorem lt_lim_21 : 21 < lim := by decide
@[simp] theorem lt_lim_22 : 22 < lim := by decide
@[simp] theorem lt_lim_23 : 23 < lim := by decide
@[simp] theorem lt_lim_24 : 24 < lim := by decide
@[simp] theorem lt_lim_25 : 25 < lim := by decide
@[simp] theorem lt_lim_26 : 26 < lim := by decide
@[simp] theorem lt_lim_27 : 27 < lim := by decide
@[simp] theorem lt_lim_28 : 28 < lim := by decide
@[simp] theorem lt_lim_29 : 29 < lim := by decide
@[simp] theorem lt_lim_30 : 30 < lim := by decide
@[simp] theorem lt_lim_31 : 31 < lim := by decide
@[simp] theorem lt_lim_32 : 32 < lim := by decide
@[simp] theorem lt_lim_33 : 33 < lim := by decide
@[simp] theorem lt_lim_34 : 34 < lim := by decide
@[simp] theorem lt_lim_35 : 35 < lim := by decide
@[simp] theorem lt_lim_36 : 36 < lim := by decide
@[simp] theorem lt_lim_37 : 37 < lim := by decide
@[simp] theorem lt_lim_38 : 38 < lim := by decide
@[simp] theorem lt_lim_39 : 39 < lim := by decide
@[simp] theorem lt_lim_40 : 40 < lim := by decide
mutual
def D.sm : Nat → D → Bool
  | _, .non => true
  | _, .bl _ => true
  | _, .int _ => true
  | _, .str s => PyData.strOk s
  | n + 1, .lst l => decide (l.length ≤ lim) && sml n l
  | n + 1, .tup l => decide (l.length ≤ lim) && sml n l
  | _, _ => false
def sml : Nat → List D → Bool
  | _, [] => true
  | n, d :: l => d.sm n && sml n l
end
theorem sml_get {n : Nat} : ∀ {l : List D} {k : Nat} {d : D}, sml n l = true → l[k]? = some d → d.sm n = true
  | [], _, _, _, e => by simp at e
  | d :: l, 0, _, h, e => by
    simp only [sml, Bool.and_eq_true] at h
    simp at e
    rw [← e]; exact h.1
  | d :: l, k + 1, _, h, e => by
    simp only [sml, Bool.and_eq_true] at h
    exact sml_get h.2 (by simpa using e)
@[simp] theorem sml_int (n : Nat) (l : List Int) : sml n (l.map .int) = true := by
  induction l with
  | nil => rfl
  | cons a l ih => simp only [List.map_cons, sml, ih, Bool.and_true]; cases n <;> rfl
theorem sm_ints (n : Nat) (l : List Int) (h : l.length ≤ lim) : (D.lst (l.map .int)).sm (n + 1) = true := by simp [D.sm, h]
theorem eq_str_self {s : Str} (h : PyData.strOk s = true) : oEq (.str s) (.str s) = some (.bl true) := by
  unfold oEq
  have hd : (D.str s).dat 60 = true := by simp only [D.dat, h]
  rw [if_pos ⟨hd, hd⟩]
  simp [D.py, PyData.eqv]
def rg (r : List Int) : T := .sh (.lst (r.map .int))
@[simp] theorem rg_app (r : List Int) : rg r = .sh (.lst (r.map .int)) := rfl
@[simp] theorem len_tup (l : List D) : oLen (.tup l) = some (.int l.length) := rfl
@[simp] theorem boolsOf_rep (n : Nat) (b : Bool) : boolsOf (List.replicate n (.bl b)) = some (List.replicate n b) := by
  induction n with
  | zero => rfl
  | succ n ih => simp [List.replicate_succ, boolsOf, ih]
theorem lcL_T {slots : List Nat} {b : BM} {elt : EM} {ρ : Env} (f : Int → T) {p : List Int} (h : ∀ x ∈ p, ∃ ρ1 ρ2, b (si x) ρ = some ρ1 ∧ elt ρ1 = .ok (f x) ρ2 ∧ wipeE ρ2 slots = ρ) (hz : p.length ≤ lim) : lcL slots b tAll elt (p.map ig) [] ρ = .ok (p.map f) ρ := by
  let F : T → T := fun t => match t with
    | .sh (.int x) => f x
    | t => t
  have := lcL_map (slots := slots) (b := b) (elt := elt) (ρ := ρ) F (its := p.map ig) (acc := []) (fun t ht => by
    obtain ⟨x, hx, rfl⟩ := List.mem_map.mp ht
    exact h x hx) (by simpa using hz)
  rw [this, List.map_map]
  rfl
theorem lcL_ints {slots : List Nat} {b : BM} {elt : EM} {ρ : Env} (f : Int → Int) {p : List Int} (h : ∀ x ∈ p, ∃ ρ1 ρ2, b (si x) ρ = some ρ1 ∧ elt ρ1 = .ok (si (f x)) ρ2 ∧ wipeE ρ2 slots = ρ) (hz : p.length ≤ lim) : lcL slots b tAll elt (p.map ig) [] ρ = .ok ((p.map f).map ig) ρ := by
  rw [lcL_T (fun x => si (f x)) h hz, List.map_map]; rfl
theorem mem_iota {n : Nat} {x : Int} : x ∈ iota n ↔ 0 ≤ x ∧ x < n := by
  unfold iota
  rw [List.mem_map]
  constructor
  · rintro ⟨k, hk, rfl⟩
    rw [List.mem_range] at hk
    exact ⟨by omega, by omega⟩
  · rintro ⟨h0, h1⟩
    exact ⟨x.toNat, by rw [List.mem_range]; omega, by omega⟩
/-- items put by place -/
def putN (n : Nat) (f g : Nat → Int) : Nat → List Int
  | 0 => List.replicate n 0
  | k + 1 => (putN n f g k).set (f k).toNat (g k)
@[simp] theorem putN_len {n : Nat} {f g : Nat → Int} : ∀ k, (putN n f g k).length = n
  | 0 => by simp [putN]
  | k + 1 => by simp [putN, putN_len k]
theorem putN_congr {n : Nat} {f g f' g' : Nat → Int} : ∀ {m : Nat}, (∀ k, k < m → f k = f' k ∧ g k = g' k) → putN n f g m = putN n f' g' m
  | 0, _ => rfl
  | m + 1, h => by
    simp only [putN]
    rw [putN_congr (m := m) fun k hk => h k (by omega), (h m (by omega)).1, (h m (by omega)).2]
theorem repT_zero {n : Nat} (h : n ≤ lim) : repT (.ol [.sh (.int 0)]) (.sh (.int n)) = some (T.ints (List.replicate n 0)) := by
  have h2 : (1 : Nat) * (n : Int).toNat ≤ lim ∧ InR (n : Int) := by unfold lim InR at *; omega
  show (if (1 : Nat) * (n : Int).toNat ≤ lim ∧ InR (n : Int) then some (T.ol ((List.replicate (n : Int).toNat [si 0]).flatten)) else none) = _
  rw [if_pos h2]
  congr 2
  simp only [Int.toNat_natCast]
  clear h h2
  induction n with
  | zero => rfl
  | succ n ih => simp only [List.replicate_succ, List.flatten_cons, ih, List.map_cons]; rfl
@[simp] theorem bName_run (i : Nat) (t : T) (ρ : Env) : bName i t ρ = some (ρ.set i (some t)) := rfl
@[simp] theorem wipeE_nil (ρ : Env) : wipeE ρ [] = ρ := rfl
@[simp] theorem wipeE_cons (ρ : Env) (i : Nat) (l : List Nat) : wipeE ρ (i :: l) = (wipeE ρ l).set i none := rfl
@[simp] theorem keepE_nil (ρ1 ρ : Env) : keepE ρ1 [] ρ = ρ := rfl
@[simp] theorem keepE_cons (ρ1 ρ : Env) (i : Nat) (l : List Nat) : keepE ρ1 (i :: l) ρ = match ρ1[i]? with
  | some (some (.sh d)) => (keepE ρ1 l ρ).set i (some (.sh d))
  | _ => (keepE ρ1 l ρ).set i none := rfl
end
end Z

namespace Z
noncomputable section
open PySem L2
/-! ### loops that end early -/
theorem whileL_dec {c : EMb} {body : SM} (I : Nat → Env → Prop) (E : Env → Prop)
    (hs : ∀ m ρ, I m ρ → (∃ ρ', c ρ = .ok false ρ' ∧ E ρ') ∨ (∃ ρ1 ρ2 m', c ρ = .ok true ρ1 ∧ (body ρ1 = .nx ρ2 ∨ body ρ1 = .ct ρ2) ∧ m' < m ∧ I m' ρ2)) :
    ∀ (n m : Nat) (ρ : Env), m < n → I m ρ → ∃ ρ', whileL c body n ρ = .nx ρ' ∧ E ρ'
  | 0, m, ρ, h, _ => by omega
  | n + 1, m, ρ, h, hi => by
    rcases hs m ρ hi with ⟨ρ', e, h1⟩ | ⟨ρ1, ρ2, m', e, h1, h2, h3⟩
    · refine ⟨ρ', ?_, h1⟩
      unfold whileL
      rw [e]
      rfl
    · obtain ⟨ρ', e3, h4⟩ := whileL_dec I E hs n m' ρ2 (by omega) h3
      refine ⟨ρ', ?_, h4⟩
      unfold whileL
      rw [e]
      show (match body ρ1 with | .nx ρ => whileL c body n ρ | .ct ρ => whileL c body n ρ | .bk ρ => .nx ρ | r => r) = _
      rcases h1 with h1 | h1 <;> rw [h1] <;> exact e3
theorem forL_or {b : BM} {body : SM} : ∀ {its : List T} {ρ : Env} (I : Nat → Env → Prop) (R : T → Env → Prop) (_ : I 0 ρ)
    (_ : ∀ k t ρ, its[k]? = some t → I k ρ → ∃ ρ1 ρ2, b t ρ = some ρ1 ∧ (((body ρ1 = .nx ρ2 ∨ body ρ1 = .ct ρ2) ∧ I (k + 1) ρ2) ∨ (∃ u, body ρ1 = .rt u ρ2 ∧ R u ρ2))),
    (∃ ρ', forL b body its ρ = .nx ρ' ∧ I its.length ρ') ∨ (∃ u ρ', forL b body its ρ = .rt u ρ' ∧ R u ρ')
  | [], ρ, I, R, h0, _ => .inl ⟨ρ, rfl, h0⟩
  | t :: its, ρ, I, R, h0, hs => by
    obtain ⟨ρ1, ρ2, e1, e2⟩ := hs 0 t ρ rfl h0
    unfold forL
    rw [e1]
    simp only
    rcases e2 with ⟨e2, h2⟩ | ⟨u, e2, h2⟩
    · have := forL_or (its := its) (ρ := ρ2) (fun k => I (k + 1)) R h2 (fun k t' ρ' e i => hs (k + 1) t' ρ' (by simpa using e) i)
      rcases e2 with e2 | e2 <;> rw [e2] <;> exact this
    · rw [e2]
      exact .inr ⟨u, ρ2, rfl, h2⟩
/-- .. over a name's values -/
theorem forN_or {i : Nat} {body : SM} {its : List T} {ρ : Env} (I : Nat → Env → Prop) (R : T → Env → Prop) (h0 : I 0 ρ)
    (hs : ∀ k t ρ, its[k]? = some t → I k ρ → ∃ ρ2, (((body (ρ.set i (some t)) = .nx ρ2 ∨ body (ρ.set i (some t)) = .ct ρ2) ∧ I (k + 1) ρ2) ∨ (∃ u, body (ρ.set i (some t)) = .rt u ρ2 ∧ R u ρ2))) :
    (∃ ρ', forL (bName i) body its ρ = .nx ρ' ∧ I its.length ρ') ∨ (∃ u ρ', forL (bName i) body its ρ = .rt u ρ' ∧ R u ρ') :=
  forL_or I R h0 fun k t ρ e h => by
    obtain ⟨ρ2, h1⟩ := hs k t ρ e h
    exact ⟨_, ρ2, rfl, h1⟩
@[simp] theorem abs_int (i : Int) : oAbs (.int i) = some (.int i.natAbs) := by
  show some (D.int (if i < 0 then -i else i)) = _
  congr 2
  split <;> omega
theorem mul_ok {i j : Int} (h : i.natAbs.log2 + j.natAbs.log2 < 1000000) : oMul (.int i) (.int j) = some (.int (i * j)) := mul_int (.inr (.inr h))
theorem seqIx_ok {k : Int} {n : Nat} (h0 : 0 ≤ k) (h1 : k < n) : seqIndex? k n = some k.toNat := by
  unfold seqIndex?
  simp [h0, h1]
  try omega
theorem repT_one {d : D} {n : Nat} (h : n ≤ lim) : repT (.ol [.sh d]) (.sh (.int n)) = some (.ol (List.replicate n (.sh d))) := by
  have h2 : (1 : Nat) * (n : Int).toNat ≤ lim ∧ InR (n : Int) := by unfold lim InR at *; omega
  show (if (1 : Nat) * (n : Int).toNat ≤ lim ∧ InR (n : Int) then some (T.ol ((List.replicate (n : Int).toNat [T.sh d]).flatten)) else none) = _
  rw [if_pos h2]
  congr 2
  simp only [Int.toNat_natCast]
  clear h h2
  induction n with
  | zero => rfl
  | succ n ih => simp only [List.replicate_succ, List.flatten_cons, ih]; rfl
@[simp] theorem dl_sh (l : List D) : dl (l.map .sh) = l := by rw [dl_eq, List.map_map]; exact List.map_id'' (fun _ => rfl) l
theorem addT_sl {l : List D} {m : List T} (h : l.length + m.length ≤ lim) : eAddT (.sh (.lst l)) (.ol m) = some (.ol (l.map .sh ++ m)) := addT_lst (els_sh l) (els_ol m) (by simpa using h)
/-! ### lists of tests -/
def bg (b : Bool) : T := .sh (.bl b)
@[simp] theorem bg_app (b : Bool) : bg b = .sh (.bl b) := rfl
@[simp] theorem dl_bg (l : List Bool) : dl (l.map bg) = l.map D.bl := by rw [dl_eq, List.map_map]; rfl
@[simp] theorem dl_rg (l : List (List Int)) : dl (l.map rg) = l.map D.ints := by rw [dl_eq, List.map_map]; rfl
@[simp] theorem map_sh_ints (l : List (List Int)) : (l.map D.ints).map T.sh = l.map rg := by rw [List.map_map]; rfl
@[simp] theorem map_comp_ints (l : List (List Int)) : l.map (T.sh ∘ D.ints) = l.map rg := rfl
theorem atI_B (l : List Bool) {i : Nat} (h1 : i < l.length) : atI (l.map D.bl) (i : Int) = some (.bl (l.getD i false)) := by
  rw [atI_ok (by omega) (by simpa using h1), List.getElem?_map, List.getD_eq_getElem?_getD]
  simp [h1]
theorem getD_setB {l : List Bool} {i j : Nat} {v : Bool} (h : i < l.length) : (l.set i v).getD j false = if i = j then v else l.getD j false := by
  rw [List.getD_eq_getElem?_getD, List.getD_eq_getElem?_getD, List.getElem?_set]
  split
  · simp [h]
  · rfl
theorem count_set {l : List Bool} {i : Nat} (h : i < l.length) (e : l.getD i false = false) : (l.set i true).count false + 1 = l.count false := by
  induction l generalizing i with
  | nil => simp at h
  | cons b l ih =>
    cases i with
    | zero =>
      simp at e
      subst e
      simp
    | succ i =>
      have := ih (i := i) (by simpa using h) (by simpa using e)
      simp only [List.set_cons_succ, List.count_cons]
      omega
@[simp] theorem atI_1 {α : Type} (a b : α) (l : List α) : atI (a :: b :: l) 1 = some b := by
  rw [atI_ok (by omega) (by simp <;> omega)]; rfl
@[simp] theorem atI_2 {α : Type} (a b c : α) (l : List α) : atI (a :: b :: c :: l) 2 = some c := by
  rw [atI_ok (by omega) (by simp <;> omega)]; rfl
@[simp] theorem atI_3 {α : Type} (a b c d : α) (l : List α) : atI (a :: b :: c :: d :: l) 3 = some d := by
  rw [atI_ok (by omega) (by simp <;> omega)]; rfl
@[simp] theorem atI_4 {α : Type} (a b c d e : α) (l : List α) : atI (a :: b :: c :: d :: e :: l) 4 = some e := by
  rw [atI_ok (by omega) (by simp <;> omega)]; rfl
@[simp] theorem atI_5 {α : Type} (a b c d e f : α) (l : List α) : atI (a :: b :: c :: d :: e :: f :: l) 5 = some f := by
  rw [atI_ok (by omega) (by simp <;> omega)]; rfl
/-! ### lists of ints are alike just if they are the same -/
theorem dat_ints {k : Nat} : ∀ l : List Int, datl k (l.map D.int) = true
  | [] => rfl
  | i :: l => by
    simp only [List.map_cons, datl, dat_ints l, Bool.and_true]
    cases k <;> rfl
theorem eqv_ints : ∀ l m : List Int, PyData.eqvAll (pyl (l.map D.int)) (pyl (m.map D.int)) = decide (l = m)
  | [], [] => by simp [pyl, PyData.eqvAll]
  | [], i :: m => by simp [pyl, PyData.eqvAll]
  | i :: l, [] => by simp [pyl, PyData.eqvAll]
  | i :: l, j :: m => by
    have := eqv_ints l m
    simp only [List.map_cons, pyl, D.py, PyData.eqvAll, this]
    by_cases h : i = j <;> by_cases h2 : l = m <;> simp [PyData.eqv, h, h2]
theorem eq_ints (p q : List Int) : oEq (D.lst (p.map .int)) (D.lst (q.map .int)) = some (.bl (decide (p = q))) := by
  unfold oEq
  have hd : ∀ l : List Int, (D.lst (l.map .int)).dat 60 = true := fun l => dat_ints l
  rw [if_pos ⟨hd p, hd q⟩]
  congr 2
  show PyData.eqv (.list (pyl (p.map .int))) (.list (pyl (q.map .int))) = _
  rw [← eqv_ints p q]
  simp [PyData.eqv]
theorem ne_ints (p q : List Int) : oNe (D.lst (p.map .int)) (D.lst (q.map .int)) = some (.bl (!decide (p = q))) := by
  unfold oNe
  have hd : ∀ l : List Int, (D.lst (l.map .int)).dat 60 = true := fun l => dat_ints l
  rw [if_pos ⟨hd p, hd q⟩]
  congr 3
  show PyData.eqv (.list (pyl (p.map .int))) (.list (pyl (q.map .int))) = _
  rw [← eqv_ints p q]
  simp [PyData.eqv]
end
end Z

namespace Z
noncomputable section
open PySem L2
/-! ### repr of data, where no repr is under way -/
section
variable {X : Cx}
def rRepr (K : PySem.W.Frag) : List V → Hp → VK → Prop := fun xs H Q => ∃ (a : Addr) (d : PyData), xs = [.ref a] ∧ Dp K H (.ref a) d ∧ d.showable = true ∧ d.hasDict = false ∧ d.depth ≤ 60 ∧ d.shown.length ≤ sizeLine ∧ Q (.str d.shown) H
theorem call_reprD (hg : X.A.guards = some []) (hu : X.A.units + 64 < cLine) : CallR X (.builtin "repr") (rRepr X.K) := by
  intro pins s σ H xs us Q I r h
  obtain ⟨a, d, rfl, hd, hs, hk, hdp, hz, q⟩ := h
  obtain ⟨u, rfl, ru⟩ := vals1 r
  obtain rfl : u = Value.ref a := ru
  obtain ⟨as, rd⟩ := Dp.reads I d (.ref a) (.ref a) hd rfl
  refine repr_of_reads' (h₀ := s.heap) rd hs (fun e => ?_) hg (by omega) (fun _ _ e => e) (fun h' u tk hk' => ?_) hz
  · rw [hk] at e; cases e
  · exact ⟨.str d.shown, H, I.kept (t' := tk) hk', ⟨u, rfl⟩, q⟩
end
end
end Z

namespace Z
noncomputable section
open PySem L2
@[simp] theorem oRep_dummy : True := trivial
/-- repr of lists and tuples of plain data -/
def oRepr : D → Option D := fun d => match d with
  | .lst l => if d.dat 60 = true ∧ d.py.showable = true ∧ d.py.hasDict = false ∧ d.py.shown.length ≤ sizeLine then some (.str d.py.shown) else none
  | .tup l => if d.dat 60 = true ∧ d.py.showable = true ∧ d.py.hasDict = false ∧ d.py.shown.length ≤ sizeLine then some (.str d.py.shown) else none
  | _ => none
theorem cs_repr {K : PySem.W.Frag} : CallS (rRepr K) (o1 oRepr) := fun H ds vs d h e Q q => by
  obtain ⟨x, rfl, e⟩ := o1_some e
  obtain ⟨v, rfl, hv⟩ := rpl1 h
  clear h
  cases x <;> first | (cases e; done) | skip
  all_goals
    obtain ⟨⟨h1, h2, h3, h4⟩, e⟩ := ite_some e
    cases e
    have hd := hv.dp (K := K) h1
    obtain ⟨a, vs, rfl, _⟩ := hv
    exact ⟨a, _, rfl, hd, h2, h3, (dat_lay h1).2, h4, q _ H (fun _ _ h => h) rfl⟩
def oEqS : D → D → Option D
  | .str a, .str b => some (.bl (decide (a = b)))
  | _, _ => none
theorem os_eqS : OpS rEq oEqS := fun H dx dy x y d hx hy e Q q => by
  cases dx <;> first | (cases e; done) | skip
  cases dy <;> first | (cases e; done) | skip
  cases e
  cases hx
  cases hy
  refine ⟨rfl, ?_⟩
  have := q (.bl (decide (V.str _ = V.str _))) H (fun _ _ h => h) (by simp; rfl)
  exact this
/-! ### a def that is called where no repr is under way -/
section
open PySem.Spec PyProof.Rows
variable {P : Program} {w : World} {mg : Str → Option Value} {base : Heap} {K : PySem.W.Frag}
structure FnG (P : Program) (w : World) (K : PySem.W.Frag) (mg : Str → Option Value) (base : Heap) (CX : CXT) (k : Nat) (f : Addr) (fd : FuncData) (ps : List Str) (sp : Sp) : Prop where
  run : ∀ (A : Around), A.guards = some [] → Room k A → ∀ (outer : List PySem.Env) (s : Shared) (H : Hp), Env0 P w K mg base A outer s H → ∀ (args : Args) (us : List Value) (vs : List V), BindsTo s fd args (ps.zip us) → Vals vs us →
    ∀ (Q : VK) (E : XK), sp vs H Q E → codeAny (model P w) A (.call (.ref f) args) (CR CX outer P w H s Q E) s
theorem fnG_mk {x qual : Str} {st : Stmt} {f : Addr} {fd : FuncData} {N ps : List Str} {k : Nat} {sp : Sp} (F : Fun K x qual st f fd) (S : FnScope N ps (defScope st)) (len : ∀ vs H Q E, sp vs H Q E → vs.length = ps.length)
    (hbody : ∀ (cdv : Value) (A : Around), A.guards = some [] → ∀ (outer : List PySem.Env) (s : Shared) (H : Hp) (vs : List V) (Q : VK) (E : XK), Room k (A.deeper (envOfC qual (defScope st) s.heap.objs.size f cdv)) → sp vs H Q E →
      ∃ t, PSs (cxOf (L2.CX P w) P w K mg base N qual (defScope st) f cdv A outer s H E) (defBody st) t ∧ t { nx := fun _ H' => Q .non H', rt := Q } (start N vs) H) : FnG P w K mg base (L2.CX P w) (k + 1) f fd ps sp := by
  obtain ⟨oc, od, kV, doc, pm, an, cdv, ct, osl, rfl, lk, hcd⟩ := F.ex
  constructor
  intro A hg hr outer s H en args us vs hb rv Q E hsp
  have inS : ∀ b o, base.get? b = some o → s.heap.get? b = some o := fun b o e => (en.bs b o e).1
  have kin := en.mod.kin.keeps inS
  have nolim := en.mod.nolimit.keeps inS
  have kinds : ∀ y ∈ ps.zip us, (defScope st).names.lookup y.1 = some .local ∨ ((defScope st).names.lookup y.1 = some .cell ∧ ((cellsFrom (s.heap.objs.size + 1) (defScope st).names []).lookup y.1).isSome = true) := by
    rintro ⟨n, v⟩ hy
    exact (S.par n (List.of_mem_zip hy).1).imp id fun q => ⟨q, PySem.W.cellsFrom_some _ _ _ (.inl q)⟩
  refine codeAny_call_function hr.depth (kin _ _ lk) rfl S.co S.gen rfl (PySem.W.codeRec_of kin hcd) (hb _ _ _ _ (wpAny_newFunctionEnv_cells S.kind kinds ?_))
  rintro env rfl s1 x
  obtain ⟨t, ht, hq⟩ := hbody cdv A hg outer s H vs Q E (hr.deeper _) hsp
  have inv := inv_start (CX := L2.CX P w) (E := E) (cd := cdv) (qual := qual) (f := f) S hr.hd en (len _ _ _ _ hsp) rv x
  refine ⟨nolim.keeps x.toInCall.keep, codeAny_func (wpAny_mono (ht.run [] s1 _ H _ inv hq) ?_ fun _ _ h => h)⟩
  intro fl s' hs
  cases fl with
  | ret u =>
    obtain ⟨v, σ', H', J, r1, q1⟩ := hs
    exact ⟨v, H', J.os, J.bare, J.base, J.hok, r1, q1⟩
  | next =>
    obtain ⟨σ', H', J, q1⟩ := hs
    exact ⟨.non, H', J.os, J.bare, J.base, J.hok, rfl, q1⟩
  | brk => exact hs.choose_spec.choose_spec.2.elim
  | cont => exact hs.choose_spec.choose_spec.2.elim
/-- the law's def is called where nothing is under way -/
theorem start_at {mb : Str → Option Value} {s : Shared} {H : Hp} {a : Addr} {vs : List Value} (kin : K.In s.heap) (gl : s.heap.Ns mainGlobals mg) (bl : s.heap.Ns builtinsNs mb) (bb : ∀ x : Str, x ≠ "__name__" → mb x = bootBuiltins x) (lim : s.heap.NoLimit) (nog : s.gens = #[])
    (ha : s.heap.get? a = some { cls := .type "list", data := .seq vs.toArray }) (hok : HOk P w H s.heap) (one : ∀ b, H b ≠ none → b = a) (own : H a ≠ none → K.lookup a = none) :
    Env0 P w K mg (hidT s.heap H) callerA [] s H ∧ K.In (hidT s.heap H) ∧ (hidT s.heap H).Ns mainGlobals mg := by
  have dictFree : ∀ {b : Addr} {o : Obj} {es : Array DictEntry} {ep : Nat}, s.heap.get? b = some o → o.data = .dict es ep → H b = none := by
    intro b o es ep e d
    apply Classical.byContradiction
    intro n
    rw [one b n, ha] at e
    cases e
    cases d
  have nsk : ∀ {b : Addr} {m : Str → Option Value}, s.heap.Ns b m → (hidT s.heap H).Ns b m := by
    rintro b m ⟨o, es, ep, e, d, r⟩
    exact ⟨o, es, ep, hidT_get e (dictFree e d), d, r⟩
  have kin' : K.In (hidT s.heap H) := by
    intro b o e
    refine hidT_get (kin b o e) (Classical.byContradiction fun n => ?_)
    have eb := one b n
    subst eb
    rw [own n] at e
    cases e
  obtain ⟨mc, l1, l2⟩ := lim
  exact ⟨⟨rfl, ⟨kin', nsk gl, ⟨mb, nsk bl, bb⟩, ⟨mc, nsk l1, l2⟩⟩, fun b o e => of_hidT e, Nat.le_of_eq (hidT_size _ _), trivial, (fun b z => nomatch z), hok, .of_eq nog⟩, kin', nsk gl⟩
theorem law_callG {mb : Str → Option Value} {k : Nat} {fa a : Addr} {fd : FuncData} {x : Str} {sp : Sp} {s : Shared} {vs : List Value} {ns : List Int} (kin : K.In s.heap) (gl : s.heap.Ns mainGlobals mg) (bl : s.heap.Ns builtinsNs mb) (bb : ∀ x : Str, x ≠ "__name__" → mb x = bootBuiltins x) (lim : s.heap.NoLimit) (nog : s.gens = #[])
    (ha : s.heap.get? a = some { cls := .type "list", data := .seq vs.toArray }) (hi : IntsAre vs ns) (hl : ns.length ≤ sizeLine) (hr : Room k callerA)
    (F : ∀ base : Heap, K.In base → base.Ns mainGlobals mg → FnG P w K mg base (L2.CX P w) k fa fd [x] sp) (hbind : ∀ (s : Shared) (u : Value), BindsTo s fd ⟨[u], []⟩ [(x, u)])
    (hsp : ∀ H : Hp, Only H → SqL K H a (ns.map V.int) → sp [.ref a] H (fun v _ => v = .bl true) fun _ _ _ => False)
    (hCX : ∀ H e s', L2.CX P w [] H s (fun _ _ _ => False) e s' → False) :
    codeAny (model P w) callerA (.call (.ref fa) ⟨[.ref a], []⟩) (fun r s' => r = .ok (.ret (.bool true)) ∧ OldK s.heap s'.heap ∧ s'.os = s.os ∧ AllBare s'.gens) s := by
  have go : ∀ H : Hp, Only H → SqL K H a (ns.map V.int) → HOk P w H s.heap → (∀ b, H b ≠ none → b = a) → (H a ≠ none → K.lookup a = none) →
      codeAny (model P w) callerA (.call (.ref fa) ⟨[.ref a], []⟩) (fun r s' => r = .ok (.ret (.bool true)) ∧ OldK s.heap s'.heap ∧ s'.os = s.os ∧ AllBare s'.gens) s := by
    intro H hO hS hok one own
    obtain ⟨en, k1, k2⟩ := start_at (P := P) (w := w) kin gl bl bb lim nog ha hok one own
    refine codeAny_mono ((F _ k1 k2).run callerA rfl hr [] s H en ⟨[.ref a], []⟩ [.ref a] [.ref a] (hbind s (.ref a)) (.cons rfl .nil) _ _ (hsp H hO hS)) ?_
    intro r s' h
    rcases r with e | fl
    · exact (hCX H e s' h).elim
    cases fl with
    | next => exact False.elim h
    | brk => exact False.elim h
    | cont => exact False.elim h
    | ret u =>
      obtain ⟨v, H', os, bare, un, hok', r', q⟩ := h
      obtain rfl : v = .bl true := q
      obtain rfl : u = Value.bool true := r'
      refine ⟨rfl, OldK.of_keep ?_, os, bare⟩
      intro b o e
      rcases hO b with z | ⟨ob, xs, z⟩
      · exact un.keep b o e z (by intro z; cases z) (by intro z; cases z)
      · obtain ⟨e1, _⟩ := hok b _ z
        obtain ⟨e2, _⟩ := hok' b _ (un.frzs b ob _ z)
        rw [e] at e1
        cases e1
        exact e2
  have rv := vals_ints hi
  have lv := hi.length
  cases hk : K.lookup a with
  | some o =>
    have e := kin a o hk
    rw [ha] at e
    cases e
    exact go (fun _ => none) (fun _ => .inl rfl) (.inr ⟨_, vs.toArray, _, hk, rfl, rfl, rfl, by rw [List.size_toArray, lv]; exact hl, by simpa using rv⟩) (fun b u z => nomatch z) (fun b z => absurd rfl z) fun z => absurd rfl z
  | none =>
    let H : Hp := fun b => if b = a then some (.frz { cls := .type "list", data := .seq vs.toArray } (.lst (ns.map V.int))) else none
    have Ha : H a = some (.frz { cls := .type "list", data := .seq vs.toArray } (.lst (ns.map V.int))) := if_pos rfl
    have Hn : ∀ b, b ≠ a → H b = none := fun b h => if_neg h
    have one : ∀ b, H b ≠ none → b = a := fun b h => Classical.byContradiction fun n => h (Hn b n)
    refine go H (fun b => ?_) (.inl (.inr ⟨_, Ha⟩)) (fun b u z => ?_) one fun _ => hk
    · by_cases hb : b = a
      · rw [hb]; exact .inr ⟨_, _, Ha⟩
      · exact .inl (Hn b hb)
    · have hb := one b (by rw [z]; simp)
      subst hb
      rw [Ha] at z
      cases z
      exact ⟨ha, by rw [List.length_map]; exact hl, vs, _, rv, ha⟩
theorem walkG {l : PySem.W.OpenLaw} {q : Program} {loose : List Str} {XP : (Str → Option Value) → Heap → Prop} {YP : World → Heap → Prop} {d : DefRec} {K : Params → PySem.W.Frag} (k : Nat) (hr : Room k callerA) (hn : l.most = some 63) (hdf : d.params.defaults = [])
    (hY : ∀ (w : World) (h : Heap), YP w h → (K w.params).In h)
    (F : ∀ (w : World) (mg : Str → Option Value) (fa : Addr) (h : Heap), (K w.params).In h → h.Ns mainGlobals mg → mg d.name = some (.ref fa) →
      ∃ fd : FuncData, (∀ (s : Shared) (u : Value), BindsTo s fd ⟨[u], []⟩ [("script", u)]) ∧ ∀ base : Heap, (K w.params).In base → base.Ns mainGlobals mg → FnG l.prog w (K w.params) mg base (L2.CX l.prog w) k fa fd ["script"] (spLaw (K w.params))) :
    PySem.W.WalkO q loose XP YP l.row.toRowW d [] (fun f vs => PySem.call f vs) := by
  refine Att.attach_call hn hdf ?_
  intro w s₀ s₁ mg mb fa o pm cd doc a vs ns G Y _ _ _ hmg hobj hints hlen hg
  have kin := hY w _ Y
  obtain ⟨fd, hb, hF⟩ := F w mg fa _ kin G.T.g hmg
  exact law_callG kin G.T.g G.T.b G.T.builtins G.T.nolimit hg hobj hints (Nat.le_trans hlen (by decide)) hr hF hb (fun H _ hS => ⟨a, ns, rfl, hS, hlen, fun _ => rfl⟩) fun H e s' z => cx_none z
end
end
end Z

namespace Z
noncomputable section
open PySem L2
variable {ct : CT} {Wx : XW} {W S0 S S1 H H' : Hp} {ρ ρ' : Env} {σ σ0 : St} {t u : T} {ts us tm its : List T} {v w : V} {vs ws vm : List V} {as bs : List Addr} {i : Nat} {d : D} {pin : List Nat} {D0 : Ends} {K : PySem.W.Frag} {ns : List Int}
/-! ### {x: True for x in ..}, x whole numbers -/
def addI (ks : List Int) (x : Int) : List Int := if x ∈ ks then ks else ks ++ [x]
def intsT : List T → Option (List Int)
  | [] => some []
  | .sh (.int i) :: l => (intsT l).map (i :: ·)
  | _ => none
def keysI (xs : List Int) : List Int := xs.foldl addI []
def odI (ks : List Int) : T := .od (ks.map Sum.inl) (ks.map fun _ => .sh (.bl true))
def eDcI (j : Nat) (src : IM) : EM := fun ρ => (src ρ).bnd fun its ρ1 => match intsT its with
  | some xs => if xs.length ≤ lim ∧ j < ρ1.length then .ok (odI (keysI xs)) (keepE ρ1 [j] (wipeE ρ1 [j])) else .bad
  | none => .bad
theorem intsT_get : ∀ {l : List T} {xs : List Int} {i : Nat} {t : T}, intsT l = some xs → l[i]? = some t → ∃ x, xs[i]? = some x ∧ t = .sh (.int x)
  | [], _, _, _, _, e => by simp at e
  | .sh (.int x) :: l, xs, i, t, h, e => by
    unfold intsT at h
    obtain ⟨r, hr, rfl⟩ := Option.map_eq_some_iff.mp h
    cases i with
    | zero => cases e; exact ⟨x, rfl, rfl⟩
    | succ i =>
      obtain ⟨y, h1, h2⟩ := intsT_get (i := i) hr (by simpa using e)
      exact ⟨y, by simpa using h1, h2⟩
  | .sh .non :: l, _, _, _, h, _ => by cases h
  | .sh (.bl _) :: l, _, _, _, h, _ => by cases h
  | .sh (.str _) :: l, _, _, _, h, _ => by cases h
  | .sh (.lst _) :: l, _, _, _, h, _ => by cases h
  | .sh (.tup _) :: l, _, _, _, h, _ => by cases h
  | .sh (.dic _ _) :: l, _, _, _, h, _ => by cases h
  | .ol _ :: l, _, _, _, h, _ => by cases h
  | .ot _ :: l, _, _, _, h, _ => by cases h
  | .od _ _ :: l, _, _, _, h, _ => by cases h
theorem intsT_len : ∀ {l : List T} {xs : List Int}, intsT l = some xs → xs.length = l.length
  | [], _, h => by cases h; rfl
  | .sh (.int x) :: l, xs, h => by
    unfold intsT at h
    obtain ⟨r, hr, rfl⟩ := Option.map_eq_some_iff.mp h
    simp [intsT_len hr]
  | .sh .non :: l, _, h => by cases h
  | .sh (.bl _) :: l, _, h => by cases h
  | .sh (.str _) :: l, _, h => by cases h
  | .sh (.lst _) :: l, _, h => by cases h
  | .sh (.tup _) :: l, _, h => by cases h
  | .sh (.dic _ _) :: l, _, h => by cases h
  | .ol _ :: l, _, h => by cases h
  | .ot _ :: l, _, h => by cases h
  | .od _ _ :: l, _, h => by cases h
theorem addI_le (ks : List Int) (x : Int) : (addI ks x).length ≤ ks.length + 1 := by
  unfold addI; split <;> simp
/-- the dict's rows -/
def rowsI (ks : List Int) : List (Key × V) := ks.map fun k => (Sum.inl k, .bl true)
theorem put_rows (ks : List Int) (x : Int) : putK (rowsI ks) (Sum.inl x) (.bl true) = rowsI (addI ks x) := by
  unfold putK addI rowsI
  by_cases h : x ∈ ks
  · have : ((ks.map fun k => ((Sum.inl k : Key), V.bl true)).any fun kv => decide (kv.1 = Sum.inl x)) = true := by
      rw [List.any_map, List.any_eq_true]
      exact ⟨x, h, by simp⟩
    rw [if_pos this, if_pos h, List.map_map]
    apply List.map_congr_left
    intro k _
    show (if (Sum.inl k : Key) = Sum.inl x then (Sum.inl k, V.bl true) else (Sum.inl k, V.bl true)) = _
    split <;> rfl
  · have : ¬ ((ks.map fun k => ((Sum.inl k : Key), V.bl true)).any fun kv => decide (kv.1 = Sum.inl x)) = true := by
      rw [List.any_map, List.any_eq_true]
      rintro ⟨k, hk, e⟩
      have : k = x := by simpa using e
      exact h (this ▸ hk)
    rw [if_neg this, if_neg h, List.map_append]
    rfl
theorem zip_rows : ∀ (ks : List Int) (xs : List V), xs = ks.map (fun _ => V.bl true) → (ks.map (Sum.inl : Int → Key)).zip xs = rowsI ks
  | [], _, h => by subst h; rfl
  | k :: ks, _, h => by
    subst h
    simp only [List.map_cons, List.zip_cons_cons]
    rw [zip_rows ks _ rfl]
    rfl
theorem rtl_true {S H : Hp} : ∀ (ks : List Int), Rtl S H (ks.map fun _ => T.sh (.bl true)) (ks.map fun _ => V.bl true) []
  | [] => ⟨rfl, rfl⟩
  | k :: ks => ⟨_, _, [], [], rfl, rfl, ⟨rfl, rfl⟩, rtl_true ks⟩
theorem rtl_trueE {S H : Hp} : ∀ (ks : List Int) (xs : List V) (b : List Addr), Rtl S H (ks.map fun _ => T.sh (.bl true)) xs b → xs = (ks.map fun _ => V.bl true) ∧ b = []
  | [], _, _, ⟨h1, h2⟩ => ⟨h1, h2⟩
  | k :: ks, _, _, ⟨v, r, b, c, h1, h2, ⟨h3, h4⟩, h5⟩ => by
    subst h1 h2 h3
    obtain ⟨e1, e2⟩ := rtl_trueE ks _ _ h5
    subst e1 e2
    have : v = V.bl true := h4
    subst this
    exact ⟨rfl, rfl⟩
theorem keysI_snoc (xs : List Int) (x : Int) : keysI (xs ++ [x]) = addI (keysI xs) x := by simp [keysI, List.foldl_append]
theorem foldl_addI : ∀ (xs ks : List Int), (xs.foldl addI ks).length ≤ ks.length + xs.length
  | [], ks => by simp
  | x :: xs, ks => by
    have h1 := foldl_addI xs (addI ks x)
    have h2 := addI_le ks x
    simp only [List.foldl_cons, List.length_cons]
    omega
theorem keysI_le (xs : List Int) : (keysI xs).length ≤ xs.length := by
  have := foldl_addI xs []
  simpa [keysI] using this
theorem se_dcI {j : Nat} {wi : TI} {src : IM} (hi : SI ct Wx wi src) : SE ct Wx (tDc wi (gName j) tYes (tVar j) (tC (.bl true)) [j]) (eDcI j src) := fun W S0 ρ σ tm vm H Q gx k => by
  refine hi W S0 ρ σ tm vm H _ gx ((Out.P_bnd.mp k).mono (fun its ρ1 k1 J S H1 hu g1 jo => ?_) fun _ _ h => h)
  cases hx : intsT its with
  | none => rw [hx] at k1; exact k1.elim
  | some xs =>
  rw [hx] at k1
  obtain ⟨⟨hz, hj⟩, k2⟩ := P_ite k1
  have hl := intsT_len hx
  intro D hD
  obtain ⟨S1, as, bs, hu1, g1⟩ := g1.up
  have hk : ∀ (i : Nat) d, ρ1[i]? = some (some (.sh d)) → ∃ v, σ[i]? = some (some v) ∧ Rp S1 d v := fun i d e => by
    obtain ⟨v, b, c, d', e1, _, ⟨_, e3⟩, _⟩ := g1.re.at e
    exact ⟨v, e1, e3⟩
  have g2 : GX W S1 (wipeE ρ1 [j]) (wipe σ [j]) (odI [] :: tm) (.ref D :: vm) (upd H1 D (.dK [])) := GX.wipe (GX.newD (ks := []) (ts := []) (vs := []) ⟨S1, as, bs, g1⟩ rfl rfl hD)
  refine ⟨fun i m H' => m = its.length - i ∧ i ≤ its.length ∧ ∃ ρ', GX W S1 ρ' (wipe σ [j]) (odI (keysI (xs.take i)) :: tm) (.ref D :: vm) H' ∧ wipeE ρ' [j] = wipeE ρ1 [j], ⟨its.length, by simp, Nat.zero_le _, _, g2, by simp⟩, ?_⟩
  rintro i m H' ⟨rfl, hle, ρ', g', ew1⟩
  have eS : Same S H' := fun a o h => g'.under a o (hu1.1 a o h)
  by_cases hlt : i < its.length
  · refine .inr ⟨jo.go i H' eS hlt, fun H' => i + 1 ≤ its.length ∧ ∃ ρ', GX W S1 ρ' (wipe σ [j]) (odI (keysI (xs.take (i + 1))) :: tm) (.ref D :: vm) H' ∧ wipeE ρ' [j] = wipeE ρ1 [j], fun H2 q => ⟨its.length - (i + 1), by omega, rfl, q⟩, fun x H2 y => ?_⟩
    obtain ⟨t, e1, y⟩ := jo.yld i H' x H2 eS hlt y
    obtain ⟨z, e2, rfl⟩ := intsT_get hx e1
    have y' : ((H2 = H' ∧ ∃ d, T.sh (.int z) = .sh d ∧ Rp S1 d x) ∨ ∃ p es vs, T.sh (.int z) = .ot (es.map .sh) ∧ x = .ref p ∧ H' p = none ∧ H2 = upd H' p (.tup vs) ∧ Rpl S1 es vs) := by
      rcases y with ⟨h1, d, h2, h3⟩ | ⟨p, es, vs, h1, h2, h3, h4, h5⟩
      · exact .inl ⟨h1, d, h2, h3.mono hu1.1⟩
      · cases h1
    refine sg_name W S1 ρ' _ _ _ H2 _ x _ (g'.item y') rfl _ fun σ2 g3 ew => ?_
    rw [wipe_wipe] at ew
    refine ⟨ew, ?_⟩
    unfold tYes
    dsimp only
    rw [if_pos rfl]
    have hlen : ρ'.length = ρ1.length := by simpa using congrArg List.length ew1
    obtain ⟨v, e5, g4⟩ := g3.read (i := j) (t := .sh (.int z)) (by simp [hlen, hj])
    have hv : v = .int z := g4.tmp
    subst hv
    have hle2 : (keysI (xs.take i)).length ≤ lim := by
      have h1 := keysI_le (xs.take i)
      rw [List.length_take] at h1
      omega
    refine ⟨.int z, e5, ?_⟩
    obtain ⟨a, ys, e6, h1, h2, h3, mk⟩ := g3.mutD
    cases e6
    have hys : ys = (keysI (xs.take i)).map fun _ => V.bl true := by
      obtain ⟨S', as', bs', gg⟩ := g3
      obtain ⟨v', r, c1, c2, h4, _, ⟨a', ys', b', h5, _, h6, _, h7⟩, _⟩ := gg.rt
      cases h4
      cases h5
      obtain ⟨q1, _⟩ := rtl_trueE _ _ _ h7
      have h8 := h1.symm.trans h6
      injection h8 with h8
      injection h8 with h8
      rw [zip_rows _ _ q1] at h8
      have h9 := congrArg (List.map Prod.snd) h8
      rw [List.map_snd_zip (by simp [h3])] at h9
      rw [h9]
      simp [rowsI]
    rw [zip_rows _ _ hys] at h1
    have et : keysI (xs.take (i + 1)) = addI (keysI (xs.take i)) z := by
      rw [List.take_add_one, e2]
      exact keysI_snoc _ _
    have g6 := mk ((addI (keysI (xs.take i)) z).map Sum.inl) ((addI (keysI (xs.take i)) z).map fun _ => .sh (.bl true)) tm ((addI (keysI (xs.take i)) z).map fun _ => V.bl true) vm (by simp) (fun S H b c hb hc => ⟨[], c, rtl_true _, hc, by
      intro h
      simpa using (List.nodup_append.mp h).2.1, by
      intro x hx
      simp at hx
      simp [hx]⟩)
    rw [zip_rows _ _ rfl, ← put_rows, ← et] at g6
    have g7 := GX.wipe (slots := [j]) g6
    rw [ew] at g7
    refine ⟨rowsI (keysI (xs.take i)), Sum.inl z, rfl, h1, ?_, hlt, _, g7, ?_⟩
    · have : (rowsI (keysI (xs.take i))).length = (keysI (xs.take i)).length := by simp [rowsI]
      rw [this]
      have h1 := keysI_le (xs.take i)
      rw [List.length_take] at h1
      exact lim_lt (by omega)
    · rw [← ew1]
      simp [wipeE]
  · have ei : i = its.length := by omega
    subst ei
    refine .inl ⟨jo.stop _ H' eS (Nat.le_refl _), ?_⟩
    have hw := GX.wipe (slots := [j]) g'
    rw [wipe_wipe, ew1] at hw
    rw [← hl, List.take_length] at hw
    exact k2 (.ref D) H' ((GX.keep hw hk).join (hu.trans hu1))
/-! ### len of a dict, tuple(l), str(i), l.index(x) -/
def rLenD : List V → Hp → VK → Prop := fun xs H Q => ∃ a kvs, xs = [V.ref a] ∧ H a = some (.dK kvs) ∧ Q (.int kvs.length) H
def oLenD : List T → Option T
  | [.od ks _] => some (.sh (.int ks.length))
  | _ => none
theorem ce_lenD : CallE rLenD oLenD := fun W S0 ρ σ tm vm H ts vs z Q g hl e k => by
  unfold oLenD at e
  split at e
  · rename_i ks l
    cases e
    match vs, hl with
    | [v], _ =>
      obtain ⟨a, xs, rfl, h1, h2, h3, _⟩ := GX.mutD (ts := l) (tm := tm) (vm := vm) g
      refine ⟨a, _, rfl, h1, ?_⟩
      have : (ks.zip xs).length = ks.length := by simp [h2, h3]
      rw [this]
      exact k _ H ((GX.pop1 (t := .od ks l) (v := .ref a) g).pushC (S := fun _ => none) (d := .int ks.length) rfl rfl)
  · cases e
def rStrI : List V → Hp → VK → Prop := fun xs H Q => ∃ i : Int, xs = [.int i] ∧ i.natAbs.log2 < 1920 ∧ Q (.str (toString i)) H
def oStrI : D → Option D
  | .int i => if i.natAbs.log2 < 1920 then some (.str (toString i)) else none
  | _ => none
theorem cs_strI : CallS rStrI (o1 oStrI) := fun H ds vs d h e Q q => by
  obtain ⟨x, rfl, e⟩ := o1_some e
  obtain ⟨v, rfl, hv⟩ := rpl1 h
  clear h
  cases x <;> first | (cases e; done) | skip
  obtain ⟨h1, e⟩ := ite_some e
  cases e
  cases hv
  exact ⟨_, rfl, h1, q _ H (fun _ _ h => h) rfl⟩
def oIndex : D → D → Option D
  | .lst l, y => if (D.lst l).dat 60 = true ∧ y.dat 60 = true then ((pyl l).findIdx? fun z => PyData.eqv z y.py).map fun j => .int (j : Nat) else none
  | _, _ => none
def pIndex (p q : PM) : PM := fun ρ => (p ρ).bind fun x => (q ρ).bind fun y => oIndex x y
theorem sp_index {K : PySem.W.Frag} {ta tb : TE} {a b : PM} (ha : SP ta a) (hb : SP tb b) : SP (tBM K "list" (rIndexD K) ta (tCons tb tNil)) (pIndex a b) := fun ρ σ H g d h Q q => by
  obtain ⟨x, h1, h⟩ := some_bind h
  obtain ⟨y, h2, h⟩ := some_bind h
  refine ha ρ σ H g x h1 _ fun v H1 e1 r1 => ?_
  obtain ⟨l, rfl⟩ : ∃ l, x = .lst l := by
    cases x <;> first | (cases h; done) | exact ⟨_, rfl⟩
  obtain ⟨⟨k1, k2⟩, h⟩ := ite_some h
  obtain ⟨j, hj, rfl⟩ := Option.map_eq_some_iff.mp h
  obtain ⟨hlt, hz, hno⟩ := List.findIdx?_eq_some_iff_getElem.mp hj
  have hx := r1
  obtain ⟨p, xs, rfl, hp, _⟩ := hx
  refine ⟨.inl ⟨rfl, xs, .of hp⟩, ?_⟩
  refine hb ρ σ H1 (g.ext e1) y h2 _ fun w H2 e2 r2 => ?_
  have d1 := (r1.mono e2).dp (K := K) k1
  exact ⟨p, w, y.py, pyl l, j, (pyl l)[j], rfl, rfl, d1, r2.dp k2, dat_shaped k1, dat_shaped k2, List.getElem?_eq_getElem hlt, hz, fun m z' hm hz' => by
    obtain ⟨hm2, rfl⟩ := List.getElem?_eq_some_iff.mp hz'
    simpa using hno m hm, q _ H2 (e1.trans e2) rfl⟩
end
end Z

namespace Z
noncomputable section
open PySem L2
open PySem.Spec PyProof.Rows
variable {ct : CT} {P : Program} {w : World} {K : PySem.W.Frag} {mg : Str → Option Value} {base h : Heap}
/-! ### a law that asks repr -/
def FlG (P : Program) (w : World) (K : PySem.W.Frag) (mg : Str → Option Value) (base : Heap) (x : Str) (st : Stmt) (k : Nat) (ps : List Str) (sp : Sp) : Prop :=
  ∃ (f : Addr) (fd : FuncData), FnG P w K mg base (L2.CX P w) k f fd ps sp ∧ Fun K x x st f fd ∧ mg x = some (.ref f)
theorem fnG_defL {x : Str} {st : Stmt} {N : List Str} {sc : Str} {k : Nat} {m : List Int → SM} (F : Dd K mg x st [sc]) (Sc : FnScope N [sc] (defScope st)) (hN : 1 ≤ N.length)
    (hbody : ∀ (f : Addr) (cdv : Value) (A : Around), A.guards = some [] → ∀ (outer : List PySem.Env) (s : Shared) (H : Hp) (E : XK), Room k (A.deeper (envOfC x (defScope st) s.heap.objs.size f cdv)) →
      ∃ t, PSs (cxOf (L2.CX P w) P w K mg base N x (defScope st) f cdv A outer s H E) (defBody st) t ∧ ∀ ns, SSa (ScA K ns) ct (fun c d _ H => E c d H) [0] t (m ns)) : FlG P w K mg base x st (k + 1) [sc] (spSc ct K (mFunS N.length m)) := by
  obtain ⟨f, fd, F, hm, hb⟩ := F
  refine ⟨f, fd, ?_, F, hm⟩
  refine fnG_mk F Sc (fun vs H Q E h => by obtain ⟨a, ns, rfl, _⟩ := h; rfl) fun cdv A hg outer s H vs Q E hr h => ?_
  obtain ⟨t, ht, hs⟩ := hbody f cdv A hg outer s H E hr
  refine ⟨t, ht, ?_⟩
  obtain ⟨a, ns, rfl, hA, k1⟩ := h
  have hl : (start N [.ref a]).length = N.length := by
    simp only [L2.start, List.length_append, List.length_map, List.length_replicate, List.length_cons, List.length_nil]
    omega
  have hr0 : Re (fun _ => none) H (List.replicate N.length none) (start N [.ref a]) [] := by
    have := re_none (S := fun _ => none) (H := H) (start N [.ref a])
    rw [hl] at this
    exact this
  have g : GX H (fun _ => none) (List.replicate N.length none) (start N [.ref a]) [] [] H := ⟨fun _ => none, [], [], fun _ _ h => h, (fun _ _ h => nomatch h), (fun _ _ h => h), (fun _ _ h => h), hr0, ⟨rfl, rfl⟩, by simp, by simp, by simp⟩
  refine hs ns H (fun _ => none) (start N [.ref a]) _ _ H _ ⟨a, rfl, hA⟩ g Pin.refl ?_
  unfold mFunS at k1
  generalize m ns _ = o at k1 ⊢
  cases o with
  | rt t ρ => exact fun v σ' H' g3 _ => k1 v H' g3.noEnv
  | _ => exact k1.elim
theorem fnG_law {x : Str} {st : Stmt} {sc : Str} {k : Nat} {F : List Int → FOut} (G : FlG P w K mg base x st k [sc] (spSc ct K F)) (hF : ∀ ns : List Int, ns.length ≤ 63 → F ns = .ok (.sh (.bl true)) []) : FlG P w K mg base x st k [sc] (spLaw K) := by
  obtain ⟨f, fd, G, r⟩ := G
  refine ⟨f, fd, ⟨fun A hg hr outer s H e args us vs hb hv Q E hsp => G.run A hg hr outer s H e args us vs hb hv Q E ?_⟩, r⟩
  obtain ⟨a, ns, rfl, hA, hl, q⟩ := hsp
  refine ⟨a, ns, rfl, hA, ?_⟩
  rw [hF ns hl]
  intro v H' g
  have := g.tmp
  rw [show v = .bl true from this]
  exact q H'
theorem law_atG {fa : Addr} {x sc : Str} {st : Stmt} {f : Addr} {oc : Value} {od an : Option Addr} {osl : Array (Option Value)} {kV doc pm cdv ctv : Value} {k : Nat} {sp : Sp} (X : K.In h) (G : h.Ns mainGlobals mg) (hfa : mg x = some (.ref fa))
    (a : PySem.W.nsIn K mainGlobals x = some (some (.ref f))) (l : K.lookup f = some ⟨oc, od, .func (PySem.W.fnOf x x (defArgs st) (defBody st) (defScope st) .none kV doc pm an cdv ctv), osl⟩)
    (hb : ∀ (kV doc pm : Value) (an : Option Addr) (cdv ct : Value) (us : List Value), us.length = [sc].length → bindArgs (PySem.W.fnOf x x (defArgs st) (defBody st) (defScope st) .none kV doc pm an cdv ct) ⟨us, []⟩ = pure ([sc].zip us))
    (hF : ∀ base : Heap, K.In base → base.Ns mainGlobals mg → FlG P w K mg base x st k [sc] sp) :
    ∃ fd : FuncData, (∀ (s : Shared) (v : Value), BindsTo s fd ⟨[v], []⟩ [(sc, v)]) ∧ ∀ base : Heap, K.In base → base.Ns mainGlobals mg → FnG P w K mg base (L2.CX P w) k fa fd [sc] sp := by
  have e := hfa.symm.trans (PySem.W.mg_of X G a)
  cases e
  refine ⟨_, fun s v => .of_eq (hb kV doc pm an cdv ctv [v] rfl), fun base b1 b2 => ?_⟩
  obtain ⟨g, gd, h1, h2, h3⟩ := hF base b1 b2
  rw [hfa] at h3
  cases h3
  obtain ⟨oc', od', kV', doc', pm', an', cdv', ct', osl', e1, lk, _⟩ := h2.ex
  rw [l] at lk
  have e2 : PySem.W.fnOf x x (defArgs st) (defBody st) (defScope st) .none kV doc pm an cdv ctv = gd := by
    injection lk with lk
    injection lk with _ _ e3 _
    injection e3
  rw [e2]
  exact h1
theorem eqU65 {A : Around} {k : Nat} (hr : Room k A) : A.units + 65 < cLine := by
  have := hr.un
  omega
@[simp ↓] theorem eDcI_run (j : Nat) (src : IM) (ρ : Env) : eDcI j src ρ = (src ρ).bnd fun its ρ1 => match intsT its with
  | some xs => if xs.length ≤ lim ∧ j < ρ1.length then .ok (odI (keysI xs)) (keepE ρ1 [j] (wipeE ρ1 [j])) else .bad
  | none => .bad := rfl
@[simp] theorem oLenD_odI (ks : List Int) : oLenD [odI ks] = some (.sh (.int ks.length)) := by
  show some (T.sh (.int (ks.map Sum.inl).length)) = _
  rw [List.length_map]
@[simp ↓] theorem pIndex_run (p q : PM) (ρ : Env) : pIndex p q ρ = (p ρ).bind fun x => (q ρ).bind fun y => oIndex x y := rfl
@[simp] theorem eqS_str (a b : Str) : oEqS (.str a) (.str b) = some (.bl (decide (a = b))) := rfl
@[simp] theorem map_fz_ig (l : List Int) : List.map (T.fz ∘ ig) l = l.map ig := rfl
end
end Z

namespace Z
noncomputable section
open PySem L2
/-! ### data whose text is short -/
structure okd (k w : Nat) (d : D) : Prop where
  dat : d.dat k = true
  sho : d.py.showable = true
  lea : d.py.leavesShort 24 = true
  wei : d.py.weight ≤ w
structure okl (k w : Nat) (l : List D) : Prop where
  dat : datl k l = true
  sho : PyData.showableAll (pyl l) = true
  lea : PyData.leavesShortAll 24 (pyl l) = true
  wei : PyData.weightAll (pyl l) ≤ w
theorem okl_nil {k : Nat} : okl k 0 [] := ⟨rfl, rfl, rfl, Nat.le_refl _⟩
theorem okl_cons {k w v : Nat} {d : D} {l : List D} (h : okd k w d) (h' : okl k v l) : okl k (w + 1 + v) (d :: l) := by
  refine ⟨?_, ?_, ?_, ?_⟩
  · simp [datl, h.dat, h'.dat]
  · simp [pyl, PyData.showableAll, h.sho, h'.sho]
  · simp [pyl, PyData.leavesShortAll, h.lea, h'.lea]
  · have := h.wei
    have := h'.wei
    simp only [pyl, PyData.weightAll]
    omega
theorem okl_app {k w v : Nat} : ∀ {l m : List D}, okl k w l → okl k v m → okl k (w + v) (l ++ m)
  | [], m, h, h' => ⟨h'.dat, h'.sho, h'.lea, Nat.le_trans h'.wei (Nat.le_add_left _ _)⟩
  | d :: l, m, h, h' => by
    have hd := h.dat; have hs := h.sho; have hl := h.lea; have hw := h.wei
    simp only [datl, pyl, PyData.showableAll, PyData.leavesShortAll, PyData.weightAll, Bool.and_eq_true] at hd hs hl hw
    have ih := okl_app (w := w - (d.py.weight + 1)) (l := l) (m := m) ⟨hd.2, hs.2, hl.2, by omega⟩ h'
    have := okl_cons (w := d.py.weight) ⟨hd.1, hs.1, hl.1, Nat.le_refl _⟩ ih
    exact ⟨this.dat, this.sho, this.lea, Nat.le_trans this.wei (by omega)⟩
theorem okl.mono {k w v : Nat} {l : List D} (h : okl k w l) (hv : w ≤ v) : okl k v l := ⟨h.dat, h.sho, h.lea, Nat.le_trans h.wei hv⟩
theorem okd.mono {k w v : Nat} {d : D} (h : okd k w d) (hv : w ≤ v) : okd k v d := ⟨h.dat, h.sho, h.lea, Nat.le_trans h.wei hv⟩
theorem okl_all {k w : Nat} : ∀ {l : List D}, (∀ d ∈ l, okd k w d) → okl k (l.length * (w + 1)) l
  | [], _ => by simpa using okl_nil
  | d :: l, h => by
    have := okl_cons (h d List.mem_cons_self) (okl_all fun x hx => h x (List.mem_cons_of_mem _ hx))
    refine this.mono ?_
    rw [List.length_cons, Nat.add_mul]
    omega
mutual
theorem dat_mono : ∀ {d : D} {k j : Nat}, d.dat k = true → k ≤ j → d.dat j = true
  | .non, _, j, _, _ => by cases j <;> rfl
  | .bl _, _, j, _, _ => by cases j <;> rfl
  | .int _, _, j, _, _ => by cases j <;> rfl
  | .str s, k, j, h, _ => by
    have : PyData.strOk s = true := by cases k <;> simpa [D.dat] using h
    cases j <;> simpa [D.dat] using this
  | .lst l, 0, _, h, _ => by simp [D.dat] at h
  | .tup l, 0, _, h, _ => by simp [D.dat] at h
  | .dic _ _, k, _, h, _ => by cases k <;> simp [D.dat] at h
  | .lst l, k + 1, j, h, hj => by
    cases j with
    | zero => omega
    | succ j => simp only [D.dat] at h ⊢; exact datl_mono h (by omega)
  | .tup l, k + 1, j, h, hj => by
    cases j with
    | zero => omega
    | succ j => simp only [D.dat] at h ⊢; exact datl_mono h (by omega)
theorem datl_mono : ∀ {l : List D} {k j : Nat}, datl k l = true → k ≤ j → datl j l = true
  | [], _, _, _, _ => rfl
  | d :: l, k, j, h, hj => by
    simp only [datl, Bool.and_eq_true] at h ⊢
    exact ⟨dat_mono h.1 hj, datl_mono h.2 hj⟩
end
theorem okl.lst {k w : Nat} {l : List D} (h : okl k w l) : okd (k + 1) w (.lst l) := ⟨h.dat, h.sho, h.lea, h.wei⟩
theorem okl.tup {k w : Nat} {l : List D} (h : okl k w l) : okd (k + 1) w (.tup l) := ⟨h.dat, h.sho, h.lea, h.wei⟩
theorem okd.up {k j w : Nat} {d : D} (h : okd k w d) (hj : k ≤ j) : okd j w d := ⟨dat_mono h.dat hj, h.sho, h.lea, h.wei⟩
theorem okl.up {k j w : Nat} {l : List D} (h : okl k w l) (hj : k ≤ j) : okl j w l := ⟨datl_mono h.dat hj, h.sho, h.lea, h.wei⟩
mutual
theorem no_dict : ∀ {d : D} {k : Nat}, d.dat k = true → d.py.hasDict = false
  | .non, _, _ => rfl
  | .bl _, _, _ => rfl
  | .int _, _, _ => rfl
  | .str _, _, _ => rfl
  | .lst l, 0, h => by simp [D.dat] at h
  | .tup l, 0, h => by simp [D.dat] at h
  | .dic _ _, k, h => by cases k <;> simp [D.dat] at h
  | .lst l, k + 1, h => by simp only [D.dat] at h; exact no_dictl h
  | .tup l, k + 1, h => by simp only [D.dat] at h; exact no_dictl h
theorem no_dictl : ∀ {l : List D} {k : Nat}, datl k l = true → PyData.hasDictAll (pyl l) = false
  | [], _, _ => rfl
  | d :: l, k, h => by
    simp only [datl, Bool.and_eq_true] at h
    simp only [pyl, PyData.hasDictAll, no_dict h.1, no_dictl h.2, Bool.or_self]
end
theorem repr_lst {k w : Nat} {l : List D} (h : okl k w l) (hk : k + 1 ≤ 60) (hw : w ≤ 600000) : oRepr (.lst l) = some (.str (D.lst l).py.shown) := by
  have h' := h.lst
  have hs := PyData.shown_le 24 (by decide) (D.lst l).py h'.lea
  have hz : (D.lst l).py.shown.length ≤ sizeLine := by
    have := h'.wei
    rw [sizeLine_eq]
    omega
  exact if_pos ⟨dat_mono h'.dat hk, h'.sho, no_dict h'.dat, hz⟩
theorem repr_tup {k w : Nat} {l : List D} (h : okl k w l) (hk : k + 1 ≤ 60) (hw : w ≤ 600000) : oRepr (.tup l) = some (.str (D.tup l).py.shown) := by
  have h' := h.tup
  have hs := PyData.shown_le 24 (by decide) (D.tup l).py h'.lea
  have hz : (D.tup l).py.shown.length ≤ sizeLine := by
    have := h'.wei
    rw [sizeLine_eq]
    omega
  exact if_pos ⟨dat_mono h'.dat hk, h'.sho, no_dict h'.dat, hz⟩
/-- numbers of a few digits -/
theorem shown_len {i : Int} (h : i.natAbs < 10 ^ 22) : (PyData.shown (.int i)).length ≤ 24 := by
  have e := int_text_length_le10 (k := 22) (by decide) h
  show (Str.ofString (toString i)).length ≤ 24
  rw [show (Str.ofString (toString i)).length = (toString i).length from by first | exact ofString_length _ | exact StrLaws.ofString_length _]
  omega
theorem okd_intw {k e : Nat} {i : Int} (h : i.natAbs < 2 ^ e) (he : e ≤ 70) : okd k e (.int i) := by
  have h22 : i.natAbs < 10 ^ 22 := by
    have : (2 : Nat) ^ e ≤ 2 ^ 70 := Nat.pow_le_pow_right (by decide) he
    have : (2 : Nat) ^ 70 < 10 ^ 22 := by decide
    omega
  have hl : i.natAbs ≠ 0 → i.natAbs.log2 < e := fun q => (Nat.log2_lt q).mpr h
  refine ⟨by cases k <;> rfl, ?_, ?_, ?_⟩
  · show decide (i.natAbs.log2 < 1920) = true
    rw [decide_eq_true_eq]
    by_cases q : i.natAbs = 0
    · rw [q]; decide
    · have := hl q; omega
  · show decide ((PyData.shown (.int i)).length ≤ 24) = true
    rw [decide_eq_true_eq]
    exact shown_len h22
  · show (if i == 0 then 0 else i.natAbs.log2 + 1) ≤ e
    by_cases q : i = 0
    · simp [q]
    · have := hl (by omega)
      simp [q]
      omega
theorem okl_ints {k e : Nat} {p : List Int} (h : ∀ x ∈ p, x.natAbs < 2 ^ e) (he : e ≤ 70) : okl k (p.length * (e + 1)) (p.map .int) := by
  have := okl_all (k := k) (w := e) (l := p.map .int) fun d hd => by
    obtain ⟨x, hx, rfl⟩ := List.mem_map.mp hd
    exact okd_intw (h x hx) he
  rwa [List.length_map] at this
theorem okd_non {k : Nat} : okd k 0 .non := ⟨by cases k <;> rfl, rfl, rfl, Nat.le_refl _⟩
theorem okd_bl {k : Nat} {b : Bool} : okd k 0 (.bl b) := ⟨by cases k <;> rfl, rfl, rfl, Nat.le_refl _⟩
theorem okd_str {k : Nat} {s : Str} (h : PyData.strOk s = true) (hz : s.cps.size ≤ 24) : okd k 24 (.str s) := by
  refine ⟨by cases k <;> simpa [D.dat] using h, rfl, ?_, hz⟩
  show (s.cps.toList.all fun c => decide (c < 16 ^ 8)) = true
  have h' : s.cps.all (· < 0x110000) = true := h
  rw [← Array.all_toList, List.all_eq_true] at h'
  rw [List.all_eq_true]
  intro c hc
  have := h' c hc
  simp only [decide_eq_true_eq] at this ⊢
  omega
theorem str_small {i : Int} (h0 : 0 ≤ i) (h1 : i < 60) : PyData.strOk (Str.ofString (toString i)) = true ∧ (Str.ofString (toString i)).cps.size ≤ 24 := by
  have h : ∀ k : Fin 60, PyData.strOk (Str.ofString (toString ((k : Nat) : Int))) = true ∧ (Str.ofString (toString ((k : Nat) : Int))).cps.size ≤ 24 := by decide +kernel
  have := h ⟨i.toNat, by omega⟩
  simp only [Int.toNat_of_nonneg h0] at this
  exact this
end
end Z

namespace Z
open PySem PySem.W PySem.Calls PyProof.Rows PySem.Spec
open L2 (V St Hp)
/-! ### an own exception whose __init__ says super().__init__(x); self.f = x -/
abbrev exB : List Value := [.type "Exception", .type "BaseException", .type "object"]
def supBody (arg fld : Str) (p0 p1 p2 p3 p4 p5 p6 p7 p8 p9 : Pos) : List Stmt :=
  [.Expr (.Call (.Attribute (.Call (.Name "super" p0) [] [] p1) "__init__" p2) [.Name arg p3] [] p4) p5,
   .Assign [.Attribute (.Name "self" p6) fld p7] (.Name arg p8) p9]
def SupEv (arg : Str) (p0 p1 p2 p3 p4 : Pos) : Prop := ∃ pl : Sem Bool, ∀ env : PySem.Env, eval (.Call (.Attribute (.Call (.Name "super" p0) [] [] p1) "__init__" p2) [.Name arg p3] [] p4) env =
  (do let ov ← attributeBase (.Call (.Name "super" p0) [] [] p1) "__init__" env (eval (.Call (.Name "super" p0) [] [] p1) env)
      standAt p2.atName
      let (f, first) ← holding [ov] (getMethod ov "__init__" pl)
      callWith p4 f first (backTo p4 (starEach [.Name arg p3] env)) [])
/-- what is written of the class and its __init__ -/
structure SupC (prog : Program) (K : Frag) (C f : Addr) (arg fld : Str) : Prop where
  made : excInitIn K C exB "Exception.__new__" = true
  over : excOver K C exB = true
  ini : findIn K (.ref C) "__init__" = some (some (.ref f))
  isf : isFn K (.ref f) = true
  sup : ks_superIn K C C "__init__" = some (some (.builtin "Exception.__init__"))
  subE : subIn K (.ref C) (.type "Exception") = some true
  subB : subIn K (.ref C) (.type "BaseException") = some true
  typ : typeIn K (.ref C) = some (.type "type")
  keep : keepIn K (.ref C) = true
  setA : findIn K (.ref C) "__setattr__" = some (some (.builtin "object.__setattr__"))
  tak : takerIn K C fld = some none
  dic : hasDictIn K C = true
  opq : nsIn K cStatics "thirdparty.any" = some none
  sub0 : mroIn K C (.ref C) = some true
  fn : ∃ oc od osl nm qn params scope bd kV doc pm an cda ct cc p0 p1 p2 p3 p4 p5 p6 p7 p8 p9 ccl cdd vs ccs file tf cl cld csl ar,
    K.lookup f = some ⟨oc, od, .func (ksFn nm qn params bd scope .none kV doc pm an (.ref cda) ct cc), osl⟩ ∧
    codeIn K (.ref cda) qn = true ∧ K.lookup cda = some ⟨ccl, cdd, .fields vs, ccs⟩ ∧ vs[2]? = some (.str file tf) ∧ ((prog.main.file : Str) == file) = true ∧
    K.lookup cc = some ⟨cl, cld, .cell (some (.ref C)), csl⟩ ∧ (params.posonlyargs ++ params.args).head? = some ar ∧ ar.arg = "self" ∧
    (∀ a u : Value, bindArgs (ksFn nm qn params bd scope .none kV doc pm an (.ref cda) ct cc) ⟨[a, u], []⟩ = pure [(("self" : Str), a), (arg, u)]) ∧
    scope.names.lookup ("super" : Str) = some .globalImplicit ∧ scope.names.lookup ("__class__" : Str) = some .free ∧ scope.names.lookup ("self" : Str) = some .local ∧ scope.names.lookup arg = some .local ∧
    (∀ x ∈ scope.names, x.2 ≠ .cell) ∧ scope.isCoroutine = false ∧ scope.isGenerator = false ∧ scope.kind = .function ∧ SupEv arg p0 p1 p2 p3 p4 ∧ bd = supBody arg fld p0 p1 p2 p3 p4 p5 p6 p7 p8 p9
  top : (prog.main.scope.names.lookup ("super" : Str)).isSome = false
  argne : arg ≠ "self"
  argd : (arg == ("__debug__" : Str)) = false
section
variable {prog : Program} {w : World} {A : Around} {s : Shared} {K : Frag} {R : Result → Shared → Prop} {a C f t0 : Addr} {u : Value} {arg fld : Str} {g : Heap} {mg mb : Str → Option Value}
theorem sup_init (T : SupC prog K C f arg fld) (hroom : A.depth < recursionLimit) (X : K.In g) (hg : ∀ b o, g.get? b = some o → s.heap.get? b = some o) (hs : g.objs.size ≤ s.heap.objs.size) (hn : g.get? a = none)
    (hmg : g.Ns mainGlobals mg) (hmb : g.Ns builtinsNs mb) (hsm : mg "super" = none) (hsb : mb "super" = some (.type "super")) (nl : s.heap.NoLimit)
    (ha : s.heap.get? a = some (excObj C t0 none .none))
    (hgb : ∀ b o, b ≠ a → s.heap.get? b = some o → g.get? b = some o)
    (h : ∀ (h' : Heap) (tk : Nat) (dx t1 : Addr), (∀ b o, b ≠ a → s.heap.get? b = some o → h'.get? b = some o) → s.heap.objs.size ≤ dx → h'.get? a = some (excObj C t1 (some dx) .none) →
      h'.Ns1 dx (fun y => if y = fld then some u else none) → R (.ok (.ret .none)) { s with heap := h', toks := tk }) :
    codeAny (model prog w) A (.call (.ref f) ⟨[.ref a, u], []⟩) R s := by
  obtain ⟨oc, od, osl, nm, qn, params, scope, bd, kV, doc, pm, an, cda, ct, cc, p0, p1, p2, p3, p4, p5, p6, p7, p8, p9, ccl, cdd, vs, ccs, file, tf, cl, cld, csl, ar, lf, hcd, lcd, hvs, hfile, lcc, har, hself, hbind, ns, nc, nself, narg, hcell, hco, hgen, hk, ⟨pl, hev⟩, rfl⟩ := T.fn
  have Xs : K.In s.heap := X.keeps hg
  obtain ⟨cd, hcls⟩ : ∃ cd, clsIn K C = some cd := by
    have := T.sub0
    unfold mroIn at this
    cases q : clsIn K C with
    | none => rw [q] at this; cases this
    | some cd => exact ⟨cd, rfl⟩
  refine ks_codeAny_call_defAt (fd := ksFn nm qn params (supBody arg fld p0 p1 p2 p3 p4 p5 p6 p7 p8 p9) scope .none kV doc pm an (.ref cda) ct cc) (body := supBody arg fld p0 p1 p2 p3 p4 p5 p6 p7 p8 p9)
    (binds := [(("self" : Str), .ref a), (arg, u)]) hroom (Xs _ _ lf) rfl nl (codeRec_of Xs hcd) rfl (.of_eq (hbind _ _)) hcell ?_ (fun h₁ hns hk₁ => ?_) hco hgen hk
  · intro y hy
    simp only [List.mem_cons, List.not_mem_nil, or_false] at hy
    rcases hy with rfl | rfl
    · exact nself
    · exact narg
  have e1 : ([(("self" : Str), Value.ref a), (arg, u)] : List (Str × Value)).reverse.lookup arg = some u := by simp [List.lookup]
  have e2 : ([(("self" : Str), Value.ref a), (arg, u)] : List (Str × Value)).reverse.lookup ("self" : Str) = some (.ref a) := by
    have : (("self" : Str) == arg) = false := by simpa using fun q => T.argne q.symm
    simp [List.lookup, this]
  have F1 : Fr g s.heap.objs.size h₁ (fun x => ([(("self" : Str), Value.ref a), (arg, u)] : List (Str × Value)).reverse.lookup x) := ⟨hns, fun b o e => hk₁ b o (hg b o e), hs⟩
  have N1 : News g s.heap.objs.size h₁ [(a, excObj C t0 none .none)] := fun p hp => by
    rcases List.mem_cons.mp hp with rfl | hp
    · exact ⟨hk₁ _ _ ha, Nat.ne_of_lt (Heap.lt_size ha), hn⟩
    · cases hp
  show _root_.PySem.wpAt (model prog w) (A.deeper (ksEnv qn scope s.heap.objs.size f (.ref cda) cc)) (.func (supBody arg fld p0 p1 p2 p3 p4 p5 p6 p7 p8 p9) (ksEnv qn scope s.heap.objs.size f (.ref cda) cc)) (execs (supBody arg fld p0 p1 p2 p3 p4 p5 p6 p7 p8 p9) (ksEnv qn scope s.heap.objs.size f (.ref cda) cc)) _ _ _
  have I1 : InstAt h₁ a (excObj C t0 none .none) C none := .of_exc0 N1 (List.mem_cons_self ..)
  obtain ⟨oD, hD1, hD2⟩ : ∃ oD, h₁.get? C = some oD ∧ oD.data = .cls cd := by
    unfold clsIn at hcls
    split at hcls
    · rename_i c d cd' sl ho
      cases hcls
      exact ⟨_, hk₁ _ _ (Xs _ _ ho), rfl⟩
    · cases hcls
  have X1 : K.In h₁ := Xs.keeps hk₁
  obtain ⟨hh, gg, dd, tt, oo⟩ := s
  refine ks_wpAt_execs_cons (ks_wpAt_Expr_any (ks_wpAt_MethodCall (pl := pl) ?_ (hev _)) (by simp [interactive, hk]))
  refine ks_wpAt_super_base (env := ksEnv qn scope hh.objs.size f (.ref cda) cc) ns nc (by decide) rfl (X1 _ _ lf) rfl har rfl (X1 _ _ lcd) rfl hvs hfile T.top ?_
  refine ks_loadName_global hk ns (loadGlobal_builtin (env := ksEnv qn scope hh.objs.size f (.ref cda) cc) (hmg.keeps F1.keep) hsm (hmb.keeps F1.keep) hsb ⟨rfl, ?_⟩)
  refine wpAny_loadName_free hk nc rfl ⟨_, X1 _ _ lcc, rfl⟩ ?_
  rw [hself]
  refine wpAny_loadName_local hk nself F1.ns e2 ?_
  refine ks_wpAny_isType_cls hD1 hD2 ⟨rfl, ?_⟩
  refine ks_wpAny_call_super hD1 hD2 I1.at_ I1.cls (fun c e => ?_) (looks_mroIn X1 T.sub0) (fun h2 eso k2 => ?_)
  · cases e
  obtain ⟨F2, N2, l2⟩ := ks_newsPush (s := ⟨h₁, gg, dd, tt, oo⟩) F1 N1 rfl eso k2
  refine kxs_method kxs_Exception F2 X N2 (List.mem_cons_self ..) (.of_exc0 N2 (.tail _ (List.mem_cons_self ..))) T.opq T.sup T.subE (by decide) (fun q h3 F3 N3 l3 => ?_)
  refine kxs_callWith1 N3 (List.mem_cons_self ..) ?_
  refine spliced_cons (wpAny_Name (wpAny_loadName_local hk narg F3.ns e1 (spliced_nil ⟨kxs_at N3 (List.mem_cons_self ..), ?_⟩)) T.argd)
  have n1 : h₁.objs.size ≠ a := fun z => by have := l2 (a, _) (List.mem_cons_self ..); rw [← z] at this; exact absurd this (Nat.lt_irrefl _)
  have n2 : q ≠ a := fun z => by have := l3 (a, _) (.tail _ (List.mem_cons_self ..)); rw [← z] at this; exact absurd this (Nat.lt_irrefl _)
  refine kxs_call (x := a) F3 X N3 PySem.F.excBase_Exception T.made (List.mem_cons_self ..) (UpdF.tail n2 (UpdF.tail n1 (UpdF.head (fun _ hp => nomatch hp)))) (by rw [sizeLine_eq]; simp) (fun t4 h4 F4 N4 l4 => ?_)
  refine ks_wpAt_execs_cons (ks_wpAt_Assign_Attr (_root_.PySem.wpAt_of_wpAny ?_))
  refine wpAny_Name (wpAny_loadName_local hk narg F4.ns e1 ?_) T.argd
  refine wpAny_Name (wpAny_loadName_local hk nself F4.ns e2 ?_) (by decide)
  have n4 : t4 ≠ a := fun z => by have := l4 (a, _) (.tail _ (.tail _ (List.mem_cons_self ..))); rw [← z] at this; exact absurd this (Nat.lt_irrefl _)
  refine set_exc0 (x := a) PySem.F.store_Exception F4 X N4 (.tail _ (.tail _ (.tail _ (List.mem_cons_self ..)))) T.setA T.over T.tak T.dic rfl (UpdF.tail n4 (UpdF.tail n2 (UpdF.tail n1 (UpdF.head (fun _ hp => nomatch hp))))) (by simp [putL]) (fun dx h5 F5 N5 l5 => ?_)
  refine _root_.PySem.wpAt_of_wpAny (wpAny_execs_nil ?_)
  have hdx := N5 _ (List.mem_cons_self ..)
  have hlt : hh.objs.size ≤ dx := by
    have q1 := hns.lt
    have q2 := l5 (h₁.objs.size, _) (.tail _ (.tail _ (List.mem_cons_self ..)))
    exact Nat.le_of_lt (Nat.lt_trans q1 q2)
  refine h h5 _ dx t4 (fun b o hb e => F5.keep b o (hgb b o hb e)) hlt (N5 (a, _) (by simp)).1 ?_
  refine ⟨_, _, _, hdx.1, rfl, ?_, ?_, ?_⟩
  · intro e he
    simp only [putL, List.mem_toArray, List.mem_cons, List.not_mem_nil, or_false] at he
    exact ⟨_, _, by rw [he]⟩
  · simp [UniqKeys, putL]
  · intro y
    simp only [putL]
    by_cases q : y = fld
    · subst q
      simp [nsFind, findBy, Value.isStr]
    · have q' : ¬ fld = y := fun z => q z.symm
      simp [nsFind, findBy, Value.isStr, q, q']
end
end Z

namespace Z
open PySem L2
open PySem.W (Frag)
variable {X : Cx}
/-! ### C(e), an own exception with such an __init__ -/
def tMkS (C : Addr) (fld : Str) (te : TE) : St → Hp → XK → Prop := fun σ H Q => te σ H fun v H1 => ∀ d, H1 d = none → Q (.ref C) (some d) (upd H1 d (.xd [(fld, v)]))
theorem upd_un {H : Hp} {a d C : Addr} {fld : Str} {v : V} (ha : H a = none) (hd : d ≠ a) : upd (del (upd (upd (upd H a (exo a C none)) d (exd d [(fld, v)])) a (exo a C (some d))) a) d (.xd [(fld, v)]) = upd H d (.xd [(fld, v)]) := by
  funext b
  by_cases q : b = d
  · subst q; rw [upd_same, upd_same]
  · rw [upd_ne q, upd_ne q]
    by_cases q2 : b = a
    · subst q2; rw [del_same, ha]
    · rw [del_ne q2, upd_ne q2, upd_ne q, upd_ne q2]
theorem pmk_sup {C f : Addr} {x arg fld : Str} {e : Expr} {te : TE} {p pos : Pos} (T : SupC X.prog X.K C f arg fld) (hr : Room 1 X.A) (hsup : X.mg "super" = none) (hg : Gl X x) (hm : X.mg x = some (.ref C)) (he : PE X e te)
    (hdb : (x == ("__debug__" : Str)) = false := by decide) (hs : starEach [e] X.env = (false, eval e X.env) :: starEach [] X.env := by rfl) :
    PMk X (.Call (.Name x p) [e] [] pos) (tMkS C fld te) := by
  intro pins s σ H Q I h
  refine wpAny_Call_Name_kw (ld_glob I hg hm ?_ hdb)
  refine PySem.W.callWith_K (h₀ := X.base) I.ok.mod.kin T.keep ?_ hs (by rfl)
  rw [hs]
  show wpAny _ _ (spliced ((false, eval e X.env) :: backTo pos (starEach [] X.env))) _ _ s
  refine Calls.spliced_cons (thn (he.run pins s σ H _ I h) fun u s1 ⟨v, H1, I1, r1, q1⟩ => ?_)
  refine Calls.spliced_nil ⟨I1.kIn, ?_⟩
  show wpAny _ _ (call (.ref C) [u]) _ _ _
  obtain ⟨nm, N', qn, bs, bm, hdct, sn, sub, ab, col, dd, k0, k1, k2, k3, k5, hC, hT⟩ := PySem.W.excInit_of I1.kIn T.made
  obtain ⟨oI, hoI, hcI⟩ : ∃ oI, s1.heap.get? f = some oI ∧ oI.cls = .type "function" := by
    obtain ⟨o, ho, hc⟩ := Option.map_eq_some_iff.mp (show (X.K.lookup f).map (·.cls) = some (.type "function") from beq_iff_eq.mp T.isf)
    exact ⟨o, I1.kIn _ _ ho, hc⟩
  have hi : PySem.W.Looks (model X.prog X.w) s1.heap (typeLookup (.ref C) "__init__") (some (.ref f)) := PySem.W.looks_findIn I1.kIn T.ini
  obtain ⟨mbb, hmb, hbb⟩ := I1.ok.mod.blt
  obtain ⟨hp, g, dr, tk, os⟩ := s1
  have hsz : hp.objs.size ≤ hp.objs.size + 1 := Nat.le_succ _
  have hn : H1 (hp.objs.size + 1) = none := I1.hok.fresh hsz
  let hp2 : Heap := (hp.push (PySem.W.kdv_tup [u])).push (PySem.HandSPX.excO C hp.objs.size)
  have kk : ∀ b o, hp.get? b = some o → hp2.get? b = some o := fun b o e => Heap.get?_push_of_some _ (Heap.get?_push_of_some _ e)
  have hget : hp2.get? (hp.objs.size + 1) = some (PySem.HandSPX.excO C hp.objs.size) := by heap_get
  have nha : ∀ {b : Addr} {o : Obj}, hp.get? b = some o → b ≠ hp.objs.size + 1 := fun {b o} z => Nat.ne_of_lt (Nat.lt_of_lt_of_le (Heap.lt_size z) hsz)
  have gk : ∀ b o, hp.get? b = some o → (PySem.W.hideAll hp2 [hp.objs.size + 1]).get? b = some o := fun b o z => PySem.W.hideAll_get _ (kk b o z) (by simpa using nha z)
  refine wpAny_call (PySem.PX.call_own PySem.F.excBase_Exception hT hC hi (fun self => PySem.W.exc_bind hoI hcI self) (by rw [sizeLine_eq]; simp) ?_)
  refine sup_init (a := hp.objs.size + 1) (t0 := hp.objs.size) (g := PySem.W.hideAll hp2 [hp.objs.size + 1]) (mg := X.mg) (mb := mbb) T (hr.make C [u] []).depth (I1.kIn.keeps gk) (fun b o z => PySem.W.of_hideAll _ z) (Nat.le_of_eq (PySem.W.hideAll_size _ _)) (PySem.W.hideAll_none _ (by simp))
    ((I1.ok.mod.glob.keeps I1.bk).keeps gk) ((hmb.keeps I1.bk).keeps gk) hsup (by rw [hbb _ (by decide)]; decide +kernel) (I1.nolimit.keeps kk) hget (fun b o hb z => PySem.W.hideAll_get _ z (by simpa using hb)) (fun h2 tk2 dx t1 k2 hlt ha2 hns => ?_)
  have hle : hp.objs.size + 1 < hp2.objs.size := Heap.lt_size hget
  have hlt2 : hp2.objs.size ≤ dx := hlt
  have hndx : hp.objs.size ≤ dx := Nat.le_trans (Nat.le_succ _) (Nat.le_trans (Nat.le_of_lt hle) hlt2)
  have hd1 : H1 dx = none := I1.hok.fresh hndx
  have dne : dx ≠ hp.objs.size + 1 := fun z => absurd (Nat.lt_of_lt_of_le hle hlt2) (by rw [z]; exact Nat.lt_irrefl _)
  have ea : upd H1 (hp.objs.size + 1) (exo (hp.objs.size + 1) C none) (hp.objs.size + 1) = some (exo (hp.objs.size + 1) C none) := upd_same
  have I2 : Inv X pins σ (upd H1 (hp.objs.size + 1) (exo (hp.objs.size + 1) C none)) ⟨hp2, g, dr, tk, os⟩ :=
    I1.laid (t' := tk) (a := hp.objs.size + 1) (o := exo (hp.objs.size + 1) C none) (h' := hp2) kk hsz (exo_ok hget)
  have hd2 : upd H1 (hp.objs.size + 1) (exo (hp.objs.size + 1) C none) dx = none := by rw [upd_ne dne]; exact hd1
  have un : Un (frs X.stack) [] (upd H1 (hp.objs.size + 1) (exo (hp.objs.size + 1) C none)) (upd (upd (upd H1 (hp.objs.size + 1) (exo (hp.objs.size + 1) C none)) dx (exd dx [(fld, v)])) (hp.objs.size + 1) (exo (hp.objs.size + 1) C (some dx))) hp2 h2 := by
    have nd : ∀ {b : Addr} {o : Obj}, hp2.get? b = some o → b ≠ dx := fun {b o} z => Nat.ne_of_lt (Nat.lt_of_lt_of_le (Heap.lt_size z) hlt2)
    have na : ∀ {b : Addr}, upd H1 (hp.objs.size + 1) (exo (hp.objs.size + 1) C none) b = none → b ≠ hp.objs.size + 1 := fun {b} n z => by
      rw [z, ea] at n
      cases n
    exact {
      keep := fun b o z n _ _ => k2 b o (na n) z
      slot := fun b o z n _ _ => ⟨o.slots, k2 b o (na n) z⟩
      free := fun b o z n _ => by rw [upd_ne (na n), upd_ne (nd z)]; exact n
      there := fun b o z _ => by
        by_cases hb : b = hp.objs.size + 1
        · exact ⟨_, by rw [hb]; exact ha2⟩
        · exact ⟨o, k2 b o hb z⟩
      tups := fun b xs z => by rw [upd_ne (at_ne ea z exo_tup), upd_ne (ne_of_none z hd2)]; exact z
      frzs := fun b o w z => by rw [upd_ne (at_ne ea z exo_frz), upd_ne (ne_of_none z hd2)]; exact z
      tbls := fun b ps z => ⟨#[], by rw [upd_ne (at_ne ea z exo_tbl), upd_ne (ne_of_none z hd2), z]; simp⟩ }
  have hok : HOk X.prog X.w (upd (upd (upd H1 (hp.objs.size + 1) (exo (hp.objs.size + 1) C none)) dx (exd dx [(fld, v)])) (hp.objs.size + 1) (exo (hp.objs.size + 1) C (some dx))) h2 := fun b o z => by
    by_cases hb : b = hp.objs.size + 1
    · subst hb
      rw [upd_same] at z
      cases z
      exact exo_ok ha2
    · rw [upd_ne hb] at z
      by_cases hd : b = dx
      · subst hd
        rw [upd_same] at z
        cases z
        exact exd_ok hns (relO_put (fs := []) r1 fun g => True.intro)
      · rw [upd_ne hd] at z
        refine (I2.hok b o z).stay (fun c v hc y => k2 c v ?_ y) (fun c hc => ?_) fun c xs hc => ?_
        · rcases hc with hc | hc
          · rw [hc]; exact hb
          · exact at_ne ea hc exo_own
        · rw [upd_ne (at_ne ea hc exo_own), upd_ne (ne_of_none hc hd2)]; exact hc
        · rw [upd_ne (at_ne ea hc exo_tup), upd_ne (ne_of_none hc hd2)]; exact hc
  refine ⟨rfl, ?_⟩
  show MkP X pins σ Q (.ref (hp.objs.size + 1)) ⟨h2, g, dr, tk2, os⟩
  refine mk_end (fs := [(fld, v)]) (raises_own T.subB T.typ) I1 hsz kk un hok rfl I1.bare upd_same ?_ hd1 ?_
  · rw [upd_ne dne, upd_same]
  · rw [upd_un hn dne]
    exact q1 dx hd1
end Z

namespace Z
noncomputable section
open PySem L2
open PySem.W (Frag)
variable {X : Cx}
/-! ### C(), an own exception without an __init__ -/
theorem pmk_own0 {C : Addr} {bmB : List Value} {B newId initId : String} {x : Str} {p pos : Pos} (F : ExcBaseFacts B newId initId bmB) (q : PySem.W.excIn X.K C bmB newId = true) (gC : X.mg x = some (.ref C))
    (kC : PySem.W.keepIn X.K (.ref C) = true) (r : Raises X (.ref C)) (hg : Gl X x) (hdb : (x == ("__debug__" : Str)) = false := by decide) :
    PMk X (.Call (.Name x p) [] [] pos) (fun _ H Q => Q (.ref C) none H) := by
  intro pins s σ H Q I h
  refine wpAny_Call_Name_kw (ld_glob I hg gC ?_ hdb)
  refine PySem.W.callWith_K0 I.kIn kC ?_
  show wpAny _ _ (call (.ref C) []) _ _ _
  obtain ⟨bm, N, nm, qn, bs, hdct, sn, sub, ab, col, dd, k0, k1, k2, k3, k5, mN, hC, hN, hni, T⟩ := exc_obj I.kIn q
  obtain ⟨hp, g, dr, tk, os⟩ := s
  refine wpAny_call_exc_subT F T hC hN hni (fun h' e hm => ?_) (Nat.zero_le _)
  exact mk_of I hm r h (I.hok.gone hm.new)
/-! ### isinstance(e, C) -/
structure XcC (K : Frag) (D : Addr) : Prop where
  cl : (PySem.W.clsIn K D).isSome = true
  ga : PySem.W.findIn K (.ref D) "__getattribute__" = some (some (.builtin "BaseException.__getattribute__"))
  gg : PySem.W.findIn K (.ref D) "__getattr__" = some none
  sb : PySem.W.subIn K (.ref D) (.type "BaseException") = some true
  hd : PySem.W.hasDictIn K D = true
  ca : PySem.W.findIn K (.ref D) "__class__" = some (some (.builtin "object.__class__"))
  sp : PySem.W.specialIn K (.builtin "object.__class__") "__get__" = some (some (.builtin "getset_descriptor.__get__"))
  tk : PySem.W.takesIn K (.builtin "object.__class__") = some true
  mo : PySem.W.mroIn K D (.type "object") = some true
  ty : PySem.W.typeIn K (.ref D) = some (.type "type")
  kp : PySem.W.keepIn K (.ref D) = true
def xcB (K : Frag) (D : Addr) : Bool :=
  (PySem.W.clsIn K D).isSome && decide (PySem.W.findIn K (.ref D) "__getattribute__" = some (some (.builtin "BaseException.__getattribute__"))) && decide (PySem.W.findIn K (.ref D) "__getattr__" = some none) &&
    decide (PySem.W.subIn K (.ref D) (.type "BaseException") = some true) && PySem.W.hasDictIn K D && decide (PySem.W.findIn K (.ref D) "__class__" = some (some (.builtin "object.__class__"))) &&
    decide (PySem.W.specialIn K (.builtin "object.__class__") "__get__" = some (some (.builtin "getset_descriptor.__get__"))) && decide (PySem.W.takesIn K (.builtin "object.__class__") = some true) &&
    decide (PySem.W.mroIn K D (.type "object") = some true) && decide (PySem.W.typeIn K (.ref D) = some (.type "type")) && PySem.W.keepIn K (.ref D)
theorem xcB_ok {K : Frag} {D : Addr} (h : xcB K D = true) : XcC K D := by
  unfold xcB at h
  simp only [Bool.and_eq_true, decide_eq_true_eq] at h
  obtain ⟨⟨⟨⟨⟨⟨⟨⟨⟨⟨h1, h2⟩, h3⟩, h4⟩, h5⟩, h6⟩, h7⟩, h8⟩, h9⟩, h10⟩, h11⟩ := h
  exact ⟨h1, h2, h3, h4, h5, h6, h7, h8, h9, h10, h11⟩
def rIsX (K : Frag) (cls : Value) (d : Option Addr) (a : Addr) : List V → Hp → VK → Prop := fun xs H Q => ∃ (D : Addr) (c : V) (cv : Value) (b : Bool), cls = .ref D ∧ XcC K D ∧
  (d = none ∨ ∃ dd fs, d = some dd ∧ H dd = some (.xd fs)) ∧ xs = [.ref a, c] ∧ (∀ u, RelV c u → u = cv) ∧ PySem.W.kitOne K (.ref D) cv = some b ∧ Q (.bl b) H
theorem call_isX {a : Addr} {cls : Value} {d : Option Addr} {oe : Obj} {pn : List (Addr × Obj)} (hz : Zc cls d oe) (hf : ∃ vs, oe.data = .fields vs) : CallR (X.suite a ((a, oe) :: pn)) (.builtin "isinstance") (rIsX X.K cls d a) := by
  intro pins s σ H xs us Q I r h
  obtain ⟨D, c, cv, b, rfl, C, hd, rfl, hcv, e, q⟩ := h
  match us, r with
  | [ux, ut], .cons rx (.cons rt .nil) =>
    obtain rfl : ux = Value.ref a := rx
    have ec := hcv _ rt
    subst ec
    obtain ⟨hget, _⟩ := I.pin (a, oe) (List.mem_append.mpr (.inl List.mem_cons_self))
    obtain ⟨vs, hv⟩ := hf
    have nc : PySem.W.notCls oe = true := by unfold PySem.W.notCls; rw [hv]
    rcases hd with rfl | ⟨dd, fs, rfl, hdd⟩
    · have J : PySem.W.InstAt s.heap a oe D none := ⟨hget, hz.1, nc, by rw [hz.2]; trivial⟩
      exact PySem.W.kia_one (PySem.W.kitx_exc C.cl C.ga C.gg C.sb C.ca C.sp C.tk C.mo) I.kIn J e (fun z => nomatch z) fun tk => ⟨.bl b, H, I.kept (t' := tk) fun _ _ z => z, rfl, q⟩
    · have hx : ObjOk X.prog X.w H s.heap dd (.xd fs) := I.hok dd _ hdd
      obtain ⟨mA, hns, hr⟩ := hx
      obtain ⟨od, ho, hl⟩ := lookIn_ns hns
      have J : PySem.W.InstAt s.heap a oe D (some od) := ⟨hget, hz.1, nc, by rw [hz.2]; exact ho⟩
      exact PySem.W.kia_one (PySem.W.kitx_exc C.cl C.ga C.gg C.sb C.ca C.sp C.tk C.mo) I.kIn J e (fun z => nomatch z) fun tk => ⟨.bl b, H, I.kept (t' := tk) fun _ _ z => z, rfl, q⟩
/-! ### raise, over data -/
variable {ct : CT} {Wx : XW} {W S0 S H H' : Hp} {ρ : Env} {σ σ0 : St} {t u : T} {ts us tm : List T} {v w : V} {vs ws vm : List V} {as bs : List Addr} {i : Nat} {d : D} {pin : List Nat} {D0 : Ends}
def mRaise0 (cls : Str) : SM := fun ρ => .ex ⟨cls, []⟩ ρ
theorem ss_raise0 {C : Addr} {cls : Str} (hC : ct cls = some C) : SS ct Wx pin (fun _ σ H => Wx (.ref C) none σ H) (mRaise0 cls) := fun W S0 σ0 ρ σ H D g p k =>
  k (.ref C) none σ H g p ⟨C, hC, rfl, (fun q h => nomatch h), .inl ⟨rfl, rfl⟩⟩
def mRaise1 (cls fld : Str) (e : EM) : SM := fun ρ => (e ρ).st fun t ρ => if t.d.scal = true then .ex ⟨cls, [(fld, t.d)]⟩ ρ else .bad
theorem ss_raise1 {C : Addr} {cls fld : Str} {te : TE} {e : EM} (hC : ct cls = some C) (he : SE ct Wx te e) : SS ct Wx pin (fun _ σ H => tMkS C fld te σ H fun c d H' => Wx c d σ H') (mRaise1 cls fld e) := fun W S0 σ0 ρ σ H D g p k => by
  refine he W S0 ρ σ [] [] H _ g ((SK.st p k).mono (fun t ρ1 k1 v H1 g1 => ?_) fun _ _ h => h)
  obtain ⟨hs, k1⟩ := SK_ite k1
  intro d hd
  have es : Same H1 (upd H1 d (.xd [(fld, v)])) := same_new hd
  refine k1 (.ref C) (some d) σ _ (g1.pop1.ext es) p ⟨C, hC, rfl, fun q hq => ?_, .inr ⟨d, [v], rfl, upd_same, ⟨v, [], rfl, g1.tmp.scal hs, rfl⟩⟩⟩
  rcases List.mem_cons.mp hq with rfl | hq
  · exact hs
  · cases hq
/-! ### try: body, except T as e: suite -/
def relX (a b : Str) : Bool := a == b || b == "TurnError"
def XaA (ct : CT) (x : Exn) (cls : Value) (d : Option Addr) (a : Addr) (i : Nat) : Hp → St → Prop := fun W σ => σ[i]? = some (some (.ref a)) ∧ XOk ct x cls d W
def SOut.drop (i : Nat) : SOut → SOut
  | .nx ρ => .nx (ρ.set i none)
  | .bk ρ => .bk (ρ.set i none)
  | .ct ρ => .ct (ρ.set i none)
  | .rt t ρ => .rt t (ρ.set i none)
  | .ex _ _ => .bad
  | .bad => .bad
def mTry (Tn : Str) (i : Nat) (body : SM) (suite : Exn → SM) : SM := fun ρ => match body ρ with
  | .ex x ρ' => if relX x.cls Tn = true then (if i < ρ'.length then (suite x (ρ'.set i none)).drop i else .bad) else .ex x ρ'
  | r => r
mutual
theorem Rt.nox {S H : Hp} : ∀ {t : T} {v : V} {as : List Addr}, Rt S H t v as → ∀ a ∈ as, ∀ fs, H a ≠ some (.xd fs)
  | .sh _, _, _, ⟨h1, h2⟩, a, ha => by subst h1; cases ha
  | .ol l, _, _, ⟨a, vs, bs, h1, h2, h3, h4⟩, b, hb => by
    subst h2
    rcases List.mem_cons.mp hb with rfl | hb
    · intro fs; rw [h3]; simp
    · exact Rtl.nox h4 b hb
  | .ot l, _, _, ⟨a, vs, bs, h1, h2, h3, h4⟩, b, hb => by
    subst h2
    rcases List.mem_cons.mp hb with rfl | hb
    · intro fs; rw [h3]; simp
    · exact Rtl.nox h4 b hb
  | .od ks l, _, _, ⟨a, vs, bs, h1, h2, h3, h5, h4⟩, b, hb => by
    subst h2
    rcases List.mem_cons.mp hb with rfl | hb
    · intro fs; rw [h3]; simp
    · exact Rtl.nox h4 b hb
theorem Rtl.nox {S H : Hp} : ∀ {t : List T} {v : List V} {as : List Addr}, Rtl S H t v as → ∀ a ∈ as, ∀ fs, H a ≠ some (.xd fs)
  | [], _, _, h, a, ha => by rw [h.2] at ha; cases ha
  | _ :: _, _, _, ⟨v, r, b, c, h1, h2, h3, h4⟩, a, ha => by
    subst h2
    rcases List.mem_append.mp ha with ha | ha
    · exact Rt.nox h3 a ha
    · exact Rtl.nox h4 a ha
end
theorem Re.nox {S H : Hp} : ∀ {ρ : Env} {σ : St} {as : List Addr}, Re S H ρ σ as → ∀ a ∈ as, ∀ fs, H a ≠ some (.xd fs)
  | [], _, _, h, a, ha => by rw [h.2] at ha; cases ha
  | none :: _, _, _, ⟨o, r, h1, h2⟩, a, ha => Re.nox h2 a ha
  | some _ :: _, _, _, ⟨v, r, b, c, h1, h2, h3, h4⟩, a, ha => by
    subst h2
    rcases List.mem_append.mp ha with ha | ha
    · exact h3.nox a ha
    · exact Re.nox h4 a ha
theorem GX.addX {dd : Addr} {fs : List (Str × V)} (g : GX W S0 ρ σ tm vm H) (hd : H dd = some (.xd fs)) : ∃ W' S, W' dd = some (.xd fs) ∧ GX W' S ρ σ tm vm H ∧
    ∀ {ρ' : Env} {σ' : St} {tm' : List T} {vm' : List V} {H' : Hp}, GX W' S ρ' σ' tm' vm' H' → GX W S0 ρ' σ' tm' vm' H' := by
  obtain ⟨S, as, bs, hu, g⟩ := g.up
  have w1 : ∀ a, W a ≠ none → upd W dd (.xd fs) a ≠ none := fun a h => by
    by_cases q : a = dd
    · subst q; rw [upd_same]; simp
    · rw [upd_ne q]; exact h
  refine ⟨upd W dd (.xd fs), S, upd_same, ⟨S, as, bs, g.s0, g.sh, fun a o h => ?_, fun a _ h => h, g.re, g.rt, g.nd, g.fs, fun a ha => ?_⟩, ?_⟩
  · by_cases q : a = dd
    · subst q; rw [upd_same] at h; rw [hd]; exact h
    · rw [upd_ne q] at h; exact g.wh a o h
  · have q : a ≠ dd := by
      rintro rfl
      rcases List.mem_append.mp ha with h | h
      · exact g.re.nox a h fs hd
      · exact g.rt.nox a h fs hd
    rw [upd_ne q]
    exact g.fw a ha
  · intro ρ' σ' tm' vm' H' ⟨S1, as1, bs1, g1⟩
    refine ⟨S1, as1, bs1, hu.1.trans g1.s0, g1.sh, fun a o h => ?_, fun a h k => hu.2 a h (g1.nw a (w1 a h) k), g1.re, g1.rt, g1.nd, g1.fs, fun a ha => ?_⟩
    · by_cases q : a = dd
      · subst q
        have h2 := g.wh a o h
        rw [hd] at h2
        cases h2
        exact g1.wh a _ upd_same
      · exact g1.wh a o (by rw [upd_ne q]; exact h)
    · have h1 := g1.fw a ha
      cases q : W a with
      | none => rfl
      | some o => exact absurd h1 (w1 a (by rw [q]; simp))
theorem XOk.at {x : Exn} {c : Value} {d : Option Addr} {a : Addr} (h : XOk ct x c d H) : (x.fs = [] ∧ d = none) ∨ ∃ dd vs, d = some dd ∧ H dd = some (.xd ((x.fs.map (·.1)).zip vs)) ∧ ∀ W : Hp, W dd = some (.xd ((x.fs.map (·.1)).zip vs)) → XOk ct x c d W := by
  obtain ⟨C, h1, h2, h3, h4⟩ := h
  rcases h4 with h4 | ⟨dd, vs, h5, h6, h7⟩
  · exact .inl h4
  · refine .inr ⟨dd, vs, h5, h6, fun W hW => ⟨C, h1, h2, h3, .inr ⟨dd, vs, h5, hW, ?_⟩⟩⟩
    clear h1 h2 h5 h6 hW
    revert vs
    generalize x.fs = l at h3
    induction l with
    | nil => exact fun vs h => h
    | cons q l ih =>
      rintro vs ⟨v, r, rfl, h8, h9⟩
      exact ⟨v, r, rfl, h8.scal (h3 q List.mem_cons_self), ih (fun y hy => h3 y (List.mem_cons_of_mem _ hy)) r h9⟩
theorem ss_try {K : Frag} {cT : Value} {Tn : Str} {tb : WX → TS} {ts : Addr → Value → Option Addr → TS} {body : SM} {suite : Exn → SM}
    (tab : ∀ x C, ct x = some C → PySem.W.exmOne K (.ref C) cT = some (relX x Tn)) (hb : ∀ W : WX, SS ct W pin (tb W) body)
    (hs : ∀ x a cls d, SSa (XaA ct x cls d a i) ct (fun _ _ _ _ => False) (i :: pin) (ts a cls d) (suite x)) (hi : i ∉ pin) :
    SS ct Wx pin (fun D σ H => tb (wAs K cT i ts Wx D) D σ H) (mTry Tn i body suite) := fun W S0 σ0 ρ σ H D g p k => by
  refine hb (wAs K cT i ts Wx D) W S0 σ0 ρ σ H D g p ?_
  unfold mTry at k
  generalize body ρ = o at k ⊢
  cases o with
  | bad => exact k
  | nx ρ' => exact k
  | rt t ρ' => exact k
  | bk ρ' => exact k
  | ct ρ' => exact k
  | ex x ρ' =>
    intro c d σ1 H1 g1 p1 hx
    obtain ⟨C, hC, rfl, _⟩ := id hx
    refine ⟨relX x.cls Tn, tab _ _ hC, fun hr a ha => ?_, fun hr => ?_⟩
    · simp only [hr, if_true] at k
      obtain ⟨hl, k⟩ := SK_ite k
      have hl1 : i < σ1.length := by rw [g1.lenE]; exact hl
      have g2 : GX W S0 (ρ'.set i none) (σ1.set i (some (.ref a))) [] [] H1 := (g1.forget i).junk
      have key : ∃ W' S, XOk ct x (.ref C) d W' ∧ GX W' S (ρ'.set i none) (σ1.set i (some (.ref a))) [] [] H1 ∧
          ∀ {ρ' : Env} {σ' : St} {tm' : List T} {vm' : List V} {H' : Hp}, GX W' S ρ' σ' tm' vm' H' → GX W S0 ρ' σ' tm' vm' H' := by
        rcases hx.at (a := a) with ⟨h1, h2⟩ | ⟨dd, vs, h1, h2, h3⟩
        · obtain ⟨C', q1, q2, q3, _⟩ := hx
          exact ⟨W, S0, ⟨C', q1, q2, q3, .inl ⟨h1, h2⟩⟩, g2, fun h => h⟩
        · obtain ⟨W', S, q1, q2, q3⟩ := g2.addX h2
          exact ⟨W', S, h3 W' q1, q2, q3⟩
      obtain ⟨W', S, hx', g3, back⟩ := key
      have hA : XaA ct x (.ref C) d a i W' (σ1.set i (some (.ref a))) := ⟨by rw [List.getElem?_set_self hl1], hx'⟩
      refine hs x a (.ref C) d W' S (σ1.set i (some (.ref a))) (ρ'.set i none) (σ1.set i (some (.ref a))) H1 _ hA g3 Pin.refl ?_
      have pp : ∀ {σ2 : St}, Pin (i :: pin) (σ1.set i (some (.ref a))) σ2 → Pin pin σ0 (σ2.set i none) := fun {σ2} h j hj => by
        have hne : i ≠ j := fun z => hi (by rw [z]; exact hj)
        rw [List.getElem?_set_ne hne, h j (List.mem_cons_of_mem _ hj), List.getElem?_set_ne hne]; exact p1 j hj
      generalize suite x (ρ'.set i none) = o at k ⊢
      cases o with
      | bad => exact k
      | nx ρ2 => exact fun σ2 H2 g4 p4 => k _ H2 (back (GX.junk (g4.forget i))) (pp p4)
      | rt t ρ2 => exact fun v σ2 H2 g4 p4 => k v _ H2 (back (GX.junk (g4.forget i))) (pp p4)
      | bk ρ2 => exact fun σ2 H2 g4 p4 => k _ H2 (back (GX.junk (g4.forget i))) (pp p4)
      | ct ρ2 => exact fun σ2 H2 g4 p4 => k _ H2 (back (GX.junk (g4.forget i))) (pp p4)
      | ex x2 ρ2 => exact k.elim
    · simp only [hr, Bool.false_eq_true, if_false] at k
      exact k _ d σ1 H1 g1 p1 hx
/-! ### readings in the suite -/
def SEx (A : Hp → St → Prop) (ct : CT) (Wx : XW) (te : TE) (m : EM) : Prop := ∀ W S0 ρ σ tm vm H (Q : VK), A W σ → GX W S0 ρ σ tm vm H → (m ρ).P (fun t ρ' => ∀ v H', GX W S0 ρ' σ (t :: tm) (v :: vm) H' → Q v H') (XE ct Wx W S0 σ tm vm) → te σ H Q
def SEAx (A : Hp → St → Prop) (ct : CT) (Wx : XW) (ta : TA) (m : EMs) : Prop := ∀ W S0 ρ σ tm vm H (Q : List V → Hp → Prop), A W σ → GX W S0 ρ σ tm vm H → (m ρ).P (fun ts ρ' => ∀ vs H', vs.length = ts.length → GX W S0 ρ' σ (ts ++ tm) (vs ++ vm) H' → Q vs H') (XE ct Wx W S0 σ tm vm) → ta σ H Q
def SETx (A : Hp → St → Prop) (ct : CT) (Wx : XW) (tt : TT) (m : EMb) : Prop := ∀ W S0 ρ σ tm vm H (Q : Bool → Hp → Prop), A W σ → GX W S0 ρ σ tm vm H → (m ρ).P (fun b ρ' => ∀ H', GX W S0 ρ' σ tm vm H' → Q b H') (XE ct Wx W S0 σ tm vm) → tt σ H Q
variable {A : Hp → St → Prop}
theorem xe_up {te : TE} {m : EM} (h : SE ct Wx te m) : SEx A ct Wx te m := fun W S0 ρ σ tm vm H Q _ => h W S0 ρ σ tm vm H Q
theorem xea_up {te : TA} {m : EMs} (h : SEA ct Wx te m) : SEAx A ct Wx te m := fun W S0 ρ σ tm vm H Q _ => h W S0 ρ σ tm vm H Q
theorem xet_up {te : TT} {m : EMb} (h : SET ct Wx te m) : SETx A ct Wx te m := fun W S0 ρ σ tm vm H Q _ => h W S0 ρ σ tm vm H Q
theorem xea_nil : SEAx A ct Wx tNil eNil := xea_up sea_nil
theorem xea_cons {ta : TE} {tr : TA} {a : EM} {b : EMs} (ha : SEx A ct Wx ta a) (hb : SEAx A ct Wx tr b) : SEAx A ct Wx (tCons ta tr) (eCons a b) := fun W S0 ρ σ tm vm H Q x g k => by
  refine ha W S0 ρ σ tm vm H _ x g ((Out.P_bnd.mp k).mono (fun t ρ1 k1 v H1 g1 => ?_) fun _ _ h => h)
  refine hb W S0 ρ1 σ (t :: tm) (v :: vm) H1 _ x g1 ((Out.P_bnd.mp k1).mono (fun ts ρ2 k2 vs H2 e2 g2 => ?_) fun _ _ h => XE.pop (ts := [t]) (vs := [v]) h rfl)
  exact k2 (v :: vs) H2 (by simp [e2]) (g2.rot e2)
theorem xe_lst {ta : TA} {a : EMs} (ha : SEAx A ct Wx ta a) : SEx A ct Wx (tLst ta) (eLst a) := fun W S0 ρ σ tm vm H Q x g k => by
  refine ha W S0 ρ σ tm vm H _ x g ((Out.P_bnd.mp k).mono (fun ts ρ1 k1 vs H1 e1 g1 => ?_) fun _ _ h => h)
  obtain ⟨hz, k1⟩ := P_ite k1
  exact ⟨lim_le (by omega), fun p hp => k1 _ _ (g1.newL e1 hp)⟩
theorem xe_tup {ta : TA} {a : EMs} (ha : SEAx A ct Wx ta a) : SEx A ct Wx (tTup ta) (eTup a) := fun W S0 ρ σ tm vm H Q x g k => by
  refine ha W S0 ρ σ tm vm H _ x g ((Out.P_bnd.mp k).mono (fun ts ρ1 k1 vs H1 e1 g1 => ?_) fun _ _ h => h)
  obtain ⟨hz, k1⟩ := P_ite k1
  exact ⟨lim_le (by omega), fun p hp => k1 _ _ (g1.newT e1 hp)⟩
theorem xe_op {r : R2} {o : T → T → Option T} {ta tb : TE} {a b : EM} (hr : OpE r o) (ha : SEx A ct Wx ta a) (hb : SEx A ct Wx tb b) : SEx A ct Wx (tOp r ta tb) (eOp o a b) := fun W S0 ρ σ tm vm H Q x g k => by
  refine ha W S0 ρ σ tm vm H _ x g ((Out.P_bnd.mp k).mono (fun t ρ1 k1 v H1 g1 => ?_) fun _ _ h => h)
  refine hb W S0 ρ1 σ (t :: tm) (v :: vm) H1 _ x g1 ((Out.P_bnd.mp k1).mono (fun u ρ2 k2 w H2 g2 => ?_) fun _ _ h => XE.pop (ts := [t]) (vs := [v]) h rfl)
  obtain ⟨z, e, k2⟩ := P_opt k2
  exact hr W S0 ρ2 σ tm vm H2 t u v w z Q g2 e k2
theorem xet_b {te : TE} {a : EM} (ha : SEx A ct Wx te a) : SETx A ct Wx (tB te) (eB a) := fun W S0 ρ σ tm vm H Q x g k => by
  refine ha W S0 ρ σ tm vm H _ x g ((Out.P_bnd.mp k).mono (fun t ρ1 k1 v H1 g1 => ?_) fun _ _ h => h)
  obtain ⟨b, e, k⟩ := P_opt k1
  have := g1.tmp
  rw [tru_bl e] at this
  exact ⟨b, this, k H1 g1.pop1⟩
theorem xet_test {te : TE} {a : EM} (ha : SEx A ct Wx te a) : SETx A ct Wx (tTest te) (eB a) := fun W S0 ρ σ tm vm H Q x g k => by
  refine ha W S0 ρ σ tm vm H _ x g ((Out.P_bnd.mp k).mono (fun t ρ1 k1 v H1 g1 => ?_) fun _ _ h => h)
  obtain ⟨b, e, k⟩ := P_opt k1
  have := g1.tmp
  rw [tru_bl e] at this
  exact ⟨b, this, k H1 g1.pop1⟩
theorem xet_and {ta tb : TT} {a b : EMb} (ha : SETx A ct Wx ta a) (hb : SETx A ct Wx tb b) : SETx A ct Wx (tAnd ta tb) (eAnd a b) := fun W S0 ρ σ tm vm H Q x g k => by
  refine ha W S0 ρ σ tm vm H _ x g ((Out.P_bnd.mp k).mono (fun c ρ1 k1 H1 g1 => ?_) fun _ _ h => h)
  cases c with
  | true => exact hb W S0 ρ1 σ tm vm H1 Q x g1 k1
  | false => exact k1 H1 g1
theorem xet_or {ta tb : TT} {a b : EMb} (ha : SETx A ct Wx ta a) (hb : SETx A ct Wx tb b) : SETx A ct Wx (tOr ta tb) (eOr a b) := fun W S0 ρ σ tm vm H Q x g k => by
  refine ha W S0 ρ σ tm vm H _ x g ((Out.P_bnd.mp k).mono (fun c ρ1 k1 H1 g1 => ?_) fun _ _ h => h)
  cases c with
  | false => exact hb W S0 ρ1 σ tm vm H1 Q x g1 k1
  | true => exact k1 H1 g1
theorem xet_not {ta : TT} {a : EMb} (ha : SETx A ct Wx ta a) : SETx A ct Wx (tNot ta) (eNot a) := fun W S0 ρ σ tm vm H Q x g k => by
  refine ha W S0 ρ σ tm vm H _ x g ((Out.P_bnd.mp k).mono (fun c ρ1 k1 H1 g1 => k1 H1 g1) fun _ _ h => h)
theorem xe_andV {ta tb : TE} {a b : EM} (ha : SEx A ct Wx ta a) (hb : SEx A ct Wx tb b) : SEx A ct Wx (tAndV ta tb) (eAndV a b) := fun W S0 ρ σ tm vm H Q x g k => by
  refine ha W S0 ρ σ tm vm H _ x g ((Out.P_bnd.mp k).mono (fun t ρ1 k1 v H1 g1 => ?_) fun _ _ h => h)
  have q := g1.tmp
  split at k1
  · rename_i e
    rw [tru_bl e] at q
    exact ⟨true, q, hb W S0 ρ1 σ tm vm H1 Q x g1.pop1 k1⟩
  · rename_i e
    rw [tru_bl e] at q
    exact ⟨false, q, k1 _ H1 (g1.pop1.pushC (S := H1) rfl rfl)⟩
  · exact k1.elim
theorem xe_orV {ta tb : TE} {a b : EM} (ha : SEx A ct Wx ta a) (hb : SEx A ct Wx tb b) : SEx A ct Wx (tOrV ta tb) (eOrV a b) := fun W S0 ρ σ tm vm H Q x g k => by
  refine ha W S0 ρ σ tm vm H _ x g ((Out.P_bnd.mp k).mono (fun t ρ1 k1 v H1 g1 => ?_) fun _ _ h => h)
  have q := g1.tmp
  split at k1
  · rename_i e
    rw [tru_bl e] at q
    exact ⟨false, q, hb W S0 ρ1 σ tm vm H1 Q x g1.pop1 k1⟩
  · rename_i e
    rw [tru_bl e] at q
    exact ⟨true, q, k1 _ H1 (g1.pop1.pushC (S := H1) rfl rfl)⟩
  · exact k1.elim
theorem xe_notV {ta : TE} {a : EM} (ha : SEx A ct Wx ta a) : SEx A ct Wx (tNotV ta) (eNotV a) := fun W S0 ρ σ tm vm H Q x g k => by
  refine ha W S0 ρ σ tm vm H _ x g ((Out.P_bnd.mp k).mono (fun t ρ1 k1 v H1 g1 => ?_) fun _ _ h => h)
  obtain ⟨z, e, k1⟩ := P_opt k1
  obtain ⟨c, e1, rfl⟩ := Option.map_eq_some_iff.mp e
  have q := g1.tmp
  rw [tru_bl e1] at q
  exact ⟨c, q, k1 _ H1 (g1.pop1.pushC (S := H1) rfl rfl)⟩
/-- isinstance(e, C) -/
def eXis (Tn : Str) (x : Exn) : EM := fun ρ => .ok (.sh (.bl (relX x.cls Tn))) ρ
theorem xe_is {K : Frag} {C a : Addr} {Tn : Str} {x : Exn} {cls : Value} {d : Option Addr} (tab : ∀ y D, ct y = some D → XcC K D ∧ PySem.W.kitOne K (.ref D) (.ref C) = some (relX y Tn)) :
    SEx (XaA ct x cls d a i) ct Wx (tCB (rIsX K cls d a) (tCons (tVar i) (tCons (tC (.ref C)) tNil))) (eXis Tn x) := fun W S0 ρ σ tm vm H Q hA g k => by
  obtain ⟨e1, hx⟩ := hA
  obtain ⟨D, hD, rfl, _, h4⟩ := id hx
  obtain ⟨t1, t2⟩ := tab _ _ hD
  refine ⟨.ref a, e1, D, .ref C, .ref C, relX x.cls Tn, rfl, t1, ?_, rfl, fun u r => ?_, t2, k _ H (g.pushC (S := H) rfl rfl)⟩
  · rcases h4 with ⟨_, h⟩ | ⟨dd, vs, h5, h6, _⟩
    · exact .inl h
    · exact .inr ⟨dd, _, h5, g.outer _ _ h6⟩
  · exact r
/-- e.f -/
def eXfld (Cn f : Str) (x : Exn) : EM := fun ρ => if x.cls = Cn then (match x.fs.lookup f with
  | some d => .ok (.sh d) ρ
  | none => .bad) else .bad
theorem zip_look {f : Str} : ∀ {l : List (Str × D)} {vs : List V} {d : D}, Rpl W (l.map (·.2)) vs → l.lookup f = some d → ∃ v, ((l.map (·.1)).zip vs).lookup f = some v ∧ Rp W d v
  | [], _, _, _, h => by cases h
  | (g, d0) :: l, _, d, ⟨v, r, rfl, h1, h2⟩, h => by
    by_cases e : f = g
    · subst e
      simp [List.lookup] at h
      subst h
      exact ⟨v, by simp [List.lookup], h1⟩
    · have e' : (f == g) = false := by simpa using e
      simp only [List.lookup, e'] at h
      obtain ⟨w, h3, h4⟩ := zip_look h2 h
      exact ⟨w, by simp only [List.map_cons, List.zip_cons_cons, List.lookup, e']; exact h3, h4⟩
theorem xe_fld {C a : Addr} {Cn f : Str} {x : Exn} {cls : Value} {d : Option Addr} (hC : ct Cn = some C) :
    SEx (XaA ct x cls d a i) ct Wx (tXf a cls d C f (tVar i)) (eXfld Cn f x) := fun W S0 ρ σ tm vm H Q hA g k => by
  obtain ⟨e1, hx⟩ := hA
  obtain ⟨D, hD, rfl, h3, h4⟩ := id hx
  unfold eXfld at k
  obtain ⟨hc, k⟩ := P_ite k
  rw [hc, hC] at hD
  cases hD
  split at k
  case h_2 => exact k.elim
  rename_i y ey
  rcases h4 with ⟨h, _⟩ | ⟨dd, vs, h5, h6, h7⟩
  · rw [h] at ey; cases ey
  · obtain ⟨v, q1, q2⟩ := zip_look h7 ey
    refine ⟨.ref a, e1, rfl, rfl, dd, _, v, h5, g.outer _ _ h6, q1, k v H (g.pushC (S := W) ?_ q2)⟩
    have : ∀ {l : List (Str × Z.D)} {d : Z.D}, (∀ q ∈ l, q.2.scal = true) → l.lookup f = some d → d.scal = true := by
      intro l
      induction l with
      | nil => intro d _ h; cases h
      | cons q l ih =>
        intro d h h'
        obtain ⟨g0, d0⟩ := q
        by_cases e : f = g0
        · subst e
          simp [List.lookup] at h'
          subst h'
          exact h (f, d0) List.mem_cons_self
        · have e' : (f == g0) = false := by simpa using e
          simp only [List.lookup, e'] at h'
          exact ih (fun q hq => h q (List.mem_cons_of_mem _ hq)) h'
    exact this h3 ey
/-! ### statements in the suite -/
theorem xa_pin {x : Exn} {cls : Value} {d : Option Addr} {a : Addr} (h : XaA ct x cls d a i W σ0) (p : Pin (i :: pin) σ0 σ) : XaA ct x cls d a i W σ := ⟨(p i List.mem_cons_self).trans h.1, h.2⟩
section
variable {x : Exn} {cls : Value} {dx : Option Addr} {a : Addr}
theorem xss_ret {te : TE} {e : EM} (he : SEx (XaA ct x cls dx a i) ct Wx te e) : SSa (XaA ct x cls dx a i) ct Wx (i :: pin) (tRet te) (mRet e) := fun W S0 σ0 ρ σ H D hA g p k => by
  refine he W S0 ρ σ [] [] H _ (xa_pin hA p) g ((SK.st p k).mono (fun t ρ1 k1 v H1 g1 => ?_) fun _ _ h => h)
  exact k1 v σ H1 g1 p
theorem xss_set {j : Nat} {te : TE} {e : EM} (he : SEx (XaA ct x cls dx a i) ct Wx te e) (hj : j ∉ i :: pin) : SSa (XaA ct x cls dx a i) ct Wx (i :: pin) (tAsg te (gName j)) (mSet j e) := fun W S0 σ0 ρ σ H D hA g p k => by
  refine he W S0 ρ σ [] [] H _ (xa_pin hA p) g ((SK.st p k).mono (fun t ρ1 k1 v H1 g1 => ?_) fun _ _ h => h)
  exact k1 _ _ (g1.putA j) (p.set hj)
theorem xss_if {tc : TT} {s u : TS} {c : EMb} {m n : SM} (hc : SETx (XaA ct x cls dx a i) ct Wx tc c) (ha : SSa (XaA ct x cls dx a i) ct Wx (i :: pin) s m) (hb : SSa (XaA ct x cls dx a i) ct Wx (i :: pin) u n) : SSa (XaA ct x cls dx a i) ct Wx (i :: pin) (tIfS tc s u) (mIf c m n) := fun W S0 σ0 ρ σ H D hA g p k => by
  refine hc W S0 ρ σ [] [] H _ (xa_pin hA p) g ((SK.st p k).mono (fun c ρ1 k1 H1 g1 => ?_) fun _ _ h => h)
  cases c with
  | true => exact ha W S0 σ0 ρ1 σ H1 D hA g1 p k1
  | false => exact hb W S0 σ0 ρ1 σ H1 D hA g1 p k1
theorem xss_app {K : Frag} {j : Nat} {te : TE} {e : EM} (he : SEx (XaA ct x cls dx a i) ct Wx te e) : SSa (XaA ct x cls dx a i) ct Wx (i :: pin) (tDrop (tBM K "list" rAppend (tVar j) (tCons te tNil))) (mAppG j e) := fun W S0 σ0 ρ σ H D hA g p k => by
  unfold mAppG at k
  split at k
  case h_2 => exact k.elim
  rename_i ts0 e0
  obtain ⟨a0, xs0, ea, h0, _⟩ := g.refL e0
  refine ⟨.ref a0, ea, .inl ⟨rfl, xs0, .of h0⟩, ?_⟩
  refine he W S0 ρ σ [] [] H _ (xa_pin hA p) g ((SK.st p k).mono (fun t ρ1 k1 v H1 g1 => ?_) fun _ _ h => h)
  split at k1
  case h_2 => exact k1.elim
  rename_i ts e1
  obtain ⟨hz, k1⟩ := SK_ite k1
  obtain ⟨y, hx1, g2⟩ := g1.take e1
  rw [ea] at hx1
  cases hx1
  obtain ⟨b0, xs, e5, h1, h2, mk⟩ := g2.mutL
  cases e5
  refine ⟨a0, xs, v, rfl, rfl, h1, lim_lt (by omega), ?_⟩
  have g3 := mk (ts ++ [t]) [] (xs ++ [v]) [] (fun S H b c hb hc => by
    obtain ⟨v', r, c1, c2, h3, rfl, h4, h5⟩ := hc
    cases h3
    obtain ⟨_, rfl⟩ := h5
    have h6 : Rtl S H [t] [v] c1 := ⟨v, [], c1, [], rfl, by simp, h4, rfl, rfl⟩
    exact ⟨b ++ c1, [], hb.append h6, ⟨rfl, rfl⟩, by grind, by grind⟩)
  have g4 := g3.back ea
  rw [List.set_set] at g4
  exact k1 _ _ g4 p
end
end
end Z

namespace Z
noncomputable section
open PySem L2
open PySem.W (Frag)
variable {P : Program} {K : Frag} {mg : Str → Option Value} {ct : CT}
/-! ### what is told of a class to those who use it -/
structure Xc (K : Frag) (mg : Str → Option Value) (ct : CT) (n : Str) (C : Addr) : Prop where
  cto : ct n = some C
  mgo : mg n = some (.ref C)
  tab : ∀ y D, ct y = some D → (XcC K D ∧ PySem.W.kitOne K (.ref D) (.ref C) = some (relX y n)) ∧ PySem.W.exmOne K (.ref D) (.ref C) = some (relX y n)
theorem Xc.is {n : Str} {C : Addr} (h : Xc K mg ct n C) : ∀ y D, ct y = some D → XcC K D ∧ PySem.W.kitOne K (.ref D) (.ref C) = some (relX y n) := fun y D e => (h.tab y D e).1
theorem Xc.exm {n : Str} {C : Addr} (h : Xc K mg ct n C) : ∀ y D, ct y = some D → PySem.W.exmOne K (.ref D) (.ref C) = some (relX y n) := fun y D e => (h.tab y D e).2
theorem Xc.own {n : Str} {C : Addr} (h : Xc K mg ct n C) : XcC K C := (h.tab n C h.cto).1.1
theorem XcC.xf {C : Addr} (h : XcC K C) : XfC K C := ⟨h.ga, h.gg, h.sb, h.hd⟩
structure Xc0 (K : Frag) (mg : Str → Option Value) (ct : CT) (n : Str) (C : Addr) : Prop where
  c : Xc K mg ct n C
  ex : PySem.W.excIn K C exB "Exception.__new__" = true
structure Xc1 (P : Program) (K : Frag) (mg : Str → Option Value) (ct : CT) (n : Str) (C f : Addr) (arg fld : Str) : Prop where
  c : Xc K mg ct n C
  sup : SupC P K C f arg fld
  ms : mg "super" = none
theorem pmk_x0 {X : Cx} {C : Addr} {x : Str} {p pos : Pos} {ct : CT} (h : Xc0 X.K X.mg ct x C) (hg : Gl X x) (hdb : (x == ("__debug__" : Str)) = false := by decide) :
    PMk X (.Call (.Name x p) [] [] pos) (fun _ H Q => Q (.ref C) none H) :=
  pmk_own0 PySem.F.excBase_Exception h.ex h.c.mgo h.c.own.kp (raises_own h.c.own.sb h.c.own.ty) hg hdb
theorem pmk_x1 {X : Cx} {C f : Addr} {x arg fld : Str} {e : Expr} {te : TE} {p pos : Pos} {ct : CT} (h : Xc1 X.prog X.K X.mg ct x C f arg fld) (hr : Room 1 X.A) (hg : Gl X x) (he : PE X e te)
    (hdb : (x == ("__debug__" : Str)) = false := by decide) (hs : starEach [e] X.env = (false, eval e X.env) :: starEach [] X.env := by rfl) :
    PMk X (.Call (.Name x p) [e] [] pos) (tMkS C fld te) := pmk_sup h.sup hr h.ms hg h.c.mgo he hdb hs
/-! ### .. and where it comes from -/
def tabB (K : Frag) (L : List (Str × Addr)) : Bool := L.all (fun p => xcB K p.2) && L.all fun p => L.all fun q => (PySem.W.kitOne K (.ref p.2) (.ref q.2) == some (relX p.1 q.1)) && (PySem.W.exmOne K (.ref p.2) (.ref q.2) == some (relX p.1 q.1))
def ctL (L : List (Str × Addr)) : CT := fun n => L.lookup n
theorem look_mem : ∀ {L : List (Str × Addr)} {n : Str} {C : Addr}, L.lookup n = some C → (n, C) ∈ L
  | [], _, _, h => by cases h
  | (m, D) :: L, n, C, h => by
    by_cases e : n = m
    · subst e
      simp [List.lookup] at h
      subst h
      exact List.mem_cons_self
    · have e' : (n == m) = false := by simpa using e
      simp only [List.lookup, e'] at h
      exact List.mem_cons_of_mem _ (look_mem h)
theorem xc_of {L : List (Str × Addr)} {n : Str} {C : Addr} (h : tabB K L = true) (hn : L.lookup n = some C) (hm : mg n = some (.ref C)) : Xc K mg (ctL L) n C := by
  obtain ⟨h1, h2⟩ := Bool.and_eq_true_iff.mp h
  refine ⟨hn, hm, fun y D e => ?_⟩
  have m1 := look_mem (show L.lookup y = some D from e)
  have m2 := look_mem hn
  have h3 := List.all_eq_true.mp (List.all_eq_true.mp h2 _ m1) _ m2
  obtain ⟨h4, h5⟩ := Bool.and_eq_true_iff.mp h3
  have h6 := List.all_eq_true.mp h1 _ m1
  dsimp only at h4 h5 h6
  have h7 := eq_of_beq h4
  have h8 := eq_of_beq h5
  have h9 := xcB_ok h6
  exact ⟨⟨h9, h7⟩, h8⟩
def clsBody : Stmt → List Stmt
  | .ClassDef _ _ _ b .. => b
  | _ => []
def supB (K : Frag) (C f : Addr) (fld : Str) : Bool :=
  PySem.W.excInitIn K C exB "Exception.__new__" && PySem.W.excOver K C exB && decide (PySem.W.findIn K (.ref C) "__init__" = some (some (.ref f))) && PySem.W.isFn K (.ref f) &&
    decide (PySem.W.ks_superIn K C C "__init__" = some (some (.builtin "Exception.__init__"))) && decide (PySem.W.subIn K (.ref C) (.type "Exception") = some true) &&
    decide (PySem.W.findIn K (.ref C) "__setattr__" = some (some (.builtin "object.__setattr__"))) && decide (PySem.W.takerIn K C fld = some none) && decide (PySem.W.nsIn K cStatics "thirdparty.any" = some none) &&
    decide (PySem.W.mroIn K C (.ref C) = some true)
/-- what is written in an __init__ that says super().__init__(arg); self.fld = arg -/
structure SupSt (st : Stmt) (arg fld : Str) : Prop where
  body : ∃ p0 p1 p2 p3 p4 p5 p6 p7 p8 p9, defBody st = supBody arg fld p0 p1 p2 p3 p4 p5 p6 p7 p8 p9 ∧ SupEv arg p0 p1 p2 p3 p4
  head : ∃ ar, ((defArgs st).posonlyargs ++ (defArgs st).args).head? = some ar ∧ ar.arg = "self"
  sc : (defScope st).names.lookup ("super" : Str) = some .globalImplicit ∧ (defScope st).names.lookup ("__class__" : Str) = some .free ∧ (defScope st).names.lookup ("self" : Str) = some .local ∧ (defScope st).names.lookup arg = some .local ∧
    (∀ x ∈ (defScope st).names, x.2 ≠ .cell) ∧ (defScope st).isCoroutine = false ∧ (defScope st).isGenerator = false ∧ (defScope st).kind = .function
  ne : arg ≠ "self"
  nd : (arg == ("__debug__" : Str)) = false
theorem sup_mk {C f cda cc : Addr} {arg fld qn : Str} {st : Stmt} {oc kV doc pm ctv ccl cl : Value} {od an cdd cld : Option Addr} {osl ccs csl : Array (Option Value)} {vs : Array Value} {file : Str} {tf : Tok}
    (lf : K.lookup f = some ⟨oc, od, .func (PySem.W.ksFn "__init__" qn (defArgs st) (defBody st) (defScope st) .none kV doc pm an (.ref cda) ctv cc), osl⟩) (hcd : PySem.W.codeIn K (.ref cda) qn = true)
    (lcd : K.lookup cda = some ⟨ccl, cdd, .fields vs, ccs⟩) (hvs : vs[2]? = some (.str file tf)) (hfile : ((P.main.file : Str) == file) = true) (lcc : K.lookup cc = some ⟨cl, cld, .cell (some (.ref C)), csl⟩)
    (hB : supB K C f fld = true) (hS : SupSt st arg fld)
    (hbind : ∀ (kV doc pm : Value) (an : Option Addr) (cdv ct : Value) (cc : Addr) (a u : Value), bindArgs (PySem.W.ksFn "__init__" qn (defArgs st) (defBody st) (defScope st) .none kV doc pm an cdv ct cc) ⟨[a, u], []⟩ = pure [(("self" : Str), a), (arg, u)])
    (htop : (P.main.scope.names.lookup ("super" : Str)).isSome = false) (hx : XcC K C) : SupC P K C f arg fld := by
  unfold supB at hB
  simp only [Bool.and_eq_true, decide_eq_true_eq] at hB
  obtain ⟨⟨⟨⟨⟨⟨⟨⟨⟨h1, h2⟩, h3⟩, h4⟩, h5⟩, h6⟩, h7⟩, h8⟩, h9⟩, h10⟩ := hB
  obtain ⟨p0, p1, p2, p3, p4, p5, p6, p7, p8, p9, hb, hev⟩ := hS.body
  obtain ⟨ar, har, hself⟩ := hS.head
  obtain ⟨s1, s2, s3, s4, s5, s6, s7, s8⟩ := hS.sc
  refine ⟨h1, h2, h3, h4, h5, h6, hx.sb, hx.ty, hx.kp, h7, h8, hx.hd, h9, h10, ?_, htop, hS.ne, hS.nd⟩
  exact ⟨oc, od, osl, _, qn, _, _, _, kV, doc, pm, an, cda, ctv, cc, p0, p1, p2, p3, p4, p5, p6, p7, p8, p9, ccl, cdd, vs, ccs, file, tf, cl, cld, csl, ar, lf, hcd, lcd, hvs, hfile, lcc, har, hself, fun a u => hbind kV doc pm an (.ref cda) ctv cc a u, s1, s2, s3, s4, s5, s6, s7, s8, hev, hb⟩
/-! ### try, both readings at once -/
def zTS (ct : CT) (Wx : XW) (pin : List Nat) (m : SM) : TS := fun D σ H => ∃ W S0 σ0 ρ, GX W S0 ρ σ [] [] H ∧ Pin pin σ0 σ ∧ SK ct Wx W S0 pin σ0 D (m ρ)
theorem ss_z {ct : CT} {Wx : XW} {pin : List Nat} {m : SM} : SS ct Wx pin (zTS ct Wx pin m) m := fun W S0 σ0 ρ σ H D g p k => ⟨W, S0, σ0, ρ, g, p, k⟩
theorem pss_z {X : Cx} {b : List Stmt} {ct : CT} {Wx : XW} {pin : List Nat} {m : SM} (h : ∃ t, PSs X b t ∧ SS ct Wx pin t m) : PSs X b (zTS ct Wx pin m) := by
  obtain ⟨t, h1, h2⟩ := h
  exact ⟨fun pins s σ H D I ⟨W, S0, σ0, ρ, g, p, k⟩ => h1.run pins s σ H D I (h2 W S0 σ0 ρ σ H D g p k)⟩
def zXS (ct : CT) (pin : List Nat) (i : Nat) (sm : Exn → SM) (a : Addr) (cls : Value) (d : Option Addr) : TS := fun D σ H => ∃ x W S0 σ0 ρ, XaA ct x cls d a i W σ0 ∧ GX W S0 ρ σ [] [] H ∧ Pin (i :: pin) σ0 σ ∧ SK ct (fun _ _ _ _ => False) W S0 (i :: pin) σ0 D (sm x ρ)
theorem ps_tryZ {X : Cx} {x n : Str} {C : Addr} {i : Nat} {body suite : List Stmt} {b₀ : Stmt} {np pos pos' : Pos} {ct : CT} {Wx : XW} {pin : List Nat} {bm : SM} {sm : Exn → SM}
    (hs : X.stack = X.env :: X.outer) (hf : X.env.frame = some X.env.locals) (hN : X.N.Nodup) (hi : X.N[i]? = some n) (hln : X.env.kindOf n = some .local) (hc : Names X x (.ref C)) (tk : Takes X Wx) (hx : Xc X.K X.mg ct x C)
    (hb : ∀ (W : WX) (pn : List (Addr × Obj)) (xe : Value → Shared → Prop), Takes (X.tr pn xe) W → PassesOwn (model X.prog X.w) X.A X.env xe → ∃ t, PSs (X.tr pn xe) body t ∧ SS ct W pin t bm)
    (hsu : ∀ (a : Addr) (oe : Obj) (cls : Value) (d : Option Addr) (pn : List (Addr × Obj)), Zc cls d oe → (∃ vs, oe.data = .fields vs) → ∃ t, PSs (X.suite a ((a, oe) :: pn)) (b₀ :: suite) t ∧ ∀ y, SSa (XaA ct y cls d a i) ct (fun _ _ _ _ => False) (i :: pin) t (sm y)) (hi' : i ∉ pin) :
    PS X (.Try body [.ExceptHandler (some (.Name x np)) (some n) (b₀ :: suite) pos'] [] [] pos) (zTS ct Wx pin (mTry x i bm sm)) := by
  have h1 := ps_try_as (tb := fun W => zTS ct W pin bm) (ts := zXS ct pin i sm) (pos := pos) (pos' := pos') (np := np) hs hf hN hi hln hc tk (fun W pn xe h h' => pss_z (hb W pn xe h h')) (fun a oe cls d pn hz hf' => by
    obtain ⟨t, h2, h3⟩ := hsu a oe cls d pn hz hf'
    exact ⟨fun pins s σ H D I ⟨y, W, S0, σ0, ρ, hA, g, p, k⟩ => h2.run pins s σ H D I (h3 y W S0 σ0 ρ σ H D hA g p k)⟩)
  have h2 : SS ct Wx pin (fun D σ H => zTS ct (wAs X.K (.ref C) i (zXS ct pin i sm) Wx D) pin bm D σ H) (mTry x i bm sm) :=
    ss_try (K := X.K) (tb := fun W => zTS ct W pin bm) (ts := zXS ct pin i sm) hx.exm (fun W => ss_z) (fun y a cls d W S0 σ0 ρ σ H D hA g p k => ⟨y, W, S0, σ0, ρ, hA, g, p, k⟩) hi'
  exact ⟨fun pins s σ H D I ⟨W, S0, σ0, ρ, g, p, k⟩ => h1.run pins s σ H D I (h2 W S0 σ0 ρ σ H D g p k)⟩
end
end Z

namespace Z
noncomputable section
open PySem L2
@[simp ↓] theorem mRaise0_run (cls : Str) (ρ : Env) : mRaise0 cls ρ = .ex ⟨cls, []⟩ ρ := rfl
@[simp ↓] theorem mRaise1_run (cls fld : Str) (e : EM) (ρ : Env) : mRaise1 cls fld e ρ = ((e ρ).st fun t ρ => if t.d.scal = true then .ex ⟨cls, [(fld, t.d)]⟩ ρ else .bad) := rfl
@[simp ↓] theorem mTry_run (Tn : Str) (i : Nat) (body : SM) (suite : Exn → SM) (ρ : Env) : mTry Tn i body suite ρ = (match body ρ with
  | .ex x ρ' => if relX x.cls Tn = true then (if i < ρ'.length then (suite x (ρ'.set i none)).drop i else .bad) else .ex x ρ'
  | r => r) := rfl
@[simp ↓] theorem eXis_run (Tn : Str) (x : Exn) (ρ : Env) : eXis Tn x ρ = .ok (.sh (.bl (relX x.cls Tn))) ρ := rfl
@[simp ↓] theorem eXfld_run (Cn f : Str) (x : Exn) (ρ : Env) : eXfld Cn f x ρ = if x.cls = Cn then (match x.fs.lookup f with
  | some d => .ok (.sh d) ρ
  | none => .bad) else .bad := rfl
@[simp] theorem drop_nx (i : Nat) (ρ : Env) : SOut.drop i (.nx ρ) = .nx (ρ.set i none) := rfl
@[simp] theorem drop_rt (i : Nat) (t : T) (ρ : Env) : SOut.drop i (.rt t ρ) = .rt t (ρ.set i none) := rfl
@[simp] theorem drop_ct (i : Nat) (ρ : Env) : SOut.drop i (.ct ρ) = .ct (ρ.set i none) := rfl
@[simp] theorem drop_bk (i : Nat) (ρ : Env) : SOut.drop i (.bk ρ) = .bk (ρ.set i none) := rfl
@[simp] theorem relX_base (a : Str) : relX a "TurnError" = true := by simp [relX]
end
end Z

namespace Z
noncomputable section
open PySem L2
variable {ct : CT} {Wx : XW} {W S0 S H H' : Hp} {ρ : Env} {σ σ0 : St} {t u : T} {ts us tm : List T} {v w : V} {vs ws vm : List V} {as bs : List Addr} {i : Nat} {d : D} {pin : List Nat} {D0 : Ends}
/-- x[e], x a list that a name owns and keeps, e with effects -/
def eIxN (i : Nat) (e : EM) : EM := fun ρ => match ρ[i]? with
  | some (some (.ol _)) => (e ρ).bnd fun u ρ => match ρ[i]? with
    | some (some (.ol ts)) => match u.d.intO with
      | some k => match atI ts k with
        | some (.sh d) => .ok (.sh d) ρ
        | _ => .bad
      | none => .bad
    | _ => .bad
  | _ => .bad
@[simp ↓] theorem eIxN_run (i : Nat) (e : EM) (ρ : Env) : eIxN i e ρ = (match ρ[i]? with
  | some (some (.ol _)) => (e ρ).bnd fun u ρ => match ρ[i]? with
    | some (some (.ol ts)) => match u.d.intO with
      | some k => match atI ts k with
        | some (.sh d) => .ok (.sh d) ρ
        | _ => .bad
      | none => .bad
    | _ => .bad
  | _ => .bad) := rfl
theorem se_ixN {K : PySem.W.Frag} {i : Nat} {te : TE} {e : EM} (he : SE ct Wx te e) : SE ct Wx (tOp (rIx K) (tVar i) te) (eIxN i e) := fun W S0 ρ σ tm vm H Q g k => by
  unfold eIxN at k
  split at k
  case h_2 => exact k.elim
  rename_i ts0 e0
  obtain ⟨a0, xs0, ea, h0, _⟩ := g.refL e0
  refine ⟨.ref a0, ea, ?_⟩
  refine he W S0 ρ σ tm vm H _ g ((Out.P_bnd.mp k).mono (fun u ρ1 k1 v H1 g1 => ?_) fun _ _ h => h)
  split at k1
  case h_2 => exact k1.elim
  rename_i ts e1
  split at k1
  case h_2 => exact k1.elim
  rename_i kk e2
  split at k1
  case h_2 => exact k1.elim
  rename_i d e3
  have q := g1.tmp
  rw [intO_int e2] at q
  cases q
  obtain ⟨S, as, bs, g2⟩ := g1.pop1
  obtain ⟨w, b, c, d', f1, f2, f3, _⟩ := g2.re.at e1
  rw [ea] at f1
  cases f1
  refine Rt.kid (K := K) g2.sh f3 (l := ts) rfl e3 fun w' ⟨cs, c1, c2, c3⟩ => ?_
  obtain ⟨_, c4⟩ := c3
  exact k1 w' H1 (g2.pushS c4)
def oNeS : D → D → Option D
  | .str a, .str b => some (.bl (!decide (a = b)))
  | _, _ => none
@[simp] theorem neS_str (a b : Str) : oNeS (.str a) (.str b) = some (.bl (!decide (a = b))) := rfl
theorem os_neS : OpS rNe oNeS := fun H dx dy x y d hx hy e Q q => by
  cases dx <;> first | (cases e; done) | skip
  cases dy <;> first | (cases e; done) | skip
  cases e
  cases hx
  cases hy
  refine ⟨rfl, ?_⟩
  have := q (.bl (!decide (V.str _ = V.str _))) H (fun _ _ h => h) (by simp; rfl)
  exact this
end
end Z

namespace Z
noncomputable section
open PySem L2
variable {ct : CT} {Wx : XW} {W S0 S H H' : Hp} {ρ : Env} {σ σ0 : St} {t u : T} {ts us tm : List T} {v w : V} {vs ws vm : List V} {as bs : List Addr} {i : Nat} {d : D} {pin : List Nat} {D0 : Ends}
/-! ### a list within what a name owns changes -/
def T.kidsO : T → Option (List T)
  | .ol l => some l
  | .ot l => some l
  | _ => none
def T.putK : T → Nat → T → T
  | .ol l, j, u => .ol (l.set j u)
  | .ot l, j, u => .ot (l.set j u)
  | t, _, _ => t
/-- the list at a place of an owned list or tuple -/
def T.kidL (t : T) (k : Int) : Option (Nat × List T) := t.kidsO.bind fun l => (ixN l.length k).bind fun j => match l[j]? with
  | some (.ol us) => some (j, us)
  | _ => none
theorem Rt.kidL {K : PySem.W.Frag} {k : Int} {j : Nat} (h : Rt S H t v as) (hn : as.Nodup) (e : t.kidL k = some (j, us)) : ∃ b ys cs, H b = some (.lst ys) ∧ ys.length = us.length ∧ Rtl S H us ys cs ∧ b ∈ as ∧
    (∀ (H1 : Hp) (Q : VK), Same H H1 → Q (.ref b) H1 → rIx K v (.int k) H1 Q) ∧
    (∀ H2 us' ys', (∀ a ∈ as, H2 a = H a) → (∀ H', (∀ a ∈ cs, H' a = H a) → Rtl S H' us' ys' cs) → Rt S (upd H2 b (.lst ys')) (t.putK j (.ol us')) v as) := by
  unfold T.kidL at e
  obtain ⟨l, e1, e⟩ := some_bind e
  obtain ⟨j', e2, e⟩ := some_bind e
  split at e
  case h_2 => cases e
  rename_i us0 e3
  cases e
  cases t with
  | sh d => cases e1
  | od ks l => cases e1
  | ol l0 =>
    cases e1
    obtain ⟨a, xs, c, rfl, rfl, h1, h2⟩ := h
    obtain ⟨w, b1, c1, d1, f1, rfl, f3, f4⟩ := h2.at e3
    obtain ⟨b, ys, cs, rfl, rfl, g1, g2⟩ := f3
    have hne : b ≠ a := by grind
    have hcs : ∀ x ∈ cs, x ≠ b := by grind
    have hbd : ∀ x ∈ b1 ++ d1, x ≠ b := by grind
    refine ⟨b, ys, cs, g1, g2.len, g2, by simp, fun H1 Q es q => ?_, fun H2 us' ys' h2' hr => ?_⟩
    · exact .inl ⟨a, xs, k, .ref b, rfl, rfl, .of (es _ _ h1), by unfold L2.atI; rw [h2.len, e2]; exact f1, q⟩
    · have q1 : Rt S (upd H2 b (.lst ys')) (.ol us') (.ref b) (b :: cs) := ⟨b, ys', cs, rfl, rfl, upd_same, hr _ fun x hx => (upd_ne (hcs x hx)).trans (h2' x (by simp [hx]))⟩
      have q2 := f4 S (upd H2 b (.lst ys')) (.ol us') (.ref b) (b :: cs) (fun _ _ h => h) (fun x hx => (upd_ne (hbd x hx)).trans (h2' x (by simp at hx; rcases hx with z | z <;> simp [z]))) q1
      rw [set_self f1] at q2
      exact ⟨a, xs, _, rfl, by simp, by rw [upd_ne (Ne.symm hne), h2' a (by simp)]; exact h1, q2⟩
  | ot l0 =>
    cases e1
    obtain ⟨a, xs, c, rfl, rfl, h1, h2⟩ := h
    obtain ⟨w, b1, c1, d1, f1, rfl, f3, f4⟩ := h2.at e3
    obtain ⟨b, ys, cs, rfl, rfl, g1, g2⟩ := f3
    have hne : b ≠ a := by grind
    have hcs : ∀ x ∈ cs, x ≠ b := by grind
    have hbd : ∀ x ∈ b1 ++ d1, x ≠ b := by grind
    refine ⟨b, ys, cs, g1, g2.len, g2, by simp, fun H1 Q es q => ?_, fun H2 us' ys' h2' hr => ?_⟩
    · exact .inr (.inl ⟨a, xs, k, .ref b, rfl, rfl, .of (es _ _ h1), by unfold L2.atI; rw [h2.len, e2]; exact f1, q⟩)
    · have q1 : Rt S (upd H2 b (.lst ys')) (.ol us') (.ref b) (b :: cs) := ⟨b, ys', cs, rfl, rfl, upd_same, hr _ fun x hx => (upd_ne (hcs x hx)).trans (h2' x (by simp [hx]))⟩
      have q2 := f4 S (upd H2 b (.lst ys')) (.ol us') (.ref b) (b :: cs) (fun _ _ h => h) (fun x hx => (upd_ne (hbd x hx)).trans (h2' x (by simp at hx; rcases hx with z | z <;> simp [z]))) q1
      rw [set_self f1] at q2
      exact ⟨a, xs, _, rfl, by simp, by rw [upd_ne (Ne.symm hne), h2' a (by simp)]; exact h1, q2⟩
theorem GX.kidL {K : PySem.W.Frag} {k : Int} {j : Nat} (g : GX W S0 ρ σ (t :: tm) (v :: vm) H) (e : t.kidL k = some (j, us)) : ∃ b ys, H b = some (.lst ys) ∧ ys.length = us.length ∧
    (∀ (H1 : Hp) (Q : VK), Same H H1 → Q (.ref b) H1 → rIx K v (.int k) H1 Q) ∧
    (∀ H2 us' ys', Same H H2 → (∀ S H cs, Rtl S H us ys cs → Rtl S H us' ys' cs) → GX W S0 ρ σ (t.putK j (.ol us') :: tm) (v :: vm) (upd H2 b (.lst ys'))) := by
  obtain ⟨S, as, bs, g⟩ := g
  obtain ⟨v', r, c1, c2, h3, rfl, h4, h5⟩ := g.rt
  simp only [List.cons.injEq] at h3
  obtain ⟨rfl, rfl⟩ := h3
  have nd := g.nd
  have fs := g.fs
  have fw := g.fw
  obtain ⟨b, ys, cs, k1, k2, k3, k4, k5, k6⟩ := h4.kidL (K := K) (by grind) e
  refine ⟨b, ys, k1, k2, k5, fun H2 us' ys' es hr => ?_⟩
  have q := k6 H2 us' ys' (fun a ha => same_at es (h4.there a ha)) fun H' hh => hr S H' cs (k3.mono (fun _ _ h => h) hh)
  have hb : S b = none := fs b (by grind)
  have hw : W b = none := fw b (by grind)
  have keep : ∀ x, x ≠ b → H x ≠ none → (upd H2 b (.lst ys')) x = H x := fun x hx hn => (upd_ne hx).trans (same_at es hn)
  refine ⟨S, as, c1 ++ c2, g.s0, fun x o h => ?_, fun x o h => ?_, g.nw, g.re.mono (fun _ _ h => h) fun x hx => keep x (by grind) (g.re.there x hx), ⟨v, vm, c1, c2, rfl, rfl, q, h5.mono (fun _ _ h => h) fun x hx => keep x (by grind) (h5.there x hx)⟩, nd, fs, fw⟩
  · rw [upd_ne (by rintro rfl; rw [hb] at h; cases h)]; exact es _ _ (g.sh x o h)
  · rw [upd_ne (by rintro rfl; rw [hw] at h; cases h)]; exact es _ _ (g.wh x o h)
/-- x[ix].append(e), e a scalar -/
def mApp1 (i : Nat) (ix e : PM) : SM := fun ρ => match ρ[i]?, ix ρ, e ρ with
  | some (some t), some (.int k), some d => match t.kidL k with
    | some (j, us) => if us.length < lim ∧ d.scal = true then .nx (ρ.set i (some (t.putK j (.ol (us ++ [.sh d]))))) else .bad
    | none => .bad
  | _, _, _ => .bad
theorem ss_app1 {K : PySem.W.Frag} {i : Nat} {ti te : TE} {ix e : PM} (hx : SP ti ix) (he : SP te e) : SS ct Wx pin (tDrop (tBM K "list" rAppend (tOp (rIx K) (tVar i) ti) (tCons te tNil))) (mApp1 i ix e) := fun W S0 σ0 ρ σ H D g p k => by
  unfold mApp1 at k
  split at k
  case h_2 => exact k.elim
  rename_i t kk d e1 e2 e3
  split at k
  case h_2 => exact k.elim
  rename_i j us e4
  obtain ⟨⟨hz, hs⟩, k⟩ := SK_ite k
  have rv := g.rv
  obtain ⟨v, hv, g1⟩ := g.take e1
  refine ⟨v, hv, hx ρ σ H rv _ e2 _ fun y H1 es1 r1 => ?_⟩
  cases r1
  obtain ⟨b, ys, k1, k2, k3, k4⟩ := g1.kidL (K := K) e4
  refine k3 H1 _ es1 ⟨.inl ⟨rfl, ys, .of (es1 _ _ k1)⟩, he ρ σ H1 (rv.ext es1) _ e3 _ fun z H2 es2 r2 => ?_⟩
  have es := es1.trans es2
  refine ⟨b, ys, z, rfl, rfl, es _ _ k1, lim_lt (by omega), ?_⟩
  have g3 := k4 H2 (us ++ [.sh d]) (ys ++ [z]) es fun S H cs h => by
    have h6 : Rtl S H [T.sh d] [z] [] := ⟨z, [], [], [], rfl, rfl, ⟨rfl, r2.scal hs⟩, rfl, rfl⟩
    have := h.append h6
    simpa using this
  have g4 := g3.back hv
  rw [List.set_set] at g4
  exact k _ _ g4 p
/-- x[ix][jx] = e, e a scalar in a scalar's place -/
def mStore1 (i : Nat) (ix : PM) (e jx : PM) : SM := fun ρ => match ρ[i]?, ix ρ, e ρ, jx ρ with
  | some (some t), some (.int k), some d, some (.int m) => match t.kidL k with
    | some (j, us) => match ixN us.length m with
      | some l => match us[l]? with
        | some (.sh _) => if d.scal = true then .nx (ρ.set i (some (t.putK j (.ol (us.set l (.sh d)))))) else .bad
        | _ => .bad
      | none => .bad
    | none => .bad
  | _, _, _, _ => .bad
theorem ss_store1 {K : PySem.W.Frag} {i : Nat} {ti te tj : TE} {ix e jx : PM} (hx : SP ti ix) (he : SP te e) (hj : SP tj jx) : SS ct Wx pin (tAsg te (gSub (tOp (rIx K) (tVar i) ti) tj rSetL)) (mStore1 i ix e jx) := fun W S0 σ0 ρ σ H D g p k => by
  unfold mStore1 at k
  split at k
  case h_2 => exact k.elim
  rename_i t kk d m e1 e2 e3 e5
  split at k
  case h_2 => exact k.elim
  rename_i j us e4
  split at k
  case h_2 => exact k.elim
  rename_i l e6
  split at k
  case h_2 => exact k.elim
  rename_i d0 e7
  obtain ⟨hs, k⟩ := SK_ite k
  have rv := g.rv
  obtain ⟨v, hv, g1⟩ := g.take e1
  refine he ρ σ H rv _ e3 _ fun z H0 es0 r0 => ?_
  refine ⟨v, hv, hx ρ σ H0 (rv.ext es0) _ e2 _ fun y H1 es1 r1 => ?_⟩
  cases r1
  obtain ⟨b, ys, k1, k2, k3, k4⟩ := g1.kidL (K := K) e4
  have es01 := es0.trans es1
  refine k3 H1 _ es01 (hj ρ σ H1 (rv.ext es01) _ e5 _ fun y2 H2 es2 r2 => ?_)
  cases r2
  have es := es01.trans es2
  refine ⟨b, ys, m, l, rfl, rfl, es _ _ k1, by rw [k2]; exact e6, ?_⟩
  have g3 := k4 H2 (us.set l (.sh d)) (ys.set l z) es fun S H cs h => by
    obtain ⟨w, b1, c1, d1, f1, rfl, f3, f4⟩ := h.at e7
    obtain ⟨rfl, _⟩ := f3
    exact f4 S H (.sh d) z [] (fun _ _ h => h) (fun _ _ => rfl) ⟨rfl, r0.scal hs⟩
  have g4 := g3.back hv
  rw [List.set_set] at g4
  exact k _ _ g4 p
end
end Z

namespace Z
noncomputable section
open PySem L2
variable {ct : CT} {Wx : XW} {W S0 S H H' : Hp} {ρ : Env} {σ σ0 : St} {t u : T} {ts us tm : List T} {v w : V} {vs ws vm : List V} {as bs : List Addr} {i : Nat} {d : D} {pin : List Nat} {D0 : Ends}
/-- x[lo:hi] at a place, of a list or a tuple -/
def eSlU (a : Env → Option T) (lo hi : Env → Option (Option Int)) : EM := fun ρ => match a ρ with
  | some (.sh (.tup ds)) => optO ((lo ρ).bind fun l => (hi ρ).bind fun h => some (.sh (.tup (cutD ds l h)))) ρ
  | _ => eSl a lo hi ρ
@[simp ↓] theorem eSlU_run (a : Env → Option T) (lo hi : Env → Option (Option Int)) (ρ : Env) : eSlU a lo hi ρ = (match a ρ with
  | some (.sh (.tup ds)) => optO ((lo ρ).bind fun l => (hi ρ).bind fun h => some (.sh (.tup (cutD ds l h)))) ρ
  | _ => eSl a lo hi ρ) := rfl
theorem se_slU {K : PySem.W.Frag} {ta : TE} {tl th : TO} {a : Env → Option T} {lo hi : Env → Option (Option Int)} (ha : SV ta a) (hl : SPO tl lo) (hh : SPO th hi) : SE ct Wx (tSl (fun x lo hi H Q => rSlL K x lo hi H Q ∨ rSlA K x lo hi H Q) ta tl th) (eSlU a lo hi) := fun W S0 ρ σ tm vm H Q g k => by
  unfold eSlU at k
  split at k
  case h_2 =>
    obtain ⟨z, e, k⟩ := P_opt k
    obtain ⟨t, e1, e⟩ := some_bind e
    obtain ⟨ds, e2, e⟩ := some_bind e
    obtain ⟨l, e3, e⟩ := some_bind e
    obtain ⟨h, e4, e⟩ := some_bind e
    cases e
    obtain ⟨S, as, bs, g⟩ := g
    refine ha W S0 S ρ σ tm vm H as bs g t e1 _ fun v H1 s1 ⟨cs, c1, c2⟩ => ?_
    have g1 := g.ext s1
    obtain ⟨p, xs, rfl, h1, h2⟩ := c2.shs g1.sh e2
    refine hl ρ σ H1 (GX.rv ⟨S, as, bs, g1⟩) l e3 _ fun H2 s2 => hh ρ σ H2 (GX.rv ⟨S, as, bs, g1.ext s2⟩) h e4 _ fun H3 s3 => ?_
    exact .inl ⟨p, xs, rfl, .of (s3 _ _ (s2 _ _ h1)), fun q hq => k _ _ ((((g1.ext s2).ext s3).pushSs h2.cut).newL (by simp [h2.cut.len]) hq)⟩
  rename_i ds e1
  obtain ⟨z, e, k⟩ := P_opt k
  obtain ⟨l, e3, e⟩ := some_bind e
  obtain ⟨h, e4, e⟩ := some_bind e
  cases e
  obtain ⟨S, as, bs, g⟩ := g
  refine ha W S0 S ρ σ tm vm H as bs g _ e1 _ fun v H1 s1 ⟨cs, c1, c2⟩ => ?_
  have g1 := g.ext s1
  obtain ⟨_, p, xs, rfl, h1, h2⟩ := c2
  refine hl ρ σ H1 (GX.rv ⟨S, as, bs, g1⟩) l e3 _ fun H2 s2 => hh ρ σ H2 (GX.rv ⟨S, as, bs, g1.ext s2⟩) h e4 _ fun H3 s3 => ?_
  have hx : H3 p = some (.tup xs) := s3 _ _ (s2 _ _ (g1.sh _ _ h1))
  refine .inr ⟨p, xs, rfl, .of hx, fun hw => ?_, fun _ q hq => ?_⟩
  · have hd : cutD ds l h = ds := by
      unfold cutD
      rw [h2.len] at hw
      rw [hw.1, hw.2]
      simp
    rw [hd] at k
    exact k _ _ (((g1.ext s2).ext s3).pushS ⟨p, xs, rfl, h1, h2⟩)
  · have g4 := ((((g1.ext s2).ext s3).pushSs (h2.cut (lo := l) (hi := h))).newT (by simp [h2.cut.len]) hq).frz
    have e5 : (T.ot ((cutD ds l h).map .sh)).d = .tup (cutD ds l h) := by
      show D.tup (dl _) = _
      rw [dl_eq, List.map_map]
      congr 1
      exact List.map_id'' (fun _ => rfl) _
    rw [e5] at g4
    exact k _ _ g4
/-- x[::-1], x a list -/
def eRevL (a : Env → Option T) : EM := fun ρ => optO ((a ρ).bind fun t => t.shs.bind fun ds => some (.ol (ds.reverse.map .sh))) ρ
@[simp ↓] theorem eRevL_run (a : Env → Option T) (ρ : Env) : eRevL a ρ = optO ((a ρ).bind fun t => t.shs.bind fun ds => some (.ol (ds.reverse.map .sh))) ρ := rfl
theorem se_revL {K : PySem.W.Frag} {ta : TE} {a : Env → Option T} (ha : SV ta a) : SE ct Wx (tRevL K ta) (eRevL a) := fun W S0 ρ σ tm vm H Q g k => by
  obtain ⟨z, e, k⟩ := P_opt k
  obtain ⟨t, e1, e⟩ := some_bind e
  obtain ⟨ds, e2, e⟩ := some_bind e
  cases e
  obtain ⟨S, as, bs, g⟩ := g
  refine ha W S0 S ρ σ tm vm H as bs g t e1 _ fun v H1 s1 ⟨cs, c1, c2⟩ => ?_
  have g1 := g.ext s1
  obtain ⟨p, xs, rfl, h1, h2⟩ := c2.shs g1.sh e2
  exact ⟨p, xs, rfl, .of h1, fun q hq => k _ _ ((g1.pushSs h2.rev).newL (by simp [h2.rev.len]) hq)⟩
@[simp ↓] theorem mApp1_run (i : Nat) (ix e : PM) (ρ : Env) : mApp1 i ix e ρ = (match ρ[i]?, ix ρ, e ρ with
  | some (some t), some (.int k), some d => match t.kidL k with
    | some (j, us) => if us.length < lim ∧ d.scal = true then .nx (ρ.set i (some (t.putK j (.ol (us ++ [.sh d]))))) else .bad
    | none => .bad
  | _, _, _ => .bad) := rfl
@[simp ↓] theorem mStore1_run (i : Nat) (ix e jx : PM) (ρ : Env) : mStore1 i ix e jx ρ = (match ρ[i]?, ix ρ, e ρ, jx ρ with
  | some (some t), some (.int k), some d, some (.int m) => match t.kidL k with
    | some (j, us) => match ixN us.length m with
      | some l => match us[l]? with
        | some (.sh _) => if d.scal = true then .nx (ρ.set i (some (t.putK j (.ol (us.set l (.sh d)))))) else .bad
        | _ => .bad
      | none => .bad
    | none => .bad
  | _, _, _, _ => .bad) := rfl
theorem kidL_1 {t0 : T} {us : List T} : (T.ot [t0, .ol us]).kidL 1 = some (1, us) := rfl
theorem putK_1 {t0 u : T} {us : List T} : (T.ot [t0, .ol us]).putK 1 u = .ot [t0, u] := rfl
end
end Z

namespace Z
noncomputable section
open PySem L2
variable {ct : CT} {Wx : XW} {W S0 S H H' : Hp} {ρ : Env} {σ σ0 : St} {t u : T} {ts us tm : List T} {v w : V} {vs ws vm : List V} {as bs : List Addr} {i : Nat} {d : D} {pin : List Nat} {D0 : Ends}
/-! ### a call whose arguments are read where they stand, and whose answer is all new -/
mutual
def T.fresh : T → Bool
  | .sh d => d.scal
  | .ol l => freshL l
  | .ot l => freshL l
  | .od _ l => freshL l
def freshL : List T → Bool
  | [] => true
  | t :: l => t.fresh && freshL l
end
mutual
theorem Rt.fresh {S S' H : Hp} : ∀ {t : T} {v : V} {as : List Addr}, t.fresh = true → Rt S H t v as → Rt S' H t v as
  | .sh d, _, _, e, ⟨h1, h2⟩ => ⟨h1, h2.scal e⟩
  | .ol l, _, _, e, ⟨a, vs, bs, h1, h2, h3, h4⟩ => ⟨a, vs, bs, h1, h2, h3, Rtl.fresh e h4⟩
  | .ot l, _, _, e, ⟨a, vs, bs, h1, h2, h3, h4⟩ => ⟨a, vs, bs, h1, h2, h3, Rtl.fresh e h4⟩
  | .od _ l, _, _, e, ⟨a, vs, bs, h1, h2, h3, h5, h4⟩ => ⟨a, vs, bs, h1, h2, h3, h5, Rtl.fresh e h4⟩
theorem Rtl.fresh {S S' H : Hp} : ∀ {l : List T} {vs : List V} {as : List Addr}, freshL l = true → Rtl S H l vs as → Rtl S' H l vs as
  | [], _, _, _, h => h
  | t :: l, _, _, e, ⟨v, r, b, c, h1, h2, h3, h4⟩ => by
    simp only [freshL, Bool.and_eq_true] at e
    exact ⟨v, r, b, c, h1, h2, Rt.fresh e.1 h3, Rtl.fresh e.2 h4⟩
end
@[simp] theorem fresh_ints (l : List Int) : (T.ol (l.map ig)).fresh = true := by
  have : freshL (l.map ig) = true := by
    induction l with
    | nil => rfl
    | cons a l ih => simp [freshL, T.fresh, ih]
  simpa [T.fresh] using this
def eCallB (n : Nat) (F : FM) (a : AM) : EM := fun ρ => match a ρ with
  | some ds => if ds.length = n then (match F (ds.map T.sh) with
    | .ok t ts' => if ts'.length = n ∧ t.fresh = true then .ok t ρ else .bad
    | _ => .bad) else .bad
  | none => .bad
@[simp ↓] theorem eCallB_run (n : Nat) (F : FM) (a : AM) (ρ : Env) : eCallB n F a ρ = (match a ρ with
  | some ds => if ds.length = n then (match F (ds.map T.sh) with
    | .ok t ts' => if ts'.length = n ∧ t.fresh = true then .ok t ρ else .bad
    | _ => .bad) else .bad
  | none => .bad) := rfl
theorem se_callB {n : Nat} {F : FM} {E : St → XK} {ta : TA} {a : AM} (ha : SPA ta a) : SE ct Wx (tCallS (spM ct n F) E ta) (eCallB n F a) := fun W S0 ρ σ tm vm H Q g k => by
  unfold eCallB at k
  split at k
  case h_2 => exact k.elim
  rename_i ds e0
  obtain ⟨hn, k⟩ := P_ite k
  refine ha ρ σ H g.rv ds e0 _ fun vs H1 e1 r1 => ⟨by rw [r1.len]; exact hn, ds.map T.sh, H1, H1, r1.gx, ?_⟩
  generalize F (ds.map T.sh) = o at k ⊢
  cases o with
  | bad => exact k.elim
  | ex x => exact k.elim
  | ok t ts' =>
    obtain ⟨⟨hl, hf⟩, k⟩ := P_ite k
    refine ⟨hl, fun v H' g2 => k v H' ?_⟩
    obtain ⟨S, as, bs, g⟩ := g
    obtain ⟨S2, as2, bs2, g2⟩ := g2
    have ea : as2 = [] := g2.re.2
    subst ea
    have g1 := g.ext (e1.trans g2.wh)
    obtain ⟨v', r, c1, c2, h3, rfl, h4, h5⟩ := g2.rt
    simp only [List.cons.injEq] at h3
    obtain ⟨rfl, rfl⟩ := h3
    have nd2 := g2.nd
    have fw2 := g2.fw
    have nd := g.nd
    have fs := g.fs
    have fw := g.fw
    have hnone : ∀ a ∈ c1, H a = none := fun a ha => by
      have h0 := fw2 a (by simp [ha])
      cases q : H a with
      | none => rfl
      | some o => rw [e1 a o q] at h0; cases h0
    have hne : ∀ a ∈ c1, ∀ x, (x ∈ as ∨ x ∈ bs) → a ≠ x := fun a ha x hx z => by
      subst z
      have h0 := hnone a ha
      rcases hx with h | h
      · exact g.re.there a h h0
      · exact g.rt.there a h h0
    refine ⟨S, as, c1 ++ bs, g1.s0, g1.sh, g1.wh, g1.nw, g1.re, ⟨v, vm, c1, bs, rfl, rfl, h4.fresh hf, g1.rt⟩, by grind, ?_, ?_⟩
    · intro a ha
      rcases List.mem_append.mp ha with h | h
      · exact fs a (by grind)
      · rcases List.mem_append.mp h with h | h
        · have h0 := hnone a h
          cases q : S a with
          | none => rfl
          | some o => rw [g.sh a o q] at h0; cases h0
        · exact fs a (by grind)
    · intro a ha
      rcases List.mem_append.mp ha with h | h
      · exact fw a (by grind)
      · rcases List.mem_append.mp h with h | h
        · have h0 := hnone a h
          cases q : W a with
          | none => rfl
          | some o => rw [g.wh a o q] at h0; cases h0
        · exact fw a (by grind)
/-- x[lo:], lo with effects -/
def eSlF (a lo : EM) : EM := fun ρ => (a ρ).bnd fun t ρ => (lo ρ).bnd fun u ρ => optO (t.els.bind fun ds => u.d.intO.bind fun k => some (.ol (cutD ds (some k) none))) ρ
@[simp ↓] theorem eSlF_run (a lo : EM) (ρ : Env) : eSlF a lo ρ = ((a ρ).bnd fun t ρ => (lo ρ).bnd fun u ρ => optO (t.els.bind fun ds => u.d.intO.bind fun k => some (.ol (cutD ds (some k) none))) ρ) := rfl
theorem se_slF {K : PySem.W.Frag} {ta tl : TE} {a lo : EM} (ha : SE ct Wx ta a) (hl : SE ct Wx tl lo) : SE ct Wx (tSl (rSlL K) ta (tPart tl) tNoPart) (eSlF a lo) := fun W S0 ρ σ tm vm H Q g k => by
  refine ha W S0 ρ σ tm vm H _ g ((Out.P_bnd.mp k).mono (fun t ρ1 k1 v H1 g1 => ?_) fun _ _ h => h)
  refine hl W S0 ρ1 σ (t :: tm) (v :: vm) H1 _ g1 ((Out.P_bnd.mp k1).mono (fun u ρ2 k2 w H2 g2 => ?_) fun _ _ h => XE.pop (ts := [t]) (vs := [v]) h rfl)
  obtain ⟨z, e, k⟩ := P_opt k2
  obtain ⟨ts, e2, e⟩ := some_bind e
  obtain ⟨i, e3, e⟩ := some_bind e
  cases e
  have q := g2.tmp
  rw [intO_int e3] at q
  cases q
  refine ⟨i, rfl, ?_⟩
  obtain ⟨p, xs, rfl, h1, h2, g3⟩ := g2.pop1.els e2
  refine ⟨p, xs, rfl, .of h1, fun q hq => k _ _ ?_⟩
  have g4 := g3.sub (us := cutD ts (some i) none) (ws := cutV xs (some i) none) h2 fun S H b hb => hb.cut
  exact g4.newL (by unfold cutD cutV; simp [h2]) hq
end
end Z

namespace Z
noncomputable section
open PySem L2
/-! ### repr of whatever is plain data -/
section
variable {X : Cx}
def rReprV (K : PySem.W.Frag) : List V → Hp → VK → Prop := fun xs H Q => rRepr K xs H Q ∨ (∃ i, xs = [.int i] ∧ i.natAbs.log2 < 1920 ∧ Q (.str (toString i)) H) ∨ (∃ b, xs = [.bl b] ∧ Q (.str (if b then "True" else "False")) H) ∨ (xs = [.non] ∧ Q (.str "None") H) ∨ (∃ z, xs = [.str z] ∧ (reprText z).length ≤ sizeLine ∧ Q (.str (reprText z)) H)
theorem call_reprV (hg : X.A.guards = some []) (hu : X.A.units + 64 < cLine) : CallR X (.builtin "repr") (rReprV X.K) := by
  intro pins s σ H xs us Q I r h
  rcases h with h | ⟨i, rfl, hz, q⟩ | ⟨b, rfl, q⟩ | ⟨rfl, q⟩ | ⟨z, rfl, hz, q⟩
  · exact call_reprD hg hu pins s σ H xs us Q I r h
  · obtain ⟨u, rfl, t, rfl⟩ := vals1 r
    exact PySem.P.repr_of_int hz ⟨.str _, H, I.tok _, ⟨_, rfl⟩, q⟩
  · obtain ⟨u, rfl, ru⟩ := vals1 r
    obtain rfl : u = Value.bool b := ru
    exact PySem.P.repr_of_bool ⟨.str _, H, I.tok _, ⟨_, rfl⟩, q⟩
  · obtain ⟨u, rfl, ru⟩ := vals1 r
    obtain rfl : u = Value.none := ru
    exact PySem.P.repr_of_none ⟨.str _, H, I.tok _, ⟨_, rfl⟩, q⟩
  · obtain ⟨u, rfl, t, rfl⟩ := vals1 r
    exact PySem.P.repr_of_str ⟨.str _, H, I.tok _, ⟨_, rfl⟩, q⟩ hz
end
def oReprV : D → Option D := fun d => match d with
  | .int i => if i.natAbs.log2 < 1920 then some (.str (toString i)) else none
  | .bl b => some (.str (if b then "True" else "False"))
  | .non => some (.str "None")
  | .str z => if (reprText z).length ≤ sizeLine then some (.str (reprText z)) else none
  | d => oRepr d
theorem cs_reprV {K : PySem.W.Frag} : CallS (rReprV K) (o1 oReprV) := fun H ds vs d h e Q q => by
  have e' := e
  obtain ⟨x, rfl, e⟩ := o1_some e
  cases x with
  | int i =>
    obtain ⟨v, rfl, hv⟩ := rpl1 h
    obtain ⟨h1, e⟩ := ite_some e
    cases e
    cases hv
    exact .inr (.inl ⟨i, rfl, h1, q _ H (fun _ _ h => h) rfl⟩)
  | bl b =>
    obtain ⟨v, rfl, hv⟩ := rpl1 h
    cases e
    cases hv
    exact .inr (.inr (.inl ⟨b, rfl, q _ H (fun _ _ h => h) rfl⟩))
  | non =>
    obtain ⟨v, rfl, hv⟩ := rpl1 h
    cases e
    cases hv
    exact .inr (.inr (.inr (.inl ⟨rfl, q _ H (fun _ _ h => h) rfl⟩)))
  | str z =>
    obtain ⟨v, rfl, hv⟩ := rpl1 h
    obtain ⟨h1, e⟩ := ite_some e
    cases e
    cases hv
    exact .inr (.inr (.inr (.inr ⟨z, rfl, h1, q _ H (fun _ _ h => h) rfl⟩)))
  | lst l => exact .inl (cs_repr H [.lst l] vs d h e' Q q)
  | tup l => exact .inl (cs_repr H [.tup l] vs d h e' Q q)
  | dic ks l => exact .inl (cs_repr H [.dic ks l] vs d h e' Q q)
end
end Z

namespace Z
noncomputable section
open PySem L2
/-! ### defs that ask repr, called by others -/
section
open PySem.Spec PyProof.Rows
variable {ct : CT} {P : Program} {w : World} {K : PySem.W.Frag} {mg : Str → Option Value} {base : Heap}
theorem fn_mkG {x qual : Str} {st : Stmt} {f : Addr} {fd : FuncData} {N ps : List Str} {k : Nat} {m : SM} (F : Fun K x qual st f fd) (Sc : FnScope N ps (defScope st))
    (hbody : ∀ (cdv : Value) (A : Around), A.guards = some [] → ∀ (outer : List PySem.Env) (s : Shared) (H : Hp) (E : XK), Room k (A.deeper (envOfC qual (defScope st) s.heap.objs.size f cdv)) →
      ∃ t, PSs (cxOf (L2.CX P w) P w K mg base N qual (defScope st) f cdv A outer s H E) (defBody st) t ∧ SS ct (fun c d _ H => E c d H) [] t m) : FnG P w K mg base (L2.CX P w) (k + 1) f fd ps (spM ct ps.length (mFun ps.length N.length m)) := by
  refine fnG_mk F Sc (fun vs H Q E h => h.1) fun cdv A hg outer s H vs Q E hr h => ?_
  obtain ⟨t, ht, hs⟩ := hbody cdv A hg outer s H E hr
  refine ⟨t, ht, ?_⟩
  obtain ⟨hl, ts, W, S, g, k1⟩ := h
  unfold mFun at k1
  by_cases hc : ts.length = ps.length ∧ ts.all T.isSh = true
  case neg => rw [if_neg hc] at k1; exact k1.elim
  rw [if_pos hc] at k1
  obtain ⟨S1, as, bs, hu, g1⟩ := g.up
  obtain ⟨ds, rfl⟩ := allSh hc.2
  obtain ⟨hr1, rfl⟩ := g1.rt.toRpl'
  have g2 := GX.start (N := N) ⟨S1, as, [], g1⟩ (by rw [hl, hc.1])
  rw [hc.1] at g2
  refine hs W S1 (start N vs) _ _ H _ g2 Pin.refl ?_
  have fin : ∀ (t : T) (v : V) (ρ : Env) (σ : L2.St) (H' : Hp), GX W S1 ρ σ [t] [v] H' → GX W S [] [] (t :: ds.map .sh) (v :: vs) H' := fun t v ρ σ H' g3 => by
    obtain ⟨S2, as2, bs2, g4⟩ := g3.noEnv
    exact (g4.endS (hr1.mono g4.s0)).join hu
  generalize m _ = o at k1 ⊢
  cases o with
  | bad => exact k1
  | nx ρ => exact fun σ' H' g3 _ => k1.2 .non H' (fin (.sh .non) .non ρ σ' H' (g3.pushC (S := H') (d := .non) (v := .non) rfl rfl))
  | rt t ρ => exact fun v σ' H' g3 _ => k1.2 v H' (fin t v ρ σ' H' g3)
  | bk ρ => exact k1.elim
  | ct ρ => exact k1.elim
  | ex x ρ => exact fun c d σ' H' g3 _ hx => k1 c d H' (g3.noEnv.join hu) hx
theorem fn_mkGI {x qual : Str} {st : Stmt} {f : Addr} {fd : FuncData} {N ps : List Str} {k : Nat} {m : SM} (F : Fun K x qual st f fd) (Sc : FnScope N ps (defScope st)) (hps : 0 < ps.length)
    (hbody : ∀ (cdv : Value) (A : Around), A.guards = some [] → ∀ (outer : List PySem.Env) (s : Shared) (H : Hp) (E : XK), Room k (A.deeper (envOfC qual (defScope st) s.heap.objs.size f cdv)) →
      ∃ t, PSs (cxOf (L2.CX P w) P w K mg base N qual (defScope st) f cdv A outer s H E) (defBody st) t ∧ SS ct (fun c d _ H => E c d H) [0] t m) : FnG P w K mg base (L2.CX P w) (k + 1) f fd ps (spM ct ps.length (mFunI ps.length N.length m)) := by
  refine fnG_mk F Sc (fun vs H Q E h => h.1) fun cdv A hg outer s H vs Q E hr h => ?_
  obtain ⟨t, ht, hs⟩ := hbody cdv A hg outer s H E hr
  refine ⟨t, ht, ?_⟩
  obtain ⟨hl, ts, W, S, g, k1⟩ := h
  unfold mFunI at k1
  by_cases hc : ts.length = ps.length ∧ ts.tail.all T.isSh = true
  case neg => rw [if_neg hc] at k1; exact k1.elim
  rw [if_pos hc] at k1
  match ts, vs, hl, hc with
  | [], _, _, hc => simp at hc; omega
  | _ :: _, [], hl, _ => simp at hl; omega
  | t0 :: ts, v0 :: vs, hl, hc =>
  obtain ⟨ds, hds⟩ := allSh hc.2
  simp only [List.tail_cons] at hds
  subst hds
  obtain ⟨S1, as, bs, hu, g1⟩ := g.up
  have hr1 : Rpl S1 ds vs := by
    obtain ⟨v', r, b, c, h3, _, _, h5⟩ := g1.rt
    cases h3
    exact h5.toRpl'.1
  have g2 := GX.start (N := N) ⟨S1, as, bs, g1⟩ (by rw [hl, hc.1])
  rw [hc.1] at g2
  refine hs W S1 (start N (v0 :: vs)) _ _ H _ g2 Pin.refl ?_
  have hst : (start N (v0 :: vs))[0]? = some (some v0) := rfl
  have fin : ∀ (t : T) (v : V) (ρ : Env) (σ : L2.St) (H' : Hp) (t1 : T), ρ[0]? = some (some t1) → Pin [0] (start N (v0 :: vs)) σ → GX W S1 ρ σ [t] [v] H' → GX W S [] [] (t :: t1 :: ds.map .sh) (v :: v0 :: vs) H' := fun t v ρ σ H' t1 e p g3 => by
    obtain ⟨v1, e1, g4⟩ := g3.take e
    have e2 := p 0 (by simp)
    rw [hst, e1] at e2
    cases e2
    have g5 := GX.rot (ts := [t1]) (vs := [v0]) g4.noEnv rfl
    obtain ⟨S2, as2, bs2, g6⟩ := g5
    exact (g6.endS (hr1.mono g6.s0)).join hu
  generalize m _ = o at k1 ⊢
  cases o with
  | bad => exact k1
  | nx ρ =>
    simp only at k1
    split at k1
    · rename_i t1 e
      exact fun σ' H' g3 p => k1.2 .non H' (fin (.sh .non) .non ρ σ' H' t1 e p (g3.pushC (S := H') (d := .non) (v := .non) rfl rfl))
    · exact k1.elim
  | rt t ρ =>
    simp only at k1
    split at k1
    · rename_i t1 e
      exact fun v σ' H' g3 p => k1.2 v H' (fin t v ρ σ' H' t1 e p g3)
    · exact k1.elim
  | bk ρ => exact k1.elim
  | ct ρ => exact k1.elim
  | ex x ρ => exact fun c d σ' H' g3 _ hx => k1 c d H' (g3.noEnv.join hu) hx
def FnGd (P : Program) (w : World) (K : PySem.W.Frag) (mg : Str → Option Value) (base : Heap) (x : Str) (k : Nat) (ps : List Str) (sp : Sp) : Prop :=
  ∃ (f : Addr) (fd : FuncData), FnG P w K mg base (L2.CX P w) k f fd ps sp ∧ mg x = some (.ref f) ∧ PySem.W.keepIn K (.ref f) = true ∧ Binds K fd ps []
theorem fnG_def {x : Str} {st : Stmt} {N ps : List Str} {k : Nat} {m : SM} (F : Dd K mg x st ps) (Sc : FnScope N ps (defScope st))
    (hbody : ∀ (f : Addr) (cdv : Value) (A : Around), A.guards = some [] → ∀ (outer : List PySem.Env) (s : Shared) (H : Hp) (E : XK), Room k (A.deeper (envOfC x (defScope st) s.heap.objs.size f cdv)) →
      ∃ t, PSs (cxOf (L2.CX P w) P w K mg base N x (defScope st) f cdv A outer s H E) (defBody st) t ∧ SS ct (fun c d _ H => E c d H) [] t m) : FnGd P w K mg base x (k + 1) ps (spM ct ps.length (mFun ps.length N.length m)) := by
  obtain ⟨f, fd, F, hm, hb⟩ := F
  exact ⟨f, fd, fn_mkG F Sc (hbody f), hm, F.kp, hb⟩
theorem fnG_defI {x : Str} {st : Stmt} {N ps : List Str} {k : Nat} {m : SM} (F : Dd K mg x st ps) (Sc : FnScope N ps (defScope st)) (hps : 0 < ps.length)
    (hbody : ∀ (f : Addr) (cdv : Value) (A : Around), A.guards = some [] → ∀ (outer : List PySem.Env) (s : Shared) (H : Hp) (E : XK), Room k (A.deeper (envOfC x (defScope st) s.heap.objs.size f cdv)) →
      ∃ t, PSs (cxOf (L2.CX P w) P w K mg base N x (defScope st) f cdv A outer s H E) (defBody st) t ∧ SS ct (fun c d _ H => E c d H) [0] t m) : FnGd P w K mg base x (k + 1) ps (spM ct ps.length (mFunI ps.length N.length m)) := by
  obtain ⟨f, fd, F, hm, hb⟩ := F
  exact ⟨f, fd, fn_mkGI F Sc hps (hbody f), hm, F.kp, hb⟩
end
section
open PySem.Spec PyProof.Rows
variable {X : Cx} {CX : CXT} {k : Nat} {f : Addr} {fd : FuncData} {ps : List Str} {sp : Sp} {E : L2.St → XK} {x : Str} {e : Expr} {es : List Expr} {p pos : Pos} {t : TA}
theorem run_fnG {pins : List (Addr × Obj)} {σ : L2.St} {H : Hp} {s : Shared} {Q : VK} {us : List Value} {vs : List V} (F : FnG X.prog X.w X.K X.mg X.base CX k f fd ps sp) (hg : X.A.guards = some []) (hl : us.length = ps.length) (hr : Room k X.A) (hb : Binds X.K fd ps []) (hx : PassesAt CX X σ (E σ))
    (I : Inv X pins σ H s) (r : Vals vs us) (h : sp vs H Q (E σ)) : wpAny (model X.prog X.w) X.A (call (.ref f) us) (EP X pins σ Q) X.xe s := by
  have b := hb s us I.kIn (by rw [List.append_nil]; exact hl)
  rw [List.append_nil] at b
  refine wpAny_call (codeAny_mono (F.run X.A hg hr X.stack s H I.env0 ⟨us, []⟩ us vs b r Q (E σ) h) fun r s' hq => ?_)
  cases r with
  | error e => exact hx pins H s e s' I hq
  | ok fl =>
    cases fl with
    | ret u => exact I.after hq
    | next => exact False.elim hq
    | brk => exact False.elim hq
    | cont => exact False.elim hq
theorem pe_callSG (F : FnG X.prog X.w X.K X.mg X.base CX k f fd ps sp) (hgd : X.A.guards = some []) (hl : ∀ vs H Q E, sp vs H Q E → vs.length = ps.length) (hr : Room k X.A) (hg : Gl X x) (hm : X.mg x = some (.ref f)) (hk : PySem.W.keepIn X.K (.ref f) = true) (hb : Binds X.K fd ps []) (hx : ∀ σ, PassesAt CX X σ (E σ))
    (ha : PA X (e :: es) t) (hdb : (x == ("__debug__" : Str)) = false := by decide) (he : starEach (e :: es) X.env = (false, eval e X.env) :: starEach es X.env := by rfl) (hpl : (backTo pos (starEach es X.env)).any (·.1) = false := by rfl) :
    PE X (.Call (.Name x p) (e :: es) [] pos) (tCallS sp E t) := by
  refine ⟨fun pins s σ H Q I h => ?_⟩
  refine wpAny_Call_Name_kw (ld_glob I hg hm ?_ hdb)
  refine PySem.W.callWith_K (h₀ := X.base) I.ok.mod.kin hk (thn (ha.run pos pins s σ H _ I h) fun us s1 ⟨vs, H1, I1, r, q⟩ => ⟨I1.kIn, ?_⟩) he hpl
  exact run_fnG F hgd (by show us.length = _; rw [← r.length]; exact hl _ _ _ _ q) hr hb (hx σ) I1 r q
end
end
end Z

namespace Z
noncomputable section
open PySem L2
variable {ct : CT} {Wx : XW} {W S0 S H H' : Hp} {ρ : Env} {σ σ0 : St} {t u : T} {ts us tm : List T} {v w : V} {vs ws vm : List V} {as bs : List Addr} {i : Nat} {d : D} {pin : List Nat} {D0 : Ends}
/-- x[:hi], hi with effects -/
def eSlT (a hi : EM) : EM := fun ρ => (a ρ).bnd fun t ρ => (hi ρ).bnd fun u ρ => optO (t.els.bind fun ds => u.d.intO.bind fun k => some (.ol (cutD ds none (some k)))) ρ
@[simp ↓] theorem eSlT_run (a hi : EM) (ρ : Env) : eSlT a hi ρ = ((a ρ).bnd fun t ρ => (hi ρ).bnd fun u ρ => optO (t.els.bind fun ds => u.d.intO.bind fun k => some (.ol (cutD ds none (some k)))) ρ) := rfl
theorem se_slT {K : PySem.W.Frag} {ta tl : TE} {a hi : EM} (ha : SE ct Wx ta a) (hl : SE ct Wx tl hi) : SE ct Wx (tSl (rSlL K) ta tNoPart (tPart tl)) (eSlT a hi) := fun W S0 ρ σ tm vm H Q g k => by
  refine ha W S0 ρ σ tm vm H _ g ((Out.P_bnd.mp k).mono (fun t ρ1 k1 v H1 g1 => ?_) fun _ _ h => h)
  refine hl W S0 ρ1 σ (t :: tm) (v :: vm) H1 _ g1 ((Out.P_bnd.mp k1).mono (fun u ρ2 k2 w H2 g2 => ?_) fun _ _ h => XE.pop (ts := [t]) (vs := [v]) h rfl)
  obtain ⟨z, e, k⟩ := P_opt k2
  obtain ⟨ts, e2, e⟩ := some_bind e
  obtain ⟨i, e3, e⟩ := some_bind e
  cases e
  have q := g2.tmp
  rw [intO_int e3] at q
  cases q
  refine ⟨i, rfl, ?_⟩
  obtain ⟨p, xs, rfl, h1, h2, g3⟩ := g2.pop1.els e2
  refine ⟨p, xs, rfl, .of h1, fun q hq => k _ _ ?_⟩
  have g4 := g3.sub (us := cutD ts none (some i)) (ws := cutV xs none (some i)) h2 fun S H b hb => hb.cut
  exact g4.newL (by unfold cutD cutV; simp [h2]) hq
end
end Z

namespace Cl
noncomputable section
open PySem L2 Z
def b_law_pool_1 : SM := (mSeq (mAppG 1 (eP (pOp oMod (pCB (o1 oInt) (aCons (pV 3) aNil)) (pC (.int 60))))) (mSeq (mSet 3 (eP (pCB (o1 oInt) (aCons (pOp oDiv (pV 3) (pC (.int 60))) aNil)))) (mIf (eT (pB (pOp oEq (pV 3) (pC (.int 0))))) mBk mNil)))
def b_law_pool_2 : SM := (mSeq (mSet 3 (eP (pCB (o1 oInt) (aCons (pV 2) aNil)))) (mIf (eT (pB (pOp oGe (pV 3) (pOp oPow (pC (.int 10)) (pC (.int 18)))))) (mFor (iR1 (eCons (eP (pC (.int 60))) eNil)) (bName 4) b_law_pool_1) (mSet 1 (eOp eAddT (eV 1) (eLst (eCons (eP (pOp oMod (pCB (o1 oInt) (aCons (pV 3) aNil)) (pC (.int 60)))) (eCons (eP (pOp oMod (pCB (o1 oInt) (aCons (pOp oDiv (pV 3) (pC (.int 60))) aNil)) (pC (.int 60)))) eNil)))))))
def b_law_pool_3 : SM := (mSet 5 (eP (pOp oMod (pOp oAdd (pOp oMul (pV 5) (pC (.int 31))) (pCB (o1 oInt) (aCons (pV 2) aNil))) (pC (.int 2147483647)))))
def b_law_pool_4 : SM := (mSeq (mSet 5 (eP (pOp oMod (pOp oAdd (pOp oMul (pV 5) (pC (.int 48271))) (pC (.int 11))) (pC (.int 2147483647))))) (mAppG 1 (eP (pOp oMod (pCB (o1 oInt) (aCons (pOp oDiv (pV 5) (pC (.int 97))) aNil)) (pC (.int 60))))))
def m_law_pool (ns : List Int) : SM := (mSeq (mSet 1 (eLst eNil)) (mSeq (mForS ns (bName 2) b_law_pool_2) (mSeq (mSet 5 (eP (pC (.int 17)))) (mSeq (mForS ns (bName 2) b_law_pool_3) (mSeq (mFor (iR1 (eCons (eP (pC (.int 300))) eNil)) (bName 4) b_law_pool_4) (mRet (eM 1)))))))
def F_law_pool : List Int → FOut := mFunS 6 m_law_pool
def m_law_stream (ns : List Int) : SM := mRet (eOp eAddT (eLst (eCons (eP (pC (.int 1))) eNil)) (eCallS F_law_pool ns))
def F_law_stream : List Int → FOut := mFunS 1 m_law_stream
def m_law_pick : SM := (mSeq (mSet 2 (eGet (vIx (vV 0) (pC (.int 0))))) (mSeq (mStore 0 (eP (pOp oAdd (pV 2) (pC (.int 1)))) (pC (.int 0))) (mSeq (mIf (eT (pB (pOp oEq (pOp oIx (pV 0) (pC (.int 0))) (pCB (o1 oLen) (aCons (pV 0) aNil))))) (mStore 0 (eP (pC (.int 1))) (pC (.int 0))) mNil) (mRet (eP (pOp oMod (pCB (o1 oInt) (aCons (pOp oIx (pV 0) (pV 2)) aNil)) (pV 1)))))))
def F_law_pick : FM := mFunI 2 3 m_law_pick
def b_law_turning_1 : SM := (mSeq (mSet 5 (eCallI 2 0 F_law_pick (eCons (eP (pCB (o1 oLen) (aCons (pV 2) aNil))) eNil))) (mSeq (mAppG 3 (eGet (vIx (vV 2) (pV 5)))) (mSet 2 (eOp eAddT (eSl (vV 2) oNo (oYes (pV 5))) (eSl (vV 2) (oYes (pOp oAdd (pV 5) (pC (.int 1)))) oNo)))))
def m_law_turning : SM := (mSeq (mPar 2 3 (eCons (eRg1 (pV 1)) (eCons (eLst eNil) eNil))) (mSeq (mFor (iR1 (eCons (eV 1) eNil)) (bName 4) b_law_turning_1) (mRet (eM 3))))
def F_law_turning : FM := mFunI 2 6 m_law_turning
/-! ### the pool -/
def Pool (t : T) : Prop := ∃ (c : Int) (r : List Int), t = T.ints (c :: r) ∧ 1 ≤ c ∧ c ≤ r.length ∧ (∀ x ∈ r, 0 ≤ x ∧ x < 60) ∧ r.length ≤ 10000
theorem pick_ok {t : T} {m : Int} (hp : Pool t) (hm : 1 ≤ m) : ∃ t' x, Pool t' ∧ 0 ≤ x ∧ x < m ∧ x < 60 ∧ F_law_pick [t, si m] = .ok (si x) [t', si m] := by
  obtain ⟨c, r, rfl, h1, h2, h3, h4⟩ := hp
  let c' : Int := if c + 1 = (r.length : Int) + 1 then 1 else c + 1
  have hx : ∃ x, (c' :: r).getD c.toNat 0 = x ∧ 0 ≤ x ∧ x < 60 := by
    refine ⟨_, rfl, ?_⟩
    obtain ⟨k, hk⟩ : ∃ k, c.toNat = k + 1 := ⟨c.toNat - 1, by omega⟩
    rw [hk, List.getD_cons_succ]
    have : k < r.length := by omega
    rw [List.getD_eq_getElem?_getD, List.getElem?_eq_getElem this]
    exact h3 _ (List.getElem_mem this)
  obtain ⟨x, ex, hx0, hx1⟩ := hx
  have ea : atI ((c' :: r).map D.int) c = some (.int x) := by rw [atI_D _ (by omega) (by simp; omega), ex]
  refine ⟨T.ints (c' :: r), x % m, ⟨c', r, rfl, ?_, ?_, h3, h4⟩, Int.emod_nonneg _ (by omega), Int.emod_lt_of_pos _ (by omega), ?_, ?_⟩
  · show 1 ≤ if c + 1 = (r.length : Int) + 1 then 1 else c + 1
    split <;> omega
  · show (if c + 1 = (r.length : Int) + 1 then 1 else c + 1) ≤ (r.length : Int)
    split <;> omega
  · have h5 : x % m ≤ x := by
      by_cases q : x < m
      · rw [Int.emod_eq_of_lt hx0 q]; exact Int.le_refl _
      · have := Int.emod_lt_of_pos x (show 0 < m by omega); omega
    omega
  · by_cases hc : c + 1 = (r.length : Int) + 1
    · have e' : c' = 1 := if_pos hc
      rw [e'] at ea ⊢
      simp at ea
      simp [F_law_pick, m_law_pick, hc, ea, mod_int (show 0 < m by omega)]
    · have e' : c' = c + 1 := if_neg hc
      rw [e'] at ea ⊢
      simp at ea
      simp [F_law_pick, m_law_pick, hc, ea, mod_int (show 0 < m by omega)]
theorem inR60 : InR 60 := InR.of (by decide) (by decide)
theorem inR300 : InR 300 := InR.of (by decide) (by decide)
theorem pow18 : oPow (.int 10) (.int 18) = some (.int 1000000000000000000) := pow_int ⟨by decide, by decide, by decide⟩
theorem mod60 (x : Int) : 0 ≤ x % 60 ∧ x % 60 < 60 := ⟨Int.emod_nonneg _ (by decide), Int.emod_lt_of_pos _ (by decide)⟩
def Small (P : List Int) : Prop := ∀ x ∈ P, 0 ≤ x ∧ x < 60
theorem Small.app {P : List Int} {x : Int} (h : Small P) (hx : 0 ≤ x ∧ x < 60) : Small (P ++ [x]) := fun y hy => by
  rcases List.mem_append.mp hy with h1 | h1
  · exact h y h1
  · rw [List.mem_singleton.mp h1]; exact hx
theorem pool_ok (ns : List Int) (hn : ns.length ≤ 63) : ∃ P, Small P ∧ 300 ≤ P.length ∧ P.length ≤ 5000 ∧ F_law_pool ns = .ok (T.ints P) [] := by
  have md : ∀ x : Int, oMod (.int x) (.int 60) = some (.int (x % 60)) := fun x => mod_int (by decide)
  have dv : ∀ x : Int, oDiv (.int x) (.int 60) = some (.int (x / 60)) := fun x => div_int (by decide) (by decide)
  obtain ⟨ρ1, e1, P1, j2, j3, j4, rfl, s1, l1⟩ : ∃ ρ', forL (bName 2) b_law_pool_2 (ns.map ig) [none, some (.ol []), none, none, none, none] = .nx ρ' ∧ ∃ P j2 j3 j4, ρ' = [none, some (.ol (P.map ig)), j2, j3, j4, none] ∧ Small P ∧ P.length ≤ 60 * ns.length := by
    refine (forN_inv (fun k ρ => ∃ P j2 j3 j4, ρ = [none, some (.ol (P.map ig)), j2, j3, j4, none] ∧ Small P ∧ P.length ≤ 60 * k) ⟨[], none, none, none, rfl, fun _ h => (nomatch h), by simp⟩ ?_).imp fun ρ' h => ⟨h.1, by simpa using h.2⟩
    rintro k t ρ e ⟨P, j2, j3, j4, rfl, hs, hl⟩
    rw [List.getElem?_map] at e
    obtain ⟨c, ec, rfl⟩ := Option.map_eq_some_iff.mp e
    have hk : k < ns.length := (List.getElem?_eq_some_iff.mp ec).1
    by_cases hc : 1000000000000000000 ≤ c
    · obtain ⟨ρ2, e2, P2, x3, x4, rfl, hs2, hl2⟩ : ∃ ρ', forL (bName 4) b_law_pool_1 (rangeT 0 60) [none, some (.ol (P.map ig)), some (si c), some (si c), j4, none] = .nx ρ' ∧ ∃ P2 x3 x4, ρ' = [none, some (.ol (P2.map ig)), some (si c), x3, x4, none] ∧ Small P2 ∧ P2.length ≤ 60 * (k + 1) := by
        refine forL_brk (fun j ρ => ∃ P2 y x4, ρ = [none, some (.ol (P2.map ig)), some (si c), some (si y), x4, none] ∧ Small P2 ∧ P2.length ≤ 60 * k + j) (fun ρ' => ∃ P2 x3 x4, ρ' = [none, some (.ol (P2.map ig)), some (si c), x3, x4, none] ∧ Small P2 ∧ P2.length ≤ 60 * (k + 1)) ⟨P, c, j4, rfl, hs, hl⟩ ?_ ?_
        · rintro j t ρ e ⟨P2, y, x4, rfl, hs2, hl2⟩
          obtain ⟨hj, rfl⟩ := rangeT_get e
          have hz : P2.length < lim := by unfold lim; omega
          by_cases hy : y / 60 = 0
          · refine ⟨_, [none, some (.ol ((P2 ++ [y % 60]).map ig)), some (si c), some (si (y / 60)), some (si (0 + j)), none], rfl, .inr ⟨?_, P2 ++ [y % 60], _, _, rfl, hs2.app (mod60 _), by simp; omega⟩⟩
            simp [b_law_pool_1, md, dv, hy, hz]
          · refine ⟨_, [none, some (.ol ((P2 ++ [y % 60]).map ig)), some (si c), some (si (y / 60)), some (si (0 + j)), none], rfl, .inl ⟨.inl ?_, P2 ++ [y % 60], _, _, rfl, hs2.app (mod60 _), by simp; omega⟩⟩
            simp [b_law_pool_1, md, dv, hy, hz]
        · rintro ρ ⟨P2, y, x4, rfl, hs2, hl2⟩
          rw [rangeT_len] at hl2
          exact ⟨P2, _, _, rfl, hs2, by omega⟩
      refine ⟨_, .inl ?_, P2, some (si c), x3, x4, rfl, hs2, hl2⟩
      simp [b_law_pool_2, pow18, hc, inR60, -rangeT_iota, e2]
    · refine ⟨_, .inl ?_, P ++ [c % 60, c / 60 % 60], some (si c), some (si c), j4, rfl, ?_, by simp; omega⟩
      · have hz : P.length + 2 ≤ lim := by unfold lim; omega
        have ha := addT_lst (t := .sh (.lst (P.map .int))) (u := .ol [si (c % 60), si (c / 60 % 60)]) (els_sh _) (els_ol _) (by simpa using hz)
        simp at ha
        simp [b_law_pool_2, pow18, hc, md, dv, ha]
      · have := (hs.app (mod60 c)).app (mod60 (c / 60))
        simpa using this
  obtain ⟨ρ2, e2, s, j2', rfl⟩ : ∃ ρ', forL (bName 2) b_law_pool_3 (ns.map ig) [none, some (.ol (P1.map ig)), j2, j3, j4, some (si 17)] = .nx ρ' ∧ ∃ s j2', ρ' = [none, some (.ol (P1.map ig)), j2', j3, j4, some (si s)] := by
    refine forN_inv (fun k ρ => ∃ s j2', ρ = [none, some (.ol (P1.map ig)), j2', j3, j4, some (si s)]) ⟨17, j2, rfl⟩ ?_
    rintro k t ρ e ⟨s, j2', rfl⟩
    rw [List.getElem?_map] at e
    obtain ⟨c, ec, rfl⟩ := Option.map_eq_some_iff.mp e
    refine ⟨_, .inl ?_, (s * 31 + c) % 2147483647, some (si c), rfl⟩
    simp [b_law_pool_3, mul_int (small_r (i := s) (j := 31) ⟨by decide, by decide⟩), mod_int (i := s * 31 + c) (j := 2147483647) (by decide)]
  obtain ⟨ρ3, e3, P3, s', j4', rfl, s3, l3⟩ : ∃ ρ', forL (bName 4) b_law_pool_4 (rangeT 0 300) [none, some (.ol (P1.map ig)), j2', j3, j4, some (si s)] = .nx ρ' ∧ ∃ P3 s' j4', ρ' = [none, some (.ol (P3.map ig)), j2', j3, j4', some (si s')] ∧ Small P3 ∧ P3.length = P1.length + 300 := by
    refine (forN_inv (fun k ρ => ∃ P3 s' j4', ρ = [none, some (.ol (P3.map ig)), j2', j3, j4', some (si s')] ∧ Small P3 ∧ P3.length = P1.length + k) ⟨P1, s, j4, rfl, s1, rfl⟩ ?_).imp fun ρ' h => ⟨h.1, by simpa [rangeT_len] using h.2⟩
    rintro k t ρ e ⟨P3, s', j4', rfl, s3, l3⟩
    obtain ⟨hk, rfl⟩ := rangeT_get e
    have hz : P3.length < lim := by unfold lim; omega
    refine ⟨_, .inl ?_, P3 ++ [(s' * 48271 + 11) % 2147483647 / 97 % 60], (s' * 48271 + 11) % 2147483647, some (si (0 + k)), rfl, s3.app (mod60 _), by simp; omega⟩
    simp [b_law_pool_4, mul_int (small_r (i := s') (j := 48271) ⟨by decide, by decide⟩), mod_int (i := s' * 48271 + 11) (j := 2147483647) (by decide), md, div_int (i := (s' * 48271 + 11) % 2147483647) (j := 97) (by decide) (by decide), hz]
  refine ⟨P3, s3, by omega, by omega, ?_⟩
  show (match m_law_pool ns (List.replicate 6 none) with | .rt t _ => FOut.ok t [] | _ => .bad) = _
  simp only [m_law_pool]
  have ens : (ns.map fun i => T.sh (.int i)) = ns.map ig := rfl
  simp [ens, e1, e2, inR300, -rangeT_iota, e3]
theorem stream_ok (ns : List Int) (hn : ns.length ≤ 63) : ∃ t, Pool t ∧ F_law_stream ns = .ok t [] := by
  obtain ⟨P, h1, h2, h3, e⟩ := pool_ok ns hn
  refine ⟨T.ints (1 :: P), ⟨1, P, rfl, by omega, by omega, h1, by omega⟩, ?_⟩
  show (match m_law_stream ns (List.replicate 1 none) with | .rt t _ => FOut.ok t [] | _ => .bad) = _
  have ha := addT_lst (t := .ol [si 1]) (u := T.ints P) (els_ol _) (els_ol _) (by simp; unfold lim; omega)
  simp at ha
  simp [m_law_stream, e, ha]
end
end Cl

namespace Cl
noncomputable section
open PySem L2 Z
/-! ### drawn turnings -/
def Turn (n : Nat) (p : List Int) : Prop := p.Perm (iota n)
theorem Turn.len {n : Nat} {p : List Int} (h : Turn n p) : p.length = n := by have := List.Perm.length_eq h; simpa using this
theorem Turn.mem {n : Nat} {p : List Int} (h : Turn n p) {x : Int} : x ∈ p ↔ 0 ≤ x ∧ x < n := by rw [List.Perm.mem_iff h, mem_iota]
theorem Turn.at {n : Nat} {p : List Int} (h : Turn n p) {k : Nat} (hk : k < n) : 0 ≤ p.getD k 0 ∧ p.getD k 0 < n := by
  have hl := h.len
  have : p.getD k 0 ∈ p := by
    rw [List.getD_eq_getElem?_getD, List.getElem?_eq_getElem (by omega)]
    exact List.getElem_mem _
  exact h.mem.mp this
theorem take_drop_perm {l : List Int} {a : Nat} (h : a < l.length) (f : List Int) : ((f ++ [l.getD a 0]) ++ (l.take a ++ l.drop (a + 1))).Perm (f ++ l) := by
  have e : l = l.take a ++ l.getD a 0 :: l.drop (a + 1) := by
    rw [List.getD_eq_getElem?_getD, List.getElem?_eq_getElem h]
    simp
  rw [List.append_assoc]
  refine List.Perm.append_left f ?_
  conv => rhs; rw [e]
  rw [List.singleton_append]
  exact List.perm_middle.symm
theorem turning_loop {t : T} {n : Nat} (hp : Pool t) (hn : n ≤ 1000) : ∃ ρ', forL (bName 4) b_law_turning_1 (rangeT 0 n) [some t, some (si n), some (T.ints (iota n)), some (T.ints []), none, none] = .nx ρ' ∧
      ∃ P fnd jx ja, ρ' = [some P, some (si n), some (T.ints []), some (T.ints fnd), jx, ja] ∧ Pool P ∧ fnd.Perm (iota n) ∧ fnd.length = n := by
    refine (forN_inv (fun k ρ => ∃ P lft fnd jx ja, ρ = [some P, some (si n), some (T.ints lft), some (T.ints fnd), jx, ja] ∧ Pool P ∧ (fnd ++ lft).Perm (iota n) ∧ lft.length + k = n ∧ fnd.length = k) ⟨t, iota n, [], none, none, rfl, hp, List.Perm.refl _, by simp, rfl⟩ ?_).imp fun ρ' h => ⟨h.1, ?_⟩
    · rintro k t ρ e ⟨P, lft, fnd, jx, ja, rfl, hP, hpm, hl, hf⟩
      obtain ⟨hk, rfl⟩ := rangeT_get e
      obtain ⟨P', x, hP', hx0, hx1, hx2, e2⟩ := pick_ok (m := (lft.length : Int)) hP (by omega)
      have hx : x.toNat < lft.length := by omega
      refine ⟨_, .inl ?_, P', lft.take x.toNat ++ lft.drop (x.toNat + 1), fnd ++ [lft.getD x.toNat 0], some (si (0 + k)), some (si x), rfl, hP', (take_drop_perm hx fnd).trans hpm, by simp; omega, by simp; omega⟩
      have ha := addT_lst (t := T.ints (lft.take x.toNat)) (u := T.ints (lft.drop (x.toNat + 1))) (els_ol _) (els_ol _) (by simp [lim]; omega)
      have hz : fnd.length < lim := by unfold lim; omega
      have h4 : (x + 1).toNat = x.toNat + 1 := by omega
      simp at ha
      simp [b_law_turning_1, e2, atI_T lft hx0 hx1, cut_to lft hx0 (by omega), cut_from lft (i := x + 1) (by omega) (by omega), h4, ha, hz]
    · obtain ⟨P, lft, fnd, jx, ja, rfl, hP, hpm, hl, hf⟩ := h.2
      rw [rangeT_len] at hl hf
      have : lft = [] := List.length_eq_zero_iff.mp (by omega)
      subst this
      exact ⟨P, fnd, jx, ja, rfl, hP, by simpa using hpm, hf⟩
theorem turning_ok {t : T} {n : Nat} (hp : Pool t) (hn : n ≤ 1000) : ∃ t' p, Pool t' ∧ Turn n p ∧ F_law_turning [t, si n] = .ok (T.ints p) [t', si n] := by
  obtain ⟨ρ', e1, P, fnd, jx, ja, rfl, hP, hpm, hl⟩ := turning_loop hp hn
  refine ⟨P, fnd, hP, hpm, ?_⟩
  have hr : rgOk 0 (n : Int) = true := rgOk_of (by omega) (by omega) (by omega) (by omega)
  have hb : InR (n : Int) := InR.of (by omega) (by omega)
  simp at e1
  simp [F_law_turning, m_law_turning, hr, hb, e1]
end
end Cl

namespace Cl
noncomputable section
open PySem L2 Z
theorem inR_nat {n : Nat} (h : n ≤ 1000000) : InR (n : Int) := InR.of (by omega) (by omega)
theorem getD_set {l : List Int} {i j : Nat} {v : Int} (h : i < l.length) : (l.set i v).getD j 0 = if i = j then v else l.getD j 0 := by
  rw [List.getD_eq_getElem?_getD, List.getD_eq_getElem?_getD, List.getElem?_set]
  by_cases e : i = j
  · subst e; rw [if_pos rfl, if_pos h, if_pos rfl]; rfl
  · rw [if_neg e, if_neg e]
theorem getD_at {l : List Int} {i : Nat} (h : i < l.length) : l.getD i 0 = l[i] := by
  rw [List.getD_eq_getElem?_getD, List.getElem?_eq_getElem h]; rfl
theorem Turn.nodup {n : Nat} {p : List Int} (h : Turn n p) : p.Nodup := by
  rw [List.Perm.nodup_iff h]
  unfold iota
  rw [List.nodup_iff_pairwise_ne, List.pairwise_map]
  exact List.Pairwise.imp (fun {a b} h e => h (by omega)) (List.nodup_range (n := n))
/-- what stands at the places of a row -/
def via (p f : List Int) : List Int := p.map fun x => f.getD x.toNat 0
@[simp] theorem via_len (p f : List Int) : (via p f).length = p.length := by simp [via]
theorem via_get {p f : List Int} {i : Nat} (h : i < p.length) : (via p f).getD i 0 = f.getD (p.getD i 0).toNat 0 := by
  rw [getD_at (by simpa using h), getD_at h]
  simp [via]
theorem via_set {n : Nat} {p f : List Int} (hp : Turn n p) (hf : f.length = n) {i : Nat} (hi : i < n) (v : Int) : via p (f.set (p.getD i 0).toNat v) = (via p f).set i v := by
  have hl := hp.len
  apply List.ext_getElem
  · simp
  · intro j h1 h2
    simp only [via_len] at h1
    have hi' := hp.at hi
    have hj' := hp.at (show j < n by omega)
    have e1 := getD_at (l := via p (f.set (p.getD i 0).toNat v)) (i := j) (by simpa using h1)
    rw [← e1, via_get h1, getD_set (by omega)]
    rw [List.getElem_set]
    by_cases e : i = j
    · subst e; simp
    · have : (p.getD i 0).toNat ≠ (p.getD j 0).toNat := by
        intro q
        have hnd := hp.nodup
        have hpi : p.getD i 0 = p[i] := getD_at (show i < p.length by omega)
        have hpj : p.getD j 0 = p[j] := getD_at h1
        rw [hpi] at hi' q
        rw [hpj] at hj' q
        have q2 : p[i] = p[j] := by omega
        have hpw := List.pairwise_iff_getElem.mp hnd
        rcases Nat.lt_or_gt_of_ne e with c | c
        · exact hpw i j (by omega) h1 c q2
        · exact hpw j i h1 (by omega) c q2.symm
      rw [if_neg this, if_neg e, ← via_get h1, getD_at (by simpa using h1)]
theorem perm_of_via {n : Nat} {p f R : List Int} (hp : Turn n p) (hf : f.length = n) (e : via p f = R) (hR : R.Perm p) : Turn n f := by
  have h1 : via (iota n) f = f := by
    apply List.ext_getElem
    · simp [hf]
    · intro j h1 h2
      have e1 := getD_at (l := via (iota n) f) (i := j) h1
      rw [← e1, via_get (by simpa using h1), iota_getD n j (by simpa using h1)]
      rw [Int.toNat_natCast]
      exact getD_at h2
  have h2 : (via p f).Perm (via (iota n) f) := List.Perm.map _ hp
  rw [h1, e] at h2
  exact h2.symm.trans (hR.trans hp)
/-- a block turned on by one -/
theorem block_perm {R B Q : List Int} {p : List Int} (h : (R ++ B ++ Q).Perm p) : (R ++ (B.drop 1 ++ B.take 1) ++ Q).Perm p := by
  refine List.Perm.trans ?_ h
  refine List.Perm.append_right Q (List.Perm.append_left R ?_)
  have := List.perm_append_comm (l₁ := B.drop 1) (l₂ := B.take 1)
  rwa [List.take_append_drop] at this
theorem drop_split {p : List Int} {a s : Nat} : p.drop a = (p.drop a).take s ++ p.drop (a + s) := by
  have := List.take_append_drop s (p.drop a)
  rw [List.drop_drop] at this
  exact this.symm
end
end Cl

namespace Cl
noncomputable section
open PySem L2 Z
theorem lc_copy {i : Nat} {p : List Int} (hp : p.length ≤ 1000) {elt : EM} (he : elt = eV i) {ρ : Z.Env} (hl : i < ρ.length) (h : ρ[i]? = some none) : lcL [i] (bName i) tAll elt (p.map ig) [] ρ = .ok (p.map ig) ρ := by
  have := lcL_ints (slots := [i]) (b := bName i) (elt := elt) (ρ := ρ) (fun x => x) (p := p) (fun x hx => ⟨ρ.set i (some (si x)), ρ.set i (some (si x)), rfl, by subst he; simp [hl], by
    show (ρ.set i (some (si x))).set i none = ρ
    rw [List.set_set, set_self h]⟩) (by unfold lim; omega)
  simpa using this
end
end Cl

namespace Cl
noncomputable section
open PySem L2 Z
def m_law_places : SM := (mRet (eOp ixT (eLst (eCons (eP (pC (.int 0))) (eCons (eP (pC (.int 1))) (eCons (eP (pC (.int 2))) (eCons (eP (pC (.int 23))) (eCons (eP (pC (.int 24))) (eCons (eOp eAddT (eP (pC (.int 3))) (eCallI 2 0 F_law_pick (eCons (eP (pC (.int 5))) eNil))) (eCons (eCallI 2 0 F_law_pick (eCons (eP (pC (.int 25))) eNil)) (eCons (eCallI 2 0 F_law_pick (eCons (eP (pC (.int 25))) eNil)) eNil))))))))) (eCallI 2 0 F_law_pick (eCons (eP (pC (.int 8))) eNil))))
def F_law_places : FM := mFunI 1 1 m_law_places
def b_law_lengths_1 : SM := (mIf (eT (pB (pOp oGt (pV 5) (pC (.int 0))))) (mSeq (mSet 8 (eP (pOp oIx (pLst (aCons (pV 3) (aCons (pV 5) (aCons (pOp oIx (pLst (aCons (pC (.int 3)) (aCons (pC (.int 8)) (aCons (pC (.int 5)) (aCons (pC (.int 7)) (aCons (pC (.int 2)) (aCons (pC (.int 11)) (aCons (pC (.int 4)) (aCons (pC (.int 9)) aNil))))))))) (pOp oMod (pCB (o1 oInt) (aCons (pOp oAdd (pV 4) (pV 7)) aNil)) (pC (.int 8)))) (aCons (pC (.int 0)) (aCons (pC (.int 0)) aNil)))))) (pV 2)))) (mSeq (mIf (eT (pB (pOp oGt (pV 2) (pC (.int 2))))) (mSet 8 (eOp eAddT (eP (pC (.int 1))) (eCallI 2 0 F_law_pick (eCons (eP (pOp oIx (pLst (aCons (pV 5) (aCons (pCB (o2 oMin2) (aCons (pV 5) (aCons (pC (.int 3)) aNil))) aNil))) (pOp oSub (pV 2) (pC (.int 3))))) eNil)))) mNil) (mSeq (mAppG 6 (eP (pCB (o2 oMin2) (aCons (pV 8) (aCons (pV 5) aNil))))) (mSet 5 (eP (pOp oSub (pV 5) (pOp oIx (pV 6) (pUn oNeg (pC (.int 1)))))))))) mNil)
def m_law_lengths : SM := (mSeq (mPar3 2 3 4 (eCons (eCallI 2 0 F_law_pick (eCons (eP (pC (.int 5))) eNil)) (eCons (eOp eAddT (eP (pC (.int 1))) (eCallI 2 0 F_law_pick (eCons (eP (pCB (o2 oMax2) (aCons (pC (.int 1)) (aCons (pV 1) aNil)))) eNil))) (eCons (eOp (oS oMul) (eCallI 2 0 F_law_pick (eCons (eP (pC (.int 8))) eNil)) (eCallI 2 0 F_law_pick (eCons (eP (pC (.int 2))) eNil))) eNil)))) (mSeq (mPar 5 6 (eCons (eV 1) (eCons (eLst eNil) eNil))) (mSeq (mFor (iR1 (eCons (eV 1) eNil)) (bName 7) b_law_lengths_1) (mRet (eM 6)))))
def F_law_lengths : FM := mFunI 2 9 m_law_lengths
def b_law_shaped_1 : SM := (mStore 3 (eGet (vIx (vV 2) (pOp oAdd (pV 4) (pOp oMod (pCB (o1 oInt) (aCons (pOp oAdd (pV 6) (pC (.int 1))) aNil)) (pV 5))))) (pOp oIx (pV 2) (pOp oAdd (pV 4) (pV 6))))
def b_law_shaped_2 : SM := (mSeq (mFor (iR1 (eCons (eV 5) eNil)) (bName 6) b_law_shaped_1) (mSet 4 (eP (pOp oAdd (pV 4) (pV 5)))))
def m_law_shaped : SM := (mSeq (mPar3 2 3 4 (eCons (eCallI 2 0 F_law_turning (eCons (eV 1) eNil)) (eCons (eRg1 (pV 1)) (eCons (eP (pC (.int 0))) eNil)))) (mSeq (mFor (iE (eCallI 2 0 F_law_lengths (eCons (eV 1) eNil))) (bName 5) b_law_shaped_2) (mRet (eM 3))))
def F_law_shaped : FM := mFunI 2 7 m_law_shaped
def m_law_any : SM := (mSeq (mIf (eB (eOp (oS oEq) (eCallI 2 0 F_law_pick (eCons (eP (pC (.int 3))) eNil)) (eP (pC (.int 0))))) (mRet (eCallI 2 0 F_law_turning (eCons (eV 1) eNil))) mNil) (mRet (eCallI 2 0 F_law_shaped (eCons (eV 1) eNil))))
def F_law_any : FM := mFunI 2 2 m_law_any
theorem places_ok {t : T} (hp : Pool t) : ∃ t' n, Pool t' ∧ n ≤ 24 ∧ F_law_places [t] = .ok (si ((n : Nat) : Int)) [t'] := by
  obtain ⟨t1, x1, h1, a1, b1, c1, e1⟩ := pick_ok (m := 5) hp (by decide)
  obtain ⟨t2, x2, h2, a2, b2, c2, e2⟩ := pick_ok (m := 25) h1 (by decide)
  obtain ⟨t3, x3, h3, a3, b3, c3, e3⟩ := pick_ok (m := 25) h2 (by decide)
  obtain ⟨t4, x4, h4, a4, b4, c4, e4⟩ := pick_ok (m := 8) h3 (by decide)
  have hl : ∃ y : Int, atI [si 0, si 1, si 2, si 23, si 24, si (3 + x1), si x2, si x3] x4 = some (si y) ∧ 0 ≤ y ∧ y ≤ 24 := by
    have : [si 0, si 1, si 2, si 23, si 24, si (3 + x1), si x2, si x3] = [0, 1, 2, 23, 24, 3 + x1, x2, x3].map ig := rfl
    rw [this, atI_T _ a4 (by simpa using b4)]
    refine ⟨_, rfl, ?_⟩
    have h8 : x4 = 0 ∨ x4 = 1 ∨ x4 = 2 ∨ x4 = 3 ∨ x4 = 4 ∨ x4 = 5 ∨ x4 = 6 ∨ x4 = 7 := by omega
    rcases h8 with h | h | h | h | h | h | h | h <;> subst h <;> simp <;> omega
  obtain ⟨y, ey, hy0, hy1⟩ := hl
  refine ⟨t4, y.toNat, h4, by omega, ?_⟩
  have hy : ((y.toNat : Nat) : Int) = y := by omega
  rw [hy]
  simp [F_law_places, m_law_places, e1, e2, e3, e4, ey]
end
end Cl

namespace Cl
noncomputable section
open PySem L2 Z
theorem lit8 {y : Int} (h0 : 0 ≤ y) (h1 : y < 8) : ∃ s : Int, atI ([3, 8, 5, 7, 2, 11, 4, 9].map D.int) y = some (.int s) ∧ 1 ≤ s := by
  rw [atI_D _ h0 (by simpa using h1)]
  refine ⟨_, rfl, ?_⟩
  have h8 : y = 0 ∨ y = 1 ∨ y = 2 ∨ y = 3 ∨ y = 4 ∨ y = 5 ∨ y = 6 ∨ y = 7 := by omega
  rcases h8 with h | h | h | h | h | h | h | h <;> subst h <;> simp
theorem lit5 {a b c d e y : Int} (h0 : 0 ≤ y) (h1 : y < 5) (ha : 1 ≤ a) (hb : 1 ≤ b) (hc : 1 ≤ c) : ∃ s : Int, atI ([a, b, c, d, e].map D.int) y = some (.int s) ∧ (y < 3 → 1 ≤ s) := by
  rw [atI_D _ h0 (by simpa using h1)]
  refine ⟨_, rfl, ?_⟩
  have h8 : y = 0 ∨ y = 1 ∨ y = 2 ∨ y = 3 ∨ y = 4 := by omega
  rcases h8 with h | h | h | h | h <;> subst h <;> simp <;> omega
theorem lit2 {a b y : Int} (h0 : 0 ≤ y) (h1 : y < 2) (ha : 1 ≤ a) (hb : 1 ≤ b) : ∃ s : Int, atI ([a, b].map D.int) y = some (.int s) ∧ 1 ≤ s := by
  rw [atI_D _ h0 (by simpa using h1)]
  refine ⟨_, rfl, ?_⟩
  have h8 : y = 0 ∨ y = 1 := by omega
  rcases h8 with h | h <;> subst h <;> simp <;> omega
theorem atI_last {α : Type} (l : List α) (a : α) : atI (l ++ [a]) (-1) = some a := by
  unfold atI ixN
  rw [if_neg (by omega), if_pos (by simp; omega)]
  have h : (-1 + (((l ++ [a]).length : Nat) : Int)).toNat = l.length := by simp; omega
  show (l ++ [a])[(-1 + (((l ++ [a]).length : Nat) : Int)).toNat]? = some a
  rw [h]
  simp
def LenOk (n : Nat) (L : List Int) : Prop := (∀ x ∈ L, 1 ≤ x) ∧ L.sum ≤ n ∧ L.length ≤ n
theorem lengths_ok {t : T} {n : Nat} (hp : Pool t) (hn : n ≤ 1000) : ∃ t' L, Pool t' ∧ LenOk n L ∧ F_law_lengths [t, si n] = .ok (T.ints L) [t', si n] := by
  obtain ⟨t1, kd, h1, a1, b1, c1, e1⟩ := pick_ok (m := 5) hp (by decide)
  obtain ⟨t2, x2, h2, a2, b2, c2, e2⟩ := pick_ok (m := if (n : Int) > 1 then (n : Int) else 1) h1 (by split <;> omega)
  obtain ⟨t3, x3, h3, a3, b3, c3, e3⟩ := pick_ok (m := 8) h2 (by decide)
  obtain ⟨t4, x4, h4, a4, b4, c4, e4⟩ := pick_ok (m := 2) h3 (by decide)
  have hat : 0 ≤ x3 * x4 := Int.mul_nonneg a3 a4
  have hloop : ∃ ρ', forL (bName 7) b_law_lengths_1 (rangeT 0 n) [some t4, some (si n), some (si kd), some (si (1 + x2)), some (si (x3 * x4)), some (si n), some (.ol []), none, none] = .nx ρ' ∧
      ∃ (P : T) (left : Int) (L : List Int) (j7 j8 : Option T), ρ' = [some P, some (si n), some (si kd), some (si (1 + x2)), some (si (x3 * x4)), some (si left), some (.ol (L.map ig)), j7, j8] ∧ Pool P ∧ 0 ≤ left ∧ L.sum + left = n ∧ (∀ x ∈ L, 1 ≤ x) ∧ L.length ≤ n := by
    refine (forN_inv (fun k ρ => ∃ (P : T) (left : Int) (L : List Int) (j7 j8 : Option T), ρ = [some P, some (si n), some (si kd), some (si (1 + x2)), some (si (x3 * x4)), some (si left), some (.ol (L.map ig)), j7, j8] ∧ Pool P ∧ 0 ≤ left ∧ L.sum + left = n ∧ (∀ x ∈ L, 1 ≤ x) ∧ L.length ≤ k) ⟨t4, n, [], none, none, rfl, h4, by omega, by simp, by simp, by simp⟩ ?_).imp fun ρ' h => ⟨h.1, by simpa [rangeT_len] using h.2⟩
    rintro k t ρ e ⟨P, left, L, j7, j8, rfl, hP, hl0, hs, hL, hk⟩
    obtain ⟨hkn, rfl⟩ := rangeT_get e
    by_cases hlf : ¬ 0 < left
    · refine ⟨_, .inl ?_, P, left, L, some (si (0 + k)), j8, rfl, hP, hl0, hs, hL, by omega⟩
      simp [b_law_lengths_1, hlf]
    · have hlf : 0 < left := by omega
      have hm8 : oMod (.int (x3 * x4 + k)) (.int 8) = some (.int ((x3 * x4 + k) % 8)) := mod_int (by decide)
      obtain ⟨s8, es8, hs8⟩ := lit8 (y := (x3 * x4 + k) % 8) (Int.emod_nonneg _ (by decide)) (Int.emod_lt_of_pos _ (by decide))
      obtain ⟨s0, es0, hs0⟩ := lit5 (a := 1 + x2) (b := left) (c := s8) (d := 0) (e := 0) a1 b1 (by omega) (by omega) hs8
      have fin : ∀ (P' : T) (size : Int), Pool P' → 1 ≤ size → ∃ L' left', L' = L ++ [if left < size then left else size] ∧ left' = left - (if left < size then left else size) ∧ 0 ≤ left' ∧ L'.sum + left' = n ∧ (∀ x ∈ L', 1 ≤ x) ∧ L'.length ≤ k + 1 := by
        intro P' size _ h
        refine ⟨_, _, rfl, rfl, ?_, ?_, ?_, by simp; omega⟩
        · split <;> omega
        · simp; omega
        · intro x hx
          rcases List.mem_append.mp hx with q | q
          · exact hL x q
          · rw [List.mem_singleton.mp q]; split <;> omega
      have hz : L.length < lim := by unfold lim; omega
      simp at es8 es0
      by_cases hkd : ¬ 2 < kd
      · obtain ⟨L', left', eL, el, q1, q2, q3, q4⟩ := fin P s0 hP (hs0 (by omega))
        refine ⟨_, .inl ?_, P, left', L', some (si (0 + k)), some (si s0), rfl, hP, q1, q2, q3, q4⟩
        subst eL el
        simp [b_law_lengths_1, hlf, hm8, es8, es0, hkd, hz, atI_last]
      · have hkd : 2 < kd := by omega
        obtain ⟨s2, es2, hs2⟩ := lit2 (a := left) (b := if (3 : Int) < left then 3 else left) (y := kd - 3) (by omega) (by omega) (by omega) (by split <;> omega)
        obtain ⟨P', y, hP', y0, y1, y2, ey⟩ := pick_ok (m := s2) hP hs2
        obtain ⟨L', left', eL, el, q1, q2, q3, q4⟩ := fin P' (1 + y) hP' (by omega)
        refine ⟨_, .inl ?_, P', left', L', some (si (0 + k)), some (si (1 + y)), rfl, hP', q1, q2, q3, q4⟩
        subst eL el
        simp at es2
        simp [b_law_lengths_1, hlf, hm8, es8, es0, hkd, hz, atI_last, es2, ey]
  obtain ⟨ρ', e5, P, left, L, j7, j8, rfl, hP, q1, q2, q3, q4⟩ := hloop
  refine ⟨P, L, hP, ⟨q3, by omega, q4⟩, ?_⟩
  have hmul : oMul (.int x3) (.int x4) = some (.int (x3 * x4)) := mul_int (small_l ⟨by omega, by omega⟩)
  simp at e5
  have hmx : oMax2 (.int 1) (.int n) = some (.int (if (n : Int) > 1 then (n : Int) else 1)) := rfl
  simp [-max_int, F_law_lengths, m_law_lengths, e1, hmx, e2, e3, e4, hmul, inR_nat (show n ≤ 1000000 by omega), e5]
end
end Cl

namespace Cl
noncomputable section
open PySem L2 Z
theorem shaped_inner {n : Nat} {p found : List Int} {P t2 : T} {a s : Nat} {j5 : Option T} {j6 : Option T} (hn : n ≤ 1000) (hp : Turn n p) (hf : found.length = n) (has : a + s ≤ n) (hs : 1 ≤ s) :
    ∃ ρ' f' j6', forL (bName 6) b_law_shaped_1 (rangeT 0 s) [some P, some (si n), some (.ol (p.map ig)), some (.ol (found.map ig)), some (si a), some (si s), j6] = .nx ρ' ∧ ρ' = [some P, some (si n), some (.ol (p.map ig)), some (.ol (f'.map ig)), some (si a), some (si s), j6'] ∧ f'.length = n ∧
      ∀ i, i < n → (via p f').getD i 0 = if a ≤ i ∧ i < a + s then p.getD (a + (i - a + 1) % s) 0 else (via p found).getD i 0 := by
  have hl := hp.len
  obtain ⟨ρ', e, f', j6', rfl, h1, h2⟩ := forN_inv (i := 6) (body := b_law_shaped_1) (its := rangeT 0 s) (ρ := [some P, some (si n), some (.ol (p.map ig)), some (.ol (found.map ig)), some (si a), some (si s), j6])
    (fun k ρ => ∃ (f' : List Int) (j6' : Option T), ρ = [some P, some (si n), some (.ol (p.map ig)), some (.ol (f'.map ig)), some (si a), some (si s), j6'] ∧ f'.length = n ∧
      ∀ i, i < n → (via p f').getD i 0 = if a ≤ i ∧ i < a + k then p.getD (a + (i - a + 1) % s) 0 else (via p found).getD i 0)
    ⟨found, j6, rfl, hf, fun i hi => by rw [if_neg (by omega)]⟩ (by
      rintro k t ρ e ⟨f', j6', rfl, hf', hv⟩
      obtain ⟨hk, rfl⟩ := rangeT_get e
      have hm : oMod (.int (0 + (k : Int) + 1)) (.int s) = some (.int (((k + 1) % s : Nat) : Int)) := by
        rw [mod_int (by omega), Int.natCast_emod, show (0 + (k : Int) + 1) = ((k + 1 : Nat) : Int) by omega]
      have hb1 := hp.at (show a + k < n by omega)
      have hlt : (k + 1) % s < s := Nat.mod_lt _ (by omega)
      have g1 : atI (p.map D.int) ((a : Int) + (0 + (k : Int))) = some (.int (p.getD (a + k) 0)) := by
        rw [show (a : Int) + (0 + (k : Int)) = ((a + k : Nat) : Int) by omega, atI_D _ (by omega) (by omega)]; rfl
      have g2 : atI (p.map ig) ((a : Int) + (((k + 1) % s : Nat) : Int)) = some (.sh (.int (p.getD (a + (k + 1) % s) 0))) := by
        rw [show (a : Int) + (((k + 1) % s : Nat) : Int) = ((a + (k + 1) % s : Nat) : Int) by omega, atI_T _ (by omega) (by omega)]; rfl
      have g3 : ixN f'.length (p.getD (a + k) 0) = some (p.getD (a + k) 0).toNat := ixN_ok hb1.1 (by omega)
      refine ⟨_, .inl ?_, f'.set (p.getD (a + k) 0).toNat (p.getD (a + (k + 1) % s) 0), some (si (0 + k)), rfl, by simpa using hf', fun i hi => ?_⟩
      · simp at hm g1 g2 g3
        simp [b_law_shaped_1, hm, g1, g2, g3]
      · rw [via_set hp hf' (by omega), getD_set (by simp; omega)]
        by_cases q : a + k = i
        · subst q
          rw [if_pos rfl, if_pos (by omega), show a + k - a = k by omega]
        · rw [if_neg q, hv i hi]
          by_cases q2 : a ≤ i ∧ i < a + k
          · rw [if_pos q2, if_pos (by omega)]
          · rw [if_neg q2, if_neg (by omega)])
  rw [rangeT_len] at h2
  exact ⟨_, f', j6', e, rfl, h1, h2⟩
theorem shaped_ok {t : T} {n : Nat} (hp : Pool t) (hn : n ≤ 1000) : ∃ t' p, Pool t' ∧ Turn n p ∧ F_law_shaped [t, si n] = .ok (T.ints p) [t', si n] := by
  obtain ⟨t1, p, h1, hT, e1⟩ := turning_ok hp hn
  obtain ⟨t2, L, h2, ⟨hL1, hL2, hL3⟩, e2⟩ := lengths_ok h1 hn
  have hl := hT.len
  have hloop : ∃ ρ', forL (bName 5) b_law_shaped_2 (L.map ig) [some t2, some (si n), some (.ol (p.map ig)), some (.ol ((iota n).map ig)), some (si 0), none, none] = .nx ρ' ∧
      ∃ (f : List Int) (j4 j5 j6 : Option T), ρ' = [some t2, some (si n), some (.ol (p.map ig)), some (.ol (f.map ig)), j4, j5, j6] ∧ Turn n f := by
    have hid : via p (iota n) = p := by
      apply List.ext_getElem
      · simp
      · intro j h1 h2
        have e1 := getD_at (l := via p (iota n)) (i := j) h1
        have hj := hT.at (show j < n by omega)
        rw [← e1, via_get h2, iota_getD n _ (by omega), ← getD_at h2]; omega
    obtain ⟨ρ', e, f, R, a, j5, j6, rfl, q1, q2, q3, q4, q5⟩ := forN_inv (i := 5) (body := b_law_shaped_2) (its := L.map ig) (ρ := [some t2, some (si n), some (.ol (p.map ig)), some (.ol ((iota n).map ig)), some (si 0), none, none])
      (fun k ρ => ∃ (f R : List Int) (a : Nat) (j5 j6 : Option T), ρ = [some t2, some (si n), some (.ol (p.map ig)), some (.ol (f.map ig)), some (si a), j5, j6] ∧ f.length = n ∧ (a : Int) = (L.take k).sum ∧ via p f = R ++ p.drop a ∧ R.length = a ∧ (R ++ p.drop a).Perm p)
      ⟨iota n, [], 0, none, none, rfl, by simp, by simp, by simpa using hid, rfl, by simp⟩ (by
        rintro k t ρ e ⟨f, R, a, j5, j6, rfl, hf, ha, hv, hR, hpm⟩
        rw [List.getElem?_map] at e
        obtain ⟨s, es, rfl⟩ := Option.map_eq_some_iff.mp e
        have hkl := (List.getElem?_eq_some_iff.mp es).1
        have hse : L[k] = s := (List.getElem?_eq_some_iff.mp es).2
        have hs1 : 1 ≤ s := hL1 s (List.mem_of_getElem? es)
        have hsum : (L.take (k + 1)).sum = (L.take k).sum + s := by
          rw [List.take_add_one, es]; simp
        have hle : (L.take (k + 1)).sum ≤ L.sum := by
          have h3 : L.sum = (L.take (k + 1)).sum + (L.drop (k + 1)).sum := by
            rw [← List.sum_append, List.take_append_drop]
          have h4 : 0 ≤ (L.drop (k + 1)).sum := by
            have : ∀ M : List Int, (∀ x ∈ M, 1 ≤ x) → 0 ≤ M.sum := by
              intro M hM
              induction M with
              | nil => simp
              | cons x M ih =>
                have h5 := hM x (by simp)
                have h6 := ih fun y hy => hM y (by simp [hy])
                simp only [List.sum_cons]; omega
            exact this _ fun x hx => hL1 x (List.mem_of_mem_drop hx)
          omega
        obtain ⟨S, rfl⟩ : ∃ S : Nat, s = S := ⟨s.toNat, by omega⟩
        obtain ⟨ρ', f', j6', e3, rfl, hf', hv'⟩ := shaped_inner (P := t2) (t2 := t2) (a := a) (s := S) (j5 := j5) (j6 := j6) hn hT hf (by omega) (by omega)
        have hb : InR (S : Int) := inR_nat (by omega)
        refine ⟨_, .inl ?_, f', R ++ (((p.drop a).take S).drop 1 ++ ((p.drop a).take S).take 1), a + S, some (si S), j6', rfl, hf', by rw [hsum]; omega, ?_, ?_, ?_⟩
        · simp at e3
          simp [b_law_shaped_2, hb, e3]
        · have hB : ((p.drop a).take S).length = S := by simp; omega
          apply List.ext_getElem
          · simp; omega
          · intro i h1 h2
            have h1' : i < n := by simpa [hl] using h1
            rw [← getD_at h1, hv' i h1', hv]
            by_cases c1 : i < a
            · rw [if_neg (by omega)]
              have u1 : (R ++ p.drop a).getD i 0 = R.getD i 0 := by
                rw [getD_at (by simp; omega), getD_at (by omega), List.getElem_append_left (by omega)]
              rw [u1, getD_at (by omega), List.getElem_append_left (by simp; omega), List.getElem_append_left (by omega)]
            · by_cases c2 : i < a + S
              · rw [if_pos (by omega)]
                rw [List.getElem_append_left (by simp; omega), List.getElem_append_right (by omega)]
                have hm : (i - a + 1) % S < S := Nat.mod_lt _ (by omega)
                rw [getD_at (by omega)]
                by_cases c3 : i - a + 1 < S
                · rw [List.getElem_append_left (by simp; omega)]
                  simp only [List.getElem_drop, List.getElem_take]
                  congr 1
                  rw [Nat.mod_eq_of_lt c3]; omega
                · rw [List.getElem_append_right (by simp; omega)]
                  simp only [List.getElem_take, List.getElem_drop]
                  congr 1
                  have : i - a + 1 = S := by omega
                  rw [this, Nat.mod_self]
                  simp; omega
              · rw [if_neg (by omega)]
                have u1 : (R ++ p.drop a).getD i 0 = (p.drop a).getD (i - R.length) 0 := by
                  rw [getD_at (by simp; omega), getD_at (by simp; omega), List.getElem_append_right (by omega)]
                rw [u1, getD_at (by simp; omega), List.getElem_append_right (by simp; omega)]
                simp only [List.getElem_drop]
                congr 1
                simp; omega
        · simp; omega
        · refine block_perm ?_
          rw [List.append_assoc, ← drop_split]
          exact hpm)
    exact ⟨_, e, f, some (si a), j5, j6, rfl, perm_of_via hT q1 q3 q5⟩
  obtain ⟨ρ', e3, f, j4, j5, j6, rfl, hf⟩ := hloop
  refine ⟨t2, f, h2, hf, ?_⟩
  have hr : rgOk 0 (n : Int) = true := rgOk_of (by omega) (by omega) (by omega) (by omega)
  simp [F_law_shaped, m_law_shaped, e1, e2, hr, e3]
theorem any_ok {t : T} {n : Nat} (hp : Pool t) (hn : n ≤ 1000) : ∃ t' p, Pool t' ∧ Turn n p ∧ F_law_any [t, si n] = .ok (T.ints p) [t', si n] := by
  obtain ⟨t1, x, h1, a1, b1, c1, e1⟩ := pick_ok (m := 3) hp (by decide)
  obtain ⟨t2, p, h2, hT, e2⟩ := turning_ok h1 hn
  obtain ⟨t3, q, h3, hQ, e3⟩ := shaped_ok h1 hn
  by_cases hx : x = 0
  · refine ⟨t2, p, h2, hT, ?_⟩
    simp [F_law_any, m_law_any, e1, hx, e2]
  · refine ⟨t3, q, h3, hQ, ?_⟩
    simp [F_law_any, m_law_any, e1, hx, e3]
end
end Cl

namespace Cl
noncomputable section
open PySem L2 Z
def Row (n : Nat) (p : List Int) : Prop := p.length = n ∧ ∀ x ∈ p, 0 ≤ x ∧ x < n
theorem Turn.row {n : Nat} {p : List Int} (h : Turn n p) : Row n p := ⟨h.len, fun x hx => h.mem.mp hx⟩
theorem Row.at {n : Nat} {p : List Int} (h : Row n p) {k : Nat} (hk : k < n) : 0 ≤ p.getD k 0 ∧ p.getD k 0 < n := by
  have hl := h.1
  rw [getD_at (by omega)]
  exact h.2 _ (List.getElem_mem _)
theorem Row.ati {n : Nat} {p : List Int} (h : Row n p) {x : Int} (h0 : 0 ≤ x) (h1 : x < n) : atI (p.map ig) x = some (.sh (.int (p.getD x.toNat 0))) := atI_T p h0 (by have := h.1; omega)
theorem Row.atd {n : Nat} {p : List Int} (h : Row n p) {x : Int} (h0 : 0 ≤ x) (h1 : x < n) : atI (p.map D.int) x = some (.int (p.getD x.toNat 0)) := atI_D p h0 (by have := h.1; omega)
theorem row_put {n : Nat} {f g : Nat → Int} (hg : ∀ k, k < n → 0 ≤ g k ∧ g k < n) : ∀ m, m ≤ n → Row n (putN n f g m)
  | 0, _ => ⟨by simp [putN], fun x hx => by
      have h := List.mem_replicate.mp (show x ∈ List.replicate n 0 from hx)
      have := h.1
      have := h.2
      omega⟩
  | m + 1, h => by
    have ih := row_put (f := f) hg m (by omega)
    refine ⟨by simp, fun x hx => ?_⟩
    rcases List.mem_or_eq_of_mem_set (show x ∈ (putN n f g m).set (f m).toNat (g m) from hx) with q | q
    · exact ih.2 x q
    · rw [q]; exact hg m (by omega)
theorem row_iota (n : Nat) : Row n (iota n) := ⟨by simp, fun x hx => mem_iota.mp hx⟩
def thenL (p q : List Int) : List Int := p.map fun x => q.getD x.toNat 0
def bkL (n : Nat) (p : List Int) : List Int := putN n (fun k => p.getD k 0) (fun k => (k : Int)) n
def cjL (n : Nat) (p g : List Int) : List Int := putN n (fun k => g.getD k 0) (fun k => g.getD (p.getD k 0).toNat 0) n
theorem then_row {n : Nat} {p q : List Int} (hp : Row n p) (hq : Row n q) : Row n (thenL p q) := ⟨by simp [thenL, hp.1], fun x hx => by
  obtain ⟨y, hy, rfl⟩ := List.mem_map.mp hx
  have := hp.2 y hy
  exact hq.at (by omega)⟩
theorem bk_row {n : Nat} {p : List Int} : Row n (bkL n p) := row_put (fun k hk => ⟨by omega, by omega⟩) n (Nat.le_refl n)
theorem cj_row {n : Nat} {p g : List Int} (hp : Row n p) (hg : Row n g) : Row n (cjL n p g) := row_put (fun k hk => hg.at (by have := hp.at hk; omega)) n (Nat.le_refl n)
theorem lc_then {n : Nat} {p q : List Int} {elt : EM} (he : elt = eGet (vIx (vV 1) (pV 2))) (hp : Row n p) (hq : Row n q) (hn : n ≤ 1000) : lcL [2] (bName 2) tAll elt (p.map ig) [] [some (shi p), some (shi q), none] = .ok ((thenL p q).map ig) [some (shi p), some (shi q), none] := by
  refine lcL_ints (fun x => q.getD x.toNat 0) (fun x hx => ?_) (by unfold lim; have := hp.1; omega)
  have h := hp.2 x hx
  refine ⟨[some (shi p), some (shi q), some (si x)], [some (shi p), some (shi q), some (si x)], rfl, ?_, rfl⟩
  have := hq.ati h.1 h.2
  subst he
  simp [this]
theorem enumI {p : List Int} {k : Nat} {t : T} (h : (enumT 0 (p.map .int))[k]? = some t) : k < p.length ∧ t = .ot [si k, si (p.getD k 0)] := by
  rw [enumT_get, List.getElem?_map, Option.map_map] at h
  obtain ⟨x, e, rfl⟩ := Option.map_eq_some_iff.mp h
  have h1 := (List.getElem?_eq_some_iff.mp e).1
  have h2 := (List.getElem?_eq_some_iff.mp e).2
  refine ⟨h1, ?_⟩
  rw [getD_at h1, h2]
  simp
theorem rep_ok {n : Nat} (hn : n ≤ 1000) : repT (.ol [.sh (.int 0)]) (.sh (.int n)) = some (T.ints (List.replicate n 0)) := repT_zero (by unfold lim; omega)
end
end Cl

namespace Cl
noncomputable section
open PySem L2 Z
def x_law_then_1 : EM := (eGet (vIx (vV 1) (pV 2)))
def m_law_then : SM := (mRet (eLC [2] (iE (eV 0)) (bName 2) tAll x_law_then_1))
def F_law_then : FM := mFun 2 3 m_law_then
def b_law_back_1 : SM := (mStore 1 (eV 2) (pOp oIx (pV 0) (pV 2)))
def m_law_back : SM := (mSeq (mSet 1 (eOp repT (eLst (eCons (eP (pC (.int 0))) eNil)) (eP (pCB (o1 oLen) (aCons (pV 0) aNil))))) (mSeq (mFor (iR1 (eCons (eP (pCB (o1 oLen) (aCons (pV 0) aNil))) eNil)) (bName 2) b_law_back_1) (mRet (eM 1))))
def F_law_back : FM := mFun 1 3 m_law_back
theorem law_then_ok {n : Nat} {p q : List Int} (hp : Row n p) (hq : Row n q) (hn : n ≤ 1000) : F_law_then [shi p, shi q] = .ok (T.ints (thenL p q)) [shi p, shi q] := by
  have h := lc_then (elt := x_law_then_1) rfl hp hq hn
  simp at h
  simp [F_law_then, m_law_then, h]
theorem law_back_ok {n : Nat} {p : List Int} (hp : Row n p) (hn : n ≤ 1000) : F_law_back [shi p] = .ok (T.ints (bkL n p)) [shi p] := by
  have hl := hp.1
  obtain ⟨ρ', e, j2, rfl⟩ := forN_inv (i := 2) (body := b_law_back_1) (its := rangeT 0 n) (ρ := [some (shi p), some (.ol ((List.replicate n 0).map ig)), none])
    (fun k ρ => ∃ j2 : Option T, ρ = [some (shi p), some (.ol ((putN n (fun k => p.getD k 0) (fun k => (k : Int)) k).map ig)), j2]) ⟨none, rfl⟩ (by
      rintro k t ρ e ⟨j2, rfl⟩
      obtain ⟨hk, rfl⟩ := rangeT_get e
      have hb := hp.at hk
      have g := ixN_ok (n := n) hb.1 hb.2
      have g3 := hp.atd (x := (k : Int)) (by omega) (by omega)
      refine ⟨_, .inl ?_, some (si (0 + k)), rfl⟩
      simp at g g3
      simp [b_law_back_1, g, g3, putN])
  have hr := rep_ok hn
  rw [rangeT_len] at e
  simp at hr e
  simp [F_law_back, m_law_back, hr, hl, inR_nat (show n ≤ 1000000 by omega), e, bkL]
end
end Cl

namespace Cl
noncomputable section
open PySem L2 Z
def b_law_mixed_1 : SM := (mAppG 3 (ePopAt 2 (eCallI 2 0 F_law_pick (eCons (eP (pCB (o1 oLen) (aCons (pV 2) aNil))) eNil))))
def x_law_mixed_2 : EM := (eV 5)
def m_law_mixed : SM := (mSeq (mPar 2 3 (eCons (eLC [5] (iE (eV 1)) (bName 5) tAll x_law_mixed_2) (eCons (eLst eNil) eNil))) (mSeq (mFor (iR1 (eCons (eP (pCB (o1 oLen) (aCons (pV 1) aNil))) eNil)) (bName 4) b_law_mixed_1) (mRet (eM 3))))
def F_law_mixed : FM := mFunI 2 6 m_law_mixed
theorem erase_map {α β : Type} (f : α → β) : ∀ (l : List α) (k : Nat), (l.eraseIdx k).map f = (l.map f).eraseIdx k
  | [], _ => rfl
  | a :: l, 0 => rfl
  | a :: l, k + 1 => by simp [erase_map f l k]
theorem mixed_len {t : T} (hp : Pool t) {ds : List D} (hd : ds.length ≤ 1000) : ∃ (t' : T) (fs : List D), Pool t' ∧ (∀ d ∈ fs, d ∈ ds) ∧ fs.length = ds.length ∧ F_law_mixed [t, .sh (.lst ds)] = .ok (.ol (fs.map .sh)) [t', .sh (.lst ds)] := by
  have h0 : lcL [5] (bName 5) tAll x_law_mixed_2 (ds.map .sh) [] [some t, some (.sh (.lst ds)), none, none, none, none] = .ok (ds.map .sh) [some t, some (.sh (.lst ds)), none, none, none, none] := by
    have := lcL_map (slots := [5]) (b := bName 5) (elt := x_law_mixed_2) (ρ := [some t, some (.sh (.lst ds)), none, none, none, none]) (fun x => x) (its := ds.map .sh) (acc := []) (fun t' ht => by
      obtain ⟨d, hd, rfl⟩ := List.mem_map.mp ht
      exact ⟨[some t, some (.sh (.lst ds)), none, none, none, some (.sh d)], [some t, some (.sh (.lst ds)), none, none, none, some (.sh d)], rfl, by simp [x_law_mixed_2], rfl⟩) (by simp; unfold lim; omega)
    simpa [Function.comp_def] using this
  obtain ⟨ρ', e, t', ls, fs, j4, rfl, h1, h2, h3, h4, h5⟩ := forN_inv (i := 4) (body := b_law_mixed_1) (its := rangeT 0 ds.length) (ρ := [some t, some (.sh (.lst ds)), some (.ol (ds.map .sh)), some (.ol []), none, none])
    (fun k ρ => ∃ (t' : T) (ls fs : List D) (j4 : Option T), ρ = [some t', some (.sh (.lst ds)), some (.ol (ls.map .sh)), some (.ol (fs.map .sh)), j4, none] ∧ Pool t' ∧ (∀ d ∈ ls, d ∈ ds) ∧ (∀ d ∈ fs, d ∈ ds) ∧ ls.length + k = ds.length ∧ fs.length = k)
    ⟨t, ds, [], none, rfl, hp, fun _ h => h, fun _ h => by simp at h, by omega, rfl⟩ (by
      rintro k t0 ρ e ⟨t', ls, fs, j4, rfl, h1, h2, h3, h4, h5⟩
      obtain ⟨hk, rfl⟩ := rangeT_get e
      obtain ⟨t2, x, g1, a, b, c, ex⟩ := pick_ok (m := (ls.length : Int)) h1 (by omega)
      have hx : x.toNat < ls.length := by omega
      have hs := seqIx_ok (n := ls.length) a b
      have hb := inR_nat (n := x.toNat) (by omega)
      rw [Int.toNat_of_nonneg a] at hb
      have hz : fs.length < lim := by unfold lim; omega
      refine ⟨_, .inl ?_, t2, ls.eraseIdx x.toNat, fs ++ [ls[x.toNat]], some (si (0 + (k : Int))), rfl, g1, fun d hd => h2 d (List.mem_of_mem_eraseIdx hd), fun d hd => ?_, by rw [List.length_eraseIdx]; simp [hx]; omega, by simp; omega⟩
      · simp [b_law_mixed_1, ex, hs, hb, hx, hz, erase_map]
      · rcases List.mem_append.mp hd with q | q
        · exact h3 d q
        · rw [List.mem_singleton.mp q]; exact h2 _ (List.getElem_mem _))
  refine ⟨t', fs, h1, h3, by simpa [rangeT_len] using h5, ?_⟩
  have hb := inR_nat (n := ds.length) (by omega)
  simp at e
  simp [F_law_mixed, m_law_mixed, h0, hb, e]
theorem mixed_ok {t : T} (hp : Pool t) {ds : List D} (hd : ds.length ≤ 1000) : ∃ (t' : T) (fs : List D), Pool t' ∧ (∀ d ∈ fs, d ∈ ds) ∧ F_law_mixed [t, .sh (.lst ds)] = .ok (.ol (fs.map .sh)) [t', .sh (.lst ds)] := by
  obtain ⟨t', fs, h1, h2, _, h3⟩ := mixed_len hp hd
  exact ⟨t', fs, h1, h2, h3⟩
end
end Cl

namespace Cl
noncomputable section
open PySem L2 Z
def m_is_number : SM := (mRet (eP (pAndV (pIsi Ty.int (pV 0)) (pNotV (pIsi Ty.bool (pV 0))))))
def F_is_number : FM := mFun 1 1 m_is_number
def m_is_place : SM := (mRet (eP (pAndV (pCall 1 F_is_number (aCons (pV 1) aNil)) (pChain oLe oLt (pC (.int 0)) (pV 1) (pV 0)))))
def F_is_place : FM := mFun 2 2 m_is_place
def x_is_turning_1 : EM := (eP (pCall 2 F_is_place (aCons (pV 0) (aCons (pV 2) aNil))))
def m_is_turning : SM := (mSeq (mIf (eOr (eT (qNot (pB (pIsi Ty.list (pV 1))))) (eOr (eT (pB (pOp oNe (pCB (o1 oLen) (aCons (pV 1) aNil)) (pV 0)))) (eNot (eB (eCB (cS (o1 oAll)) (eCons (eLC [2] (iE (eV 1)) (bName 2) tAll x_is_turning_1) eNil)))))) (mRet (eP (pC (.bl false)))) mNil) (mRet (eOp (oS oEq) (eCB oLenD (eCons (eDcI 2 (iE (eV 1))) eNil)) (eV 0))))
def F_is_turning : FM := mFun 2 3 m_is_turning
def isI : D → Bool | .int _ => true | _ => false
def inPl (n : Int) : D → Bool | .int i => decide (0 ≤ i) && decide (i < n) | _ => false
def flat : D → Bool | .dic _ _ => false | _ => true
theorem num_ok {d : D} (hd : flat d = true) : F_is_number [.sh d] = .ok (.sh (.bl (isI d))) [.sh d] := by
  cases d <;> first | (cases hd; done) | simp [F_is_number, m_is_number, isI]
theorem place_ok {n : Int} {d : D} (hd : flat d = true) : F_is_place [si n, .sh d] = .ok (.sh (.bl (inPl n d))) [si n, .sh d] := by
  have h := num_ok hd
  cases d <;> first | (cases hd; done) | skip
  case int i => by_cases c : 0 ≤ i <;> simp [F_is_place, m_is_place, inPl, isI, h, c]
  all_goals simp [F_is_place, m_is_place, inPl, isI, h]
/-! ### two ways to count -/
def unI : List D → List Int
  | [] => []
  | .int i :: l => i :: unI l
  | _ :: l => unI l
theorem unI_of {n : Int} : ∀ {l : List D}, l.all (inPl n) = true → l = (unI l).map .int ∧ ∀ x ∈ unI l, 0 ≤ x ∧ x < n
  | [], _ => ⟨rfl, fun x h => by simp [unI] at h⟩
  | .int i :: l, h => by
    simp only [List.all_cons, Bool.and_eq_true, inPl, decide_eq_true_eq] at h
    obtain ⟨h1, h2⟩ := unI_of h.2
    refine ⟨by simp only [unI, List.map_cons, ← h1], fun x hx => ?_⟩
    simp only [unI, List.mem_cons] at hx
    rcases hx with rfl | hx
    · exact h.1
    · exact h2 x hx
  | .non :: l, h => by simp [inPl] at h
  | .bl _ :: l, h => by simp [inPl] at h
  | .str _ :: l, h => by simp [inPl] at h
  | .lst _ :: l, h => by simp [inPl] at h
  | .tup _ :: l, h => by simp [inPl] at h
  | .dic _ _ :: l, h => by simp [inPl] at h
/-! ### is_turning -/
def tB (N : Nat) : D → Bool
  | .lst l => decide (l.length = N) && (l.all (inPl N) && decide ((keysI (unI l)).length = N))
  | _ => false
def flat2 : D → Bool
  | .lst l => l.all flat && decide (l.length ≤ 1000)
  | .dic _ _ => false
  | _ => true
theorem boolsOf_map : ∀ l : List Bool, boolsOf (l.map D.bl) = some l
  | [] => rfl
  | b :: l => by
    have := boolsOf_map l
    simp [boolsOf, this]
theorem intsT_map : ∀ l : List Int, intsT (l.map ig) = some l
  | [] => rfl
  | i :: l => by
    have := intsT_map l
    simp [intsT, this]
theorem is_ok {N : Nat} (hN : N ≤ 1000) {d : D} (hd : flat2 d = true) : F_is_turning [si N, .sh d] = .ok (.sh (.bl (tB N d))) [si N, .sh d] := by
  cases d with
  | dic _ _ => cases hd
  | non => simp [F_is_turning, m_is_turning, tB]
  | bl _ => simp [F_is_turning, m_is_turning, tB]
  | int _ => simp [F_is_turning, m_is_turning, tB]
  | str _ => simp [F_is_turning, m_is_turning, tB]
  | tup _ => simp [F_is_turning, m_is_turning, tB]
  | lst l =>
    simp only [flat2, Bool.and_eq_true, decide_eq_true_eq] at hd
    have hz : l.length ≤ lim := by unfold lim; omega
    have h1 : lcL [2] (bName 2) tAll x_is_turning_1 (l.map .sh) [] [some (si N), some (.sh (.lst l)), none] = .ok (l.map fun d => .sh (.bl (inPl N d))) [some (si N), some (.sh (.lst l)), none] := by
      have := lcL_map (slots := [2]) (b := bName 2) (elt := x_is_turning_1) (ρ := [some (si N), some (.sh (.lst l)), none]) (fun t => .sh (.bl (inPl N t.d))) (its := l.map .sh) (acc := []) (fun t ht => by
        obtain ⟨d, hd', rfl⟩ := List.mem_map.mp ht
        have hp := place_ok (n := (N : Int)) (List.all_eq_true.mp hd.1 d hd')
        exact ⟨[some (si N), some (.sh (.lst l)), some (.sh d)], [some (si N), some (.sh (.lst l)), some (.sh d)], rfl, by simp [x_is_turning_1, hp], rfl⟩) (by simpa using hz)
      rw [this]
      simp [Function.comp_def]
    have h2 : dl (l.map fun d => T.sh (.bl (inPl N d))) = (l.map (inPl N)).map D.bl := by
      rw [dl_eq, List.map_map, List.map_map]; rfl
    have h3 := boolsOf_map (l.map (inPl N))
    rw [List.map_map] at h3
    have h7 : (l.map (inPl N)).all id = l.all (inPl N) := by rw [List.all_map]; rfl
    by_cases c1 : l.length = N
    · by_cases c2 : l.all (inPl N) = true
      · obtain ⟨e1, e2⟩ := unI_of c2
        have h4 := intsT_map (unI l)
        have h5 : (unI l).length ≤ lim := by
          have := congrArg List.length e1
          rw [List.length_map] at this
          omega
        have h6 : intsT (l.map T.sh) = some (unI l) := by
          rw [← h4]
          congr 1
          conv => lhs; rw [e1]
          rw [List.map_map]; rfl
        simp [F_is_turning, m_is_turning, h1, h2, h3, oAll, c1, c2, h6, h5, h7, tB]
        by_cases q : (keysI (unI l)).length = N
        · simp [q]
        · have q' : ¬ ((keysI (unI l)).length : Int) = N := by omega
          simp [q, q']
      · simp [F_is_turning, m_is_turning, h1, h2, h3, oAll, c1, c2, h7, tB]
    · have c1' : ¬ ((l.length : Int) = N) := by omega
      simp [F_is_turning, m_is_turning, c1, c1', tB]
theorem keys_nd : ∀ (xs ks : List Int), (xs.foldl addI ks).length = ks.length + xs.length → xs.Nodup ∧ ∀ x ∈ xs, x ∉ ks
  | [], ks, _ => ⟨List.nodup_nil, fun x h => by simp at h⟩
  | x :: xs, ks, h => by
    simp only [List.foldl_cons, List.length_cons] at h
    have h1 := foldl_addI xs (addI ks x)
    have h2 : x ∉ ks ∧ addI ks x = ks ++ [x] := by
      by_cases c : x ∈ ks
      · have : addI ks x = ks := if_pos c
        rw [this] at h h1; omega
      · exact ⟨c, if_neg c⟩
    rw [h2.2] at h
    obtain ⟨h3, h4⟩ := keys_nd xs (ks ++ [x]) (by simp only [List.length_append, List.length_cons, List.length_nil]; omega)
    refine ⟨List.nodup_cons.mpr ⟨fun q => h4 x q (by simp), h3⟩, fun y hy => ?_⟩
    rcases List.mem_cons.mp hy with rfl | hy
    · exact h2.1
    · exact fun q => h4 y hy (by simp [q])
theorem nd_keys : ∀ (xs ks : List Int), xs.Nodup → (∀ x ∈ xs, x ∉ ks) → (xs.foldl addI ks).length = ks.length + xs.length
  | [], ks, _, _ => by simp
  | x :: xs, ks, h, h' => by
    have hx := h' x List.mem_cons_self
    have e : addI ks x = ks ++ [x] := if_neg hx
    obtain ⟨n1, n2⟩ := List.nodup_cons.mp h
    simp only [List.foldl_cons, e]
    rw [nd_keys xs (ks ++ [x]) n2 fun y hy q => ?_]
    · simp only [List.length_append, List.length_cons, List.length_nil]; omega
    · rcases List.mem_append.mp q with q | q
      · exact h' y (List.mem_cons_of_mem _ hy) q
      · rw [List.mem_singleton.mp q] at hy; exact n1 hy
theorem unI_map : ∀ p : List Int, unI (p.map D.int) = p
  | [] => rfl
  | x :: p => by simp only [List.map_cons, unI, unI_map p]
theorem tB_turn {n : Nat} {p : List Int} (hp : Turn n p) : tB n (.lst (p.map .int)) = true := by
  have hk := nd_keys p [] hp.nodup (by simp)
  have hl := hp.len
  have ha : (p.map D.int).all (inPl n) = true := by
    rw [List.all_map, List.all_eq_true]
    intro x hx
    have := hp.mem.mp hx
    simp [inPl, this.1, this.2]
  have hk2 : (keysI p).length = n := by
    unfold keysI
    rw [hk]
    simpa using hl
  simp [tB, unI_map, hl, ha, hk2]
theorem tB_out {n : Nat} {l : List Int} {x : Int} (hx : x ∈ l) (h : ¬ x < n) : tB n (.lst (l.map .int)) = false := by
  have ha : (l.map D.int).all (inPl n) = false := by
    rw [Bool.eq_false_iff]
    intro q
    rw [List.all_map, List.all_eq_true] at q
    have := q x hx
    simp [inPl] at this
    omega
  simp [tB, ha]
theorem tB_dup {n : Nat} {l : List Int} (h : ¬ l.Nodup) : tB n (.lst (l.map .int)) = false := by
  rw [Bool.eq_false_iff]
  intro q
  simp only [tB, unI_map, Bool.and_eq_true, decide_eq_true_eq, List.length_map] at q
  exact h (keys_nd l [] (by simpa [keysI] using q.2.2.trans q.1.symm)).1
end
end Cl

namespace Cl
noncomputable section
open PySem L2 Z
def x_law_same_1 (F : FM) : EM := (eP (pCall 2 F (aCons (pOp oIx (pV 0) (pV 2)) (aCons (pOp oIx (pV 1) (pV 2)) aNil))))
def m_law_same (F : FM) : SM := (mSeq (mIf (eT (pB (pOp (oIsN false) (pV 1) (pC .non)))) (mRet (eP (pOp (oIsN false) (pV 0) (pC .non)))) mNil) (mSeq (mIf (eT (pB (pIsi Ty.bool (pV 1)))) (mRet (eP (pAndV (pIsi Ty.bool (pV 0)) (pOp oEq (pV 0) (pV 1))))) mNil) (mSeq (mIf (eT (pB (pIsi Ty.int (pV 1)))) (mRet (eP (pAndV (pIsi Ty.int (pV 0)) (pAndV (pNotV (pIsi Ty.bool (pV 0))) (pOp oEq (pV 0) (pV 1)))))) mNil) (mSeq (mIf (eT (pB (pIsi Ty.str (pV 1)))) (mRet (eP (pAndV (pIsi Ty.str (pV 0)) (pOp oEq (pV 0) (pV 1))))) mNil) (mSeq (mIf (eT (qOr (pB (pOp oNe (pIsi Ty.list (pV 0)) (pIsi Ty.list (pV 1)))) (qOr (qNot (pB (pIsiM [.list, .tuple] (pV 0)))) (pB (pOp oNe (pCB (o1 oLen) (aCons (pV 0) aNil)) (pCB (o1 oLen) (aCons (pV 1) aNil))))))) (mRet (eP (pC (.bl false)))) mNil) (mRet (eCB (cS (o1 oAll)) (eCons (eLC [2] (iR1 (eCons (eP (pCB (o1 oLen) (aCons (pV 1) aNil))) eNil)) (bName 2) tAll (x_law_same_1 F)) eNil))))))))
def F_law_same : Nat → FM
  | 0 => fun _ => .bad
  | k + 1 => mFun 2 3 (m_law_same (F_law_same k))
/-! ### a value is the same as itself -/
mutual
def dep : D → Nat
  | .lst l => depl l + 1
  | .tup l => depl l + 1
  | .dic _ _ => 1000
  | _ => 0
def depl : List D → Nat
  | [] => 0
  | d :: l => max (dep d) (depl l)
end
theorem depl_mem : ∀ {l : List D} {d : D}, d ∈ l → dep d ≤ depl l
  | a :: l, d, h => by
    simp only [depl]
    rcases List.mem_cons.mp h with rfl | h
    · omega
    · have := depl_mem h; omega
mutual
def szOk : D → Bool
  | .lst l => decide (l.length ≤ 100000) && szOkl l
  | .tup l => decide (l.length ≤ 100000) && szOkl l
  | .str s => PyData.strOk s
  | .dic _ _ => false
  | _ => true
def szOkl : List D → Bool
  | [] => true
  | d :: l => szOk d && szOkl l
end
theorem szOkl_mem : ∀ {l : List D} {d : D}, szOkl l = true → d ∈ l → szOk d = true
  | a :: l, d, h, hd => by
    simp only [szOkl, Bool.and_eq_true] at h
    rcases List.mem_cons.mp hd with rfl | hd
    · exact h.1
    · exact szOkl_mem h.2 hd
theorem all_true (n : Nat) : oAll (.lst (List.replicate n (.bl true))) = some (.bl true) := by
  have := boolsOf_map (List.replicate n true)
  rw [List.map_replicate] at this
  simp [oAll, this]
theorem same_comp {k : Nat} (ih : ∀ d : D, dep d < k → szOk d = true → F_law_same k [.sh d, .sh d] = .ok (.sh (.bl true)) [.sh d, .sh d]) {D0 : D} {l : List D} (hD : D0 = .lst l ∨ D0 = .tup l) (hl : depl l < k) (hz : l.length ≤ 100000) (hs : szOkl l = true) :
    lcL [2] (bName 2) tAll (x_law_same_1 (F_law_same k)) ((iota l.length).map ig) [] [some (.sh D0), some (.sh D0), none] = .ok ((iota l.length).map fun _ => .sh (.bl true)) [some (.sh D0), some (.sh D0), none] := by
  refine lcL_T (fun _ => .sh (.bl true)) (fun x hx => ?_) (by simp; unfold lim; omega)
  refine ⟨[some (.sh D0), some (.sh D0), some (si x)], [some (.sh D0), some (.sh D0), some (si x)], rfl, ?_, rfl⟩
  have hm := mem_iota.mp hx
  have hlt : x.toNat < l.length := by omega
  have ea : atI l x = some l[x.toNat] := by rw [atI_ok hm.1 hm.2, List.getElem?_eq_getElem hlt]
  have hd := ih l[x.toNat] (by have := depl_mem (List.getElem_mem hlt); omega) (szOkl_mem hs (List.getElem_mem hlt))
  rcases hD with rfl | rfl <;> simp [x_law_same_1, ea, hd]
theorem same_refl : ∀ (k : Nat) (d : D), dep d < k → szOk d = true → F_law_same k [.sh d, .sh d] = .ok (.sh (.bl true)) [.sh d, .sh d]
  | 0, d, h, _ => by omega
  | k + 1, d, h, hz => by
    cases d with
    | non => simp [F_law_same, m_law_same]
    | bl b => simp [F_law_same, m_law_same]
    | int i => simp [F_law_same, m_law_same]
    | str s =>
      have : oEq (.str s) (.str s) = some (.bl true) := by
        have hs : (D.str s).dat 60 = true := by simpa [szOk, D.dat] using hz
        unfold oEq
        rw [if_pos ⟨hs, hs⟩]
        simp [D.py, PyData.eqv]
      simp [F_law_same, m_law_same, this]
    | lst l =>
      simp only [szOk, Bool.and_eq_true, decide_eq_true_eq] at hz
      have hc := same_comp (fun d h1 h2 => same_refl k d h1 h2) (D0 := .lst l) (.inl rfl) (by simp only [dep] at h; omega) hz.1 hz.2
      have ha := all_true l.length
      have hb := inR_nat (n := l.length) (by omega)
      have e : ((iota l.length).map fun _ => T.sh (D.bl true)) = List.replicate l.length (T.sh (.bl true)) := by
        rw [List.map_const']; simp
      rw [e] at hc
      have e2 : dl (List.replicate l.length (T.sh (.bl true))) = List.replicate l.length (.bl true) := by
        rw [dl_eq, List.map_replicate]; rfl
      simp [F_law_same, m_law_same, hb, hc, e2, ha]
    | tup l =>
      simp only [szOk, Bool.and_eq_true, decide_eq_true_eq] at hz
      have hc := same_comp (fun d h1 h2 => same_refl k d h1 h2) (D0 := .tup l) (.inr rfl) (by simp only [dep] at h; omega) hz.1 hz.2
      have ha := all_true l.length
      have hb := inR_nat (n := l.length) (by omega)
      have e : ((iota l.length).map fun _ => T.sh (D.bl true)) = List.replicate l.length (T.sh (.bl true)) := by
        rw [List.map_const']; simp
      rw [e] at hc
      have e2 : dl (List.replicate l.length (T.sh (.bl true))) = List.replicate l.length (.bl true) := by
        rw [dl_eq, List.map_replicate]; rfl
      simp [F_law_same, m_law_same, hb, hc, e2, ha]
    | dic ks l => simp [szOk] at hz
end
end Cl

namespace Cl
noncomputable section
open PySem L2 Z
/-! ### the values -/
def GoodV (t : T) : Prop := okd 4 1500 t.d ∧ flat2 t.d = true
theorem flat_ints (l : List Int) : (l.map D.int).all flat = true := by
  rw [List.all_eq_true]
  intro d hd
  obtain ⟨x, _, rfl⟩ := List.mem_map.mp hd
  rfl
def Sm (l : List Int) : Prop := ∀ x ∈ l, x.natAbs < 2 ^ 8
theorem good_row {A B : List Int} {d : D} (hA : Sm A) (hB : Sm B) (hl : A.length + B.length ≤ 64) (hd : okd 3 700 d) (hf : flat d = true) : GoodV (.ol (A.map ig ++ .sh d :: B.map ig)) := by
  have e : (T.ol (A.map ig ++ .sh d :: B.map ig)).d = .lst (A.map .int ++ d :: B.map .int) := by simp
  unfold GoodV
  rw [e]
  have h := okl_app (okl_ints (k := 3) hA (by decide)) (okl_cons hd (okl_ints (k := 3) hB (by decide)))
  refine ⟨(h.mono ?_).lst, ?_⟩
  · omega
  · simp only [flat2, List.all_append, List.all_cons, flat_ints, hf, Bool.and_true, Bool.true_and, decide_eq_true_eq, List.length_append, List.length_cons, List.length_map]
    omega
theorem good_ints {A : List Int} (hA : Sm A) (hl : A.length ≤ 64) : GoodV (.ol (A.map ig)) := by
  have e : (T.ol (A.map ig)).d = .lst (A.map .int) := by simp
  unfold GoodV
  rw [e]
  have h := okl_ints (k := 3) hA (by decide)
  refine ⟨(h.mono (by omega)).lst, ?_⟩
  simp only [flat2, flat_ints, Bool.true_and, decide_eq_true_eq, List.length_map]
  omega
theorem take_sm {A : List Int} (h : Sm A) (k : Nat) : Sm (A.take k) := fun x hx => h x (List.mem_of_mem_take hx)
theorem drop_sm {A : List Int} (h : Sm A) (k : Nat) : Sm (A.drop k) := fun x hx => h x (List.mem_of_mem_drop hx)
/-- a list with one put in for one -/
def swp (p : List Int) (k : Nat) (t : T) : T := .ol ((p.take k).map ig ++ t :: (p.drop (k + 1)).map ig)
theorem swp_run {p : List Int} {a : Int} (h0 : 0 ≤ a) (h1 : a < p.length) (hl : p.length ≤ 100) (t : T) : eAddT (.ol ((p.take a.toNat).map ig)) (.ol [t]) = some (.ol ((p.take a.toNat).map ig ++ [t])) ∧ eAddT (.ol ((p.take a.toNat).map ig ++ [t])) (.ol ((p.drop (a.toNat + 1)).map ig)) = some (swp p a.toNat t) := by
  have h2 : ∀ u v : List T, u.length + v.length ≤ 300 → eAddT (.ol u) (.ol v) = some (.ol (u ++ v)) := fun u v h => addT_lst (els_ol u) (els_ol v) (by unfold lim; omega)
  refine ⟨h2 _ _ (by simp; omega), ?_⟩
  rw [h2 _ _ (by simp; omega), List.append_assoc]
  rfl
theorem findIdx_int {p : List Int} {x : Int} (h : x ∈ p) : ∃ k : Nat, k < p.length ∧ oIndex (.lst (p.map .int)) (.int x) = some (.int (k : Int)) := by
  have hd : (D.lst (p.map .int)).dat 60 = true := dat_ints p
  have hp : pyl (p.map D.int) = p.map PyData.int := by
    clear h hd
    induction p with
    | nil => rfl
    | cons a p ih => simp only [List.map_cons, pyl, D.py, ih]
  cases hf : (pyl (p.map D.int)).findIdx? (fun z => PyData.eqv z (D.int x).py) with
  | none =>
    rw [List.findIdx?_eq_none_iff] at hf
    have := hf (.int x) (by rw [hp]; exact List.mem_map.mpr ⟨x, h, rfl⟩)
    simp [D.py, PyData.eqv] at this
  | some k =>
    have hk := (List.findIdx?_eq_some_iff_getElem.mp hf).1
    rw [hp, List.length_map] at hk
    refine ⟨k, hk, ?_⟩
    show (if _ then _ else _) = _
    rw [if_pos ⟨hd, rfl⟩, hf]
    rfl
theorem turn_sm {n : Nat} {p : List Int} (hp : Turn n p) (hn : n ≤ 60) : Sm p := fun x hx => by
  have := hp.mem.mp hx
  omega
theorem GoodV.frz {t : T} (h : GoodV t) : GoodV (.sh t.d) := h
theorem good_swp {p : List Int} (hs : Sm p) (hl : p.length ≤ 60) (k : Nat) {d : D} (hd : okd 3 700 d ∧ flat d = true) : GoodV (swp p k (.sh d)) :=
  good_row (take_sm hs k) (drop_sm hs (k + 1)) (by simp; omega) hd.1 hd.2
theorem good_shi {A : List Int} (hA : Sm A) (hl : A.length ≤ 64) : GoodV (.sh (D.ints A)) := by
  have := good_ints hA hl
  unfold GoodV at *
  simpa using this
theorem set_sm {A : List Int} (h : Sm A) {k : Nat} {x : Int} (hx : x.natAbs < 2 ^ 8) : Sm (A.set k x) := fun y hy => by
  rcases List.mem_or_eq_of_mem_set hy with q | q
  · exact h y q
  · rw [q]; exact hx
theorem sd {i : Int} (h : i.natAbs < 2 ^ 8) : okd 3 700 (.int i) ∧ flat (.int i) = true := ⟨(okd_intw h (by decide)).mono (by omega), rfl⟩
end
end Cl

namespace Cl
noncomputable section
open PySem L2 Z
def b_check_makers_1 : SM := (mIf (eT (qNot (pB (pCall 2 F_is_turning (aCons (pV 0) (aCons (pV 4) aNil)))))) (mRaise1 "BadTurning" "place" (eV 3)) mNil)
def m_check_makers : SM := (mSeq (mIf (eT (qOr (qNot (pB (pCall 1 F_is_number (aCons (pV 0) aNil)))) (qNot (pB (pChain oLe oLe (pC (.int 0)) (pV 0) (pV 2)))))) (mRaise0 "BadPlaces") mNil) (mSeq (mIf (eT (qNot (pB (pIsi Ty.list (pV 1))))) (mRaise1 "BadTurning" "place" (eP (pUn oNeg (pC (.int 1))))) mNil) (mSeq (mIf (eT (pB (pOp oGt (pCB (o1 oLen) (aCons (pV 1) aNil)) (pC (.int 40))))) (mRaise1 "BadSize" "size" (eP (pCB (o1 oLen) (aCons (pV 1) aNil)))) mNil) (mFor (iEn (eV 1)) (bTup [3, 4]) b_check_makers_1))))
def F_check_makers : FM := mFun 3 5 m_check_makers
def m_check_group : SM := (mDrop (eCall 3 F_check_makers (eCons (eV 0) (eCons (eV 1) (eCons (eP (pC (.int 24))) eNil)))))
def F_check_group : FM := mFun 2 2 m_check_group
/-! ### the first error of a group -/
def badAt (n : Nat) (l : List D) : Option Nat := l.findIdx? fun d => !tB n d
def errG (N M : D) : Option Exn := match N with
  | .int n => if 0 ≤ n ∧ n ≤ 24 then (match M with
      | .lst l => if 40 < l.length then some ⟨"BadSize", [("size", .int l.length)]⟩ else (badAt n.toNat l).map fun k => ⟨"BadTurning", [("place", .int k)]⟩
      | _ => some ⟨"BadTurning", [("place", .int (-1))]⟩) else some ⟨"BadPlaces", []⟩
  | _ => some ⟨"BadPlaces", []⟩
/-- what may stand for the makers -/
def flatM : D → Bool
  | .lst l => l.all flat2 && decide (l.length ≤ 100000)
  | .dic _ _ => false
  | _ => true
theorem enum_at {l : List D} {k : Nat} {t : T} (h : (enumT 0 l)[k]? = some t) : ∃ d, l[k]? = some d ∧ t = .ot [si k, .sh d] := by
  rw [enumT_get] at h
  obtain ⟨d, e, rfl⟩ := Option.map_eq_some_iff.mp h
  exact ⟨d, e, by simp⟩
/-- a walk that may raise -/
theorem forL_ex {b : BM} {body : SM} : ∀ {its : List T} {ρ : Z.Env} (I : Nat → Z.Env → Prop) (R : Exn → Prop) (_ : I 0 ρ)
    (_ : ∀ k t ρ, its[k]? = some t → I k ρ → ∃ ρ1 ρ2, b t ρ = some ρ1 ∧ (((body ρ1 = .nx ρ2 ∨ body ρ1 = .ct ρ2) ∧ I (k + 1) ρ2) ∨ (∃ u, body ρ1 = .ex u ρ2 ∧ R u))),
    (∃ ρ', forL b body its ρ = .nx ρ' ∧ I its.length ρ') ∨ (∃ u ρ', forL b body its ρ = .ex u ρ' ∧ R u)
  | [], ρ, I, R, h0, _ => .inl ⟨ρ, rfl, h0⟩
  | t :: its, ρ, I, R, h0, hs => by
    obtain ⟨ρ1, ρ2, e1, e2⟩ := hs 0 t ρ rfl h0
    unfold forL
    rw [e1]
    simp only
    rcases e2 with ⟨e2, h2⟩ | ⟨u, e2, h2⟩
    · have := forL_ex (its := its) (ρ := ρ2) (fun k => I (k + 1)) R h2 (fun k t' ρ' e i => hs (k + 1) t' ρ' (by simpa using e) i)
      rcases e2 with e2 | e2 <;> rw [e2] <;> exact this
    · rw [e2]
      exact .inr ⟨u, ρ2, rfl, h2⟩
theorem walk_makers {n : Nat} (hn : n ≤ 1000) {l : List D} (hl : l.all flat2 = true) :
    (∃ ρ', forL (bTup [3, 4]) b_check_makers_1 (enumT 0 l) [some (si n), some (.sh (.lst l)), some (si 24), none, none] = .nx ρ' ∧ (∃ j3 j4, ρ' = [some (si n), some (.sh (.lst l)), some (si 24), j3, j4]) ∧ badAt n l = none) ∨
    (∃ k ρ', forL (bTup [3, 4]) b_check_makers_1 (enumT 0 l) [some (si n), some (.sh (.lst l)), some (si 24), none, none] = .ex ⟨"BadTurning", [("place", .int (k : Nat))]⟩ ρ' ∧ badAt n l = some k) := by
  have key := forL_ex (b := bTup [3, 4]) (body := b_check_makers_1) (its := enumT 0 l) (ρ := [some (si n), some (.sh (.lst l)), some (si 24), none, none])
    (fun k ρ => (∃ j3 j4, ρ = [some (si n), some (.sh (.lst l)), some (si 24), j3, j4]) ∧ (l.take k).all (tB n) = true)
    (fun u => ∃ k : Nat, u = ⟨"BadTurning", [("place", .int k)]⟩ ∧ badAt n l = some k) ⟨⟨none, none, rfl⟩, rfl⟩ (by
      rintro k t ρ e ⟨⟨j3, j4, rfl⟩, hall⟩
      obtain ⟨d, ed, rfl⟩ := enum_at e
      have hk : k < l.length := (List.getElem?_eq_some_iff.mp ed).1
      have hd := List.all_eq_true.mp hl d (List.mem_of_getElem? ed)
      have hi := is_ok (N := n) hn hd
      have et : l.take (k + 1) = l.take k ++ [d] := by rw [List.take_add_one, ed]; rfl
      refine ⟨[some (si n), some (.sh (.lst l)), some (si 24), some (si k), some (.sh d)], [some (si n), some (.sh (.lst l)), some (si 24), some (si k), some (.sh d)], rfl, ?_⟩
      cases hb : tB n d with
      | true =>
        rw [hb] at hi
        refine .inl ⟨.inl ?_, ⟨_, _, rfl⟩, ?_⟩
        · simp [b_check_makers_1, hi]
        · rw [et, List.all_append, hall]; simp [hb]
      | false =>
        rw [hb] at hi
        refine .inr ⟨⟨"BadTurning", [("place", .int k)]⟩, ?_, k, rfl, ?_⟩
        · simp [b_check_makers_1, hi]
        · unfold badAt
          rw [List.findIdx?_eq_some_iff_getElem]
          have e2 := (List.getElem?_eq_some_iff.mp ed).2
          refine ⟨hk, by rw [e2, hb]; rfl, fun j hj => ?_⟩
          have hm : l[j] ∈ l.take k := List.mem_take_iff_getElem.mpr ⟨j, by omega, rfl⟩
          have := List.all_eq_true.mp hall _ hm
          simp [this])
  rcases key with ⟨ρ', e, h1, h2⟩ | ⟨u, ρ', e, k, rfl, h⟩
  · refine .inl ⟨ρ', e, h1, ?_⟩
    have : (enumT 0 l).length = l.length := enumT_len
    rw [this, List.take_length] at h2
    unfold badAt
    rw [List.findIdx?_eq_none_iff]
    intro d hd
    have := List.all_eq_true.mp h2 d hd
    simp [this]
  · exact .inr ⟨k, ρ', e, h⟩
theorem makers_ok {N M : D} (hN : flat N = true) (hM : flatM M = true) : F_check_makers [.sh N, .sh M, si 24] = match errG N M with
    | some x => .ex x
    | none => .ok (.sh .non) [.sh N, .sh M, si 24] := by
  have hnum := num_ok hN
  cases N with
  | int n =>
    by_cases c : 0 ≤ n ∧ n ≤ 24
    · cases M with
      | lst l =>
        simp only [flatM, Bool.and_eq_true, decide_eq_true_eq] at hM
        by_cases c2 : 40 < l.length
        · have c3 : (40 : Int) < l.length := by omega
          simp [F_check_makers, m_check_makers, errG, hnum, isI, c, c2, c3]
        · have c3 : ¬ (40 : Int) < l.length := by omega
          have hw := walk_makers (n := n.toNat) (by omega) hM.1
          rw [show ((n.toNat : Nat) : Int) = n by omega] at hw
          rcases hw with ⟨ρ', e, ⟨j3, j4, rfl⟩, hb⟩ | ⟨k, ρ', e, hb⟩
          · simp [F_check_makers, m_check_makers, errG, hnum, isI, c, c2, c3, e, hb]
          · simp [F_check_makers, m_check_makers, errG, hnum, isI, c, c2, c3, e, hb]
      | dic _ _ => simp [flatM] at hM
      | _ => simp [F_check_makers, m_check_makers, errG, hnum, isI, c]
    · by_cases c1 : 0 ≤ n
      · have c2 : ¬ n ≤ 24 := fun q => c ⟨c1, q⟩
        simp [F_check_makers, m_check_makers, errG, hnum, isI, c, c1, c2]
      · simp [F_check_makers, m_check_makers, errG, hnum, isI, c, c1]
  | dic _ _ => cases hN
  | _ => simp [F_check_makers, m_check_makers, errG, hnum, isI]
theorem group_ok {N M : D} (hN : flat N = true) (hM : flatM M = true) : F_check_group [.sh N, .sh M] = match errG N M with
    | some x => .ex x
    | none => .ok (.sh .non) [.sh N, .sh M] := by
  have h := makers_ok hN hM
  cases e : errG N M with
  | none => rw [e] at h; simp [F_check_group, m_check_group, h]
  | some x => rw [e] at h; simp [F_check_group, m_check_group, h]
end
end Cl

namespace Cl
noncomputable section
open PySem L2 Z
def b_law_group_1 : SM := (mIf (eT (pB (pOp oLt (pV 4) (pC (.int 4))))) (mAppG 3 (eFz (eCallI 2 0 F_law_any (eCons (eV 1) eNil)))) (mAppG 3 (eFz (eCall 2 F_law_then (eCons (eIxN 3 (eCallI 2 0 F_law_pick (eCons (eV 4) eNil))) (eCons (eIxN 3 (eCallI 2 0 F_law_pick (eCons (eV 4) eNil))) eNil))))))
def m_law_group : SM := (mSeq (mPar 2 3 (eCons (eOp ixT (eLst (eCons (eP (pC (.int 0))) (eCons (eP (pC (.int 1))) (eCons (eP (pC (.int 2))) (eCons (eP (pC (.int 3))) (eCons (eP (pC (.int 39))) (eCons (eP (pC (.int 40))) (eCons (eFz (eCallI 2 0 F_law_pick (eCons (eP (pC (.int 41))) eNil))) eNil)))))))) (eCallI 2 0 F_law_pick (eCons (eP (pC (.int 7))) eNil))) (eCons (eLst eNil) eNil))) (mSeq (mFor (iR1 (eCons (eV 2) eNil)) (bName 4) b_law_group_1) (mRet (eM 3))))
def F_law_group : FM := mFunI 2 5 m_law_group
theorem turn_then {n : Nat} {p q : List Int} (hp : Turn n p) (hq : Turn n q) : Turn n (thenL p q) := by
  have h1 : via (iota n) q = q := by
    have hl := hq.len
    apply List.ext_getElem
    · simp [hl]
    · intro j h1 h2
      have e1 := getD_at (l := via (iota n) q) (i := j) h1
      rw [← e1, via_get (by simpa using h1), iota_getD n j (by simpa using h1)]
      rw [Int.toNat_natCast]
      exact getD_at h2
  have h2 : (via p q).Perm (via (iota n) q) := List.Perm.map _ hp
  rw [h1] at h2
  exact h2.trans hq
theorem turns_at {n : Nat} {rows : List (List Int)} (h : ∀ r ∈ rows, Turn n r) {x : Int} (h0 : 0 ≤ x) (h1 : x < rows.length) : ∃ r, Turn n r ∧ atI (rows.map rg) x = some (.sh (.lst (r.map .int))) := by
  have hx : x.toNat < rows.length := by omega
  refine ⟨rows[x.toNat], h _ (List.getElem_mem hx), ?_⟩
  rw [atI_ok h0 (by simpa using h1), List.getElem?_map, List.getElem?_eq_getElem hx]
  rfl
theorem makers_drawn {t : T} {n : Nat} (ht : Pool t) (hn : n ≤ 1000) : ∃ (t' : T) (rows : List (List Int)), Pool t' ∧ (∀ r ∈ rows, Turn n r) ∧ rows.length ≤ 40 ∧ F_law_group [t, si n] = .ok (.ol (rows.map rg)) [t', si n] := by
  obtain ⟨t1, a, g1, a0, a1, _, e1⟩ := pick_ok (m := 41) ht (by decide)
  obtain ⟨t2, b, g2, b0, b1, _, e2⟩ := pick_ok (m := 7) g1 (by decide)
  obtain ⟨m, hm, em⟩ : ∃ m : Nat, m ≤ 40 ∧ atI [si 0, si 1, si 2, si 3, si 39, si 40, si a] b = some (si (m : Int)) := by
    have : [si 0, si 1, si 2, si 3, si 39, si 40, si a] = [0, 1, 2, 3, 39, 40, a].map ig := rfl
    rw [this, atI_T _ b0 (by simpa using b1)]
    have h : 0 ≤ [0, 1, 2, 3, 39, 40, a].getD b.toNat 0 ∧ [0, 1, 2, 3, 39, 40, a].getD b.toNat 0 ≤ 40 := by
      have h8 : b = 0 ∨ b = 1 ∨ b = 2 ∨ b = 3 ∨ b = 4 ∨ b = 5 ∨ b = 6 := by omega
      rcases h8 with h | h | h | h | h | h | h <;> subst h <;> simp <;> omega
    refine ⟨([0, 1, 2, 3, 39, 40, a].getD b.toNat 0).toNat, by omega, ?_⟩
    rw [Int.toNat_of_nonneg h.1]
  have hb := inR_nat (n := m) (by omega)
  obtain ⟨ρ', e, P, rows, j4, rfl, h1, h2, h3⟩ := forN_inv (i := 4) (body := b_law_group_1) (its := (iota m).map ig) (ρ := [some t2, some (si n), some (si m), some (.ol []), none])
    (fun k ρ => ∃ (P : T) (rows : List (List Int)) (j4 : Option T), ρ = [some P, some (si n), some (si m), some (.ol (rows.map rg)), j4] ∧ Pool P ∧ (∀ r ∈ rows, Turn n r) ∧ rows.length = k)
    ⟨t2, [], none, rfl, g2, fun r h => by simp at h, rfl⟩ (by
      rintro k t ρ e ⟨P, rows, j4, rfl, hP, hr, hl⟩
      rw [← rangeT_iota] at e
      obtain ⟨hk, rfl⟩ := rangeT_get e
      have hz : rows.length < lim := by unfold lim; omega
      by_cases c : k < 4
      · obtain ⟨t3, p, g3, hp, e3⟩ := any_ok (n := n) hP hn
        refine ⟨_, .inl ?_, t3, rows ++ [p], some (si (0 + (k : Int))), rfl, g3, fun r h => ?_, by simp [hl]⟩
        · have c' : (k : Int) < 4 := by omega
          simp [b_law_group_1, c', e3, hz, rg]
        · rcases List.mem_append.mp h with q | q
          · exact hr r q
          · rw [List.mem_singleton.mp q]; exact hp
      · obtain ⟨t3, x, g3, x0, x1, _, e3⟩ := pick_ok (m := (k : Int)) hP (by omega)
        obtain ⟨t4, y, g4, y0, y1, _, e4⟩ := pick_ok (m := (k : Int)) g3 (by omega)
        obtain ⟨p, hp, ep⟩ := turns_at hr x0 (by omega)
        obtain ⟨q, hq, eq⟩ := turns_at hr y0 (by omega)
        have et := law_then_ok hp.row hq.row hn
        refine ⟨_, .inl ?_, t4, rows ++ [thenL p q], some (si (0 + (k : Int))), rfl, g4, fun r h => ?_, by simp [hl]⟩
        · have c' : ¬ (k : Int) < 4 := by omega
          simp at et
          simp [b_law_group_1, c', e3, e4, ep, eq, et, hz, rg]
        · rcases List.mem_append.mp h with z | z
          · exact hr r z
          · rw [List.mem_singleton.mp z]; exact turn_then hp hq)
  refine ⟨P, rows, h1, h2, ?_, ?_⟩
  · have : ((iota m).map ig).length = m := by simp
    omega
  · skip
    simp [F_law_group, m_law_group, e1, e2, em, hb, e]
end
end Cl

set_option maxHeartbeats 1000000
namespace Cl
noncomputable section
open PySem L2 Z
def m_is_letter : SM := (mSeq (mIf (eT (qOr (qNot (pB (pIsi Ty.tuple (pV 1)))) (qOr (pB (pOp oNe (pCB (o1 oLen) (aCons (pV 1) aNil)) (pC (.int 2)))) (qOr (qNot (pB (pCall 1 F_is_number (aCons (pOp oIx (pV 1) (pC (.int 0))) aNil)))) (qNot (pB (pCall 1 F_is_number (aCons (pOp oIx (pV 1) (pC (.int 1))) aNil)))))))) (mRet (eP (pC (.bl false)))) mNil) (mRet (eP (pAndV (pChain oLe oLt (pC (.int 0)) (pOp oIx (pV 1) (pC (.int 0))) (pCB (o1 oLen) (aCons (pV 0) aNil))) (pOp (oInB false) (pOp oIx (pV 1) (pC (.int 1))) (pTup (aCons (pC (.int 1)) (aCons (pUn oNeg (pC (.int 1))) aNil))))))))
def F_is_letter : FM := mFun 2 2 m_is_letter
/-! ### letters -/
def isLet (m : Int) : D → Bool
  | .tup [a, .int e] => inPl m a && (e == 1 || e == -1)
  | _ => false
/-- what may stand for a letter or a step -/
def vOk (d : D) : Bool := d.dat 60 && match d with
  | .tup l => l.all flat && decide (l.length ≤ 1000)
  | .dic _ _ => false
  | _ => true
theorem in_pmT (e : Int) : oInB false (.int e) (.tup [.int 1, .int (-1)]) = some (.bl (e == 1 || e == -1)) := by
  have h : ∀ a : Int, (a == e) = (e == a) := fun a => by rw [Bool.eq_iff_iff, beq_iff_eq, beq_iff_eq]; exact eq_comm
  simp [oInB, D.seq, flatD, eqD, h]
theorem len3 {α : Type} (l : List α) : ((l.length : Int) + 1 + 1 + 1 == 2) = false := by
  have : ¬ ((l.length : Int) + 1 + 1 + 1 = 2) := by omega
  simp [this]
theorem letter_ok {l : List D} {d : D} (hd : vOk d = true) : F_is_letter [.sh (.lst l), .sh d] = .ok (.sh (.bl (isLet l.length d))) [.sh (.lst l), .sh d] := by
  cases d with
  | dic _ _ => simp [vOk] at hd
  | tup r =>
    simp only [vOk, Bool.and_eq_true] at hd
    match r, hd.2.1 with
    | [], _ => simp [F_is_letter, m_is_letter, isLet]
    | [a], _ => simp [F_is_letter, m_is_letter, isLet]
    | a :: b :: c :: t, _ =>
      have := len3 t
      simp [F_is_letter, m_is_letter, isLet, this]
    | [a, b], h =>
      simp only [List.all_cons, List.all_nil, Bool.and_true, Bool.and_eq_true] at h
      have ha := num_ok h.1
      have hb := num_ok h.2
      cases a <;> first | (simp [flat] at h; done) | skip
      case int i =>
        cases b <;> first | (simp [flat] at h; done) | skip
        case int e =>
          have hp := in_pmT e
          by_cases c1 : 0 ≤ i
          · by_cases c2 : i < l.length
            · simp [F_is_letter, m_is_letter, isLet, inPl, isI, ha, hb, hp, c1, c2]
            · simp [F_is_letter, m_is_letter, isLet, inPl, isI, ha, hb, hp, c1, c2]
          · simp [F_is_letter, m_is_letter, isLet, inPl, isI, ha, hb, hp, c1]
        all_goals simp [F_is_letter, m_is_letter, isLet, isI, ha, hb]
      all_goals (cases b <;> simp [F_is_letter, m_is_letter, isLet, inPl, isI, ha])
  | _ => simp [F_is_letter, m_is_letter, isLet]
end
end Cl

set_option maxHeartbeats 1000000
namespace Cl
noncomputable section
open PySem L2 Z
def x_is_step_1 : EM := (eP (pCall 1 F_is_number (aCons (pV 3) aNil)))
def m_is_step : SM := (mSeq (mIf (eOr (eT (qNot (pB (pIsi Ty.tuple (pV 1))))) (eOr (eT (qNot (qTru (pV 1)))) (eNot (eB (eCB (cS (o1 oAll)) (eCons (eLC [3] (iE (eSlU (vV 1) (oYes (pC (.int 1))) oNo)) (bName 3) tAll x_is_step_1) eNil)))))) (mRet (eP (pC (.bl false)))) mNil) (mSeq (mIf (eT (pB (pOp oEq (pOp oIx (pV 1) (pC (.int 0))) (pC (.str "maker"))))) (mRet (eP (pAndV (pOp oEq (pCB (o1 oLen) (aCons (pV 1) aNil)) (pC (.int 2))) (pChain oLe oLt (pC (.int 0)) (pOp oIx (pV 1) (pC (.int 1))) (pV 0))))) mNil) (mSeq (mIf (eT (pB (pOp oEq (pOp oIx (pV 1) (pC (.int 0))) (pC (.str "then"))))) (mRet (eP (pAndV (pOp oEq (pCB (o1 oLen) (aCons (pV 1) aNil)) (pC (.int 3))) (pAndV (pChain oLe oLt (pC (.int 0)) (pOp oIx (pV 1) (pC (.int 1))) (pV 2)) (pChain oLe oLt (pC (.int 0)) (pOp oIx (pV 1) (pC (.int 2))) (pV 2)))))) mNil) (mRet (eP (pAndV (pOp oEq (pOp oIx (pV 1) (pC (.int 0))) (pC (.str "back"))) (pAndV (pOp oEq (pCB (o1 oLen) (aCons (pV 1) aNil)) (pC (.int 2))) (pChain oLe oLt (pC (.int 0)) (pOp oIx (pV 1) (pC (.int 1))) (pV 2)))))))))
def F_is_step : FM := mFun 3 4 m_is_step
/-! ### steps -/
def stpL (m p : Int) (s : Str) (r : List D) : Bool :=
  if s = "maker" then (match r with | [a] => inPl m a | _ => false)
  else if s = "then" then (match r with | [a, b] => inPl p a && inPl p b | _ => false)
  else if s = "back" then (match r with | [a] => inPl p a | _ => false)
  else false
def isStp (m p : Int) : D → Bool
  | .tup (.str s :: r) => stpL m p s r
  | _ => false
theorem so_maker : PyData.strOk "maker" = true := by decide +kernel
theorem so_then : PyData.strOk "then" = true := by decide +kernel
theorem so_back : PyData.strOk "back" = true := by decide +kernel
theorem eq_ss {s t : Str} (hs : PyData.strOk s = true) (ht : PyData.strOk t = true) : oEq (.str s) (.str t) = some (.bl (decide (s = t))) := by
  unfold oEq
  rw [if_pos ⟨hs, ht⟩]
  by_cases c : s = t <;> simp [D.py, PyData.eqv, c]
theorem eq_so {d : D} {t : Str} (hd : d.dat 60 = true) (h : ∀ s, d ≠ .str s) (ht : PyData.strOk t = true) : oEq d (.str t) = some (.bl false) := by
  unfold oEq
  rw [if_pos ⟨hd, ht⟩]
  cases d <;> first | (exact absurd rfl (h _)) | simp [D.py, PyData.eqv]
theorem cut1 (a : D) (r : List D) : cutD (a :: r) (some 1) none = r := by
  have := cut_from (a :: r) (i := 1) (by omega) (by simp only [List.length_cons]; omega)
  simpa using this
theorem bools_all (l : List Bool) : oAll (.lst (l.map D.bl)) = some (.bl (l.all id)) := by
  have := boolsOf_map l
  simp [oAll, this]
/-- the numbers behind the name -/
theorem lc_nums {e0 e1 e2 : Option T} {r : List D} (hr : r.all flat = true) (hz : r.length ≤ 1000) : lcL [3] (bName 3) tAll x_is_step_1 (r.map .sh) [] [e0, e1, e2, none] = .ok (r.map fun d => .sh (.bl (isI d))) [e0, e1, e2, none] := by
  have := lcL_map (slots := [3]) (b := bName 3) (elt := x_is_step_1) (ρ := [e0, e1, e2, none]) (fun t => .sh (.bl (isI t.d))) (its := r.map .sh) (acc := []) (fun t ht => by
    obtain ⟨d, hd', rfl⟩ := List.mem_map.mp ht
    have hp := num_ok (List.all_eq_true.mp hr d hd')
    exact ⟨[e0, e1, e2, some (.sh d)], [e0, e1, e2, some (.sh d)], rfl, by simp [x_is_step_1, hp], rfl⟩) (by simp; unfold lim; omega)
  rw [this]
  simp [Function.comp_def]
theorem dl_bools (f : D → Bool) (r : List D) : dl (r.map fun d => T.sh (.bl (f d))) = (r.map f).map D.bl := by
  rw [dl_eq, List.map_map, List.map_map]; rfl
theorem inPl_isI {p : Int} {d : D} (h : inPl p d = true) : isI d = true := by cases d <;> first | rfl | simp [inPl] at h
theorem stp_nums {m p : Int} {s : Str} {r : List D} (h : stpL m p s r = true) : r.all isI = true := by
  unfold stpL at h
  split at h
  · split at h
    · simp [inPl_isI h]
    · cases h
  split at h
  · split at h
    · simp only [Bool.and_eq_true] at h
      simp [inPl_isI h.1, inPl_isI h.2]
    · cases h
  split at h
  · split at h
    · simp [inPl_isI h]
    · cases h
  · cases h
theorem ints_eq : ∀ {r : List D}, r.all isI = true → ∃ is : List Int, r = is.map .int
  | [], _ => ⟨[], rfl⟩
  | d :: r, h => by
    simp only [List.all_cons, Bool.and_eq_true] at h
    obtain ⟨is, rfl⟩ := ints_eq h.2
    cases d <;> first | exact ⟨_ :: is, rfl⟩ | simp [isI] at h
theorem lenF {n : Nat} {k : Int} (h : (n : Int) ≠ k) : ((n : Int) == k) = false := by simp [h]
theorem step_ok {m p : Int} {d : D} (hd : vOk d = true) : F_is_step [si m, .sh d, si p] = .ok (.sh (.bl (isStp m p d))) [si m, .sh d, si p] := by
  cases d with
  | dic _ _ => simp [vOk] at hd
  | tup l =>
    simp only [vOk, Bool.and_eq_true, decide_eq_true_eq] at hd
    match l, hd with
    | [], _ => simp [D.seq, F_is_step, m_is_step, isStp, D.truth]
    | a :: r, hd =>
      simp only [List.all_cons, Bool.and_eq_true, List.length_cons, D.dat, datl] at hd
      have h1 := lc_nums (e0 := some (si m)) (e1 := some (.sh (.tup (a :: r)))) (e2 := some (si p)) hd.2.1.2 (by omega)
      have h2 := dl_bools isI r
      have h3 := bools_all (r.map isI)
      have h7 : (r.map isI).all id = r.all isI := by rw [List.all_map]; rfl
      rw [h7] at h3
      have h8 := cut1 a r
      have h9 : (D.tup (a :: r)).truth = some true := rfl
      cases hall : r.all isI with
      | false =>
        have hf : isStp m p (.tup (a :: r)) = false := by
          cases a <;> first | rfl | skip
          rw [Bool.eq_false_iff]
          intro h
          have := stp_nums (s := _) (r := r) h
          rw [hall] at this
          cases this
        rw [hall] at h3
        simp at h2 h3
        simp [D.seq, F_is_step, m_is_step, h1, h2, h3, h8, h9, hf]
      | true =>
        rw [hall] at h3
        obtain ⟨is, rfl⟩ := ints_eq hall
        have da : a.dat 60 = true := dat_mono hd.1.1 (by decide)
        by_cases hs : ∃ s, a = .str s
        · obtain ⟨s, rfl⟩ := hs
          have ds : PyData.strOk s = true := da
          have q1 := eq_ss ds so_maker
          have q2 := eq_ss ds so_then
          have q3 := eq_ss ds so_back
          simp at h1 h2 h3 h8
          by_cases c1 : s = "maker"
          · subst c1
            simp [D.seq, F_is_step, m_is_step, h1, h2, h3, h8, h9, q1]
            clear h1 h2 h3 h8 h9 hd hall h7
            rcases is with _ | ⟨i, _ | ⟨j, t⟩⟩
            · simp [isStp, stpL]
            · by_cases k1 : 0 ≤ i <;> simp [isStp, stpL, inPl, k1]
            · have : ¬ ((t.length : Int) + 1 + 1 + 1 = 2) := by omega
              simp [isStp, stpL, this]
          · by_cases c2 : s = "then"
            · subst c2
              simp [D.seq, F_is_step, m_is_step, h1, h2, h3, h8, h9, q1, q2, c1]
              clear h1 h2 h3 h8 h9 hd hall h7
              rcases is with _ | ⟨i, _ | ⟨j, _ | ⟨k, t⟩⟩⟩
              · simp [c1, isStp, stpL]
              · simp [c1, isStp, stpL]
              · by_cases k1 : 0 ≤ i <;> by_cases k2 : i < p <;> by_cases k3 : 0 ≤ j <;> simp [c1, isStp, stpL, inPl, k1, k2, k3]
              · have := lenF (n := t.length + 1 + 1 + 1 + 1) (k := 3) (by omega)
                simp at this
                simp [c1, isStp, stpL, this]
            · by_cases c3 : s = "back"
              · subst c3
                simp [D.seq, F_is_step, m_is_step, h1, h2, h3, h8, h9, q1, q2, q3, c1, c2]
                clear h1 h2 h3 h8 h9 hd hall h7
                rcases is with _ | ⟨i, _ | ⟨j, t⟩⟩
                · simp [c1, c2, isStp, stpL]
                · by_cases k1 : 0 ≤ i <;> simp [c1, c2, isStp, stpL, inPl, k1]
                · have : ¬ ((t.length : Int) + 1 + 1 + 1 = 2) := by omega
                  simp [c1, c2, isStp, stpL, this]
              · simp [D.seq, F_is_step, m_is_step, h1, h2, h3, h8, h9, isStp, stpL, q1, q2, q3, c1, c2, c3]
        · have q1 := eq_so da (fun s h => hs ⟨s, h⟩) so_maker
          have q2 := eq_so da (fun s h => hs ⟨s, h⟩) so_then
          have q3 := eq_so da (fun s h => hs ⟨s, h⟩) so_back
          have hf : isStp m p (.tup (a :: is.map .int)) = false := by
            cases a <;> first | rfl | exact absurd ⟨_, rfl⟩ hs
          simp at h1 h2 h3 h8
          simp [D.seq, F_is_step, m_is_step, h1, h2, h3, h8, h9, hf, q1, q2, q3]
  | _ => simp [D.seq, F_is_step, m_is_step, isStp]
theorem int_bl (b : Bool) : oInt (.bl b) = some (.int (if b = true then 1 else 0)) := by cases b <;> rfl
end
end Cl

set_option maxHeartbeats 1000000
namespace Cl
noncomputable section
open PySem L2 Z
def m_still : SM := (mRet (eRg1 (pV 0)))
def F_still : FM := mFun 1 1 m_still
def x_then_1 : EM := (eGet (vIx (vV 1) (pV 2)))
def m_then : SM := (mRet (eLC [2] (iE (eV 0)) (bName 2) tAll x_then_1))
def F_then : FM := mFun 2 3 m_then
def b_back_1 : SM := (mStore 1 (eV 2) (pV 3))
def m_back : SM := (mSeq (mSet 1 (eOp repT (eLst (eCons (eP (pC (.int 0))) eNil)) (eP (pCB (o1 oLen) (aCons (pV 0) aNil))))) (mSeq (mFor (iEn (eV 0)) (bTup [2, 3]) b_back_1) (mRet (eM 1))))
def F_back : FM := mFun 1 4 m_back
def m_letter_turning : SM := (mRet (eIf (eT (pB (pOp oEq (pOp oIx (pV 1) (pC (.int 1))) (pC (.int 1))))) (eList (vIx (vV 0) (pOp oIx (pV 1) (pC (.int 0))))) (eCall 1 F_back (eCons (eGet (vIx (vV 0) (pOp oIx (pV 1) (pC (.int 0))))) eNil))))
def F_letter_turning : FM := mFun 2 2 m_letter_turning
def b_word_turning_1 : SM := (mSeq (mIf (eT (qNot (pB (pCall 2 F_is_letter (aCons (pV 1) (aCons (pV 5) aNil)))))) (mRaise1 "BadWord" "place" (eV 4)) mNil) (mSet 3 (eCall 2 F_then (eCons (eV 3) (eCons (eCall 2 F_letter_turning (eCons (eV 1) (eCons (eV 5) eNil))) eNil)))))
def m_word_turning : SM := (mSeq (mDrop (eCall 2 F_check_group (eCons (eV 0) (eCons (eV 1) eNil)))) (mSeq (mSet 3 (eCall 1 F_still (eCons (eV 0) eNil))) (mSeq (mFor (iEn (eV 2)) (bTup [4, 5]) b_word_turning_1) (mRet (eM 3)))))
def F_word_turning : FM := mFun 3 6 m_word_turning
theorem still_ok {n : Nat} (hn : n ≤ 1000) : F_still [si n] = .ok (T.ints (iota n)) [si n] := by
  have hr : rgOk 0 (n : Int) = true := rgOk_of (by omega) (by omega) (by omega) (by omega)
  simp [F_still, m_still, hr]
theorem then_ok {n : Nat} {p q : List Int} (hp : Row n p) (hq : Row n q) (hn : n ≤ 1000) : F_then [shi p, shi q] = .ok (T.ints (thenL p q)) [shi p, shi q] := by
  have h := lc_then (elt := x_then_1) rfl hp hq hn
  simp at h
  simp [F_then, m_then, h]
theorem back_ok {n : Nat} {p : List Int} (hp : Row n p) (hn : n ≤ 1000) : F_back [shi p] = .ok (T.ints (bkL n p)) [shi p] := by
  have hl := hp.1
  obtain ⟨ρ', e, j2, j3, rfl⟩ := forL_inv (b := bTup [2, 3]) (body := b_back_1) (its := enumT 0 (p.map .int)) (ρ := [some (shi p), some (.ol ((List.replicate n 0).map ig)), none, none])
    (fun k ρ => ∃ j2 j3 : Option T, ρ = [some (shi p), some (.ol ((putN n (fun k => p.getD k 0) (fun k => (k : Int)) k).map ig)), j2, j3]) ⟨none, none, rfl⟩ (by
      rintro k t ρ e ⟨j2, j3, rfl⟩
      obtain ⟨hk, rfl⟩ := enumI e
      have hb := hp.at (show k < n by omega)
      have g := ixN_ok (n := n) hb.1 hb.2
      simp at g
      refine ⟨[some (shi p), some (.ol ((putN n (fun k => p.getD k 0) (fun k => (k : Int)) k).map ig)), some (si k), some (si (p.getD k 0))], _, rfl, .inl ?_, some (si k), some (si (p.getD k 0)), rfl⟩
      simp [b_back_1, g, putN])
  have hr := rep_ok hn
  rw [enumT_len, List.length_map, hl] at e
  simp at hr e
  simp [F_back, m_back, hr, hl, e, bkL]
/-! ### the first place at which something does not hold -/
def fb (g : Nat → D → Bool) (l : List D) : Option Nat := l.zipIdx.findIdx? fun p => !g p.2 p.1
theorem fb_some {g : Nat → D → Bool} {l : List D} {k : Nat} (hk : k < l.length) (h : ∀ j (hj : j < k), g j (l[j]'(by omega)) = true) (hb : g k l[k] = false) : fb g l = some k := by
  unfold fb
  rw [List.findIdx?_eq_some_iff_getElem]
  refine ⟨by simpa using hk, by simp [hb], fun j hj => ?_⟩
  have := h j hj
  simp [this]
theorem fb_none {g : Nat → D → Bool} {l : List D} (h : ∀ j (hj : j < l.length), g j l[j] = true) : fb g l = none := by
  unfold fb
  rw [List.findIdx?_eq_none_iff]
  rintro ⟨d, i⟩ hd
  obtain ⟨j, hj, e⟩ := List.mem_iff_getElem.mp hd
  simp at e hj
  obtain ⟨rfl, rfl⟩ := e
  have := h j hj
  simp [this]
theorem enumD {l : List D} {k : Nat} {t : T} (h : (enumT 0 l)[k]? = some t) : ∃ hk : k < l.length, t = .ot [si k, .sh l[k]] := by
  obtain ⟨d, e, rfl⟩ := enum_at h
  exact ⟨(List.getElem?_eq_some_iff.mp e).1, by rw [(List.getElem?_eq_some_iff.mp e).2]⟩
/-! ### words -/
def rowAt (rows : List (List Int)) (k : Int) : List Int := rows.getD k.toNat []
def letL (n : Nat) (rows : List (List Int)) : D → List Int
  | .tup [.int k, .int e] => if e = 1 then rowAt rows k else bkL n (rowAt rows k)
  | _ => []
def wordL (n : Nat) (rows : List (List Int)) (w : List D) : List Int := w.foldl (fun p d => thenL p (letL n rows d)) (iota n)
theorem wordL_snoc (n : Nat) (rows : List (List Int)) (w : List D) (d : D) : wordL n rows (w ++ [d]) = thenL (wordL n rows w) (letL n rows d) := by simp [wordL]
theorem row_at {n : Nat} {rows : List (List Int)} (h : ∀ r ∈ rows, Row n r) {x : Int} (h0 : 0 ≤ x) (h1 : x < rows.length) : Row n (rowAt rows x) ∧ atI (rows.map D.ints) x = some (D.ints (rowAt rows x)) ∧ atI (rows.map rg) x = some (shi (rowAt rows x)) := by
  have hx : x.toNat < rows.length := by omega
  have e : rowAt rows x = rows[x.toNat] := by
    unfold rowAt
    rw [List.getD_eq_getElem?_getD, List.getElem?_eq_getElem hx]
    rfl
  rw [e]
  refine ⟨h _ (List.getElem_mem hx), ?_, ?_⟩
  · rw [atI_ok h0 (by simpa using h1), List.getElem?_map, List.getElem?_eq_getElem hx]; rfl
  · rw [atI_ok h0 (by simpa using h1), List.getElem?_map, List.getElem?_eq_getElem hx]; rfl
theorem let_form {m : Nat} {d : D} (h : isLet m d = true) : ∃ k e : Int, d = .tup [.int k, .int e] ∧ 0 ≤ k ∧ k < m ∧ (e = 1 ∨ e = -1) := by
  unfold isLet at h
  split at h
  · rename_i a e
    simp only [Bool.and_eq_true, Bool.or_eq_true, beq_iff_eq] at h
    cases a <;> first | (simp [inPl] at h; done) | skip
    rename_i i
    simp only [inPl, Bool.and_eq_true, decide_eq_true_eq] at h
    exact ⟨i, e, rfl, h.1.1, h.1.2, h.2⟩
  · cases h
theorem let_row {n : Nat} {rows : List (List Int)} (h : ∀ r ∈ rows, Row n r) {d : D} (hd : isLet rows.length d = true) : Row n (letL n rows d) := by
  obtain ⟨k, e, rfl, h0, h1, he⟩ := let_form hd
  simp only [letL]
  split
  · exact (row_at h h0 h1).1
  · exact bk_row
theorem word_row {n : Nat} {rows : List (List Int)} (h : ∀ r ∈ rows, Row n r) : ∀ {w : List D}, (∀ d ∈ w, isLet rows.length d = true) → ∀ {p : List Int}, Row n p → Row n (w.foldl (fun p d => thenL p (letL n rows d)) p)
  | [], _, p, hp => hp
  | d :: w, hw, p, hp => word_row h (w := w) (fun x hx => hw x (List.mem_cons_of_mem _ hx)) (then_row hp (let_row h (hw d List.mem_cons_self)))
theorem letter_turn_ok {n : Nat} (hn : n ≤ 1000) {rows : List (List Int)} (h : ∀ r ∈ rows, Row n r) {d : D} (hd : isLet rows.length d = true) : F_letter_turning [.sh (.lst (rows.map D.ints)), .sh d] = .ok (T.ints (letL n rows d)) [.sh (.lst (rows.map D.ints)), .sh d] := by
  obtain ⟨k, e, rfl, h0, h1, he⟩ := let_form hd
  obtain ⟨hr, a1, a2⟩ := row_at h h0 h1
  have hb := back_ok hr hn
  have hz : (rowAt rows k).length ≤ lim := by have := hr.1; unfold lim; omega
  simp at a2 hb
  rcases he with rfl | rfl
  · simp [F_letter_turning, m_letter_turning, letL, a2, hz, T.shsU]
  · simp [F_letter_turning, m_letter_turning, letL, a2, hb]
def letG (m : Nat) : Nat → D → Bool := fun _ d => isLet m d
theorem word_loop {n : Nat} (hn : n ≤ 1000) {rows : List (List Int)} (h : ∀ r ∈ rows, Row n r) {w : List D} (hw : ∀ d ∈ w, vOk d = true) :
    (∃ j4 j5, forL (bTup [4, 5]) b_word_turning_1 (enumT 0 w) [some (si n), some (.sh (.lst (rows.map D.ints))), some (.sh (.lst w)), some (T.ints (iota n)), none, none] = .nx [some (si n), some (.sh (.lst (rows.map D.ints))), some (.sh (.lst w)), some (T.ints (wordL n rows w)), j4, j5] ∧ fb (letG rows.length) w = none ∧ ∀ d ∈ w, isLet rows.length d = true) ∨
    (∃ (k : Nat) (ρ' : Z.Env), forL (bTup [4, 5]) b_word_turning_1 (enumT 0 w) [some (si n), some (.sh (.lst (rows.map D.ints))), some (.sh (.lst w)), some (T.ints (iota n)), none, none] = .ex ⟨"BadWord", [("place", .int k)]⟩ ρ' ∧ fb (letG rows.length) w = some k) := by
  have key := forL_ex (b := bTup [4, 5]) (body := b_word_turning_1) (its := enumT 0 w) (ρ := [some (si n), some (.sh (.lst (rows.map D.ints))), some (.sh (.lst w)), some (T.ints (iota n)), none, none])
    (fun k ρ => (∃ j4 j5, ρ = [some (si n), some (.sh (.lst (rows.map D.ints))), some (.sh (.lst w)), some (T.ints (wordL n rows (w.take k))), j4, j5]) ∧ ∀ d ∈ w.take k, isLet rows.length d = true)
    (fun u => ∃ k : Nat, u = ⟨"BadWord", [("place", .int k)]⟩ ∧ fb (letG rows.length) w = some k) ⟨⟨none, none, rfl⟩, fun d hd => by simp at hd⟩ (by
      rintro k t ρ e ⟨⟨j4, j5, rfl⟩, hall⟩
      obtain ⟨hk, rfl⟩ := enumD e
      have hv := hw _ (List.getElem_mem hk)
      have hi := letter_ok (l := rows.map D.ints) hv
      rw [List.length_map] at hi
      have et : w.take (k + 1) = w.take k ++ [w[k]] := by rw [List.take_add_one, List.getElem?_eq_getElem hk]; rfl
      have hrow := word_row h hall (row_iota n)
      cases hb : isLet rows.length w[k] with
      | true =>
        rw [hb] at hi
        have h2 := letter_turn_ok hn h hb
        have h3 := then_ok hrow (let_row h hb) hn
        refine ⟨_, [some (si n), some (.sh (.lst (rows.map D.ints))), some (.sh (.lst w)), some (T.ints (wordL n rows (w.take (k + 1)))), some (si k), some (.sh w[k])], rfl, .inl ⟨.inl ?_, ⟨_, _, rfl⟩, ?_⟩⟩
        · rw [et, wordL_snoc]
          unfold wordL at *
          simp at h2 h3
          simp [b_word_turning_1, hi, h2, h3]
        · intro d hd
          rw [et] at hd
          rcases List.mem_append.mp hd with q | q
          · exact hall d q
          · rw [List.mem_singleton.mp q]; exact hb
      | false =>
        rw [hb] at hi
        refine ⟨_, [some (si n), some (.sh (.lst (rows.map D.ints))), some (.sh (.lst w)), some (T.ints (wordL n rows (w.take k))), some (si k), some (.sh w[k])], rfl, .inr ⟨⟨"BadWord", [("place", .int k)]⟩, ?_, k, rfl, ?_⟩⟩
        · simp [b_word_turning_1, hi]
        · refine fb_some hk (fun j hj => ?_) hb
          exact hall _ (List.mem_take_iff_getElem.mpr ⟨j, by omega, rfl⟩))
  rcases key with ⟨ρ', e, ⟨j4, j5, rfl⟩, h2⟩ | ⟨u, ρ', e, k, rfl, h⟩
  · have : (enumT 0 w).length = w.length := enumT_len
    rw [this, List.take_length] at h2 e
    exact .inl ⟨j4, j5, e, fb_none fun j hj => h2 _ (List.getElem_mem hj), h2⟩
  · exact .inr ⟨k, ρ', e, h⟩
/-- makers that are turnings -/
def MkOk (n : Nat) (rows : List (List Int)) : Prop := n ≤ 24 ∧ rows.length ≤ 40 ∧ ∀ r ∈ rows, Turn n r
theorem MkOk.row {n : Nat} {rows : List (List Int)} (h : MkOk n rows) : ∀ r ∈ rows, Row n r := fun r hr => (h.2.2 r hr).row
theorem MkOk.group {n : Nat} {rows : List (List Int)} (h : MkOk n rows) : F_check_group [si n, .sh (.lst (rows.map D.ints))] = .ok (.sh .non) [si n, .sh (.lst (rows.map D.ints))] := by
  obtain ⟨h1, h2, h3⟩ := h
  have hM : flatM (.lst (rows.map D.ints)) = true := by
    simp only [flatM, Bool.and_eq_true, List.all_eq_true, decide_eq_true_eq, List.length_map]
    refine ⟨fun d hd => ?_, by omega⟩
    obtain ⟨r, hr, rfl⟩ := List.mem_map.mp hd
    have := (h3 r hr).len
    simp only [D.ints, flat2, flat_ints, Bool.true_and, decide_eq_true_eq, List.length_map]
    omega
  have he : errG (.int n) (.lst (rows.map D.ints)) = none := by
    have hb : badAt n (rows.map D.ints) = none := by
      unfold badAt
      rw [List.findIdx?_eq_none_iff]
      intro d hd
      obtain ⟨r, hr, rfl⟩ := List.mem_map.mp hd
      have := tB_turn (h3 r hr)
      simp [D.ints, this]
    have c1 : (0 : Int) ≤ n ∧ (n : Int) ≤ 24 := by omega
    have c2 : ¬ 40 < (rows.map D.ints).length := by simp; omega
    simp only [errG]
    rw [if_pos c1, if_neg c2, Int.toNat_natCast, hb]
    rfl
  have := group_ok (N := .int n) (M := .lst (rows.map D.ints)) rfl hM
  rw [he] at this
  exact this
theorem word_ok {n : Nat} {rows : List (List Int)} (h : MkOk n rows) {w : List D} (hw : ∀ d ∈ w, vOk d = true) : F_word_turning [si n, .sh (.lst (rows.map D.ints)), .sh (.lst w)] = match fb (letG rows.length) w with
    | some k => .ex ⟨"BadWord", [("place", .int k)]⟩
    | none => .ok (T.ints (wordL n rows w)) [si n, .sh (.lst (rows.map D.ints)), .sh (.lst w)] := by
  have hg := h.group
  have hs := still_ok (n := n) (by have := h.1; omega)
  simp at hs hg
  rcases word_loop (by have := h.1; omega) h.row hw with ⟨j4, j5, e, hf, _⟩ | ⟨k, ρ', e, hf⟩
  · simp at e
    simp [F_word_turning, m_word_turning, hg, hs, e, hf]
  · simp at e
    simp [F_word_turning, m_word_turning, hg, hs, e, hf]
end
end Cl

set_option maxHeartbeats 1000000
namespace Cl
noncomputable section
open PySem L2 Z
def b_check_program_1 : SM := (mIf (eT (qNot (pB (pCall 3 F_is_step (aCons (pV 0) (aCons (pV 3) (aCons (pV 2) aNil))))))) (mRaise1 "BadProgram" "step" (eV 2)) mNil)
def m_check_program : SM := (mSeq (mIf (eT (qNot (pB (pIsi Ty.list (pV 1))))) (mRaise1 "BadProgram" "step" (eP (pUn oNeg (pC (.int 1))))) mNil) (mSeq (mFor (iEn (eSl (vV 1) oNo (oYes (pC (.int 24000))))) (bTup [2, 3]) b_check_program_1) (mIf (eT (pB (pOp oGt (pCB (o1 oLen) (aCons (pV 1) aNil)) (pC (.int 24000))))) (mRaise1 "BadProgram" "step" (eP (pC (.int 24000)))) mNil)))
def F_check_program : FM := mFun 2 4 m_check_program
def b_step_turnings_1 : SM := (mIf (eT (pB (pOp oEq (pOp oIx (pV 3) (pC (.int 0))) (pC (.str "maker"))))) (mAppG 2 (eList (vIx (vV 0) (pOp oIx (pV 3) (pC (.int 1)))))) (mIf (eT (pB (pOp oEq (pOp oIx (pV 3) (pC (.int 0))) (pC (.str "then"))))) (mAppG 2 (eCallB 2 F_then (aCons (pOp oIx (pV 2) (pOp oIx (pV 3) (pC (.int 1)))) (aCons (pOp oIx (pV 2) (pOp oIx (pV 3) (pC (.int 2)))) aNil)))) (mAppG 2 (eCallB 1 F_back (aCons (pOp oIx (pV 2) (pOp oIx (pV 3) (pC (.int 1)))) aNil)))))
def m_step_turnings : SM := (mSeq (mSet 2 (eLst eNil)) (mSeq (mFor (iE (eV 1)) (bName 3) b_step_turnings_1) (mRet (eM 2))))
def F_step_turnings : FM := mFun 2 4 m_step_turnings
def m_last_turning : SM := (mRet (eIf (eT (qTru (pV 2))) (eOp ixT (eCall 2 F_step_turnings (eCons (eV 1) (eCons (eV 2) eNil))) (eP (pUn oNeg (pC (.int 1))))) (eCall 1 F_still (eCons (eV 0) eNil))))
def F_last_turning : FM := mFun 3 3 m_last_turning
def m_program_turning : SM := (mSeq (mDrop (eCall 2 F_check_group (eCons (eV 0) (eCons (eV 1) eNil)))) (mSeq (mDrop (eCall 2 F_check_program (eCons (eP (pCB (o1 oLen) (aCons (pV 1) aNil))) (eCons (eV 2) eNil)))) (mRet (eCall 3 F_last_turning (eCons (eV 0) (eCons (eV 1) (eCons (eV 2) eNil)))))))
def F_program_turning : FM := mFun 3 3 m_program_turning
def b_law_turnings_1 : SM := (mIf (eT (pB (pOp oEq (pOp oIx (pV 3) (pC (.int 0))) (pC (.str "maker"))))) (mAppG 2 (eFz (eGet (vIx (vV 0) (pOp oIx (pV 3) (pC (.int 1))))))) (mIf (eT (pB (pOp oEq (pOp oIx (pV 3) (pC (.int 0))) (pC (.str "back"))))) (mAppG 2 (eFz (eCall 1 F_law_back (eCons (eGet (vIx (vV 2) (pOp oIx (pV 3) (pC (.int 1))))) eNil)))) (mAppG 2 (eFz (eCall 2 F_law_then (eCons (eGet (vIx (vV 2) (pOp oIx (pV 3) (pC (.int 1))))) (eCons (eGet (vIx (vV 2) (pOp oIx (pV 3) (pC (.int 2))))) eNil)))))))
def m_law_turnings : SM := (mSeq (mSet 2 (eLst eNil)) (mSeq (mFor (iE (eV 1)) (bName 3) b_law_turnings_1) (mRet (eM 2))))
def F_law_turnings : FM := mFun 2 4 m_law_turnings
theorem dl_rows (l : List (List Int)) : dl (l.map T.ints) = l.map D.ints := by
  rw [dl_eq, List.map_map]
  apply List.map_congr_left
  intro r _
  simp [D.ints]
/-! ### programs -/
def turS (n : Nat) (rows f : List (List Int)) : D → List Int
  | .tup [.str s, .int i] => if s = "maker" then rowAt rows i else bkL n (rowAt f i)
  | .tup [.str _, .int i, .int j] => thenL (rowAt f i) (rowAt f j)
  | _ => []
def turL (n : Nat) (rows : List (List Int)) (l : List D) : List (List Int) := l.foldl (fun f d => f ++ [turS n rows f d]) []
theorem turL_snoc (n : Nat) (rows : List (List Int)) (l : List D) (d : D) : turL n rows (l ++ [d]) = turL n rows l ++ [turS n rows (turL n rows l) d] := by simp [turL]
theorem turL_len (n : Nat) (rows : List (List Int)) (l : List D) : (turL n rows l).length = l.length := by
  have h : ∀ (l : List D) (f : List (List Int)), (l.foldl (fun f d => f ++ [turS n rows f d]) f).length = f.length + l.length := by
    intro l
    induction l with
    | nil => intro f; simp
    | cons d l ih => intro f; rw [List.foldl_cons, ih]; simp; omega
  have := h l []
  simpa [turL] using this
theorem stp_form {m p : Int} {d : D} (h : isStp m p d = true) : (∃ i, d = .tup [.str "maker", .int i] ∧ 0 ≤ i ∧ i < m) ∨ (∃ i j, d = .tup [.str "then", .int i, .int j] ∧ 0 ≤ i ∧ i < p ∧ 0 ≤ j ∧ j < p) ∨ ∃ i, d = .tup [.str "back", .int i] ∧ 0 ≤ i ∧ i < p := by
  have hp : ∀ (q : Int) (a : D), inPl q a = true → ∃ i, a = .int i ∧ 0 ≤ i ∧ i < q := fun q a h => by
    cases a <;> first | (simp [inPl] at h; done) | skip
    simp only [inPl, Bool.and_eq_true, decide_eq_true_eq] at h
    exact ⟨_, rfl, h⟩
  unfold isStp at h
  split at h
  · unfold stpL at h
    split at h
    · rename_i e; subst e
      split at h
      · obtain ⟨i, rfl, q⟩ := hp _ _ h
        exact .inl ⟨i, rfl, q⟩
      · cases h
    split at h
    · rename_i e; subst e
      split at h
      · simp only [Bool.and_eq_true] at h
        obtain ⟨i, rfl, q⟩ := hp _ _ h.1
        obtain ⟨j, rfl, q2⟩ := hp _ _ h.2
        exact .inr (.inl ⟨i, j, rfl, q.1, q.2, q2.1, q2.2⟩)
      · cases h
    split at h
    · rename_i e; subst e
      split at h
      · obtain ⟨i, rfl, q⟩ := hp _ _ h
        exact .inr (.inr ⟨i, rfl, q⟩)
      · cases h
    · cases h
  · cases h
def stpG (m : Nat) : Nat → D → Bool := fun k d => decide (k ≠ 24000) && isStp m k d
/-- all steps are steps -/
def Prog (m : Nat) (l : List D) : Prop := ∀ k (hk : k < l.length), isStp m k l[k] = true
theorem Prog.take {m : Nat} {l : List D} (h : Prog m l) (k : Nat) : Prog m (l.take k) := fun j hj => by
  rw [List.getElem_take]
  exact h j (by simp at hj; omega)
theorem ne_mt : ¬ ("then" : Str) = "maker" := by decide
theorem ne_mb : ¬ ("back" : Str) = "maker" := by decide
theorem ne_tb : ¬ ("back" : Str) = "then" := by decide
theorem ne_bt : ¬ ("then" : Str) = "back" := by decide
theorem turS_row {n : Nat} {rows f : List (List Int)} (hr : ∀ r ∈ rows, Row n r) (hf : ∀ r ∈ f, Row n r) {d : D} (hd : isStp rows.length f.length d = true) : Row n (turS n rows f d) := by
  rcases stp_form hd with ⟨i, rfl, i0, i1⟩ | ⟨i, j, rfl, i0, i1, j0, j1⟩ | ⟨i, rfl, i0, i1⟩
  · simp only [turS, if_true]
    exact (row_at hr i0 i1).1
  · exact then_row (row_at hf i0 i1).1 (row_at hf j0 j1).1
  · simp only [turS, if_neg ne_mb]
    exact bk_row
theorem turL_rows {n : Nat} {rows : List (List Int)} (hr : ∀ r ∈ rows, Row n r) {l : List D} (hl : Prog rows.length l) : ∀ r ∈ turL n rows l, Row n r := by
  have key : ∀ k, k ≤ l.length → ∀ r ∈ turL n rows (l.take k), Row n r := by
    intro k
    induction k with
    | zero => intro _ r h; simp [turL] at h
    | succ k ih =>
      intro hk r h
      have et : l.take (k + 1) = l.take k ++ [l[k]] := by rw [List.take_add_one, List.getElem?_eq_getElem (by omega)]; rfl
      rw [et, turL_snoc] at h
      rcases List.mem_append.mp h with q | q
      · exact ih (by omega) r q
      · rw [List.mem_singleton.mp q]
        refine turS_row hr (ih (by omega)) ?_
        rw [turL_len, List.length_take, Nat.min_eq_left (by omega)]
        exact hl k (by omega)
  have := key l.length (Nat.le_refl _)
  rwa [List.take_length] at this
@[simp] theorem eq_mm : oEq (.str "maker") (.str "maker") = some (.bl true) := eq_str_self so_maker
@[simp] theorem eq_tt : oEq (.str "then") (.str "then") = some (.bl true) := eq_str_self so_then
@[simp] theorem eq_bb : oEq (.str "back") (.str "back") = some (.bl true) := eq_str_self so_back
@[simp] theorem eq_tm : oEq (.str "then") (.str "maker") = some (.bl false) := by rw [eq_ss so_then so_maker, decide_eq_false ne_mt]
@[simp] theorem eq_bm : oEq (.str "back") (.str "maker") = some (.bl false) := by rw [eq_ss so_back so_maker, decide_eq_false ne_mb]
@[simp] theorem eq_bt : oEq (.str "back") (.str "then") = some (.bl false) := by rw [eq_ss so_back so_then, decide_eq_false ne_tb]
@[simp] theorem eq_tb : oEq (.str "then") (.str "back") = some (.bl false) := by rw [eq_ss so_then so_back, decide_eq_false ne_bt]
theorem steps_ok {n : Nat} (hn : n ≤ 1000) {rows : List (List Int)} (hr : ∀ r ∈ rows, Row n r) {l : List D} (hl : Prog rows.length l) (hz : l.length ≤ 30000) : F_step_turnings [.sh (.lst (rows.map D.ints)), .sh (.lst l)] = .ok (.ol ((turL n rows l).map T.ints)) [.sh (.lst (rows.map D.ints)), .sh (.lst l)] := by
  obtain ⟨ρ', e, j3, rfl⟩ := forN_inv (i := 3) (body := b_step_turnings_1) (its := l.map .sh) (ρ := [some (.sh (.lst (rows.map D.ints))), some (.sh (.lst l)), some (.ol []), none])
    (fun k ρ => ∃ j3 : Option T, ρ = [some (.sh (.lst (rows.map D.ints))), some (.sh (.lst l)), some (.ol ((turL n rows (l.take k)).map T.ints)), j3])
    ⟨none, by simp [turL]⟩ (by
      rintro k t ρ e ⟨j3, rfl⟩
      rw [List.getElem?_map] at e
      obtain ⟨d, ed, rfl⟩ := Option.map_eq_some_iff.mp e
      have hk : k < l.length := (List.getElem?_eq_some_iff.mp ed).1
      have hde : l[k] = d := (List.getElem?_eq_some_iff.mp ed).2
      have et : l.take (k + 1) = l.take k ++ [d] := by rw [List.take_add_one, ed]; rfl
      have hd := hl k hk
      rw [hde] at hd
      have hf := turL_rows hr (hl.take k)
      have hlen : (turL n rows (l.take k)).length = k := by rw [turL_len, List.length_take, Nat.min_eq_left (by omega)]
      have hlt : (turL n rows (l.take k)).length < lim := by unfold lim; omega
      obtain ⟨f, hfe⟩ : ∃ f, f = turL n rows (l.take k) := ⟨_, rfl⟩
      rw [← hfe] at hf hlen hlt
      have hdl := dl_rows f
      refine ⟨_, .inl ?_, some (.sh d), by rw [et, turL_snoc]⟩
      rw [← hfe]
      rcases stp_form hd with ⟨i, rfl, i0, i1⟩ | ⟨i, j, rfl, i0, i1, j0, j1⟩ | ⟨i, rfl, i0, i1⟩
      · have a2 := (row_at hr i0 i1).2.2
        have hz2 : (rowAt rows i).length ≤ lim := by have := (row_at hr i0 i1).1.1; unfold lim; omega
        simp at a2
        simp [b_step_turnings_1, turS, a2, hz2, hlt, T.shsU]
      · obtain ⟨r1, a1, _⟩ := row_at hf i0 (by omega)
        obtain ⟨r2, a2, _⟩ := row_at hf j0 (by omega)
        have h3 := then_ok r1 r2 hn
        simp at h3
        simp [b_step_turnings_1, turS, hdl, a1, a2, h3, hlt]
      · obtain ⟨r1, a1, _⟩ := row_at hf i0 (by omega)
        have h3 := back_ok r1 hn
        simp at h3
        simp [b_step_turnings_1, turS, ne_mb, hdl, a1, h3, hlt])
  rw [List.length_map, List.take_length] at e
  simp [F_step_turnings, m_step_turnings, e]
theorem turnings_ok {n : Nat} (hn : n ≤ 1000) {rows : List (List Int)} (hr : ∀ r ∈ rows, Row n r) {l : List D} (hl : Prog rows.length l) (hz : l.length ≤ 30000) : F_law_turnings [.sh (.lst (rows.map D.ints)), .sh (.lst l)] = .ok (.ol ((turL n rows l).map rg)) [.sh (.lst (rows.map D.ints)), .sh (.lst l)] := by
  obtain ⟨ρ', e, j3, rfl⟩ := forN_inv (i := 3) (body := b_law_turnings_1) (its := l.map .sh) (ρ := [some (.sh (.lst (rows.map D.ints))), some (.sh (.lst l)), some (.ol []), none])
    (fun k ρ => ∃ j3 : Option T, ρ = [some (.sh (.lst (rows.map D.ints))), some (.sh (.lst l)), some (.ol ((turL n rows (l.take k)).map rg)), j3])
    ⟨none, by simp [turL]⟩ (by
      rintro k t ρ e ⟨j3, rfl⟩
      rw [List.getElem?_map] at e
      obtain ⟨d, ed, rfl⟩ := Option.map_eq_some_iff.mp e
      have hk : k < l.length := (List.getElem?_eq_some_iff.mp ed).1
      have hde : l[k] = d := (List.getElem?_eq_some_iff.mp ed).2
      have et : l.take (k + 1) = l.take k ++ [d] := by rw [List.take_add_one, ed]; rfl
      have hd := hl k hk
      rw [hde] at hd
      have hf := turL_rows hr (hl.take k)
      have hlen : (turL n rows (l.take k)).length = k := by rw [turL_len, List.length_take, Nat.min_eq_left (by omega)]
      have hlt : (turL n rows (l.take k)).length < lim := by unfold lim; omega
      obtain ⟨f, hfe⟩ : ∃ f, f = turL n rows (l.take k) := ⟨_, rfl⟩
      rw [← hfe] at hf hlen hlt
      refine ⟨_, .inl ?_, some (.sh d), by rw [et, turL_snoc]⟩
      rw [← hfe]
      rcases stp_form hd with ⟨i, rfl, i0, i1⟩ | ⟨i, j, rfl, i0, i1, j0, j1⟩ | ⟨i, rfl, i0, i1⟩
      · have a2 := (row_at hr i0 i1).2.2
        simp at a2
        simp [b_law_turnings_1, turS, a2, hlt, rg]
      · obtain ⟨r1, _, a1⟩ := row_at hf i0 (by omega)
        obtain ⟨r2, _, a2⟩ := row_at hf j0 (by omega)
        have h3 := law_then_ok r1 r2 hn
        simp at h3 a1 a2
        simp [b_law_turnings_1, turS, a1, a2, h3, hlt, rg]
      · obtain ⟨r1, _, a1⟩ := row_at hf i0 (by omega)
        have h3 := law_back_ok r1 hn
        simp at h3 a1
        simp [b_law_turnings_1, turS, ne_mb, a1, h3, hlt, rg])
  rw [List.length_map, List.take_length] at e
  simp [F_law_turnings, m_law_turnings, e]
end
end Cl

set_option maxHeartbeats 1000000
namespace Cl
noncomputable section
open PySem L2 Z
theorem cut_24000 (l : List D) : cutD l none (some 24000) = l.take 24000 := by
  by_cases h : 24000 ≤ l.length
  · have := cut_to l (i := 24000) (by omega) (by omega)
    simpa using this
  · rw [List.take_of_length_le (by omega)]
    have h1 : HT.sIx l.length l.length (some 24000) = l.length := by
      unfold HT.sIx
      simp
      omega
    have h2 : HT.sIx l.length 0 none = 0 := rfl
    unfold cutD
    rw [h1, h2]
    simp
theorem stpG_of {m k : Nat} {d : D} (h : isStp m k d = true) (hk : k ≠ 24000) : stpG m k d = true := by simp [stpG, h, hk]
theorem check_loop {m : Nat} {l : List D} (hv : ∀ d ∈ l, vOk d = true) {l0 : T} :
    (∃ j2 j3, forL (bTup [2, 3]) b_check_program_1 (enumT 0 (l.take 24000)) [some (si m), some l0, none, none] = .nx [some (si m), some l0, j2, j3] ∧ ∀ j (hj : j < (l.take 24000).length), isStp m j (l.take 24000)[j] = true) ∨
    (∃ (k : Nat) (ρ' : Z.Env), forL (bTup [2, 3]) b_check_program_1 (enumT 0 (l.take 24000)) [some (si m), some l0, none, none] = .ex ⟨"BadProgram", [("step", .int k)]⟩ ρ' ∧ fb (stpG m) l = some k) := by
  have key := forL_ex (b := bTup [2, 3]) (body := b_check_program_1) (its := enumT 0 (l.take 24000)) (ρ := [some (si m), some l0, none, none])
    (fun k ρ => (∃ j2 j3, ρ = [some (si m), some l0, j2, j3]) ∧ ∀ j (hj : j < (l.take 24000).length), j < k → isStp m j (l.take 24000)[j] = true)
    (fun u => ∃ k : Nat, u = ⟨"BadProgram", [("step", .int k)]⟩ ∧ fb (stpG m) l = some k) ⟨⟨none, none, rfl⟩, fun j _ h => by omega⟩ (by
      rintro k t ρ e ⟨⟨j2, j3, rfl⟩, hall⟩
      obtain ⟨hk, rfl⟩ := enumD e
      have hk2 : k < l.length ∧ k < 24000 := by simp at hk; omega
      have hv' := hv _ (List.mem_of_mem_take (List.getElem_mem hk))
      have hi := step_ok (m := m) (p := k) hv'
      cases hb : isStp m k (l.take 24000)[k] with
      | true =>
        rw [hb] at hi
        simp only [List.getElem_take] at hi
        refine ⟨_, [some (si m), some l0, some (si k), some (.sh (l.take 24000)[k])], rfl, .inl ⟨.inl ?_, ⟨_, _, rfl⟩, ?_⟩⟩
        · simp [b_check_program_1, hi]
        · intro j hj hjk
          by_cases c : j = k
          · subst c; exact hb
          · exact hall j hj (by omega)
      | false =>
        rw [hb] at hi
        simp only [List.getElem_take] at hi
        refine ⟨_, [some (si m), some l0, some (si k), some (.sh (l.take 24000)[k])], rfl, .inr ⟨⟨"BadProgram", [("step", .int k)]⟩, ?_, k, rfl, ?_⟩⟩
        · simp [b_check_program_1, hi]
        · refine fb_some hk2.1 (fun j hj => ?_) ?_
          · have := hall j (by omega) hj
            rw [List.getElem_take] at this
            exact stpG_of this (by omega)
          · rw [List.getElem_take] at hb
            simp [stpG, hb])
  rcases key with ⟨ρ', e, ⟨j2, j3, rfl⟩, h2⟩ | ⟨u, ρ', e, k, rfl, h⟩
  · refine .inl ⟨j2, j3, e, fun j hj => h2 j hj ?_⟩
    have : (enumT 0 (l.take 24000)).length = (l.take 24000).length := enumT_len
    omega
  · exact .inr ⟨k, ρ', e, h⟩
theorem check_ok {m : Nat} {l : List D} (hv : ∀ d ∈ l, vOk d = true) : F_check_program [si m, .sh (.lst l)] = match fb (stpG m) l with
    | some k => .ex ⟨"BadProgram", [("step", .int k)]⟩
    | none => .ok (.sh .non) [si m, .sh (.lst l)] := by
  have hc := cut_24000 l
  have hdl : dl ((l.map T.sh).take 24000) = l.take 24000 := by
    rw [← List.map_take, dl_eq, List.map_map]
    exact List.map_id'' (fun _ => rfl) _
  rcases check_loop (m := m) hv (l0 := .sh (.lst l)) with ⟨j2, j3, e, h2⟩ | ⟨k, ρ', e, hf⟩
  · by_cases c : 24000 < l.length
    · have hf : fb (stpG m) l = some 24000 := by
        refine fb_some c (fun j hj => ?_) (by simp [stpG])
        have := h2 j (by simp; omega)
        rw [List.getElem_take] at this
        exact stpG_of this (by omega)
      have c' : (24000 : Int) < l.length := by omega
      simp [F_check_program, m_check_program, hc, hdl, e, hf, c']
    · have hf : fb (stpG m) l = none := by
        refine fb_none fun j hj => ?_
        have := h2 j (by simp; omega)
        rw [List.getElem_take] at this
        exact stpG_of this (by omega)
      have c' : ¬ (24000 : Int) < l.length := by omega
      simp [F_check_program, m_check_program, hc, hdl, e, hf, c']
  · simp [F_check_program, m_check_program, hc, hdl, e, hf]
theorem prog_of {m : Nat} {l : List D} (h : fb (stpG m) l = none) : Prog m l ∧ l.length ≤ 24000 := by
  unfold fb at h
  rw [List.findIdx?_eq_none_iff] at h
  have key : ∀ k (hk : k < l.length), stpG m k l[k] = true := fun k hk => by
    have := h (l[k], k) (List.mem_iff_getElem.mpr ⟨k, by simpa using hk, by simp⟩)
    simpa using this
  refine ⟨fun k hk => ?_, Classical.byContradiction fun c => ?_⟩
  · have := key k hk
    simp [stpG] at this
    exact this.2
  · have := key 24000 (by omega)
    simp [stpG] at this
def lastL (n : Nat) (rows : List (List Int)) (l : List D) : List Int := (turL n rows l).getLast?.getD (iota n)
theorem lastL_row {n : Nat} {rows : List (List Int)} (hr : ∀ r ∈ rows, Row n r) {l : List D} (hl : Prog rows.length l) : Row n (lastL n rows l) := by
  unfold lastL
  cases h : (turL n rows l).getLast? with
  | none => exact row_iota n
  | some r => exact turL_rows hr hl r (List.mem_of_getLast? h)
theorem last_ok {n : Nat} (hn : n ≤ 1000) {rows : List (List Int)} (hr : ∀ r ∈ rows, Row n r) {l : List D} (hl : Prog rows.length l) (hz : l.length ≤ 30000) : F_last_turning [si n, .sh (.lst (rows.map D.ints)), .sh (.lst l)] = .ok (T.ints (lastL n rows l)) [si n, .sh (.lst (rows.map D.ints)), .sh (.lst l)] := by
  have hs := still_ok hn
  have ht := steps_ok hn hr hl hz
  simp at hs
  rcases List.eq_nil_or_concat l with rfl | ⟨l', d, e⟩
  · have h0 : (D.lst []).truth = some false := rfl
    simp [F_last_turning, m_last_turning, h0, hs, lastL, turL]
  · rw [List.concat_eq_append] at e
    subst e
    have h0 : (D.lst (l' ++ [d])).truth = some true := by
      cases l' <;> rfl
    have hlast : lastL n rows (l' ++ [d]) = turS n rows (turL n rows l') d := by
      unfold lastL
      rw [turL_snoc]
      simp
    rw [turL_snoc, List.map_append] at ht
    have ha := atI_last ((turL n rows l').map T.ints) (T.ints (turS n rows (turL n rows l') d))
    rw [hlast]
    simp at ht ha
    simp [F_last_turning, m_last_turning, h0, ht, ha]
theorem program_ok {n : Nat} {rows : List (List Int)} (h : MkOk n rows) {l : List D} (hv : ∀ d ∈ l, vOk d = true) : F_program_turning [si n, .sh (.lst (rows.map D.ints)), .sh (.lst l)] = match fb (stpG rows.length) l with
    | some k => .ex ⟨"BadProgram", [("step", .int k)]⟩
    | none => .ok (T.ints (lastL n rows l)) [si n, .sh (.lst (rows.map D.ints)), .sh (.lst l)] := by
  have hg := h.group
  have hc := check_ok (m := rows.length) hv
  cases hf : fb (stpG rows.length) l with
  | some k =>
    rw [hf] at hc
    simp [F_program_turning, m_program_turning, hg, hc]
  | none =>
    rw [hf] at hc
    obtain ⟨hp, hz⟩ := prog_of hf
    have hl := last_ok (by have := h.1; omega) h.row hp (by omega)
    simp at hl
    simp [F_program_turning, m_program_turning, hg, hc, hl]
theorem program_not {n : Nat} {rows : List (List Int)} (h : MkOk n rows) {d : D} (hv : vOk d = true) (hd : ∀ l, d ≠ .lst l) : F_program_turning [si n, .sh (.lst (rows.map D.ints)), .sh d] = .ex ⟨"BadProgram", [("step", .int (-1))]⟩ := by
  have hg := h.group
  cases d <;> first | (exact absurd rfl (hd _)) | (simp [vOk] at hv; done) | simp [F_program_turning, m_program_turning, F_check_program, m_check_program, hg]
end
end Cl

set_option maxHeartbeats 1000000
namespace Cl
noncomputable section
open PySem L2 Z
def b_step_lengths_1 : SM := (mIf (eT (pB (pOp oEq (pOp oIx (pV 2) (pC (.int 0))) (pC (.str "maker"))))) (mAppG 1 (eP (pC (.int 1)))) (mIf (eT (pB (pOp oEq (pOp oIx (pV 2) (pC (.int 0))) (pC (.str "then"))))) (mAppG 1 (eOp eAddT (eGet (vIx (vV 1) (pOp oIx (pV 2) (pC (.int 1))))) (eGet (vIx (vV 1) (pOp oIx (pV 2) (pC (.int 2))))))) (mAppG 1 (eGet (vIx (vV 1) (pOp oIx (pV 2) (pC (.int 1))))))))
def m_step_lengths : SM := (mSeq (mSet 1 (eLst eNil)) (mSeq (mFor (iE (eV 0)) (bName 2) b_step_lengths_1) (mRet (eM 1))))
def F_step_lengths : FM := mFun 1 3 m_step_lengths
def m_program_length : SM := (mRet (eIf (eT (qTru (pV 0))) (eOp ixT (eCall 1 F_step_lengths (eCons (eV 0) eNil)) (eP (pUn oNeg (pC (.int 1))))) (eP (pC (.int 0)))))
def F_program_length : FM := mFun 1 1 m_program_length
def b_turned_steps_1 : SM := (mAppG 1 (eIf (eT (pB (pOp oEq (pOp oIx (pV 3) (pC (.int 0))) (pC (.str "back"))))) (eTup (eCons (eGet (vIx (vIx (vV 1) (pOp oIx (pV 3) (pC (.int 1)))) (pC (.int 0)))) (eCons (eP (pUn oNeg (pOp oIx (pOp oIx (pV 1) (pOp oIx (pV 3) (pC (.int 1)))) (pC (.int 1))))) eNil))) (eTup (eCons (eV 2) (eCons (eP (pC (.int 1))) eNil)))))
def m_turned_steps : SM := (mSeq (mSet 1 (eLst eNil)) (mSeq (mFor (iEn (eV 0)) (bTup [2, 3]) b_turned_steps_1) (mRet (eM 1))))
def F_turned_steps : FM := mFun 1 4 m_turned_steps
/-! ### words as pairs -/
abbrev Wd := List (Int × Int)
def lD (p : Int × Int) : D := .tup [.int p.1, .int p.2]
def lT (p : Int × Int) : T := .ot [si p.1, si p.2]
@[simp] theorem lT_d (p : Int × Int) : (lT p).d = lD p := rfl
theorem dl_lT (w : Wd) : dl (w.map lT) = w.map lD := by rw [dl_eq, List.map_map]; rfl
def invW (w : Wd) : Wd := w.reverse.map fun p => (p.1, -p.2)
def sgW (s : Int) (w : Wd) : Wd := if s = 1 then w else invW w
theorem inv_inv (w : Wd) : invW (invW w) = w := by
  unfold invW
  rw [← List.map_reverse, List.map_map, List.reverse_reverse]
  conv => rhs; rw [← List.map_id w]
  exact List.map_congr_left fun p _ => by simp
theorem inv_app (u v : Wd) : invW (u ++ v) = invW v ++ invW u := by simp [invW]
theorem inv_len (w : Wd) : (invW w).length = w.length := by simp [invW]
theorem sg_len (s : Int) (w : Wd) : (sgW s w).length = w.length := by unfold sgW; split <;> simp [inv_len]
theorem sg_sg {e s : Int} (he : e = 1 ∨ e = -1) (hs : s = 1 ∨ s = -1) (w : Wd) : sgW e (sgW s w) = sgW (e * s) w := by
  rcases he with rfl | rfl <;> rcases hs with rfl | rfl <;> simp [sgW, inv_inv]
theorem ne_mb2 : ¬ ("maker" : Str) = "back" := by decide
theorem eq_mb : oEq (.str "maker") (.str "back") = some (.bl false) := by rw [eq_ss so_maker so_back, decide_eq_false (by decide)]
/-! ### what is told step by step -/
@[simp] theorem kids_otX (l : List T) : (T.ot l).kids = some l := rfl
theorem getD_mapX {α β : Type} (f : α → β) (l : List α) (k : Nat) (a : α) : (l.map f).getD k (f a) = f (l.getD k a) := by
  rw [List.getD_eq_getElem?_getD, List.getD_eq_getElem?_getD, List.getElem?_map]
  cases l[k]? <;> rfl
def runL {α : Type} (g : List α → D → α) (l : List D) : List α := l.foldl (fun f d => f ++ [g f d]) []
section
variable {α : Type} {g : List α → D → α}
theorem runL_snoc (l : List D) (d : D) : runL g (l ++ [d]) = runL g l ++ [g (runL g l) d] := by simp [runL]
theorem runL_ext (l : List D) (f : List α) : ∃ r, l.foldl (fun f d => f ++ [g f d]) f = f ++ r ∧ r.length = l.length := by
  induction l generalizing f with
  | nil => exact ⟨[], by simp, rfl⟩
  | cons d l ih =>
    obtain ⟨r, h1, h2⟩ := ih (f ++ [g f d])
    exact ⟨g f d :: r, by rw [List.foldl_cons, h1]; simp, by simp [h2]⟩
theorem runL_len (l : List D) : (runL g l).length = l.length := by
  obtain ⟨r, h1, h2⟩ := runL_ext (g := g) l []
  unfold runL
  rw [h1]
  simpa using h2
theorem runL_take (l : List D) (k : Nat) : (runL g l).take k = runL g (l.take k) := by
  by_cases h : k ≤ l.length
  · obtain ⟨r, h1, h2⟩ := runL_ext (g := g) (l.drop k) (runL g (l.take k))
    have h3 : runL g l = runL g (l.take k) ++ r := by
      conv => lhs; unfold runL; rw [← List.take_append_drop k l, List.foldl_append]
      exact h1
    have h4 : (runL g (l.take k)).length = k := by rw [runL_len, List.length_take]; omega
    rw [h3, List.take_append_of_le_length (by omega), List.take_of_length_le (by omega)]
  · have h1 : l.take k = l := List.take_of_length_le (by omega)
    have h2 : (runL g l).take k = runL g l := List.take_of_length_le (by rw [runL_len]; omega)
    rw [h1, h2]
theorem runL_get {l : List D} {k : Nat} {d : D} (h : l[k]? = some d) : (runL g l)[k]? = some (g (runL g (l.take k)) d) := by
  have hk := (List.getElem?_eq_some_iff.mp h).1
  have e : l.take (k + 1) = l.take k ++ [d] := by rw [List.take_add_one, h]; rfl
  have h1 : ((runL g l).take (k + 1))[k]? = (runL g l)[k]? := by rw [List.getElem?_take]; simp
  rw [← h1, runL_take, e, runL_snoc, List.getElem?_append_right (by rw [runL_len, List.length_take]; omega), runL_len, List.length_take, Nat.min_eq_left (by omega)]
  simp
theorem runL_getD {l : List D} {k j : Nat} (h : j < k) (a : α) : (runL g (l.take k)).getD j a = (runL g l).getD j a := by
  rw [← runL_take, List.getD_eq_getElem?_getD, List.getD_eq_getElem?_getD, List.getElem?_take, if_pos h]
end
/-! ### lengths and words -/
def wrdS (f : List Wd) : D → Wd
  | .tup [.str s, .int i] => if s = "maker" then [(i, 1)] else invW (f.getD i.toNat [])
  | .tup [.str _, .int i, .int j] => f.getD i.toNat [] ++ f.getD j.toNat []
  | _ => []
def wrdL (l : List D) : List Wd := runL wrdS l
def lenS (f : List Int) : D → Int
  | .tup [.str s, .int i] => if s = "maker" then 1 else f.getD i.toNat 0
  | .tup [.str _, .int i, .int j] => f.getD i.toNat 0 + f.getD j.toNat 0
  | _ => 0
def lenL (l : List D) : List Int := runL lenS l
theorem wrd_maker {l : List D} {k : Nat} {i : Int} (h : l[k]? = some (.tup [.str "maker", .int i])) : (wrdL l).getD k [] = [(i, 1)] := by
  unfold wrdL
  rw [List.getD_eq_getElem?_getD, runL_get h]
  simp [wrdS]
theorem wrd_back {l : List D} {k : Nat} {i : Int} (h : l[k]? = some (.tup [.str "back", .int i])) (h0 : 0 ≤ i) (h1 : i < k) : (wrdL l).getD k [] = invW ((wrdL l).getD i.toNat []) := by
  unfold wrdL
  rw [List.getD_eq_getElem?_getD, runL_get h]
  simp only [Option.getD_some, wrdS, if_neg ne_mb]
  rw [runL_getD (by omega)]
theorem wrd_then {l : List D} {k : Nat} {i j : Int} (h : l[k]? = some (.tup [.str "then", .int i, .int j])) (h0 : 0 ≤ i) (h1 : i < k) (g0 : 0 ≤ j) (g1 : j < k) : (wrdL l).getD k [] = (wrdL l).getD i.toNat [] ++ (wrdL l).getD j.toNat [] := by
  unfold wrdL
  rw [List.getD_eq_getElem?_getD, runL_get h]
  simp only [Option.getD_some, wrdS]
  rw [runL_getD (by omega), runL_getD (by omega)]
theorem stp_at {m : Nat} {l : List D} (hl : Prog m l) {k : Nat} (hk : k < l.length) : (∃ i, l[k]? = some (.tup [.str "maker", .int i]) ∧ 0 ≤ i ∧ i < m) ∨ (∃ i j, l[k]? = some (.tup [.str "then", .int i, .int j]) ∧ 0 ≤ i ∧ i < k ∧ 0 ≤ j ∧ j < k) ∨ ∃ i, l[k]? = some (.tup [.str "back", .int i]) ∧ 0 ≤ i ∧ i < k := by
  rw [List.getElem?_eq_getElem hk]
  rcases stp_form (hl k hk) with ⟨i, e, q⟩ | ⟨i, j, e, q⟩ | ⟨i, e, q⟩
  · exact .inl ⟨i, by rw [e], q⟩
  · exact .inr (.inl ⟨i, j, by rw [e], q⟩)
  · exact .inr (.inr ⟨i, by rw [e], q⟩)
theorem wrd_pos {m : Nat} {l : List D} (hl : Prog m l) : ∀ k, k < l.length → 1 ≤ ((wrdL l).getD k []).length := by
  intro k
  induction k using Nat.strongRecOn with
  | ind k ih =>
    intro hk
    rcases stp_at hl hk with ⟨i, e, i0, i1⟩ | ⟨i, j, e, i0, i1, j0, j1⟩ | ⟨i, e, i0, i1⟩
    · rw [wrd_maker e]; simp
    · rw [wrd_then e i0 i1 j0 j1, List.length_append]
      have := ih i.toNat (by omega) (by omega)
      omega
    · rw [wrd_back e i0 i1, inv_len]
      exact ih i.toNat (by omega) (by omega)
theorem len_wrd {m : Nat} {l : List D} (hl : Prog m l) : ∀ k, k < l.length → (lenL l).getD k 0 = (((wrdL l).getD k []).length : Int) := by
  intro k
  induction k using Nat.strongRecOn with
  | ind k ih =>
    intro hk
    rcases stp_at hl hk with ⟨i, e, i0, i1⟩ | ⟨i, j, e, i0, i1, j0, j1⟩ | ⟨i, e, i0, i1⟩
    · rw [wrd_maker e]
      unfold lenL
      rw [List.getD_eq_getElem?_getD, runL_get e]
      simp [lenS]
    · rw [wrd_then e i0 i1 j0 j1, List.length_append]
      have q1 := ih i.toNat (by omega) (by omega)
      have q2 := ih j.toNat (by omega) (by omega)
      unfold lenL at *
      rw [List.getD_eq_getElem?_getD, runL_get e]
      simp only [Option.getD_some, lenS]
      rw [runL_getD (by omega), runL_getD (by omega), q1, q2]
      simp
    · rw [wrd_back e i0 i1, inv_len]
      have q1 := ih i.toNat (by omega) (by omega)
      unfold lenL at *
      rw [List.getD_eq_getElem?_getD, runL_get e]
      simp only [Option.getD_some, lenS, if_neg ne_mb]
      rw [runL_getD (by omega), q1]
/-! ### the program's lengths -/
theorem atI_of {α : Type} {l : List α} {i : Int} (h0 : 0 ≤ i) (h1 : i < l.length) {a : α} : atI l i = some (l.getD i.toNat a) := by
  rw [atI_ok h0 h1, List.getD_eq_getElem?_getD, List.getElem?_eq_getElem (by omega)]
  rfl
theorem lens_ok {m : Nat} {l : List D} (hl : Prog m l) (hz : l.length ≤ 30000) : F_step_lengths [.sh (.lst l)] = .ok (.ol ((lenL l).map ig)) [.sh (.lst l)] := by
  obtain ⟨ρ', e, j3, rfl⟩ := forN_inv (i := 2) (body := b_step_lengths_1) (its := l.map .sh) (ρ := [some (.sh (.lst l)), some (.ol []), none])
    (fun k ρ => ∃ j3 : Option T, ρ = [some (.sh (.lst l)), some (.ol ((lenL (l.take k)).map ig)), j3])
    ⟨none, by simp [lenL, runL]⟩ (by
      rintro k t ρ e ⟨j3, rfl⟩
      rw [List.getElem?_map] at e
      obtain ⟨d, ed, rfl⟩ := Option.map_eq_some_iff.mp e
      have hk : k < l.length := (List.getElem?_eq_some_iff.mp ed).1
      have hde : l[k] = d := (List.getElem?_eq_some_iff.mp ed).2
      have et : l.take (k + 1) = l.take k ++ [d] := by rw [List.take_add_one, ed]; rfl
      have hd := hl k hk
      rw [hde] at hd
      have hlen : (lenL (l.take k)).length = k := by unfold lenL; rw [runL_len, List.length_take, Nat.min_eq_left (by omega)]
      have hlt : (lenL (l.take k)).length < lim := by unfold lim; omega
      have hsn : lenL (l.take k ++ [d]) = lenL (l.take k) ++ [lenS (lenL (l.take k)) d] := runL_snoc _ _
      obtain ⟨f, hfe⟩ : ∃ f, f = lenL (l.take k) := ⟨_, rfl⟩
      refine ⟨_, .inl ?_, some (.sh d), by rw [et, hsn]⟩
      rw [← hfe] at hlen hlt ⊢
      rcases stp_form hd with ⟨i, rfl, i0, i1⟩ | ⟨i, j, rfl, i0, i1, j0, j1⟩ | ⟨i, rfl, i0, i1⟩
      · simp [b_step_lengths_1, lenS, hlt]
      · have a1 := atI_T f i0 (by omega)
        have a2 := atI_T f j0 (by omega)
        simp [b_step_lengths_1, lenS, a1, a2, hlt]
      · have a1 := atI_T f i0 (by omega)
        simp [b_step_lengths_1, lenS, ne_mb, a1, hlt])
  rw [List.length_map, List.take_length] at e
  simp [F_step_lengths, m_step_lengths, e]
def lastLen (l : List D) : Int := (lenL l).getLast?.getD 0
theorem truth_snoc (l : List D) (d : D) : (D.lst (l ++ [d])).truth = some true := by cases l <;> rfl
theorem length_ok {m : Nat} {l : List D} (hl : Prog m l) (hz : l.length ≤ 30000) : F_program_length [.sh (.lst l)] = .ok (si (lastLen l)) [.sh (.lst l)] := by
  have ht := lens_ok hl hz
  rcases List.eq_nil_or_concat l with rfl | ⟨l', d, e⟩
  · have h0 : (D.lst []).truth = some false := rfl
    simp [F_program_length, m_program_length, h0, lastLen, lenL, runL]
  · rw [List.concat_eq_append] at e
    subst e
    have h0 := truth_snoc l' d
    have hsn : lenL (l' ++ [d]) = lenL l' ++ [lenS (lenL l') d] := runL_snoc _ _
    have ha := atI_last ((lenL l').map ig) (ig (lenS (lenL l') d))
    unfold lastLen
    rw [hsn] at ht ⊢
    simp at ht ha
    simp [F_program_length, m_program_length, h0, ht, ha]
/-! ### the steps that are no back -/
def rtS (f : List (Int × Int)) : D → Int × Int
  | .tup [.str s, .int i] => if s = "back" then ((f.getD i.toNat (0, 0)).1, -(f.getD i.toNat (0, 0)).2) else ((f.length : Int), 1)
  | _ => ((f.length : Int), 1)
def rtL (l : List D) : List (Int × Int) := runL rtS l
theorem rt_len (l : List D) : (rtL l).length = l.length := runL_len l
theorem turned_ok {m : Nat} {l : List D} (hl : Prog m l) (hz : l.length ≤ 30000) : F_turned_steps [.sh (.lst l)] = .ok (.ol ((rtL l).map lT)) [.sh (.lst l)] := by
  obtain ⟨ρ', e, j2, j3, rfl⟩ := forL_inv (b := bTup [2, 3]) (body := b_turned_steps_1) (its := enumT 0 l) (ρ := [some (.sh (.lst l)), some (.ol []), none, none])
    (fun k ρ => ∃ j2 j3 : Option T, ρ = [some (.sh (.lst l)), some (.ol ((rtL (l.take k)).map lT)), j2, j3])
    ⟨none, none, by simp [rtL, runL]⟩ (by
      rintro k t ρ e ⟨j2, j3, rfl⟩
      obtain ⟨hk, rfl⟩ := enumD e
      have ed : l[k]? = some l[k] := List.getElem?_eq_getElem hk
      have et : l.take (k + 1) = l.take k ++ [l[k]] := by rw [List.take_add_one, ed]; rfl
      have hd := hl k hk
      have hlen : (rtL (l.take k)).length = k := by rw [rt_len, List.length_take, Nat.min_eq_left (by omega)]
      have hlt : (rtL (l.take k)).length < lim := by unfold lim; omega
      have hsn : rtL (l.take k ++ [l[k]]) = rtL (l.take k) ++ [rtS (rtL (l.take k)) l[k]] := runL_snoc _ _
      obtain ⟨f, hfe⟩ : ∃ f, f = rtL (l.take k) := ⟨_, rfl⟩
      refine ⟨[some (.sh (.lst l)), some (.ol ((rtL (l.take k)).map lT)), some (si k), some (.sh l[k])], _, rfl, .inl ?_, some (si k), some (.sh l[k]), by rw [et, hsn]⟩
      rw [← hfe] at hlen hlt ⊢
      have hdl := dl_lT f
      have hkl : k < lim := by unfold lim; omega
      generalize l[k] = d at hd
      rcases stp_form hd with ⟨i, rfl, i0, i1⟩ | ⟨i, j, rfl, i0, i1, j0, j1⟩ | ⟨i, rfl, i0, i1⟩
      · simp [b_turned_steps_1, rtS, hkl, hlen, lT, eq_mb, ne_mb2]
      · simp [b_turned_steps_1, rtS, hkl, hlen, lT]
      · have a1 := atI_of (l := f.map lT) (i := i) i0 (by simp; omega) (a := lT (0, 0))
        have a2 := atI_of (l := f.map lD) (i := i) i0 (by simp; omega) (a := lD (0, 0))
        rw [getD_mapX] at a1 a2
        obtain ⟨p, hp⟩ : ∃ p, p = f.getD i.toNat (0, 0) := ⟨_, rfl⟩
        rw [← hp] at a1 a2
        simp [b_turned_steps_1, rtS, hdl, a1, a2, hlt, lT, lD]
        rw [hp, List.getD_eq_getElem?_getD]
        exact ⟨rfl, rfl⟩)
  have : (enumT 0 l).length = l.length := enumT_len
  rw [this, List.take_length] at e
  simp [F_turned_steps, m_turned_steps, e]
def Root (l : List D) (r : Nat) : Prop := (∃ i, l[r]? = some (.tup [.str "maker", .int i])) ∨ ∃ i j, l[r]? = some (.tup [.str "then", .int i, .int j]) ∧ 0 ≤ i ∧ i < r ∧ 0 ≤ j ∧ j < r
theorem rt_at {m : Nat} {l : List D} (hl : Prog m l) : ∀ k, k < l.length → ∃ (r : Nat) (s : Int), (rtL l).getD k (0, 0) = ((r : Int), s) ∧ r < l.length ∧ (s = 1 ∨ s = -1) ∧ Root l r ∧ (wrdL l).getD k [] = sgW s ((wrdL l).getD r []) := by
  intro k
  induction k using Nat.strongRecOn with
  | ind k ih =>
    intro hk
    have hlen : (rtL (l.take k)).length = k := by rw [rt_len, List.length_take, Nat.min_eq_left (by omega)]
    rcases stp_at hl hk with ⟨i, e, i0, i1⟩ | ⟨i, j, e, i0, i1, j0, j1⟩ | ⟨i, e, i0, i1⟩
    · refine ⟨k, 1, ?_, hk, .inl rfl, .inl ⟨i, e⟩, by simp [sgW]⟩
      unfold rtL at *
      rw [List.getD_eq_getElem?_getD, runL_get e]
      simp [rtS, hlen, ne_mb2]
    · refine ⟨k, 1, ?_, hk, .inl rfl, .inr ⟨i, j, e, i0, i1, j0, j1⟩, by simp [sgW]⟩
      unfold rtL at *
      rw [List.getD_eq_getElem?_getD, runL_get e]
      simp [rtS, hlen]
    · obtain ⟨r, s, h1, h2, h3, h4, h5⟩ := ih i.toNat (by omega) (by omega)
      refine ⟨r, -s, ?_, h2, by omega, h4, ?_⟩
      · unfold rtL at *
        rw [List.getD_eq_getElem?_getD, runL_get e]
        simp only [Option.getD_some, rtS, if_true]
        rw [runL_getD (by omega), h1]
      · rw [wrd_back e i0 i1, h5]
        rcases h3 with rfl | rfl <;> simp [sgW, inv_inv]
end
end Cl

set_option maxHeartbeats 1000000
namespace Cl
noncomputable section
open PySem L2 Z
def t_written_out_1 : EMb := (eT (qTru (pV 5)))
def b_written_out_2 : SM := (mSeq (mUnp (bTup [6, 7]) (ePop 5)) (mSeq (mPar 8 7 (eCons (eGet (vIx (vIx (vV 3) (pV 6)) (pC (.int 0)))) (eCons (eP (pOp oMul (pV 7) (pOp oIx (pOp oIx (pV 3) (pV 6)) (pC (.int 1))))) eNil))) (mSeq (mSet 9 (eGet (vIx (vV 0) (pV 8)))) (mIf (eT (pB (pOp oEq (pOp oIx (pV 9) (pC (.int 0))) (pC (.str "maker"))))) (mAppG 4 (eTup (eCons (eGet (vIx (vV 9) (pC (.int 1)))) (eCons (eV 7) eNil)))) (mSeq (mUnp (bTup [10, 6]) (eIf (eT (pB (pOp oEq (pV 7) (pC (.int 1))))) (eTup (eCons (eGet (vIx (vV 9) (pC (.int 1)))) (eCons (eGet (vIx (vV 9) (pC (.int 2)))) eNil))) (eTup (eCons (eGet (vIx (vV 9) (pC (.int 2)))) (eCons (eGet (vIx (vV 9) (pC (.int 1)))) eNil))))) (mExt 5 (eLst (eCons (eTup (eCons (eV 6) (eCons (eV 7) eNil))) (eCons (eTup (eCons (eV 10) (eCons (eV 7) eNil))) eNil)))))))))
def m_written_out : SM := (mSeq (mSet 2 (eCall 1 F_program_length (eCons (eV 0) eNil))) (mSeq (mIf (eT (pB (pOp oGt (pV 2) (pV 1)))) (mRaise1 "TooMany" "bound" (eV 2)) mNil) (mSeq (mSet 3 (eCall 1 F_turned_steps (eCons (eV 0) eNil))) (mSeq (mPar 4 5 (eCons (eLst eNil) (eCons (eIf (eT (qTru (pV 0))) (eLst (eCons (eTup (eCons (eP (pOp oSub (pCB (o1 oLen) (aCons (pV 0) aNil)) (pC (.int 1)))) (eCons (eP (pC (.int 1))) eNil))) eNil)) (eLst eNil)) eNil))) (mSeq (whileL t_written_out_1 b_written_out_2 1000000) (mRet (eM 4)))))))
def F_written_out : FM := mFun 2 11 m_written_out
/-! ### a word written out -/
/-- what a waiting pair stands for -/
def wtW (l : List D) (q : Nat × Int) : Wd := sgW q.2 ((wrdL l).getD q.1 [])
def qT (q : Nat × Int) : T := lT ((q.1 : Int), q.2)
def msW (l : List D) : List (Nat × Int) → Nat
  | [] => 0
  | q :: st => msW l st + (2 * ((wrdL l).getD q.1 []).length - 1)
theorem msW_app (l : List D) (a b : List (Nat × Int)) : msW l (a ++ b) = msW l a + msW l b := by
  induction a with
  | nil => simp [msW]
  | cons q a ih => simp only [List.cons_append, msW, ih]; omega
def StOk (l : List D) (st : List (Nat × Int)) : Prop := ∀ q ∈ st, q.1 < l.length ∧ (q.2 = 1 ∨ q.2 = -1)
theorem st_len {m : Nat} {l : List D} (hl : Prog m l) : ∀ {st : List (Nat × Int)}, StOk l st → st.length ≤ msW l st
  | [], _ => by simp
  | q :: st, h => by
    have h1 := st_len hl (st := st) fun x hx => h x (by simp [hx])
    have h2 := wrd_pos hl q.1 (h q (by simp)).1
    simp only [List.length_cons, msW]
    omega
@[simp] theorem kids_shtX (l : List D) : (T.sh (.tup l)).kids = some (l.map .sh) := rfl
theorem pop_last {α : Type} (l : List α) (a : α) : (l ++ [a])[(l ++ [a]).length - 1]? = some a := by simp
theorem written_loop {m : Nat} {l : List D} (hl : Prog m l) (hz : l.length ≤ 30000) {e1 e2 e6 e7 e8 e9 e10 : Option T} {st : List (Nat × Int)} (hst : StOk l st) {R : Wd} (hR : st.reverse.flatMap (wtW l) = R) (hRl : R.length ≤ 400000) (hms : msW l st < 1000000) :
    ∃ j6 j7 j8 j9 j10, whileL t_written_out_1 b_written_out_2 1000000 [some (.sh (.lst l)), e1, e2, some (.ol ((rtL l).map lT)), some (.ol []), some (.ol (st.map qT)), e6, e7, e8, e9, e10] = .nx [some (.sh (.lst l)), e1, e2, some (.ol ((rtL l).map lT)), some (.ol (R.map lT)), some (.ol []), j6, j7, j8, j9, j10] := by
  obtain ⟨ρ', e, j6, j7, j8, j9, j10, rfl⟩ := whileL_dec (c := t_written_out_1) (body := b_written_out_2)
    (fun k ρ => ∃ (W : Wd) (st : List (Nat × Int)) (j6 j7 j8 j9 j10 : Option T), ρ = [some (.sh (.lst l)), e1, e2, some (.ol ((rtL l).map lT)), some (.ol (W.map lT)), some (.ol (st.map qT)), j6, j7, j8, j9, j10] ∧ StOk l st ∧ W ++ st.reverse.flatMap (wtW l) = R ∧ msW l st = k ∧ k < 1000000)
    (fun ρ' => ∃ j6 j7 j8 j9 j10 : Option T, ρ' = [some (.sh (.lst l)), e1, e2, some (.ol ((rtL l).map lT)), some (.ol (R.map lT)), some (.ol []), j6, j7, j8, j9, j10])
    (by
      rintro k ρ ⟨W, st, j6, j7, j8, j9, j10, rfl, h1, h2, h3, h4⟩
      rcases List.eq_nil_or_concat st with rfl | ⟨st', q, e⟩
      · refine .inl ⟨_, ?_, j6, j7, j8, j9, j10, rfl⟩
        have h0 : (D.lst []).truth = some false := rfl
        simp at h2
        subst h2
        simp [t_written_out_1, h0]
      · rw [List.concat_eq_append] at e
        subst e
        obtain ⟨p, e⟩ := q
        have hq := h1 (p, e) (by simp)
        obtain ⟨r, s, g1, g2, g3, g4, g5⟩ := rt_at hl p hq.1
        have h0 := truth_snoc (dl (st'.map qT)) (lD ((p : Int), e))
        have hst' : StOk l st' := fun q hq => h1 q (by simp [hq])
        have hpos := wrd_pos hl r g2
        have hw : wtW l (p, e) = sgW (e * s) ((wrdL l).getD r []) := by
          unfold wtW
          rw [g5, sg_sg hq.2 g3]
        have hplen : ((wrdL l).getD p []).length = ((wrdL l).getD r []).length := by rw [g5, sg_len]
        have hes : e * s = 1 ∨ e * s = -1 := by
          rcases hq.2 with h | h <;> rcases g3 with h' | h' <;> simp only at h <;> subst h <;> subst h' <;> decide
        have hrl := rt_len l
        have a1 := atI_of (l := (rtL l).map lT) (i := (p : Int)) (by omega) (by simp; omega) (a := lT (0, 0))
        have a2 := atI_of (l := (rtL l).map lD) (i := (p : Int)) (by omega) (by simp; omega) (a := lD (0, 0))
        rw [getD_mapX, Int.toNat_natCast, g1] at a1 a2
        have hdl := dl_lT (rtL l)
        have hmul : oMul (.int e) (.int s) = some (.int (e * s)) := mul_int (.inl (by omega))
        have hpop := pop_last (st'.map qT) (qT (p, e))
        rw [List.reverse_append, List.flatMap_append] at h2
        simp only [List.reverse_cons, List.reverse_nil, List.nil_append, List.flatMap_cons, List.flatMap_nil, List.append_nil] at h2
        rw [msW_app] at h3
        simp only [msW, hplen, Nat.zero_add] at h3
        have hWl : W.length ≤ 400000 := by
          have := congrArg List.length h2
          simp only [List.length_append] at this
          omega
        have hWz : W.length < lim := by unfold lim; omega
        obtain ⟨x, hx⟩ : ∃ x, x = e * s := ⟨_, rfl⟩
        rw [← hx] at hmul hw hes
        have htest : t_written_out_1 [some (.sh (.lst l)), e1, e2, some (.ol ((rtL l).map lT)), some (.ol (W.map lT)), some (.ol ((st' ++ [(p, e)]).map qT)), j6, j7, j8, j9, j10] = .ok true [some (.sh (.lst l)), e1, e2, some (.ol ((rtL l).map lT)), some (.ol (W.map lT)), some (.ol ((st' ++ [(p, e)]).map qT)), j6, j7, j8, j9, j10] := by
          simp [t_written_out_1, h0, qT]
        rcases g4 with ⟨i, ei⟩ | ⟨i, j, ei, i0, i1, j0, j1⟩
        · refine .inr ⟨_, [some (.sh (.lst l)), e1, e2, some (.ol ((rtL l).map lT)), some (.ol ((W ++ [(i, x)]).map lT)), some (.ol (st'.map qT)), some (si p), some (si x), some (si r), some (.sh (.tup [.str "maker", .int i])), j10], msW l st', htest, .inl ?_, ?_, W ++ [(i, x)], st', _, _, _, _, _, rfl, hst', ?_, rfl, by omega⟩
          · have a3 : atI (l.map T.sh) (r : Int) = some (.sh (.tup [.str "maker", .int i])) := by rw [Z.atI_nat, List.getElem?_map, ei]; rfl
            simp [qT, lT] at hpop
            simp [qT, lT, lD] at a1 a2
            simp [b_written_out_2, qT, lT, lD, hpop, a1, a2, a3, hdl, hmul, hWz]
          · omega
          · rw [hw, wrd_maker ei] at h2
            rw [← h2]
            rcases hes with h | h <;> rw [h] <;> simp [sgW, invW]
        · have hri := wrd_pos hl i.toNat (by omega)
          have hrj := wrd_pos hl j.toNat (by omega)
          have hww := wrd_then ei i0 i1 j0 j1
          have hlen : ((wrdL l).getD r []).length = ((wrdL l).getD i.toNat []).length + ((wrdL l).getD j.toNat []).length := by rw [hww, List.length_append]
          have ti : ((i.toNat : Nat) : Int) = i := by omega
          have tj : ((j.toNat : Nat) : Int) = j := by omega
          have a3 : atI (l.map T.sh) (r : Int) = some (.sh (.tup [.str "then", .int i, .int j])) := by rw [Z.atI_nat, List.getElem?_map, ei]; rfl
          have hstz : st'.length + 2 ≤ lim := by
            have q1 := st_len hl hst'
            unfold lim
            omega
          have hms3 : msW l st' + (2 * ((wrdL l).getD i.toNat []).length - 1) + (2 * ((wrdL l).getD j.toNat []).length - 1) < 1000000 := by omega
          rcases hes with h | h
          · refine .inr ⟨_, [some (.sh (.lst l)), e1, e2, some (.ol ((rtL l).map lT)), some (.ol (W.map lT)), some (.ol ((st' ++ [(j.toNat, 1), (i.toNat, 1)]).map qT)), some (si j), some (si 1), some (si r), some (.sh (.tup [.str "then", .int i, .int j])), some (si i)], msW l (st' ++ [(j.toNat, 1), (i.toNat, 1)]), htest, .inl ?_, ?_, W, st' ++ [(j.toNat, 1), (i.toNat, 1)], _, _, _, _, _, rfl, ?_, ?_, rfl, by rw [msW_app]; simp only [msW]; omega⟩
            · rw [h] at hmul
              simp [qT, lT] at hpop
              simp [qT, lT, lD] at a1 a2
              simp [b_written_out_2, qT, lT, lD, hpop, a1, a2, a3, hdl, hmul, hstz, ti, tj]
            · rw [msW_app]
              simp only [msW]
              omega
            · intro q hq
              rcases List.mem_append.mp hq with q1 | q1
              · exact hst' q q1
              · simp at q1
                rcases q1 with rfl | rfl <;> exact ⟨by simp only; omega, .inl rfl⟩
            · rw [← h2, hw, hww, h]
              simp [sgW, wtW]
          · refine .inr ⟨_, [some (.sh (.lst l)), e1, e2, some (.ol ((rtL l).map lT)), some (.ol (W.map lT)), some (.ol ((st' ++ [(i.toNat, -1), (j.toNat, -1)]).map qT)), some (si i), some (si (-1)), some (si r), some (.sh (.tup [.str "then", .int i, .int j])), some (si j)], msW l (st' ++ [(i.toNat, -1), (j.toNat, -1)]), htest, .inl ?_, ?_, W, st' ++ [(i.toNat, -1), (j.toNat, -1)], _, _, _, _, _, rfl, ?_, ?_, rfl, by rw [msW_app]; simp only [msW]; omega⟩
            · rw [h] at hmul
              simp [qT, lT] at hpop
              simp [qT, lT, lD] at a1 a2
              simp [b_written_out_2, qT, lT, lD, hpop, a1, a2, a3, hdl, hmul, hstz, ti, tj]
            · rw [msW_app]
              simp only [msW]
              omega
            · intro q hq
              rcases List.mem_append.mp hq with q1 | q1
              · exact hst' q q1
              · simp at q1
                rcases q1 with rfl | rfl <;> exact ⟨by simp only; omega, .inr rfl⟩
            · rw [← h2, hw, hww, h]
              simp [sgW, wtW, inv_app])
    1000000 (msW l st) _ hms ⟨[], st, e6, e7, e8, e9, e10, rfl, hst, by simpa using hR, rfl, hms⟩
  exact ⟨j6, j7, j8, j9, j10, e⟩
end
end Cl

set_option maxHeartbeats 1000000
namespace Cl
noncomputable section
open PySem L2 Z
def x_law_word_1 : EM := (eTup (eCons (eV 3) (eCons (eP (pUn oNeg (pV 4))) eNil)))
def b_law_word_2 : SM := (mIf (eT (pB (pOp oEq (pOp oIx (pV 2) (pC (.int 0))) (pC (.str "maker"))))) (mAppG 1 (eFz (eLst (eCons (eTup (eCons (eGet (vIx (vV 2) (pC (.int 1)))) (eCons (eP (pC (.int 1))) eNil))) eNil)))) (mIf (eT (pB (pOp oEq (pOp oIx (pV 2) (pC (.int 0))) (pC (.str "back"))))) (mAppG 1 (eFz (eLC [3, 4] (iE (eRevL (vIx (vV 1) (pOp oAdd (pOp oIx (pV 2) (pC (.int 1))) (pC (.int 1)))))) (bTup [3, 4]) tAll x_law_word_1))) (mAppG 1 (eFz (eOp eAddT (eGet (vIx (vV 1) (pOp oAdd (pOp oIx (pV 2) (pC (.int 1))) (pC (.int 1))))) (eGet (vIx (vV 1) (pOp oAdd (pOp oIx (pV 2) (pC (.int 2))) (pC (.int 1))))))))))
def m_law_word : SM := (mSeq (mSet 1 (eLst (eCons (eFz (eLst eNil)) eNil))) (mSeq (mFor (iE (eV 0)) (bName 2) b_law_word_2) (mRet (eGet (vIx (vV 1) (pUn oNeg (pC (.int 1))))))))
def F_law_word : FM := mFun 1 5 m_law_word
def b_law_letters_1 : SM := (mSeq (mIf (eT (qOr (qNot (pB (pIsi Ty.tuple (pV 2)))) (qOr (pB (pOp oNe (pCB (o1 oLen) (aCons (pV 2) aNil)) (pC (.int 2)))) (qOr (qNot (pB (pIsi Ty.int (pOp oIx (pV 2) (pC (.int 0)))))) (qNot (pB (pIsi Ty.int (pOp oIx (pV 2) (pC (.int 1)))))))))) (mRet (eP (pC (.bl false)))) mNil) (mIf (eT (qOr (pB (pIsi Ty.bool (pOp oIx (pV 2) (pC (.int 0))))) (qOr (pB (pIsi Ty.bool (pOp oIx (pV 2) (pC (.int 1))))) (qOr (pB (pOp oNe (pOp oIx (pV 2) (pC (.int 0))) (pOp oIx (pV 3) (pC (.int 0))))) (pB (pOp oNe (pOp oIx (pV 2) (pC (.int 1))) (pOp oIx (pV 3) (pC (.int 1))))))))) (mRet (eP (pC (.bl false)))) mNil))
def m_law_letters : SM := (mSeq (mIf (eT (qOr (qNot (pB (pIsi Ty.list (pV 0)))) (pB (pOp oNe (pCB (o1 oLen) (aCons (pV 0) aNil)) (pCB (o1 oLen) (aCons (pV 1) aNil)))))) (mRet (eP (pC (.bl false)))) mNil) (mSeq (mFor (iZp (eV 0) (eV 1)) (bTup [2, 3]) b_law_letters_1) (mRet (eP (pC (.bl true))))))
def F_law_letters : FM := mFun 2 4 m_law_letters
def b_law_told_1 : SM := (mSet 2 (eCall 2 F_written_out (eCons (eV 0) (eCons (eV 1) eNil))))
def z_law_told_2 : Exn → SM := fun x => (mSeq (mIf (eOr (eB (eXis "BadProgram" x)) (eOr (eB (eXis "BadWord" x)) (eOr (eB (eXis "BadSize" x)) (eB (eXis "BadTurning" x))))) (mRet (eTup (eCons (eP (pC (.str "other"))) (eCons (eLst eNil) eNil)))) mNil) (mSeq (mIf (eB (eXis "TooMany" x)) (mRet (eTup (eCons (eP (pC (.str "refused"))) (eCons (eXfld "TooMany" "bound" x) eNil)))) mNil) (mRet (eTup (eCons (eP (pC (.str "other"))) (eCons (eLst eNil) eNil))))))
def m_law_told : SM := (mSeq (mTry "TurnError" 3 b_law_told_1 z_law_told_2) (mRet (eTup (eCons (eP (pC (.str "told"))) (eCons (eM 2) eNil)))))
def F_law_told : FM := mFun 2 4 m_law_told
def m_law_written : SM := (mSeq (mSet 3 (eCall 2 F_law_told (eCons (eV 0) (eCons (eV 2) eNil)))) (mSeq (mIf (eT (pB (pOp oGt (pCB (o1 oLen) (aCons (pV 1) aNil)) (pV 2)))) (mRet (eP (pAndV (pOp oEq (pOp oIx (pV 3) (pC (.int 0))) (pC (.str "refused"))) (pCall 2 (F_law_same 6) (aCons (pOp oIx (pV 3) (pC (.int 1))) (aCons (pCB (o1 oLen) (aCons (pV 1) aNil)) aNil)))))) mNil) (mSeq (mIf (eT (qOr (pB (pOp oNe (pOp oIx (pV 3) (pC (.int 0))) (pC (.str "told")))) (qNot (pB (pCall 2 F_law_letters (aCons (pOp oIx (pV 3) (pC (.int 1))) (aCons (pV 1) aNil))))))) (mRet (eP (pC (.bl false)))) mNil) (mSeq (mApp1 3 (pC (.int 1)) (pV 2)) (mRet (eP (pC (.bl true))))))))
def F_law_written : FM := mFun 3 4 m_law_written
def lastW (l : List D) : Wd := (wrdL l).getLast?.getD []
theorem wrd_len (l : List D) : (wrdL l).length = l.length := runL_len l
theorem last_at {α : Type} (l : List α) (a : α) (h : 0 < l.length) : l.getLast?.getD a = l.getD (l.length - 1) a := by
  rw [List.getD_eq_getElem?_getD, List.getLast?_eq_getElem?]
theorem lastW_at {l : List D} (h : 0 < l.length) : lastW l = (wrdL l).getD (l.length - 1) [] := by
  unfold lastW
  rw [last_at _ _ (by rw [wrd_len]; exact h), wrd_len]
theorem lastLen_w {m : Nat} {l : List D} (hl : Prog m l) : lastLen l = ((lastW l).length : Int) := by
  by_cases h : 0 < l.length
  · have h1 : (lenL l).length = l.length := runL_len l
    unfold lastLen
    rw [last_at _ _ (by omega), h1, len_wrd hl _ (by omega), lastW_at h]
  · have : l = [] := List.length_eq_zero_iff.mp (by omega)
    subst this
    simp [lastLen, lastW, lenL, wrdL, runL]
theorem written_ok {m : Nat} {l : List D} (hl : Prog m l) (hz : l.length ≤ 30000) {most : Int} (hm : most ≤ 200000) : F_written_out [.sh (.lst l), si most] = if most < lastLen l then .ex ⟨"TooMany", [("bound", .int (lastLen l))]⟩ else .ok (.ol ((lastW l).map lT)) [.sh (.lst l), si most] := by
  have h1 := length_ok hl hz
  have h2 := turned_ok hl hz
  by_cases c : most < lastLen l
  · rw [if_pos c]
    simp [F_written_out, m_written_out, h1, c]
  · rw [if_neg c]
    by_cases h : 0 < l.length
    · have hw := lastLen_w hl
      have hw2 := lastW_at h
      have ht : (D.lst l).truth = some true := by cases l <;> first | rfl | (simp at h)
      have hlen : ((l.length - 1 : Nat) : Int) = (l.length : Int) - 1 := by omega
      obtain ⟨j6, j7, j8, j9, j10, e⟩ := written_loop hl hz (e1 := some (si most)) (e2 := some (si (lastLen l))) (e6 := none) (e7 := none) (e8 := none) (e9 := none) (e10 := none) (st := [(l.length - 1, 1)]) (fun q hq => by
        rw [List.mem_singleton.mp hq]
        exact ⟨by simp only; omega, .inl rfl⟩) (R := lastW l) (by simp [wtW, sgW, hw2]) (by omega) (by simp only [msW]; rw [← hw2]; omega)
      simp [qT, lT, hlen] at e
      simp [F_written_out, m_written_out, h1, h2, c, ht, e]
    · have : l = [] := List.length_eq_zero_iff.mp (by omega)
      subst this
      have ht : (D.lst []).truth = some false := rfl
      obtain ⟨j6, j7, j8, j9, j10, e⟩ := written_loop hl hz (e1 := some (si most)) (e2 := some (si (lastLen []))) (e6 := none) (e7 := none) (e8 := none) (e9 := none) (e10 := none) (st := []) (fun q hq => by simp at hq) (R := []) (by simp) (by simp) (by simp [msW])
      simp at e
      simp [F_written_out, m_written_out, h1, h2, c, ht, e, lastW, wrdL, runL]
/-! ### the law's word -/
def wT (w : Wd) : T := .sh (.lst (w.map lD))
theorem lc_inv {w : Wd} (hw : w.length ≤ 400000) {e0 e1 e2 : Option T} : lcL [3, 4] (bTup [3, 4]) tAll x_law_word_1 ((w.map lD).reverse.map .sh) [] [e0, e1, e2, none, none] = .ok ((invW w).map lT) [e0, e1, e2, none, none] := by
  have := lcL_map (slots := [3, 4]) (b := bTup [3, 4]) (elt := x_law_word_1) (ρ := [e0, e1, e2, none, none]) (fun t => match t.d with | .tup [.int k, .int e] => lT (k, -e) | _ => t) (its := (w.map lD).reverse.map .sh) (acc := []) (fun t ht => by
    obtain ⟨d, hd, rfl⟩ := List.mem_map.mp ht
    obtain ⟨p, hp, rfl⟩ := List.mem_map.mp (List.mem_reverse.mp hd)
    refine ⟨[e0, e1, e2, some (si p.1), some (si p.2)], [e0, e1, e2, some (si p.1), some (si p.2)], rfl, ?_, rfl⟩
    simp [x_law_word_1, lD, lT]) (by simp; unfold lim; omega)
  rw [this]
  simp only [List.nil_append]
  congr 1
  unfold invW
  rw [← List.map_reverse, List.map_map, List.map_map, List.map_map]
  rfl
theorem dl_shlD (u : Wd) : dl (u.map (T.sh ∘ lD)) = u.map lD := by rw [dl_eq, List.map_map]; rfl
theorem dl_revX (l : List T) : dl l.reverse = (dl l).reverse := by rw [dl_eq, dl_eq, List.map_reverse]
theorem add_w {u v : Wd} (h : u.length + v.length ≤ 800000) : eAddT (wT u) (wT v) = some (.ol ((u.map lD).map .sh ++ (v.map lD).map .sh)) := addT_lst (els_sh _) (els_sh _) (by simp; unfold lim; omega)
theorem word_w {m : Nat} {l : List D} (hl : Prog m l) (hz : l.length ≤ 30000) (hb : ∀ k, k < l.length → ((wrdL l).getD k []).length ≤ 400000) : F_law_word [.sh (.lst l)] = .ok (wT (lastW l)) [.sh (.lst l)] := by
  obtain ⟨ρ', e, j2, rfl⟩ := forN_inv (i := 2) (body := b_law_word_2) (its := l.map .sh) (ρ := [some (.sh (.lst l)), some (.ol [.sh (.lst [])]), none, none, none])
    (fun k ρ => ∃ j2 : Option T, ρ = [some (.sh (.lst l)), some (.ol (([] :: wrdL (l.take k)).map wT)), j2, none, none])
    ⟨none, by simp [wrdL, runL, wT]⟩ (by
      rintro k t ρ e ⟨j2, rfl⟩
      rw [List.getElem?_map] at e
      obtain ⟨d, ed, rfl⟩ := Option.map_eq_some_iff.mp e
      have hk : k < l.length := (List.getElem?_eq_some_iff.mp ed).1
      have hde : l[k] = d := (List.getElem?_eq_some_iff.mp ed).2
      have et : l.take (k + 1) = l.take k ++ [d] := by rw [List.take_add_one, ed]; rfl
      have hd := hl k hk
      rw [hde] at hd
      have hlen : (wrdL (l.take k)).length = k := by rw [wrd_len, List.length_take, Nat.min_eq_left (by omega)]
      have hkl : k + 1 < lim := by unfold lim; omega
      have hsn : wrdL (l.take k ++ [d]) = wrdL (l.take k) ++ [wrdS (wrdL (l.take k)) d] := runL_snoc _ _
      have hbd : ∀ i, i < k → ((wrdL (l.take k)).getD i []).length ≤ 400000 := fun i hi => by
        unfold wrdL
        rw [runL_getD hi]
        exact hb i (by omega)
      obtain ⟨f, hfe⟩ : ∃ f, f = wrdL (l.take k) := ⟨_, rfl⟩
      refine ⟨_, .inl ?_, some (.sh d), by rw [et, hsn]⟩
      rw [← hfe] at hlen hbd ⊢
      have hat : ∀ i : Int, 0 ≤ i → i < k → atI (([] :: f).map wT) (i + 1) = some (wT (f.getD i.toNat [])) := fun i i0 i1 => by
        rw [atI_of (by omega) (by simp; omega) (a := wT []), getD_mapX, show (i + 1).toNat = i.toNat + 1 by omega, List.getD_cons_succ]
      rcases stp_form hd with ⟨i, rfl, i0, i1⟩ | ⟨i, j, rfl, i0, i1, j0, j1⟩ | ⟨i, rfl, i0, i1⟩
      · simp [b_law_word_2, wrdS, hkl, hlen, wT, lD]
      · have a1 := hat i i0 i1
        have a2 := hat j j0 j1
        obtain ⟨u, hu⟩ : ∃ u, u = f.getD i.toNat [] := ⟨_, rfl⟩
        obtain ⟨v, hv⟩ : ∃ u, u = f.getD j.toNat [] := ⟨_, rfl⟩
        have q1 := hbd i.toNat (by omega)
        have q2 := hbd j.toNat (by omega)
        have hws : wrdS f (.tup [.str "then", .int i, .int j]) = u ++ v := by rw [hu, hv]; rfl
        rw [← hu] at a1 q1
        rw [← hv] at a2 q2
        have h3 := add_w (u := u) (v := v) (by omega)
        rw [hws]
        simp [wT] at a1 a2 h3
        simp [b_law_word_2, hkl, hlen, wT, a1, a2, h3, dl_shlD]
      · have a1 := hat i i0 i1
        obtain ⟨u, hu⟩ : ∃ u, u = f.getD i.toNat [] := ⟨_, rfl⟩
        have q1 := hbd i.toNat (by omega)
        have hws : wrdS f (.tup [.str "back", .int i]) = invW u := by rw [hu]; simp [wrdS, ne_mb]
        rw [← hu] at a1 q1
        have h3 := lc_inv (w := u) q1 (e0 := some (.sh (.lst l))) (e1 := some (.ol (([] :: f).map wT))) (e2 := some (.sh (.tup [.str "back", .int i])))
        have hdl := dl_lT (invW u)
        rw [hws]
        simp [wT] at a1 h3
        simp [b_law_word_2, hkl, hlen, wT, a1, h3, hdl, dl_revX, dl_shlD])
  rw [List.length_map, List.take_length] at e
  have ha : atI (([] :: wrdL l).map wT) (-1) = some (wT (lastW l)) := by
    unfold lastW
    rcases List.eq_nil_or_concat (wrdL l) with q | ⟨f, w, q⟩
    · rw [q]; exact atI_last [] _
    · rw [q, List.concat_eq_append, List.map_cons, List.map_append]
      have := atI_last (wT [] :: f.map wT) (wT w)
      simpa using this
  simp [wT] at e ha
  simp [F_law_word, m_law_word, e, ha, wT]
/-! ### what is told -/
theorem letters_ok (w : Wd) : F_law_letters [.sh (.lst (w.map lD)), .sh (.lst (w.map lD))] = .ok (.sh (.bl true)) [.sh (.lst (w.map lD)), .sh (.lst (w.map lD))] := by
  obtain ⟨ρ', e, j2, j3, rfl⟩ := forL_inv (b := bTup [2, 3]) (body := b_law_letters_1) (its := zipT (w.map lD) (w.map lD)) (ρ := [some (.sh (.lst (w.map lD))), some (.sh (.lst (w.map lD))), none, none])
    (fun k ρ => ∃ j2 j3 : Option T, ρ = [some (.sh (.lst (w.map lD))), some (.sh (.lst (w.map lD))), j2, j3]) ⟨none, none, rfl⟩ (by
      rintro k t ρ e ⟨j2, j3, rfl⟩
      have hk : k < w.length := by
        have := (List.getElem?_eq_some_iff.mp e).1
        rw [zipT_len] at this
        simp at this
        exact this
      have h1 : (w.map lD)[k]? = some (lD w[k]) := by simp [hk]
      rw [zipT_get h1 h1] at e
      simp only [Option.some.injEq] at e
      subst e
      generalize w[k] = p
      refine ⟨[some (.sh (.lst (w.map lD))), some (.sh (.lst (w.map lD))), some (.sh (lD p)), some (.sh (lD p))], [some (.sh (.lst (w.map lD))), some (.sh (.lst (w.map lD))), some (.sh (lD p)), some (.sh (lD p))], rfl, .inl ?_, _, _, rfl⟩
      simp [b_law_letters_1, lD])
  simp [F_law_letters, m_law_letters, e]
theorem so_refused : PyData.strOk "refused" = true := by decide +kernel
theorem so_told : PyData.strOk "told" = true := by decide +kernel
@[simp] theorem eq_rr : oEq (.str "refused") (.str "refused") = some (.bl true) := eq_str_self so_refused
@[simp] theorem ne_ttl : oNe (.str "told") (.str "told") = some (.bl false) := by
  unfold oNe
  rw [if_pos ⟨so_told, so_told⟩]
  simp [D.py, PyData.eqv]
@[simp] theorem rx_TooMany_BadProgram : relX "TooMany" "BadProgram" = false := by decide
@[simp] theorem rx_TooMany_BadWord : relX "TooMany" "BadWord" = false := by decide
@[simp] theorem rx_TooMany_BadSize : relX "TooMany" "BadSize" = false := by decide
@[simp] theorem rx_TooMany_BadTurning : relX "TooMany" "BadTurning" = false := by decide
@[simp] theorem rx_TooMany_TooMany : relX "TooMany" "TooMany" = true := by decide
theorem law_told_no {m : Nat} {l : List D} (hl : Prog m l) (hz : l.length ≤ 30000) {most : Int} (hm : most ≤ 200000) (c : most < lastLen l) : F_law_told [.sh (.lst l), si most] = .ok (.ot [.sh (.str "refused"), si (lastLen l)]) [.sh (.lst l), si most] := by
  have h := written_ok hl hz hm
  rw [if_pos c] at h
  simp [F_law_told, m_law_told, b_law_told_1, z_law_told_2, h]
theorem law_told_yes {m : Nat} {l : List D} (hl : Prog m l) (hz : l.length ≤ 30000) {most : Int} (hm : most ≤ 200000) (c : ¬ most < lastLen l) : F_law_told [.sh (.lst l), si most] = .ok (.ot [.sh (.str "told"), .ol ((lastW l).map lT)]) [.sh (.lst l), si most] := by
  have h := written_ok hl hz hm
  rw [if_neg c] at h
  simp [F_law_told, m_law_told, b_law_told_1, h]
theorem law_written_ok {m : Nat} {l : List D} (hl : Prog m l) (hz : l.length ≤ 30000) {most : Int} (hm : most ≤ 200000) : F_law_written [.sh (.lst l), wT (lastW l), si most] = .ok (.sh (.bl true)) [.sh (.lst l), wT (lastW l), si most] := by
  have hw := lastLen_w hl
  by_cases c : most < lastLen l
  · have h := law_told_no hl hz hm c
    rw [hw] at h
    have hs := same_refl 6 (.int (lastW l).length) (by show 0 < 6; decide) rfl
    have c' : most < ((lastW l).length : Int) := by omega
    simp [F_law_written, m_law_written, wT, h, hs, c']
  · have h := law_told_yes hl hz hm c
    have c' : ¬ most < ((lastW l).length : Int) := by omega
    have hlt : (lastW l).length < lim := by unfold lim; omega
    have h3 := letters_ok (lastW l)
    have hdl := dl_lT (lastW l)
    simp [F_law_written, m_law_written, wT, h, hdl, h3, c', hlt, kidL_1, putK_1]
end
end Cl

namespace Cl
noncomputable section
open PySem L2 Z
/-! ### turnings as functions -/
def at_ (p : List Int) (k : Nat) : Nat := (p.getD k 0).toNat
theorem Row.at_lt {n : Nat} {p : List Int} (h : Row n p) {k : Nat} (hk : k < n) : at_ p k < n := by
  have := h.at hk
  unfold at_; omega
theorem Row.at_eq {n : Nat} {p : List Int} (h : Row n p) {k : Nat} (hk : k < n) : p.getD k 0 = (at_ p k : Int) := by
  have := h.at hk
  unfold at_; omega
theorem row_ext {n : Nat} {p q : List Int} (hp : Row n p) (hq : Row n q) (h : ∀ k, k < n → at_ p k = at_ q k) : p = q := by
  apply List.ext_getElem
  · rw [hp.1, hq.1]
  · intro k h1 h2
    have hk : k < n := by rw [← hp.1]; exact h1
    rw [← getD_at h1, ← getD_at h2, hp.at_eq hk, hq.at_eq hk, h k hk]
theorem at_then {n : Nat} {p q : List Int} (hp : Row n p) {k : Nat} (hk : k < n) : at_ (thenL p q) k = at_ q (at_ p k) := by
  unfold at_ thenL
  rw [show p.map (fun x => q.getD x.toNat 0) = via p q from rfl, via_get (by rw [hp.1]; exact hk)]
theorem at_iota {n k : Nat} (hk : k < n) : at_ (iota n) k = k := by
  unfold at_
  rw [iota_getD n k hk]
  rfl
theorem then_assoc {n : Nat} {p q r : List Int} (hp : Row n p) (hq : Row n q) (hr : Row n r) : thenL (thenL p q) r = thenL p (thenL q r) :=
  row_ext (then_row (then_row hp hq) hr) (then_row hp (then_row hq hr)) fun k hk => by
    rw [at_then (then_row hp hq) hk, at_then hp hk, at_then hp hk, at_then hq (hp.at_lt hk)]
theorem then_iota {n : Nat} {p : List Int} (hp : Row n p) : thenL p (iota n) = p :=
  row_ext (then_row hp (row_iota n)) hp fun k hk => by rw [at_then hp hk, at_iota (hp.at_lt hk)]
theorem iota_then {n : Nat} {p : List Int} (hp : Row n p) : thenL (iota n) p = p :=
  row_ext (then_row (row_iota n) hp) hp fun k hk => by rw [at_then (row_iota n) hk, at_iota hk]
theorem turn_iota (n : Nat) : Turn n (iota n) := List.Perm.refl _
theorem at_inj {n : Nat} {p : List Int} (hp : Turn n p) {i j : Nat} (hi : i < n) (hj : j < n) (e : at_ p i = at_ p j) : i = j := by
  have e2 : p.getD i 0 = p.getD j 0 := by rw [hp.row.at_eq hi, hp.row.at_eq hj, e]
  have hl := hp.len
  rw [getD_at (by omega), getD_at (by omega)] at e2
  have hn := List.pairwise_iff_getElem.mp hp.nodup
  rcases Nat.lt_trichotomy i j with q | q | q
  · exact absurd e2 (hn i j (by omega) (by omega) q)
  · exact q
  · exact absurd e2.symm (hn j i (by omega) (by omega) q)
theorem putN_get {n : Nat} {f g : Nat → Int} (hf : ∀ k, k < n → 0 ≤ f k ∧ f k < n) (inj : ∀ i j, i < n → j < n → f i = f j → i = j) : ∀ (m k : Nat), m ≤ n → k < m → (putN n f g m).getD (f k).toNat 0 = g k
  | 0, _, _, h => by omega
  | m + 1, k, hm, hk => by
    have hfm := hf m (by omega)
    have hfk := hf k (by omega)
    show ((putN n f g m).set (f m).toNat (g m)).getD (f k).toNat 0 = g k
    rw [getD_set (by simp; omega)]
    by_cases q : m = k
    · subst q; rw [if_pos rfl]
    · rw [if_neg (fun e => q (inj m k (by omega) (by omega) (by omega)))]
      exact putN_get hf inj m k (by omega) (by omega)
theorem at_bk {n : Nat} {p : List Int} (hp : Turn n p) {k : Nat} (hk : k < n) : at_ (bkL n p) (at_ p k) = k := by
  have := putN_get (n := n) (f := fun k => p.getD k 0) (g := fun k => (k : Int)) (fun k hk => hp.at hk) (fun i j hi hj e => at_inj hp hi hj (by unfold at_; rw [e])) n k (Nat.le_refl n) hk
  show ((bkL n p).getD (p.getD k 0).toNat 0).toNat = k
  unfold bkL
  rw [this]; rfl
theorem then_bk {n : Nat} {p : List Int} (hp : Turn n p) : thenL p (bkL n p) = iota n :=
  row_ext (then_row hp.row bk_row) (row_iota n) fun k hk => by rw [at_then hp.row hk, at_bk hp hk, at_iota hk]
theorem turn_bk {n : Nat} {p : List Int} (hp : Turn n p) : Turn n (bkL n p) :=
  perm_of_via hp (bk_row (p := p)).1 (show via p (bkL n p) = iota n from then_bk hp) hp.symm
theorem bk_then {n : Nat} {p : List Int} (hp : Turn n p) : thenL (bkL n p) p = iota n := by
  have hb := turn_bk hp
  have h1 := then_bk hb
  have h2 := congrArg (thenL p) h1
  rw [then_iota hp.row, ← then_assoc hp.row hb.row (turn_bk hb).row, then_bk hp, iota_then (turn_bk hb).row] at h2
  rw [h2] at h1
  exact h1
theorem bk_uniq {n : Nat} {p q : List Int} (hp : Turn n p) (hq : Row n q) (h : thenL p q = iota n) : q = bkL n p := by
  have h2 := congrArg (thenL (bkL n p)) h
  rw [← then_assoc (turn_bk hp).row hp.row hq, bk_then hp, iota_then hq, then_iota (turn_bk hp).row] at h2
  exact h2
/-! ### powers -/
def itL (n : Nat) (p : List Int) : Nat → List Int
  | 0 => iota n
  | m + 1 => thenL (itL n p m) p
def pwL (n : Nat) (p : List Int) : Int → List Int
  | .ofNat m => itL n p m
  | .negSucc m => itL n (bkL n p) (m + 1)
theorem turn_it {n : Nat} {p : List Int} (hp : Turn n p) : ∀ m, Turn n (itL n p m)
  | 0 => turn_iota n
  | m + 1 => turn_then (turn_it hp m) hp
theorem turn_pw {n : Nat} {p : List Int} (hp : Turn n p) : ∀ z, Turn n (pwL n p z)
  | .ofNat m => turn_it hp m
  | .negSucc m => turn_it (turn_bk hp) (m + 1)
theorem pw_zero (n : Nat) (p : List Int) : pwL n p 0 = iota n := rfl
theorem pw_succ {n : Nat} {p : List Int} (hp : Turn n p) : ∀ z : Int, pwL n p (z + 1) = thenL (pwL n p z) p
  | .ofNat m => rfl
  | .negSucc 0 => by
    show iota n = thenL (thenL (iota n) (bkL n p)) p
    rw [iota_then (turn_bk hp).row, bk_then hp]
  | .negSucc (m + 1) => by
    show itL n (bkL n p) (m + 1) = thenL (thenL (itL n (bkL n p) (m + 1)) (bkL n p)) p
    rw [then_assoc (turn_it (turn_bk hp) _).row (turn_bk hp).row hp.row, bk_then hp, then_iota (turn_it (turn_bk hp) _).row]
theorem pw_pred {n : Nat} {p : List Int} (hp : Turn n p) (z : Int) : pwL n p (z - 1) = thenL (pwL n p z) (bkL n p) := by
  have h := pw_succ hp (z - 1)
  rw [Int.sub_add_cancel] at h
  rw [h, then_assoc (turn_pw hp _).row hp.row (turn_bk hp).row, then_bk hp, then_iota (turn_pw hp _).row]
/-- what goes on by one turning alone is its powers -/
theorem pw_uniq {n : Nat} {p : List Int} (hp : Turn n p) {F : Int → List Int} (hF : ∀ z, Row n (F z)) (h : ∀ z, F (z + 1) = thenL (F z) p) (z : Int) : F z = thenL (F 0) (pwL n p z) := by
  have pos : ∀ m : Nat, F m = thenL (F 0) (pwL n p m) := fun m => by
    induction m with
    | zero => exact (then_iota (hF 0)).symm
    | succ m ih =>
      rw [show ((m + 1 : Nat) : Int) = (m : Int) + 1 by omega, h, ih, pw_succ hp, then_assoc (hF 0) (turn_pw hp _).row hp.row]
  have neg : ∀ m : Nat, F (-(m : Int)) = thenL (F 0) (pwL n p (-(m : Int))) := fun m => by
    induction m with
    | zero => exact (then_iota (hF 0)).symm
    | succ m ih =>
      have e : (-((m + 1 : Nat) : Int)) = -(m : Int) - 1 := by omega
      have h2 := h (-(m : Int) - 1)
      rw [Int.sub_add_cancel] at h2
      have h3 : thenL (F (-(m : Int))) (bkL n p) = thenL (thenL (F (-(m : Int) - 1)) p) (bkL n p) := by rw [h2]
      rw [then_assoc (hF _) hp.row (turn_bk hp).row, then_bk hp, then_iota (hF _)] at h3
      rw [e, ← h3, ih, pw_pred hp, then_assoc (hF 0) (turn_pw hp _).row (turn_bk hp).row]
  by_cases hz : 0 ≤ z
  · have := pos z.toNat
    rwa [Int.toNat_of_nonneg hz] at this
  · have := neg (-z).toNat
    rwa [Int.toNat_of_nonneg (by omega), Int.neg_neg] at this
theorem pw_add {n : Nat} {p : List Int} (hp : Turn n p) (a b : Int) : pwL n p (a + b) = thenL (pwL n p a) (pwL n p b) := by
  have : pwL n p (a + b) = thenL (pwL n p (a + 0)) (pwL n p b) := pw_uniq hp (F := fun b => pwL n p (a + b)) (fun z => (turn_pw hp _).row) (fun z => by rw [← Int.add_assoc, pw_succ hp]) b
  rw [Int.add_zero] at this
  exact this
theorem pw_one {n : Nat} {p : List Int} (hp : Turn n p) : pwL n p 1 = p := iota_then hp.row
theorem pw_neg {n : Nat} {p : List Int} (hp : Turn n p) : pwL n p (-1) = bkL n p := iota_then (turn_bk hp).row
theorem pw_mul {n : Nat} {p : List Int} (hp : Turn n p) (j k : Int) : pwL n (pwL n p j) k = pwL n p (j * k) := by
  have h : pwL n p (j * k) = thenL (pwL n p (j * 0)) (pwL n (pwL n p j) k) := pw_uniq (turn_pw hp j) (F := fun k => pwL n p (j * k)) (fun z => (turn_pw hp _).row) (fun z => by
    rw [Int.mul_add, Int.mul_one, pw_add hp]) k
  rw [Int.mul_zero] at h
  rw [h, pw_zero, iota_then (turn_pw (turn_pw hp j) k).row]
theorem at_add {n : Nat} {p : List Int} (hp : Turn n p) (a b : Int) {k : Nat} (hk : k < n) : at_ (pwL n p (a + b)) k = at_ (pwL n p b) (at_ (pwL n p a) k) := by
  rw [pw_add hp, at_then (turn_pw hp a).row hk]
theorem at_zero {n : Nat} {p : List Int} {k : Nat} (hk : k < n) : at_ (pwL n p 0) k = k := at_iota hk
/-- a place that comes back comes back again and again -/
theorem at_per {n : Nat} {p : List Int} (hp : Turn n p) {k L : Nat} (hk : k < n) (h : at_ (pwL n p L) k = k) (z : Int) : at_ (pwL n p ((L : Int) * z)) k = k := by
  have step : ∀ z : Int, at_ (pwL n p ((L : Int) * (z + 1))) k = at_ (pwL n p ((L : Int) * z)) k := fun z => by
    rw [Int.mul_add, Int.mul_one, Int.add_comm, at_add hp _ _ hk, h]
  have pos : ∀ m : Nat, at_ (pwL n p ((L : Int) * m)) k = k := fun m => by
    induction m with
    | zero => exact at_zero hk
    | succ m ih => rw [show ((m + 1 : Nat) : Int) = (m : Int) + 1 by omega, step, ih]
  have neg : ∀ m : Nat, at_ (pwL n p ((L : Int) * (-(m : Int)))) k = k := fun m => by
    induction m with
    | zero => exact at_zero hk
    | succ m ih =>
      have := step (-((m + 1 : Nat) : Int))
      rw [show -((m + 1 : Nat) : Int) + 1 = -(m : Int) by omega, ih] at this
      exact this.symm
  by_cases hz : 0 ≤ z
  · have := pos z.toNat
    rwa [Int.toNat_of_nonneg hz] at this
  · have := neg (-z).toNat
    rwa [Int.toNat_of_nonneg (by omega), Int.neg_neg] at this
theorem at_mod {n : Nat} {p : List Int} (hp : Turn n p) {k L : Nat} (hk : k < n) (h : at_ (pwL n p L) k = k) (z : Int) : at_ (pwL n p (z % L)) k = at_ (pwL n p z) k := by
  have e : z = (L : Int) * (z / L) + z % L := (Int.mul_ediv_add_emod z L).symm
  have := at_add hp ((L : Int) * (z / L)) (z % L) hk
  rw [← e, at_per hp hk h] at this
  exact this.symm
end
end Cl

set_option maxHeartbeats 1000000
namespace Cl
noncomputable section
open PySem L2 Z
/-! ### the turning of a word is that of its program -/
def LetOk (m : Nat) (w : Wd) : Prop := ∀ p ∈ w, 0 ≤ p.1 ∧ p.1 < m ∧ (p.2 = 1 ∨ p.2 = -1)
theorem LetOk.app {m : Nat} {u v : Wd} (hu : LetOk m u) (hv : LetOk m v) : LetOk m (u ++ v) := fun p hp => (List.mem_append.mp hp).elim (hu p) (hv p)
theorem LetOk.inv {m : Nat} {w : Wd} (h : LetOk m w) : LetOk m (invW w) := fun p hp => by
  obtain ⟨q, hq, rfl⟩ := List.mem_map.mp hp
  have := h q (List.mem_reverse.mp hq)
  exact ⟨this.1, this.2.1, by simp only; omega⟩
theorem LetOk.isLet {m : Nat} {w : Wd} (h : LetOk m w) : ∀ d ∈ w.map lD, isLet m d = true := fun d hd => by
  obtain ⟨p, hp, rfl⟩ := List.mem_map.mp hd
  obtain ⟨h0, h1, h2⟩ := h p hp
  rcases h2 with h2 | h2 <;> simp [Cl.isLet, lD, inPl, h0, h1, h2]
theorem turn_row {n : Nat} {rows : List (List Int)} (hr : ∀ r ∈ rows, Turn n r) {x : Int} (h0 : 0 ≤ x) (h1 : x < rows.length) : Turn n (rowAt rows x) := by
  have hx : x.toNat < rows.length := by omega
  have : rowAt rows x = rows[x.toNat] := by
    unfold rowAt
    rw [List.getD_eq_getElem?_getD, List.getElem?_eq_getElem hx]; rfl
  rw [this]
  exact hr _ (List.getElem_mem hx)
theorem turn_let {n : Nat} {rows : List (List Int)} (hr : ∀ r ∈ rows, Turn n r) {p : Int × Int} (h : 0 ≤ p.1 ∧ p.1 < rows.length ∧ (p.2 = 1 ∨ p.2 = -1)) : Turn n (letL n rows (lD p)) := by
  have := turn_row hr h.1 h.2.1
  simp only [lD, letL]
  split
  · exact this
  · exact turn_bk this
theorem bk_bk {n : Nat} {p : List Int} (hp : Turn n p) : bkL n (bkL n p) = p := (bk_uniq (turn_bk hp) hp.row (bk_then hp)).symm
theorem bk_thenL {n : Nat} {p q : List Int} (hp : Turn n p) (hq : Turn n q) : bkL n (thenL p q) = thenL (bkL n q) (bkL n p) := by
  refine (bk_uniq (turn_then hp hq) (turn_then (turn_bk hq) (turn_bk hp)).row ?_).symm
  rw [then_assoc hp.row hq.row (turn_then (turn_bk hq) (turn_bk hp)).row, ← then_assoc hq.row (turn_bk hq).row (turn_bk hp).row, then_bk hq, iota_then (turn_bk hp).row, then_bk hp]
theorem bk_iota (n : Nat) : bkL n (iota n) = iota n := (bk_uniq (turn_iota n) (turn_iota n).row (then_iota (turn_iota n).row)).symm
theorem let_inv {n : Nat} {rows : List (List Int)} (hr : ∀ r ∈ rows, Turn n r) {p : Int × Int} (h : 0 ≤ p.1 ∧ p.1 < rows.length ∧ (p.2 = 1 ∨ p.2 = -1)) : letL n rows (lD (p.1, -p.2)) = bkL n (letL n rows (lD p)) := by
  have := turn_row hr h.1 h.2.1
  rcases h.2.2 with e | e
  · simp only [lD, letL, e]
    simp
  · simp only [lD, letL, e]
    simp [bk_bk this]
theorem word_turn {n : Nat} {rows : List (List Int)} (hr : ∀ r ∈ rows, Turn n r) : ∀ {w : Wd}, LetOk rows.length w → ∀ {p : List Int}, Turn n p → Turn n ((w.map lD).foldl (fun p d => thenL p (letL n rows d)) p) ∧ (w.map lD).foldl (fun p d => thenL p (letL n rows d)) p = thenL p (wordL n rows (w.map lD))
  | [], _, p, hp => ⟨hp, (then_iota hp.row).symm⟩
  | q :: w, h, p, hp => by
    have hq := turn_let hr (h q (by simp))
    have hw : LetOk rows.length w := fun x hx => h x (by simp [hx])
    have h1 := word_turn hr hw (turn_then hp hq)
    have h2 := word_turn hr hw hq
    have h3 := word_turn hr hw (turn_iota n)
    refine ⟨h1.1, ?_⟩
    have e : wordL n rows ((q :: w).map lD) = thenL (letL n rows (lD q)) (wordL n rows (w.map lD)) := by
      rw [← h2.2]
      show (w.map lD).foldl _ (thenL (iota n) (letL n rows (lD q))) = _
      rw [iota_then hq.row]
    have h4 : Row n (wordL n rows (w.map lD)) := h3.1.row
    rw [e, ← then_assoc hp.row hq.row h4, ← h1.2]
    rfl
theorem wordL_turn {n : Nat} {rows : List (List Int)} (hr : ∀ r ∈ rows, Turn n r) {w : Wd} (h : LetOk rows.length w) : Turn n (wordL n rows (w.map lD)) := (word_turn hr h (turn_iota n)).1
theorem wordL_app {n : Nat} {rows : List (List Int)} (hr : ∀ r ∈ rows, Turn n r) {u v : Wd} (hu : LetOk rows.length u) (hv : LetOk rows.length v) : wordL n rows ((u ++ v).map lD) = thenL (wordL n rows (u.map lD)) (wordL n rows (v.map lD)) := by
  rw [← (word_turn hr hv (wordL_turn hr hu)).2, List.map_append]
  unfold wordL
  rw [List.foldl_append]
theorem wordL_one {n : Nat} {rows : List (List Int)} (hr : ∀ r ∈ rows, Turn n r) {p : Int × Int} (h : 0 ≤ p.1 ∧ p.1 < rows.length ∧ (p.2 = 1 ∨ p.2 = -1)) : wordL n rows ([p].map lD) = letL n rows (lD p) := iota_then (turn_let hr h).row
theorem wordL_inv {n : Nat} {rows : List (List Int)} (hr : ∀ r ∈ rows, Turn n r) : ∀ {w : Wd}, LetOk rows.length w → wordL n rows ((invW w).map lD) = bkL n (wordL n rows (w.map lD))
  | [], _ => (bk_iota n).symm
  | q :: w, h => by
    have hq := h q (by simp)
    have hw : LetOk rows.length w := fun x hx => h x (by simp [hx])
    have h1 : LetOk rows.length [q] := fun x hx => by rw [List.mem_singleton.mp hx]; exact hq
    have e : q :: w = [q] ++ w := rfl
    rw [e, inv_app, wordL_app hr hw.inv h1.inv, wordL_app hr h1 hw, wordL_inv hr hw, bk_thenL (wordL_turn hr h1) (wordL_turn hr hw), wordL_one hr hq]
    congr 1
    have : invW [q] = [(q.1, -q.2)] := rfl
    have h2 := wordL_one hr (p := (q.1, -q.2)) ⟨hq.1, hq.2.1, by simp only; omega⟩
    have h3 := wordL_one hr hq
    rw [this, h2, let_inv hr hq, ← h3]
theorem tur_wrd {n : Nat} {rows : List (List Int)} (hr : ∀ r ∈ rows, Turn n r) {l : List D} (hl : Prog rows.length l) : ∀ k, k < l.length → LetOk rows.length ((wrdL l).getD k []) ∧ (turL n rows l).getD k [] = wordL n rows (((wrdL l).getD k []).map lD) := by
  have ht : turL n rows l = runL (turS n rows) l := rfl
  intro k
  induction k using Nat.strongRecOn with
  | ind k ih =>
    intro hk
    rw [ht] at ih ⊢
    rcases stp_at hl hk with ⟨i, e, i0, i1⟩ | ⟨i, j, e, i0, i1, j0, j1⟩ | ⟨i, e, i0, i1⟩
    · rw [wrd_maker e]
      have h1 : 0 ≤ (i, (1 : Int)).1 ∧ (i, (1 : Int)).1 < (rows.length : Int) ∧ ((i, (1 : Int)).2 = 1 ∨ (i, (1 : Int)).2 = -1) := ⟨i0, i1, .inl rfl⟩
      refine ⟨fun x hx => by rw [List.mem_singleton.mp hx]; exact h1, ?_⟩
      rw [wordL_one hr h1, List.getD_eq_getElem?_getD, runL_get e]
      simp [turS, lD, letL]
    · obtain ⟨a1, a2⟩ := ih i.toNat (by omega) (by omega)
      obtain ⟨b1, b2⟩ := ih j.toNat (by omega) (by omega)
      rw [wrd_then e i0 i1 j0 j1]
      refine ⟨a1.app b1, ?_⟩
      rw [wordL_app hr a1 b1, ← a2, ← b2, List.getD_eq_getElem?_getD, runL_get e]
      simp only [Option.getD_some, turS, rowAt]
      rw [runL_getD (by omega), runL_getD (by omega)]
    · obtain ⟨a1, a2⟩ := ih i.toNat (by omega) (by omega)
      rw [wrd_back e i0 i1]
      refine ⟨a1.inv, ?_⟩
      rw [wordL_inv hr a1, ← a2, List.getD_eq_getElem?_getD, runL_get e]
      simp only [Option.getD_some, turS, if_neg ne_mb, rowAt]
      rw [runL_getD (by omega)]
theorem last_word {n : Nat} {rows : List (List Int)} (hr : ∀ r ∈ rows, Turn n r) {l : List D} (hl : Prog rows.length l) : LetOk rows.length (lastW l) ∧ lastL n rows l = wordL n rows ((lastW l).map lD) := by
  by_cases h : 0 < l.length
  · have := tur_wrd hr hl (l.length - 1) (by omega)
    rw [lastW_at h]
    refine ⟨this.1, ?_⟩
    unfold lastL
    have h1 : (turL n rows l).length = l.length := turL_len n rows l
    rw [← this.2, List.getLast?_eq_getElem?, h1, List.getD_eq_getElem?_getD, List.getElem?_eq_getElem (by omega)]
    rfl
  · have : l = [] := List.length_eq_zero_iff.mp (by omega)
    subst this
    exact ⟨fun p hp => by simp [lastW, wrdL, runL] at hp, rfl⟩
theorem lD_v (w : Wd) : ∀ d ∈ w.map lD, vOk d = true := fun d hd => by
  obtain ⟨p, hp, rfl⟩ := List.mem_map.mp hd
  simp [vOk, lD, D.dat, datl, flat]
theorem word_turning_ok {n : Nat} {rows : List (List Int)} (h : MkOk n rows) {l : List D} (hl : Prog rows.length l) : F_word_turning [si n, .sh (.lst (rows.map D.ints)), .sh (.lst ((lastW l).map lD))] = .ok (T.ints (lastL n rows l)) [si n, .sh (.lst (rows.map D.ints)), .sh (.lst ((lastW l).map lD))] := by
  obtain ⟨h1, h2⟩ := last_word h.2.2 hl
  have h3 := word_ok h (lD_v (lastW l))
  have h4 : fb (letG rows.length) ((lastW l).map lD) = none := fb_none fun j hj => h1.isLet _ (List.getElem_mem hj)
  rw [h4] at h3
  rw [h3, h2]
end
end Cl

set_option maxHeartbeats 1000000
namespace Cl
noncomputable section
open PySem L2 Z
/-! ### small values -/
def smS : D → Bool
  | .non => true
  | .bl _ => true
  | .int i => decide (i.natAbs < 2 ^ 70)
  | .str s => PyData.strOk s && decide (s.cps.size ≤ 24)
  | _ => false
def smT : D → Bool
  | .tup l => decide (l.length ≤ 4) && l.all smS
  | .lst l => decide (l.length ≤ 4) && l.all smS
  | d => smS d
def smE : D → Bool
  | .tup l => decide (l.length ≤ 4) && l.all smT
  | .lst l => decide (l.length ≤ 4) && l.all smT
  | d => smS d
theorem smS_ok {k : Nat} {d : D} (h : smS d = true) : okd k 100 d := by
  cases d <;> first | (cases h; done) | skip
  · exact okd_non.mono (by omega)
  · exact okd_bl.mono (by omega)
  · exact (okd_intw (e := 70) (by simpa [smS] using h) (by decide)).mono (by omega)
  · simp only [smS, Bool.and_eq_true, decide_eq_true_eq] at h
    exact (okd_str h.1 h.2).mono (by omega)
theorem all_ok {f : D → Bool} {k w : Nat} (hf : ∀ d, f d = true → okd k w d) {l : List D} (hl : l.length ≤ 4) (h : l.all f = true) : okl k (4 * (w + 1)) l := by
  have := okl_all (k := k) (w := w) (l := l) fun d hd => hf d (List.all_eq_true.mp h d hd)
  exact this.mono (Nat.mul_le_mul_right _ hl)
theorem smT_ok {k : Nat} {d : D} (h : smT d = true) : okd (k + 1) 404 d := by
  cases d with
  | tup l =>
    simp only [smT, Bool.and_eq_true, decide_eq_true_eq] at h
    exact ((all_ok (fun d => smS_ok) h.1 h.2).mono (by omega)).tup
  | lst l =>
    simp only [smT, Bool.and_eq_true, decide_eq_true_eq] at h
    exact ((all_ok (fun d => smS_ok) h.1 h.2).mono (by omega)).lst
  | non => exact (smS_ok (d := .non) h).mono (by omega)
  | bl b => exact (smS_ok (d := .bl b) h).mono (by omega)
  | int i => exact (smS_ok (d := .int i) h).mono (by omega)
  | str s => exact (smS_ok (d := .str s) h).mono (by omega)
  | dic ks l => cases h
theorem smE_ok {k : Nat} {d : D} (h : smE d = true) : okd (k + 2) 1620 d := by
  cases d with
  | tup l =>
    simp only [smE, Bool.and_eq_true, decide_eq_true_eq] at h
    exact ((all_ok (fun d => smT_ok) h.1 h.2).mono (by omega)).tup
  | lst l =>
    simp only [smE, Bool.and_eq_true, decide_eq_true_eq] at h
    exact ((all_ok (fun d => smT_ok) h.1 h.2).mono (by omega)).lst
  | non => exact (smS_ok (d := .non) h).mono (by omega)
  | bl b => exact (smS_ok (d := .bl b) h).mono (by omega)
  | int i => exact (smS_ok (d := .int i) h).mono (by omega)
  | str s => exact (smS_ok (d := .str s) h).mono (by omega)
  | dic ks l => cases h
theorem smT_flat {d : D} (h : smT d = true) : flat d = true := by cases d <;> first | rfl | cases h
theorem smE_v {d : D} (h : smE d = true) : vOk d = true := by
  have h1 := dat_mono (smE_ok (k := 0) h).dat (j := 60) (by decide)
  unfold vOk
  rw [h1]
  cases d with
  | tup l =>
    simp only [smE, Bool.and_eq_true, decide_eq_true_eq] at h
    have : l.all flat = true := by
      rw [List.all_eq_true]
      exact fun d hd => smT_flat (List.all_eq_true.mp h.2 d hd)
    simp only [this, Bool.true_and, decide_eq_true_eq]
    omega
  | dic _ _ => cases h
  | _ => rfl
theorem smi {i : Int} (h : i.natAbs < 2 ^ 70) : smS (.int i) = true := by simpa [smS] using h
theorem smLst {l : List D} (hl : l.length ≤ 300) (h : ∀ d ∈ l, smE d = true) : okl 3 487000 l :=
  (okl_all (k := 3) (w := 1620) fun d hd => smE_ok (k := 1) (h d hd)).mono (by
    have : l.length * (1620 + 1) ≤ 300 * 1621 := Nat.mul_le_mul_right _ hl
    omega)
/-- a program is small -/
theorem Prog.sm {m : Nat} {l : List D} (h : Prog m l) (hm : m ≤ 1000) (hl : l.length ≤ 300) : ∀ d ∈ l, smE d = true := fun d hd => by
  obtain ⟨k, hk, rfl⟩ := List.mem_iff_getElem.mp hd
  rcases stp_form (h k hk) with ⟨i, e, q⟩ | ⟨i, j, e, q⟩ | ⟨i, e, q⟩
  · rw [e]; exact (by simp [smE, smT, smS, so_maker]; exact ⟨by decide, by omega⟩)
  · rw [e]; exact (by simp [smE, smT, smS, so_then]; exact ⟨by decide, by omega, by omega⟩)
  · rw [e]; exact (by simp [smE, smT, smS, so_back]; exact ⟨by decide, by omega⟩)
theorem Prog.v {m : Nat} {l : List D} (h : Prog m l) : ∀ d ∈ l, vOk d = true := fun d hd => by
  obtain ⟨k, hk, rfl⟩ := List.mem_iff_getElem.mp hd
  rcases stp_form (h k hk) with ⟨i, e, _⟩ | ⟨i, j, e, _⟩ | ⟨i, e, _⟩
  · rw [e]; simp [vOk, D.dat, datl, so_maker, flat]
  · rw [e]; simp [vOk, D.dat, datl, so_then, flat]
  · rw [e]; simp [vOk, D.dat, datl, so_back, flat]
theorem Prog.repr {m : Nat} {l : List D} (h : Prog m l) (hm : m ≤ 1000) (hl : l.length ≤ 300) : ∃ z, oReprV (.lst l) = some (.str z) := by
  have h' := (smLst hl (h.sm hm hl)).lst
  have hs := PyData.shown_le 24 (by decide) (D.lst l).py h'.lea
  have hz : (D.lst l).py.shown.length ≤ sizeLine := by
    have := h'.wei
    rw [sizeLine_eq]
    omega
  have hd : (D.lst l).dat 60 = true := dat_mono h'.dat (by decide)
  exact ⟨_, if_pos ⟨hd, h'.sho, no_dict h'.dat, hz⟩⟩
theorem Prog.good {m : Nat} {l : List D} (h : Prog m l) (hl : l.length ≤ 24000) : fb (stpG m) l = none := fb_none fun j hj => stpG_of (h j hj) (by omega)
theorem Prog.snoc {m : Nat} {l : List D} (h : Prog m l) {d : D} (hd : isStp m l.length d = true) : Prog m (l ++ [d]) := fun k hk => by
  by_cases c : k < l.length
  · rw [List.getElem_append_left c]; exact h k c
  · have : k = l.length := by simp at hk; omega
    subst this
    simpa using hd
end
end Cl

set_option maxHeartbeats 2000000
namespace Cl
noncomputable section
open PySem L2 Z
def b_law_program_1 : SM := (mSeq (mPar 7 8 (eCons (eCallI 2 0 F_law_pick (eCons (eP (pC (.int 8))) eNil)) (eCons (eOp ixT (eLst (eCons (eP (pC (.int 1))) (eCons (eP (pC (.int 2))) (eCons (eP (pC (.int 4))) (eCons (eP (pC (.int 60))) eNil))))) (eCallI 2 0 F_law_pick (eCons (eP (pC (.int 4))) eNil))) eNil))) (mSeq (mPar 9 10 (eCons (eP (pOp oSub (pV 6) (pC (.int 1)))) (eCons (eP (pOp oSub (pV 6) (pC (.int 1)))) eNil))) (mSeq (mIf (eT (pB (pOp oGt (pV 6) (pC (.int 0))))) (mPar 9 10 (eCons (eOp (oS oSub) (eP (pOp oSub (pV 6) (pC (.int 1)))) (eCallI 2 0 F_law_pick (eCons (eP (pCB (o2 oMin2) (aCons (pV 6) (aCons (pV 8) aNil)))) eNil))) (eCons (eOp (oS oSub) (eP (pOp oSub (pV 6) (pC (.int 1)))) (eCallI 2 0 F_law_pick (eCons (eP (pCB (o2 oMin2) (aCons (pV 6) (aCons (pV 8) aNil)))) eNil))) eNil))) mNil) (mIf (eT (qOr (pB (pOp oEq (pV 6) (pC (.int 0)))) (pB (pOp oLt (pV 7) (pC (.int 2)))))) (mSeq (mAppG 4 (eTup (eCons (eP (pC (.str "maker"))) (eCons (eCallI 2 0 F_law_pick (eCons (eV 1) eNil)) eNil)))) (mAppG 5 (eP (pC (.int 1))))) (mIf (eOr (eT (pB (pOp oLt (pV 7) (pC (.int 4))))) (eB (eOp (oS oGt) (eOp eAddT (eGet (vIx (vV 5) (pV 9))) (eGet (vIx (vV 5) (pV 10)))) (eV 3)))) (mSeq (mAppG 4 (eTup (eCons (eP (pC (.str "back"))) (eCons (eV 9) eNil)))) (mAppG 5 (eGet (vIx (vV 5) (pV 9))))) (mSeq (mAppG 4 (eTup (eCons (eP (pC (.str "then"))) (eCons (eV 9) (eCons (eV 10) eNil))))) (mAppG 5 (eOp eAddT (eGet (vIx (vV 5) (pV 9))) (eGet (vIx (vV 5) (pV 10)))))))))))
def m_law_program : SM := (mSeq (mPar 4 5 (eCons (eLst eNil) (eCons (eLst eNil) eNil))) (mSeq (mFor (iR1 (eCons (eV 2) eNil)) (bName 6) b_law_program_1) (mRet (eTup (eCons (eM 4) (eCons (eM 5) eNil))))))
def F_law_program : FM := mFunI 4 11 m_law_program
theorem lenL_snoc (l : List D) (d : D) : lenL (l ++ [d]) = lenL l ++ [lenS (lenL l) d] := runL_snoc l d
theorem lenL_len (l : List D) : (lenL l).length = l.length := runL_len l
theorem step3 {m p : Int} {i j : Int} (h : 0 ≤ i ∧ i < p ∧ 0 ≤ j ∧ j < p) : isStp m p (.tup [.str "then", .int i, .int j]) = true := by
  simp only [isStp, stpL, if_neg ne_mt, if_true, inPl, Bool.and_eq_true, decide_eq_true_eq]
  omega
theorem step1 {m p : Int} {i : Int} (h : 0 ≤ i ∧ i < p) : isStp m p (.tup [.str "back", .int i]) = true := by
  simp only [isStp, stpL, if_neg ne_mb, if_neg ne_tb, if_true, inPl, Bool.and_eq_true, decide_eq_true_eq]
  omega
theorem step0 {m p : Int} {i : Int} (h : 0 ≤ i ∧ i < m) : isStp m p (.tup [.str "maker", .int i]) = true := by
  simp only [isStp, stpL, if_true, inPl, Bool.and_eq_true, decide_eq_true_eq]
  omega
/-- a program whose steps are no longer than most -/
def Drawn (m : Nat) (most : Int) (l : List D) : Prop := Prog m l ∧ ∀ x ∈ lenL l, x ≤ most
theorem Drawn.snoc {m : Nat} {most : Int} {l : List D} (h : Drawn m most l) {d : D} (hd : isStp m l.length d = true) (hx : lenS (lenL l) d ≤ most) : Drawn m most (l ++ [d]) := ⟨h.1.snoc hd, fun x hq => by
  rw [lenL_snoc] at hq
  rcases List.mem_append.mp hq with q | q
  · exact h.2 x q
  · rw [List.mem_singleton.mp q]; exact hx⟩
theorem Drawn.at {m : Nat} {most : Int} {l : List D} (h : Drawn m most l) {i : Int} (h0 : 0 ≤ i) (h1 : i < l.length) : (lenL l).getD i.toNat 0 ≤ most := by
  have : i.toNat < (lenL l).length := by rw [lenL_len]; omega
  rw [List.getD_eq_getElem?_getD, List.getElem?_eq_getElem this]
  exact h.2 _ (List.getElem_mem this)
theorem program_drawn {t : T} (ht : Pool t) {m : Nat} (hm : 1 ≤ m) (hm2 : m ≤ 40) {size : Nat} (hs : size ≤ 60) {most : Int} (hmost : 1 ≤ most) : ∃ (t' : T) (us : List T), Pool t' ∧ Drawn m most (dl us) ∧ us.length = size ∧ F_law_program [t, si m, si size, si most] = .ok (.ot [.ol us, .ol ((lenL (dl us)).map ig)]) [t', si m, si size, si most] := by
  obtain ⟨ρ', e, P, us, ls, j7, j8, j9, j10, jat, rfl, h1, h2, h3, h4⟩ := forN_inv (i := 6) (body := b_law_program_1) (its := (iota size).map ig) (ρ := [some t, some (si m), some (si size), some (si most), some (.ol []), some (.ol []), none, none, none, none, none])
    (fun k ρ => ∃ (P : T) (us : List T) (ls : List Int) (j7 j8 j9 j10 jat : Option T), ρ = [some P, some (si m), some (si size), some (si most), some (.ol us), some (.ol (ls.map ig)), jat, j7, j8, j9, j10] ∧ Pool P ∧ Drawn m most (dl us) ∧ us.length = k ∧ ls = lenL (dl us))
    ⟨t, [], [], none, none, none, none, none, rfl, ht, ⟨fun k h => by simp at h, fun x h => by simp [lenL, runL] at h⟩, rfl, rfl⟩ (by
      rintro k t0 ρ e ⟨P, us, ls, j7, j8, j9, j10, jat, rfl, h1, h2, h3, h4⟩
      have hul : (dl us).length = k := by rw [dl_eq, List.length_map]; exact h3
      have hll : ls.length = k := by rw [h4, lenL_len, hul]
      rw [← rangeT_iota] at e
      obtain ⟨hk, rfl⟩ := rangeT_get e
      rw [Int.zero_add]
      obtain ⟨t1, kd, g1, kd0, kd1, _, e1⟩ := pick_ok (m := 8) h1 (by decide)
      obtain ⟨t2, y, g2, y0, y1, _, e2⟩ := pick_ok (m := 4) g1 (by decide)
      obtain ⟨nr, hnr, hn1⟩ : ∃ nr : Int, atI [si 1, si 2, si 4, si 60] y = some (si nr) ∧ 1 ≤ nr := by
        have : y = 0 ∨ y = 1 ∨ y = 2 ∨ y = 3 := by omega
        rcases this with rfl | rfl | rfl | rfl
        · exact ⟨1, rfl, by decide⟩
        · exact ⟨2, rfl, by decide⟩
        · exact ⟨4, rfl, by decide⟩
        · exact ⟨60, rfl, by decide⟩
      have hz : us.length < lim := by unfold lim; omega
      have hz2 : ls.length < lim := by unfold lim; omega
      have stp : ∀ {d : D}, isStp m k d = true → isStp m (dl us).length d = true := fun {d} hd => by rw [hul]; exact hd
      have app : ∀ {u : T} {y : Int}, isStp m k u.d = true → lenS ls u.d = y → y ≤ most → Drawn m most (dl (us ++ [u])) ∧ ls ++ [y] = lenL (dl (us ++ [u])) := fun {u y} hu hy hq => by
        rw [h4] at hy
        have e : dl (us ++ [u]) = dl us ++ [u.d] := by simp
        rw [e, lenL_snoc, hy, h4]
        exact ⟨h2.snoc (stp hu) (by rw [hy]; exact hq), rfl⟩
      by_cases c0 : k = 0
      · subst c0
        obtain ⟨t3, x, g3, x0, x1, _, e3⟩ := pick_ok (m := (m : Int)) g2 (by omega)
        refine ⟨_, .inl ?_, t3, us ++ [T.ot [.sh (.str "maker"), si x]], ls ++ [1], some (si kd), some (si nr), some (si (-1)), some (si (-1)), some (si 0), rfl, g3, (app (step0 (by omega)) (by simp [lenS]) hmost).1, by simp [h3], (app (step0 (by omega)) (by simp [lenS]) hmost).2⟩
        simp [b_law_program_1, e1, e2, hnr, e3, hz, hz2]
      · have c0' : 0 < k := by omega
        obtain ⟨mn, hmn, hm1, hmk⟩ : ∃ mn : Int, oMin2 (.int k) (.int nr) = some (.int mn) ∧ 1 ≤ mn ∧ mn ≤ k := ⟨_, rfl, by split <;> omega, by split <;> omega⟩
        obtain ⟨t3, x, g3, x0, x1, _, e3⟩ := pick_ok (m := mn) g2 hm1
        obtain ⟨t4, z, g4, z0, z1, _, e4⟩ := pick_ok (m := mn) g3 hm1
        have os : ∀ a b : Int, oSub (.int a) (.int b) = some (.int (a - b)) := fun _ _ => rfl
        obtain ⟨i, hi, i0, i1⟩ : ∃ i : Int, (k : Int) - 1 - x = i ∧ 0 ≤ i ∧ i < k := ⟨_, rfl, by omega, by omega⟩
        obtain ⟨j, hj, j0, j1⟩ : ∃ i : Int, (k : Int) - 1 - z = i ∧ 0 ≤ i ∧ i < k := ⟨_, rfl, by omega, by omega⟩
        have ai := atI_T ls (i := i) i0 (by omega)
        have aj := atI_T ls (i := j) j0 (by omega)
        obtain ⟨li, hli⟩ : ∃ v, v = ls.getD i.toNat 0 := ⟨_, rfl⟩
        obtain ⟨lj, hlj⟩ : ∃ v, v = ls.getD j.toNat 0 := ⟨_, rfl⟩
        rw [← hli] at ai
        rw [← hlj] at aj
        have hlim : li ≤ most := by rw [hli, h4]; exact h2.at i0 (by omega)
        by_cases c1 : kd < 2
        · obtain ⟨t5, w, g5, w0, w1, _, e5⟩ := pick_ok (m := (m : Int)) g4 (by omega)
          refine ⟨_, .inl ?_, t5, us ++ [T.ot [.sh (.str "maker"), si w]], ls ++ [1], some (si kd), some (si nr), some (si i), some (si j), some (si k), rfl, g5, (app (step0 (by omega)) (by simp [lenS]) hmost).1, by simp [h3], (app (step0 (by omega)) (by simp [lenS]) hmost).2⟩
          simp [-min_int, b_law_program_1, e1, e2, hnr, c0, c0', hmn, e3, e4, os, hi, hj, c1, e5, hz, hz2]
        · by_cases c2 : kd < 4
          · refine ⟨_, .inl ?_, t4, us ++ [T.ot [.sh (.str "back"), si i]], ls ++ [li], some (si kd), some (si nr), some (si i), some (si j), some (si k), rfl, g4, (app (step1 (by omega)) (by simp [lenS, ne_mb, hli]) hlim).1, by simp [h3], (app (step1 (by omega)) (by simp [lenS, ne_mb, hli]) hlim).2⟩
            simp [-min_int, b_law_program_1, e1, e2, hnr, c0, c0', hmn, e3, e4, os, hi, hj, c1, c2, ai, aj, hz, hz2]
          · by_cases c3 : most < li + lj
            · refine ⟨_, .inl ?_, t4, us ++ [T.ot [.sh (.str "back"), si i]], ls ++ [li], some (si kd), some (si nr), some (si i), some (si j), some (si k), rfl, g4, (app (step1 (by omega)) (by simp [lenS, ne_mb, hli]) hlim).1, by simp [h3], (app (step1 (by omega)) (by simp [lenS, ne_mb, hli]) hlim).2⟩
              simp [-min_int, b_law_program_1, e1, e2, hnr, c0, c0', hmn, e3, e4, os, hi, hj, c1, c2, c3, ai, aj, hz, hz2]
            · refine ⟨_, .inl ?_, t4, us ++ [T.ot [.sh (.str "then"), si i, si j]], ls ++ [li + lj], some (si kd), some (si nr), some (si i), some (si j), some (si k), rfl, g4, (app (y := li + lj) (step3 (by omega)) (by simp [lenS, hli, hlj]) (by omega)).1, by simp [h3], (app (y := li + lj) (step3 (by omega)) (by simp [lenS, hli, hlj]) (by omega)).2⟩
              simp [-min_int, b_law_program_1, e1, e2, hnr, c0, c0', hmn, e3, e4, os, hi, hj, c1, c2, c3, ai, aj, hz, hz2])
  have hb := inR_nat (n := size) (by omega)
  refine ⟨P, us, h1, h2, by simpa using h3, ?_⟩
  rw [← h4]
  simp [F_law_program, m_law_program, hb, e]
end
end Cl

set_option maxHeartbeats 2000000
namespace Cl
noncomputable section
open PySem L2 Z
def b_law_holds_1 : SM := (mIf (eT (qAnd (pB (pOp oGe (pV 9) (pC (.int 0)))) (qNot (pB (pCall 3 F_law_written (aCons (pV 3) (aCons (pV 4) (aCons (pV 9) aNil)))))))) (mRet (eP (pC (.bl false)))) mNil)
def b_law_holds_2 : SM := (mSeq (mFor (iE (eCallI 2 0 F_law_mixed (eCons (eLst (eCons (eV 6) (eCons (eP (pOp oSub (pV 6) (pC (.int 1)))) (eCons (eP (pCB (o1 oInt) (aCons (pOp oDiv (pV 6) (pC (.int 2))) aNil))) (eCons (eP (pC (.int 0))) (eCons (eOp eAddT (eP (pOp oAdd (pV 6) (pC (.int 1)))) (eCallI 2 0 F_law_pick (eCons (eP (pC (.int 60))) eNil))) (eCons (eP (pC (.int 100000))) eNil))))))) eNil))) (bName 9) b_law_holds_1) (mIf (eT (qOr (qNot (pB (pCall 2 (F_law_same 6) (aCons (pCall 1 F_program_length (aCons (pV 3) aNil)) (aCons (pV 6) aNil))))) (qNot (pB (pCall 2 (F_law_same 6) (aCons (pCall 3 F_program_turning (aCons (pV 1) (aCons (pV 2) (aCons (pV 3) aNil)))) (aCons (pV 7) aNil))))))) (mRet (eP (pC (.bl false)))) mNil))
def m_law_holds : SM := (mSeq (mPar 5 6 (eCons (eP (pCB (o1 oReprV) (aCons (pV 3) aNil))) (eCons (eP (pCB (o1 oLen) (aCons (pV 4) aNil))) eNil))) (mSeq (mSet 7 (eOp ixT (eOp eAddT (eLst (eCons (eRg1 (pV 1)) eNil)) (eCall 2 F_law_turnings (eCons (eV 2) (eCons (eV 3) eNil)))) (eP (pUn oNeg (pC (.int 1)))))) (mSeq (mFor (iR1 (eCons (eP (pC (.int 2))) eNil)) (bName 8) b_law_holds_2) (mSeq (mSet 10 (eCall 2 F_law_told (eCons (eV 3) (eCons (eV 6) eNil)))) (mSeq (mIf (eT (qOr (pB (pOp oNe (pOp oIx (pV 10) (pC (.int 0))) (pC (.str "told")))) (qNot (pB (pCall 2 F_law_letters (aCons (pOp oIx (pV 10) (pC (.int 1))) (aCons (pV 4) aNil))))))) (mRet (eP (pC (.bl false)))) mNil) (mRet (eP (pAndV (pCall 2 (F_law_same 6) (aCons (pCall 3 F_word_turning (aCons (pV 1) (aCons (pV 2) (aCons (pOp oIx (pV 10) (pC (.int 1))) aNil)))) (aCons (pV 7) aNil))) (pOp oEqS (pCB (o1 oReprV) (aCons (pV 3) aNil)) (pV 5))))))))))
def F_law_holds : FM := mFunI 5 11 m_law_holds
theorem ints_sz (l : List Int) : depl (l.map D.int) = 0 ∧ szOkl (l.map D.int) = true := by
  induction l with
  | nil => exact ⟨rfl, rfl⟩
  | cons a l ih => simp [depl, szOkl, dep, szOk, ih]
theorem same_int (i : Int) : F_law_same 6 [si i, si i] = .ok (.sh (.bl true)) [si i, si i] := same_refl 6 (.int i) (by show 0 < 6; decide) rfl
theorem same_row {p : List Int} (h : p.length ≤ 1000) : F_law_same 6 [.sh (.lst (p.map .int)), .sh (.lst (p.map .int))] = .ok (.sh (.bl true)) [.sh (.lst (p.map .int)), .sh (.lst (p.map .int))] :=
  same_refl 6 (.lst (p.map .int)) (by simp only [dep, (ints_sz p).1]; decide) (by simp [szOk, (ints_sz p).2]; omega)
theorem holds_loop1 {m : Nat} {l : List D} (hl : Prog m l) (hz : l.length ≤ 30000) {fs : List D} (hf : ∀ d ∈ fs, ∃ x, d = .int x ∧ x ≤ 200000) {e0 e1 e2 e5 e6 e7 e8 e9 e10 : Option T} : ∃ j9, forL (bName 9) b_law_holds_1 (fs.map .sh) [e0, e1, e2, some (.sh (.lst l)), some (wT (lastW l)), e5, e6, e7, e8, e9, e10] = .nx [e0, e1, e2, some (.sh (.lst l)), some (wT (lastW l)), e5, e6, e7, e8, j9, e10] := by
  obtain ⟨ρ', e, j9, rfl⟩ := forN_inv (i := 9) (body := b_law_holds_1) (its := fs.map .sh) (ρ := [e0, e1, e2, some (.sh (.lst l)), some (wT (lastW l)), e5, e6, e7, e8, e9, e10])
    (fun k ρ => ∃ j9 : Option T, ρ = [e0, e1, e2, some (.sh (.lst l)), some (wT (lastW l)), e5, e6, e7, e8, j9, e10]) ⟨e9, rfl⟩ (by
      rintro k t ρ e ⟨j9, rfl⟩
      rw [List.getElem?_map] at e
      obtain ⟨d, ed, rfl⟩ := Option.map_eq_some_iff.mp e
      obtain ⟨x, rfl, hx⟩ := hf d (List.mem_of_getElem? ed)
      have hw := law_written_ok hl hz hx
      refine ⟨_, .inl ?_, some (si x), rfl⟩
      simp [wT] at hw
      by_cases c : 0 ≤ x
      · simp [b_law_holds_1, c, hw, wT]
      · simp [b_law_holds_1, c, wT])
  exact ⟨j9, e⟩
theorem holds_loop2 {n : Nat} {rows : List (List Int)} (h : MkOk n rows) {l : List D} (hl : Prog rows.length l) (hz : l.length ≤ 24000) {t : T} (ht : Pool t) (hL : lastLen l ≤ 1000) {tl : T} (htl : tl.d = .lst ((lastL n rows l).map .int)) {e5 e8 e9 e10 : Option T} :
    ∃ t' j8 j9, Pool t' ∧ forL (bName 8) b_law_holds_2 ((iota 2).map ig) [some t, some (si n), some (.sh (.lst (rows.map D.ints))), some (.sh (.lst l)), some (wT (lastW l)), e5, some (si (lastLen l)), some tl, e8, e9, e10] = .nx [some t', some (si n), some (.sh (.lst (rows.map D.ints))), some (.sh (.lst l)), some (wT (lastW l)), e5, some (si (lastLen l)), some tl, j8, j9, e10] := by
  obtain ⟨ρ', e, t', j8, j9, rfl, h1⟩ := forN_inv (i := 8) (body := b_law_holds_2) (its := (iota 2).map ig) (ρ := [some t, some (si n), some (.sh (.lst (rows.map D.ints))), some (.sh (.lst l)), some (wT (lastW l)), e5, some (si (lastLen l)), some tl, e8, e9, e10])
    (fun k ρ => ∃ (t' : T) (j8 j9 : Option T), ρ = [some t', some (si n), some (.sh (.lst (rows.map D.ints))), some (.sh (.lst l)), some (wT (lastW l)), e5, some (si (lastLen l)), some tl, j8, j9, e10] ∧ Pool t') ⟨t, e8, e9, rfl, ht⟩ (by
      rintro k t0 ρ e ⟨t1, j8, j9, rfl, h1⟩
      have hw0 := lastLen_w hl
      obtain ⟨t2, x, h2, x0, x1, _, e2⟩ := pick_ok (m := 60) h1 (by decide)
      obtain ⟨t3, fs, h3, hf, _, e3⟩ := mixed_len h2 (ds := [.int (lastLen l), .int (lastLen l - 1), .int (lastLen l / 2), .int 0, .int (lastLen l + 1 + x), .int 100000]) (by simp)
      obtain ⟨k9, e4⟩ := holds_loop1 hl (by omega) (fs := fs) (fun d hd => by
        have := hf d hd
        simp at this
        rcases this with rfl | rfl | rfl | rfl | rfl | rfl
        · exact ⟨_, rfl, by omega⟩
        · exact ⟨_, rfl, by omega⟩
        · exact ⟨_, rfl, by omega⟩
        · exact ⟨_, rfl, by omega⟩
        · exact ⟨_, rfl, by omega⟩
        · exact ⟨_, rfl, by omega⟩) (e0 := some t3) (e1 := some (si n)) (e2 := some (.sh (.lst (rows.map D.ints)))) (e5 := e5) (e6 := some (si (lastLen l))) (e7 := some tl) (e8 := some t0) (e9 := j9) (e10 := e10)
      have hd2 := div_int (i := lastLen l) (j := 2) (by decide) (by decide)
      have hlen := length_ok hl (by omega)
      have hsi := same_int (lastLen l)
      have hpt := program_ok h hl.v
      rw [hl.good hz] at hpt
      have hrow := lastL_row h.row hl
      have hsr := same_row (p := lastL n rows l) (by rw [hrow.1]; have := h.1; omega)
      refine ⟨[some t3, some (si n), some (.sh (.lst (rows.map D.ints))), some (.sh (.lst l)), some (wT (lastW l)), e5, some (si (lastLen l)), some tl, some t0, k9, e10], .inl ?_, t3, some t0, k9, rfl, h3⟩
      simp at hlen hsi hpt hsr e4
      simp [b_law_holds_2, e2, hd2, e3, e4, hlen, hsi, hpt, htl, hsr])
  exact ⟨t', j8, j9, h1, e⟩
theorem turning_at {n : Nat} (hn : n ≤ 1000) {rows : List (List Int)} (l : List D) (hz : l.length ≤ 30000) : ∃ ts t, eAddT (.ol [T.ints (iota n)]) (.ol ((turL n rows l).map rg)) = some (.ol ts) ∧ atI ts (-1) = some t ∧ t.d = .lst ((lastL n rows l).map .int) := by
  refine ⟨[T.ints (iota n)] ++ (turL n rows l).map rg, ?_⟩
  have hadd : eAddT (.ol [T.ints (iota n)]) (.ol ((turL n rows l).map rg)) = some (.ol ([T.ints (iota n)] ++ (turL n rows l).map rg)) := addT_lst (els_ol _) (els_ol _) (by simp [turL_len]; unfold lim; omega)
  have hlast : ∃ t, atI ([T.ints (iota n)] ++ (turL n rows l).map rg) (-1) = some t ∧ t.d = .lst ((lastL n rows l).map .int) := by
    unfold lastL
    rcases List.eq_nil_or_concat (turL n rows l) with q | ⟨f, r, q⟩
    · rw [q]
      exact ⟨T.ints (iota n), atI_last [] _, by simp⟩
    · rw [q, List.concat_eq_append, List.map_append, ← List.append_assoc]
      exact ⟨rg r, atI_last _ _, by simp [rg]⟩
  obtain ⟨t, h1, h2⟩ := hlast
  exact ⟨t, hadd, h1, h2⟩
theorem holds_ok {n : Nat} {rows : List (List Int)} (h : MkOk n rows) {l : List D} (hl : Prog rows.length l) (hz : l.length ≤ 300) {t : T} (ht : Pool t) (hL : lastLen l ≤ 1000) : ∃ t', Pool t' ∧ F_law_holds [t, si n, .sh (.lst (rows.map D.ints)), .sh (.lst l), wT (lastW l)] = .ok (.sh (.bl true)) [t', si n, .sh (.lst (rows.map D.ints)), .sh (.lst l), wT (lastW l)] := by
  obtain ⟨z, hzr⟩ := hl.repr (by have := h.2.1; omega) hz
  have hn := h.1
  have hw0 := lastLen_w hl
  obtain ⟨ts, tl, a1, a2, a3⟩ := turning_at (n := n) (by omega) (rows := rows) l (by omega)
  have hr : rgOk 0 (n : Int) = true := rgOk_of (by omega) (by omega) (by omega) (by omega)
  have htu := turnings_ok (by omega) h.row hl (by omega)
  obtain ⟨t', j8, j9, h1, e1⟩ := holds_loop2 h hl (by omega) ht hL a3 (e5 := some (.sh (.str z))) (e8 := none) (e9 := none) (e10 := none)
  have b2 : InR 2 := InR.of (by decide) (by decide)
  have htd := law_told_yes hl (by omega) (most := lastLen l) (by omega) (by omega)
  have hdl := dl_lT (lastW l)
  have h3 := letters_ok (lastW l)
  have hwt := word_turning_ok h hl
  have hrow := lastL_row h.row hl
  have hsr := same_row (p := lastL n rows l) (by rw [hrow.1]; omega)
  refine ⟨t', h1, ?_⟩
  simp [wT, hw0, -rangeT_iota] at e1 htd hwt hsr a1
  simp [F_law_holds, m_law_holds, hzr, hr, htu, a1, a2, b2, wT, e1, htd, hdl, h3, a3, hwt, hsr]
end
end Cl

set_option maxHeartbeats 2000000
namespace Cl
noncomputable section
open PySem L2 Z
def x_law_exact_1 : EM := (eTup (eCons (eV 12) (eCons (eP (pUn oNeg (pV 13))) eNil)))
def b_law_exact_2 : SM := (mSeq (mPar3 10 3 11 (eCons (eP (pOp oSub (pCB (o1 oLen) (aCons (pV 6) aNil)) (pC (.int 1)))) (eCons (eCallI 2 0 F_law_pick (eCons (eV 1) eNil)) (eCons (eCallI 2 0 F_law_pick (eCons (eP (pC (.int 6))) eNil)) eNil)))) (mSeq (mAppG 6 (eTup (eCons (eP (pC (.str "then"))) (eCons (eV 10) (eCons (eV 10) eNil))))) (mSeq (mSet 7 (eFz (eOp eAddT (eV 7) (eV 7)))) (mSeq (mIf (eT (pB (pOp oEq (pV 9) (pC (.int 1))))) (mSeq (mAppG 6 (eTup (eCons (eP (pC (.str "maker"))) (eCons (eV 3) eNil)))) (mSeq (mAppG 6 (eOp ixT (eLst (eCons (eTup (eCons (eP (pC (.str "then"))) (eCons (eP (pOp oAdd (pV 10) (pC (.int 1)))) (eCons (eP (pOp oAdd (pV 10) (pC (.int 2)))) eNil)))) (eCons (eTup (eCons (eP (pC (.str "then"))) (eCons (eP (pOp oAdd (pV 10) (pC (.int 2)))) (eCons (eP (pOp oAdd (pV 10) (pC (.int 1)))) eNil)))) eNil))) (eP (pOp oMod (pCB (o1 oInt) (aCons (pV 11) aNil)) (pC (.int 2)))))) (mSet 7 (eFz (eOp ixT (eLst (eCons (eOp eAddT (eV 7) (eLst (eCons (eTup (eCons (eV 3) (eCons (eP (pC (.int 1))) eNil))) eNil))) (eCons (eOp eAddT (eLst (eCons (eTup (eCons (eV 3) (eCons (eP (pC (.int 1))) eNil))) eNil)) (eV 7)) eNil))) (eP (pOp oMod (pCB (o1 oInt) (aCons (pV 11) aNil)) (pC (.int 2))))))))) mNil) (mIf (eT (pB (pOp oLt (pV 11) (pC (.int 2))))) (mSeq (mAppG 6 (eTup (eCons (eP (pC (.str "back"))) (eCons (eP (pOp oSub (pCB (o1 oLen) (aCons (pV 6) aNil)) (pC (.int 1)))) eNil)))) (mSet 7 (eFz (eLC [12, 13] (iE (eRevL (vV 7))) (bTup [12, 13]) tAll x_law_exact_1)))) mNil)))))
def b_law_exact_3 : SM := (mIf (eT (pB (pOp oGt (pV 5) (pC (.int 1))))) (mSeq (mAppG 4 (eP (pOp oMod (pCB (o1 oInt) (aCons (pV 5) aNil)) (pC (.int 2))))) (mSet 5 (eP (pCB (o1 oInt) (aCons (pOp oDiv (pV 5) (pC (.int 2))) aNil))))) mNil)
def m_law_exact : SM := (mSeq (mPar3 3 4 5 (eCons (eCallI 2 0 F_law_pick (eCons (eV 1) eNil)) (eCons (eLst eNil) (eCons (eV 2) eNil)))) (mSeq (mPar 6 7 (eCons (eLst (eCons (eTup (eCons (eP (pC (.str "maker"))) (eCons (eV 3) eNil))) eNil)) (eCons (eFz (eLst (eCons (eTup (eCons (eV 3) (eCons (eP (pC (.int 1))) eNil))) eNil))) eNil))) (mSeq (mFor (iR1 (eCons (eP (pC (.int 20))) eNil)) (bName 8) b_law_exact_3) (mSeq (mFor (iE (eRevL (vV 4))) (bName 9) b_law_exact_2) (mRet (eTup (eCons (eM 6) (eCons (eM 7) eNil))))))))
def F_law_exact : FM := mFunI 3 14 m_law_exact
theorem wrdL_snoc (l : List D) (d : D) : wrdL (l ++ [d]) = wrdL l ++ [wrdS (wrdL l) d] := runL_snoc l d
theorem lastW_snoc (l : List D) (d : D) : lastW (l ++ [d]) = wrdS (wrdL l) d := by unfold lastW; rw [wrdL_snoc]; simp
theorem getD_snoc_lt {α : Type} {l : List α} {a b : α} {i : Nat} (h : i < l.length) : (l ++ [a]).getD i b = l.getD i b := by
  rw [List.getD_eq_getElem?_getD, List.getD_eq_getElem?_getD, List.getElem?_append_left h]
theorem getD_snoc_eq {α : Type} {l : List α} {a b : α} {i : Nat} (h : i = l.length) : (l ++ [a]).getD i b = a := by
  subst h
  rw [List.getD_eq_getElem?_getD, List.getElem?_append_right (Nat.le_refl _)]
  simp
theorem lastW_dbl {l : List D} (h : 0 < l.length) : lastW (l ++ [.tup [.str "then", .int ((l.length : Int) - 1), .int ((l.length : Int) - 1)]]) = lastW l ++ lastW l := by
  rw [lastW_snoc, lastW_at h]
  have : ((l.length : Int) - 1).toNat = l.length - 1 := by omega
  simp only [wrdS, this]
theorem lastW_bk {l : List D} (h : 0 < l.length) : lastW (l ++ [.tup [.str "back", .int ((l.length : Int) - 1)]]) = invW (lastW l) := by
  rw [lastW_snoc, lastW_at h]
  have : ((l.length : Int) - 1).toNat = l.length - 1 := by omega
  simp only [wrdS, this, if_neg ne_mb]
theorem lastW_mk {l : List D} (h : 0 < l.length) (k : Int) : lastW (l ++ [.tup [.str "maker", .int k]] ++ [.tup [.str "then", .int ((l.length : Int) - 1), .int (l.length : Int)]]) = lastW l ++ [(k, 1)] := by
  rw [lastW_snoc, lastW_at h, wrdL_snoc]
  have h1 : ((l.length : Int) - 1).toNat = l.length - 1 := by omega
  simp only [wrdS, h1, Int.toNat_natCast]
  rw [getD_snoc_lt (by rw [wrd_len]; omega), getD_snoc_eq (by rw [wrd_len])]
  rfl
theorem lastW_km {l : List D} (h : 0 < l.length) (k : Int) : lastW (l ++ [.tup [.str "maker", .int k]] ++ [.tup [.str "then", .int (l.length : Int), .int ((l.length : Int) - 1)]]) = [(k, 1)] ++ lastW l := by
  rw [lastW_snoc, lastW_at h, wrdL_snoc]
  have h1 : ((l.length : Int) - 1).toNat = l.length - 1 := by omega
  simp only [wrdS, h1, Int.toNat_natCast]
  rw [getD_snoc_eq (by rw [wrd_len]), getD_snoc_lt (by rw [wrd_len]; omega)]
  rfl
/-! ### the bits of a length -/
def bitV (a : Int) (l : List Int) : Int := l.foldl (fun a b => 2 * a + b) a
theorem bits_loop {len : Int} (h1 : 1 ≤ len) (h2 : len < 2 ^ 20) {e0 e1 e2 e3 e6 e7 e8 e9 e10 e11 e12 e13 : Option T} : ∃ (bits : List Int) (j8 : Option T), forL (bName 8) b_law_exact_3 ((iota 20).map ig) [e0, e1, e2, e3, some (.ol []), some (si len), e6, e7, e8, e9, e10, e11, e12, e13] = .nx [e0, e1, e2, e3, some (.ol (bits.map ig)), some (si 1), e6, e7, j8, e9, e10, e11, e12, e13] ∧ (∀ b ∈ bits, b = 0 ∨ b = 1) ∧ bitV 1 bits.reverse = len ∧ bits.length ≤ 20 := by
  obtain ⟨ρ', e, bits, lf, j8, rfl, g1, g2, g3, g4⟩ := forN_inv (i := 8) (body := b_law_exact_3) (its := (iota 20).map ig) (ρ := [e0, e1, e2, e3, some (.ol []), some (si len), e6, e7, e8, e9, e10, e11, e12, e13])
    (fun k ρ => ∃ (bits : List Int) (lf : Int) (j8 : Option T), ρ = [e0, e1, e2, e3, some (.ol (bits.map ig)), some (si lf), e6, e7, j8, e9, e10, e11, e12, e13] ∧ (∀ b ∈ bits, b = 0 ∨ b = 1) ∧ bitV lf bits.reverse = len ∧ bits.length ≤ k ∧ (1 ≤ lf ∧ (lf < 2 ^ (20 - k) ∨ lf = 1))) ⟨[], len, e8, rfl, fun b h => by simp at h, rfl, by simp, h1, .inl h2⟩ (by
      rintro k t ρ e ⟨bits, lf, j8, rfl, g1, g2, g3, g4, g5⟩
      have hk : k < 20 := by
        have := (List.getElem?_eq_some_iff.mp e).1
        simpa using this
      have hz : bits.length < lim := by unfold lim; omega
      have m0 := Int.emod_nonneg lf (show (2 : Int) ≠ 0 by decide)
      have m1 := Int.emod_lt_of_pos lf (show (0 : Int) < 2 by decide)
      by_cases c : 1 < lf
      · have md := mod_int (i := lf) (j := 2) (by decide)
        have dv := div_int (i := lf) (j := 2) (by decide) (by decide)
        refine ⟨_, .inl ?_, bits ++ [lf % 2], lf / 2, some t, rfl, ?_, ?_, by simp; omega, by omega, ?_⟩
        · simp [b_law_exact_3, c, md, dv, hz]
        · intro b hb
          rcases List.mem_append.mp hb with q | q
          · exact g1 b q
          · rw [List.mem_singleton.mp q]; omega
        · rw [List.reverse_append]
          show bitV (2 * (lf / 2) + lf % 2) bits.reverse = len
          rw [← g2]
          congr 1
          omega
        · rcases g5 with q | q
          · by_cases c1 : lf / 2 = 1
            · exact .inr c1
            · left
              have e1 : 20 - k = (20 - (k + 1)) + 1 := by omega
              rw [e1, Int.pow_succ] at q
              omega
          · omega
      · refine ⟨_, .inl ?_, bits, lf, some t, rfl, g1, g2, by omega, by omega, .inr (by omega)⟩
        simp [b_law_exact_3, c])
  simp at g4
  have : lf = 1 := by omega
  subst this
  exact ⟨bits, j8, e, g1, g2, by simpa using g3⟩
theorem lc_inv2 {w : Wd} (hw : w.length ≤ 400000) {e0 e1 e2 e3 e4 e5 e6 e7 e8 e9 e10 e11 : Option T} : lcL [12, 13] (bTup [12, 13]) tAll x_law_exact_1 ((w.map lD).reverse.map .sh) [] [e0, e1, e2, e3, e4, e5, e6, e7, e8, e9, e10, e11, none, none] = .ok ((invW w).map lT) [e0, e1, e2, e3, e4, e5, e6, e7, e8, e9, e10, e11, none, none] := by
  have := lcL_map (slots := [12, 13]) (b := bTup [12, 13]) (elt := x_law_exact_1) (ρ := [e0, e1, e2, e3, e4, e5, e6, e7, e8, e9, e10, e11, none, none]) (fun t => match t.d with | .tup [.int k, .int e] => lT (k, -e) | _ => t) (its := (w.map lD).reverse.map .sh) (acc := []) (fun t ht => by
    obtain ⟨d, hd, rfl⟩ := List.mem_map.mp ht
    obtain ⟨p, hp, rfl⟩ := List.mem_map.mp (List.mem_reverse.mp hd)
    refine ⟨[e0, e1, e2, e3, e4, e5, e6, e7, e8, e9, e10, e11, some (si p.1), some (si p.2)], [e0, e1, e2, e3, e4, e5, e6, e7, e8, e9, e10, e11, some (si p.1), some (si p.2)], rfl, ?_, rfl⟩
    simp [x_law_exact_1, lD, lT]) (by simp; unfold lim; omega)
  rw [this]
  simp only [List.nil_append]
  congr 1
  unfold invW
  rw [← List.map_reverse, List.map_map, List.map_map, List.map_map]
  rfl
theorem add_wl {u : Wd} (p : Int × Int) (h : u.length ≤ 800000) : eAddT (wT u) (.ol [lT p]) = some (.ol ((u.map lD).map .sh ++ [lT p])) := addT_lst (els_sh _) (els_ol _) (by simp; unfold lim; omega)
theorem add_lw {u : Wd} (p : Int × Int) (h : u.length ≤ 800000) : eAddT (.ol [lT p]) (wT u) = some (.ol ([lT p] ++ (u.map lD).map .sh)) := addT_lst (els_ol _) (els_sh _) (by simp; unfold lim; omega)
def ExOk (m : Nat) (us : List T) (w : Wd) : Prop := Prog m (dl us) ∧ 0 < us.length ∧ lastW (dl us) = w
theorem dlen (l : List T) : (Z.dl l).length = l.length := by rw [dl_eq, List.length_map]
theorem exact_step {t : T} (ht : Pool t) {m : Nat} (hm : 1 ≤ m) (hm2 : m ≤ 40) {us : List T} {w : Wd} (h : ExOk m us w) (hu : us.length ≤ 1000) (hw : w.length ≤ 150000) {b : Int} (hb : b = 0 ∨ b = 1) {e2 e3 e4 e5 e8 e10 e11 : Option T} :
    ∃ (t' : T) (us' : List T) (w' : Wd) (j3 j10 j11 : Option T), b_law_exact_2 [some t, some (si m), e2, e3, e4, e5, some (.ol us), some (wT w), e8, some (si b), e10, e11, none, none] = .nx [some t', some (si m), e2, j3, e4, e5, some (.ol us'), some (wT w'), e8, some (si b), j10, j11, none, none] ∧ Pool t' ∧ ExOk m us' w' ∧ us'.length ≤ us.length + 4 ∧ (w'.length : Int) = 2 * w.length + b := by
  obtain ⟨h1, h2, h3⟩ := h
  obtain ⟨t1, k, g1, k0, k1, _, e1⟩ := pick_ok (m := (m : Int)) ht (by omega)
  obtain ⟨t2, q, g2, q0, q1, _, e2'⟩ := pick_ok (m := 6) g1 (by decide)
  have os : ∀ a b : Int, oSub (.int a) (.int b) = some (.int (a - b)) := fun _ _ => rfl
  have f1 := add_w (u := w) (v := w) (by omega)
  have hz1 : us.length < lim := by unfold lim; omega
  have hz2 : us.length + 1 < lim := by unfold lim; omega
  have hz3 : us.length + 1 + 1 < lim := by unfold lim; omega
  have hz4 : us.length + 1 + 1 + 1 < lim := by unfold lim; omega
  have md := mod_int (i := q) (j := 2) (by decide)
  have m0 := Int.emod_nonneg q (show (2 : Int) ≠ 0 by decide)
  have m1 := Int.emod_lt_of_pos q (show (0 : Int) < 2 by decide)
  have hL := dlen us
  obtain ⟨la, hla⟩ : ∃ la : Int, la = (us.length : Int) - 1 := ⟨_, rfl⟩
  have hsub : oSub (.int (us.length : Int)) (.int 1) = some (.int la) := by rw [hla]; rfl
  have md2 : q % 2 = 0 ∨ q % 2 = 1 := by omega
  obtain ⟨A, hA⟩ : ∃ A : T, A = .ot [.sh (.str "then"), si la, si la] := ⟨_, rfl⟩
  obtain ⟨M, hM⟩ : ∃ A : T, A = .ot [.sh (.str "maker"), si k] := ⟨_, rfl⟩
  obtain ⟨B, hB⟩ : ∃ A : T, A = .ot [.sh (.str "then"), si (la + 1), si (la + 2)] := ⟨_, rfl⟩
  obtain ⟨B', hB'⟩ : ∃ A : T, A = .ot [.sh (.str "then"), si (la + 2), si (la + 1)] := ⟨_, rfl⟩
  -- behind the doubling
  have s1 : ExOk m (us ++ [A]) (w ++ w) := by
    refine ⟨?_, by simp, ?_⟩
    · rw [dl_app]
      refine h1.snoc ?_
      rw [hA]
      exact step3 (by rw [hL]; omega)
    · rw [dl_app, ← h3, ← lastW_dbl (by rw [hL]; exact h2), hL, hA, hla]
      rfl
  have hL1 : (dl (us ++ [A])).length = us.length + 1 := by rw [dlen]; simp
  have c1 : ((dl (us ++ [A])).length : Int) - 1 = la + 1 := by rw [hL1]; omega
  have c2 : ((dl (us ++ [A])).length : Int) = la + 2 := by rw [hL1]; omega
  have p1 : Prog m (dl (us ++ [A] ++ [M])) := by
    rw [dl_app]
    refine s1.1.snoc ?_
    rw [hM]
    exact step0 ⟨k0, k1⟩
  have hL2 : (dl (us ++ [A] ++ [M])).length = us.length + 2 := by rw [dlen]; simp
  have s2 : ExOk m (us ++ [A] ++ [M] ++ [B]) ((w ++ w) ++ [(k, 1)]) := by
    refine ⟨?_, by simp, ?_⟩
    · rw [dl_app]
      refine p1.snoc ?_
      rw [hB]
      exact step3 (by rw [hL2]; omega)
    · rw [← s1.2.2, ← lastW_mk (by rw [hL1]; omega), c1, c2, hM, hB]
      simp
  have s3 : ExOk m (us ++ [A] ++ [M] ++ [B']) ([(k, 1)] ++ (w ++ w)) := by
    refine ⟨?_, by simp, ?_⟩
    · rw [dl_app]
      refine p1.snoc ?_
      rw [hB']
      exact step3 (by rw [hL2]; omega)
    · rw [← s1.2.2, ← lastW_km (by rw [hL1]; omega), c1, c2, hM, hB']
      simp
  have sb : ∀ {vs : List T} {v : Wd}, ExOk m vs v → ExOk m (vs ++ [.ot [.sh (.str "back"), si ((vs.length : Int) - 1)]]) (invW v) := fun {vs v} h => by
    have hv := dlen vs
    refine ⟨?_, by simp, ?_⟩
    · rw [dl_app]
      exact h.1.snoc (step1 (by rw [hv]; have := h.2.1; omega))
    · rw [← h.2.2, ← lastW_bk (by rw [hv]; exact h.2.1), hv]
      simp
  have f2 := add_wl (u := w ++ w) (k, 1) (by simp; omega)
  have f3 := add_lw (u := w ++ w) (k, 1) (by simp; omega)
  rcases hb with rfl | rfl
  · by_cases cq : q < 2
    · refine ⟨t2, _, invW (w ++ w), some (si k), some (si la), some (si q), ?_, g2, sb s1, by simp, by rw [inv_len]; simp; omega⟩
      have l1 := @lc_inv2 (w ++ w) (by simp; omega)
      have hdl := dl_lT (invW (w ++ w))
      simp [wT] at f1 l1
      simp [b_law_exact_2, hsub, e1, e2', hz1, hz2, wT, f1, cq, dl_shlD, hA, dl_revX, l1, hdl, os]
    · refine ⟨t2, _, w ++ w, some (si k), some (si la), some (si q), ?_, g2, s1, by simp, by simp; omega⟩
      simp [wT] at f1
      simp [b_law_exact_2, hsub, e1, e2', hz1, wT, f1, cq, dl_shlD, hA]
  · by_cases cq : q < 2
    · rcases md2 with h | h
      · rw [h] at md
        refine ⟨t2, _, invW ((w ++ w) ++ [(k, 1)]), some (si k), some (si la), some (si q), ?_, g2, sb s2, by simp, by rw [inv_len]; simp; omega⟩
        have l1 := @lc_inv2 (w ++ w ++ [(k, 1)]) (by simp; omega)
        have hdl := dl_lT (invW (w ++ w ++ [(k, 1)]))
        simp [wT, lT, lD] at f1 f2 f3 l1 hdl
        simp [b_law_exact_2, hsub, e1, e2', hz1, hz2, hz3, hz4, wT, f1, f2, f3, cq, dl_shlD, hA, hM, hB, md, lT, lD, dl_revX, l1, hdl, os]
      · rw [h] at md
        refine ⟨t2, _, invW ([(k, 1)] ++ (w ++ w)), some (si k), some (si la), some (si q), ?_, g2, sb s3, by simp, by rw [inv_len]; simp; omega⟩
        have l1 := @lc_inv2 ([(k, 1)] ++ (w ++ w)) (by simp; omega)
        have hdl := dl_lT (invW ([(k, 1)] ++ (w ++ w)))
        simp [wT, lT, lD] at f1 f2 f3 l1 hdl
        simp [b_law_exact_2, hsub, e1, e2', hz1, hz2, hz3, hz4, wT, f1, f2, f3, cq, dl_shlD, hA, hM, hB', md, lT, lD, dl_revX, l1, hdl, os]
    · rcases md2 with h | h
      · rw [h] at md
        refine ⟨t2, _, (w ++ w) ++ [(k, 1)], some (si k), some (si la), some (si q), ?_, g2, s2, by simp, by simp; omega⟩
        simp [wT, lT] at f1 f2 f3
        simp [b_law_exact_2, hsub, e1, e2', hz1, hz2, hz3, wT, f1, f2, f3, cq, dl_shlD, hA, hM, hB, md, lT, lD]
      · rw [h] at md
        refine ⟨t2, _, [(k, 1)] ++ (w ++ w), some (si k), some (si la), some (si q), ?_, g2, s3, by simp, by simp; omega⟩
        simp [wT, lT] at f1 f2 f3
        simp [b_law_exact_2, hsub, e1, e2', hz1, hz2, hz3, wT, f1, f2, f3, cq, dl_shlD, hA, hM, hB', md, lT, lD]
/-! ### a program of a told length -/
theorem bitV_snoc (a : Int) (l : List Int) (b : Int) : bitV a (l ++ [b]) = 2 * bitV a l + b := by simp [bitV]
theorem bitV_le {l : List Int} (hl : ∀ b ∈ l, b = 0 ∨ b = 1) : ∀ {a : Int}, 1 ≤ a → a ≤ bitV a l := by
  induction l with
  | nil => intro a _; exact Int.le_refl _
  | cons b l ih =>
    intro a ha
    have hb := hl b (by simp)
    have := ih (fun x hx => hl x (by simp [hx])) (a := 2 * a + b) (by omega)
    show a ≤ bitV (2 * a + b) l
    omega
theorem bitV_app (a : Int) (l r : List Int) : bitV a (l ++ r) = bitV (bitV a l) r := by simp [bitV]
theorem exact_ok {t : T} (ht : Pool t) {m : Nat} (hm : 1 ≤ m) (hm2 : m ≤ 40) {len : Int} (h1 : 1 ≤ len) (h2 : len ≤ 150000) : ∃ (t' : T) (us : List T) (w : Wd), Pool t' ∧ ExOk m us w ∧ us.length ≤ 100 ∧ (w.length : Int) = len ∧ F_law_exact [t, si m, si len] = .ok (.ot [.ol us, wT w]) [t', si m, si len] := by
  obtain ⟨t1, k, g1, k0, k1, _, e1⟩ := pick_ok (m := (m : Int)) ht (by omega)
  obtain ⟨bits, j8, e2, hb, hv, hbl⟩ := bits_loop h1 (by omega) (e0 := some t1) (e1 := some (si m)) (e2 := some (si len)) (e3 := some (si k)) (e6 := some (.ol [.ot [.sh (.str "maker"), si k]])) (e7 := some (wT [(k, 1)])) (e8 := none) (e9 := none) (e10 := none) (e11 := none) (e12 := none) (e13 := none)
  have hpre : ∀ r, (∃ s, r ++ s = bits.reverse) → 1 ≤ bitV 1 r ∧ bitV 1 r ≤ len := fun r ⟨s, hs⟩ => by
    have hr : ∀ b ∈ r, b = 0 ∨ b = 1 := fun b h => hb b (List.mem_reverse.mp (by rw [← hs]; simp [h]))
    have hsb : ∀ b ∈ s, b = 0 ∨ b = 1 := fun b h => hb b (List.mem_reverse.mp (by rw [← hs]; simp [h]))
    have q1 := bitV_le hr (a := 1) (by omega)
    have q2 := bitV_le hsb (a := bitV 1 r) q1
    rw [← bitV_app, hs, hv] at q2
    exact ⟨q1, q2⟩
  obtain ⟨ρ', e3, t2, us, w, j3, j9, j10, j11, rfl, g2, g3, g4, g5⟩ := forN_inv (i := 9) (body := b_law_exact_2) (its := (bits.reverse.map D.int).map .sh) (ρ := [some t1, some (si m), some (si len), some (si k), some (.ol (bits.map ig)), some (si 1), some (.ol [.ot [.sh (.str "maker"), si k]]), some (wT [(k, 1)]), j8, none, none, none, none, none])
    (fun k ρ => ∃ (t2 : T) (us : List T) (w : Wd) (j3 j9 j10 j11 : Option T), ρ = [some t2, some (si m), some (si len), j3, some (.ol (bits.map ig)), some (si 1), some (.ol us), some (wT w), j8, j9, j10, j11, none, none] ∧ Pool t2 ∧ ExOk m us w ∧ us.length ≤ 1 + 4 * k ∧ (w.length : Int) = bitV 1 (bits.reverse.take k))
    ⟨t1, [.ot [.sh (.str "maker"), si k]], [(k, 1)], some (si k), none, none, none, rfl, g1, ⟨fun j hj => by
      have : j = 0 := by simp at hj; omega
      subst this
      exact step0 ⟨k0, k1⟩, by simp, by simp [lastW, wrdL, runL, wrdS]⟩, by simp, by simp [bitV]⟩ (by
      rintro j t0 ρ e ⟨t2, us, w, j3, j9, j10, j11, rfl, g2, g3, g4, g5⟩
      rw [List.getElem?_map] at e
      obtain ⟨d, ed, rfl⟩ := Option.map_eq_some_iff.mp e
      rw [List.getElem?_map] at ed
      obtain ⟨b, eb, rfl⟩ := Option.map_eq_some_iff.mp ed
      have hj : j < bits.reverse.length := (List.getElem?_eq_some_iff.mp eb).1
      have hb' := hb b (List.mem_reverse.mp (List.mem_of_getElem? eb))
      have et : bits.reverse.take (j + 1) = bits.reverse.take j ++ [b] := by rw [List.take_add_one, eb]; rfl
      have q := hpre (bits.reverse.take j) ⟨_, List.take_append_drop j _⟩
      have hj2 : j < 20 := by simp at hj; omega
      obtain ⟨t3, us', w', i3, i10, i11, e4, r2, r3, r4, r5⟩ := exact_step g2 hm hm2 g3 (by omega) (by omega) hb' (e2 := some (si len)) (e3 := j3) (e4 := some (.ol (bits.map ig))) (e5 := some (si 1)) (e8 := j8) (e10 := j10) (e11 := j11)
      exact ⟨_, .inl e4, t3, us', w', i3, _, i10, i11, rfl, r2, r3, by omega, by rw [et, bitV_snoc, r5, g5]⟩)
  have hlen : ((bits.reverse.map D.int).map T.sh).length = bits.reverse.length := by simp
  rw [hlen] at g4 g5
  rw [List.take_length, hv] at g5
  have hbr : bits.reverse.length = bits.length := List.length_reverse
  refine ⟨t2, us, w, g2, g3, by omega, g5, ?_⟩
  have b20 : InR 20 := InR.of (by decide) (by decide)
  have hrev : (bits.map D.int).reverse = bits.reverse.map D.int := by rw [List.map_reverse]
  simp [wT, lD] at e2 e3
  simp [F_law_exact, m_law_exact, e1, b20, e2, e3, wT, lD, dl_revX]
end
end Cl

set_option maxHeartbeats 2000000
namespace Cl
noncomputable section
open PySem L2 Z
def b_law_great_1 : SM := (mIf (eT (qAnd (pB (pOp oLt (pV 11) (pV 10))) (pB (pOp oLe (pV 11) (pC (.int 100000)))))) (mSeq (mSet 12 (eCall 2 F_law_told (eCons (eV 3) (eCons (eV 11) eNil)))) (mIf (eT (qOr (pB (pOp oNe (pOp oIx (pV 12) (pC (.int 0))) (pC (.str "refused")))) (qNot (pB (pCall 2 (F_law_same 6) (aCons (pOp oIx (pV 12) (pC (.int 1))) (aCons (pV 10) aNil))))))) (mRet (eP (pC (.bl false)))) mNil)) mNil)
def b_law_great_2 : SM := (mSeq (mPar 6 7 (eCons (eP (pOp oSub (pCB (o1 oLen) (aCons (pV 3) aNil)) (pC (.int 1)))) (eCons (eCallI 2 0 F_law_pick (eCons (eP (pC (.int 3))) eNil)) eNil))) (mSeq (mSet 8 (eOp (oS oSub) (eV 6) (eCallI 2 0 F_law_pick (eCons (eP (pC (.int 3))) eNil)))) (mSeq (mAppG 3 (eOp ixT (eLst (eCons (eTup (eCons (eP (pC (.str "then"))) (eCons (eV 6) (eCons (eV 8) eNil)))) (eCons (eTup (eCons (eP (pC (.str "then"))) (eCons (eV 8) (eCons (eV 6) eNil)))) (eCons (eTup (eCons (eP (pC (.str "then"))) (eCons (eV 6) (eCons (eV 6) eNil)))) eNil)))) (eV 7))) (mAppG 4 (eOp eAddT (eGet (vIx (vV 4) (pOp oIx (pOp oIx (pV 3) (pUn oNeg (pC (.int 1)))) (pC (.int 1))))) (eGet (vIx (vV 4) (pOp oIx (pOp oIx (pV 3) (pUn oNeg (pC (.int 1)))) (pC (.int 2))))))))))
def m_law_great : SM := (mSeq (mUnp (bTup [3, 4]) (eCallI 4 0 F_law_program (eCons (eP (pCB (o1 oLen) (aCons (pV 2) aNil))) (eCons (eP (pC (.int 60))) (eCons (eP (pOp oPow (pC (.int 10)) (pC (.int 60)))) eNil))))) (mSeq (mFor (iR1 (eCons (eOp (oS oMul) (eCallI 2 0 F_law_pick (eCons (eP (pC (.int 60))) eNil)) (eCallI 2 0 F_law_pick (eCons (eP (pC (.int 4))) eNil))) eNil)) (bName 5) b_law_great_2) (mSeq (mPar 9 10 (eCons (eP (pCB (o1 oReprV) (aCons (pV 3) aNil))) (eCons (eGet (vIx (vV 4) (pUn oNeg (pC (.int 1))))) eNil))) (mSeq (mIf (eT (qNot (pB (pCall 2 (F_law_same 6) (aCons (pCall 1 F_program_length (aCons (pV 3) aNil)) (aCons (pV 10) aNil)))))) (mRet (eP (pC (.bl false)))) mNil) (mSeq (mFor (iE (eLst (eCons (eP (pC (.int 100000))) (eCons (eCallI 2 0 F_law_pick (eCons (eP (pC (.int 60))) eNil)) (eCons (eP (pOp oSub (pV 10) (pC (.int 1)))) eNil))))) (bName 11) b_law_great_1) (mSeq (mSet 13 (eCall 2 F_law_turnings (eCons (eV 2) (eCons (eV 3) eNil)))) (mRet (eP (pAndV (pCall 2 (F_law_same 6) (aCons (pCall 3 F_program_turning (aCons (pV 1) (aCons (pV 2) (aCons (pV 3) aNil)))) (aCons (pOp oIx (pV 13) (pUn oNeg (pC (.int 1)))) aNil))) (pOp oEqS (pCB (o1 oReprV) (aCons (pV 3) aNil)) (pV 9)))))))))))
def F_law_great : FM := mFunI 3 14 m_law_great
theorem pow60 : oPow (.int 10) (.int 60) = some (.int 1000000000000000000000000000000000000000000000000000000000000) := pow_int ⟨by decide, by decide, by decide⟩
theorem great_loop2 {m : Nat} {us : List T} (hl : Prog m (dl us)) (h60 : us.length = 60) {t : T} (ht : Pool t) {N : Nat} (hN : N ≤ 177) {e1 e2 e5 e6 e7 e8 e9 e10 e11 e12 e13 : Option T} :
    ∃ (t' : T) (vs : List T) (j5 j6 j7 j8 : Option T), Pool t' ∧ Prog m (dl vs) ∧ vs.length = 60 + N ∧ forL (bName 5) b_law_great_2 ((iota N).map ig) [some t, e1, e2, some (.ol us), some (.ol ((lenL (dl us)).map ig)), e5, e6, e7, e8, e9, e10, e11, e12, e13] = .nx [some t', e1, e2, some (.ol vs), some (.ol ((lenL (dl vs)).map ig)), j5, j6, j7, j8, e9, e10, e11, e12, e13] := by
  obtain ⟨ρ', e, t', vs, j5, j6, j7, j8, rfl, h1, h2, h3⟩ := forN_inv (i := 5) (body := b_law_great_2) (its := (iota N).map ig) (ρ := [some t, e1, e2, some (.ol us), some (.ol ((lenL (dl us)).map ig)), e5, e6, e7, e8, e9, e10, e11, e12, e13])
    (fun k ρ => ∃ (t' : T) (vs : List T) (j5 j6 j7 j8 : Option T), ρ = [some t', e1, e2, some (.ol vs), some (.ol ((lenL (dl vs)).map ig)), j5, j6, j7, j8, e9, e10, e11, e12, e13] ∧ Pool t' ∧ Prog m (dl vs) ∧ vs.length = 60 + k) ⟨t, us, e5, e6, e7, e8, rfl, ht, hl, h60⟩ (by
      rintro k t0 ρ e ⟨t1, vs, j5, j6, j7, j8, rfl, h1, h2, h3⟩
      have hk : k < N := by
        have := (List.getElem?_eq_some_iff.mp e).1
        simpa using this
      obtain ⟨t2, kd, g2, kd0, kd1, _, e2'⟩ := pick_ok (m := 3) h1 (by decide)
      obtain ⟨t3, x, g3, x0, x1, _, e3⟩ := pick_ok (m := 3) g2 (by decide)
      obtain ⟨la, hla⟩ : ∃ la : Int, la = (vs.length : Int) - 1 := ⟨_, rfl⟩
      have hsub : oSub (.int (vs.length : Int)) (.int 1) = some (.int la) := by rw [hla]; rfl
      obtain ⟨ot, hot⟩ : ∃ ot : Int, ot = la - x := ⟨_, rfl⟩
      have hsub2 : oSub (.int la) (.int x) = some (.int ot) := by rw [hot]; rfl
      have hz : vs.length < lim := by unfold lim; omega
      have hL := dlen vs
      obtain ⟨a, b, hab, ha0, ha1, hb0, hb1⟩ : ∃ a b : Int, atI [T.ot [.sh (.str "then"), si la, si ot], .ot [.sh (.str "then"), si ot, si la], .ot [.sh (.str "then"), si la, si la]] kd = some (.ot [.sh (.str "then"), si a, si b]) ∧ 0 ≤ a ∧ a < vs.length ∧ 0 ≤ b ∧ b < vs.length := by
        have : kd = 0 ∨ kd = 1 ∨ kd = 2 := by omega
        rcases this with rfl | rfl | rfl
        · exact ⟨la, ot, rfl, by omega, by omega, by omega, by omega⟩
        · exact ⟨ot, la, rfl, by omega, by omega, by omega, by omega⟩
        · exact ⟨la, la, rfl, by omega, by omega, by omega, by omega⟩
      have hlas := atI_last (dl vs) (.tup [.str "then", .int a, .int b])
      have hls : (lenL (dl vs)).length = vs.length := by rw [lenL_len, hL]
      obtain ⟨ls, hle⟩ : ∃ ls, ls = lenL (dl vs) := ⟨_, rfl⟩
      rw [← hle] at hls
      have aa := atI_T ls (i := a) ha0 (by omega)
      have ab := atI_T ls (i := b) hb0 (by omega)
      have hz2 : ls.length < lim := by unfold lim; omega
      refine ⟨_, .inl ?_, t3, vs ++ [.ot [.sh (.str "then"), si a, si b]], some t0, some (si la), some (si kd), some (si ot), rfl, g3, ?_, by simp; omega⟩
      · have e1 : lenL (dl (vs ++ [.ot [.sh (.str "then"), si a, si b]])) = ls ++ [ls.getD a.toNat 0 + ls.getD b.toNat 0] := by
          rw [dl_app]
          show lenL (dl vs ++ [.tup [.str "then", .int a, .int b]]) = _
          rw [lenL_snoc, ← hle]
          rfl
        rw [e1, ← hle]
        simp [b_law_great_2, hsub, e2', e3, hsub2, hab, hz, hlas, aa, ab, hz2]
      · rw [dl_app]
        exact h2.snoc (step3 (by rw [hL]; omega)))
  exact ⟨t', vs, j5, j6, j7, j8, h1, h2, by simpa using h3, e⟩
theorem great_loop1 {m : Nat} {vs : List T} (hl : Prog m (dl vs)) (hz : vs.length ≤ 30000) {xs : List Int} {e0 e1 e2 e4 e5 e6 e7 e8 e9 e11 e12 e13 : Option T} : ∃ te j11 j12, (te = .ol vs ∨ te = .sh (.lst (dl vs))) ∧ forL (bName 11) b_law_great_1 (xs.map ig) [e0, e1, e2, some (.ol vs), e4, e5, e6, e7, e8, e9, some (si (lastLen (dl vs))), e11, e12, e13] = .nx [e0, e1, e2, some te, e4, e5, e6, e7, e8, e9, some (si (lastLen (dl vs))), j11, j12, e13] := by
  obtain ⟨ρ', e, te, j11, j12, rfl, hte⟩ := forN_inv (i := 11) (body := b_law_great_1) (its := xs.map ig) (ρ := [e0, e1, e2, some (.ol vs), e4, e5, e6, e7, e8, e9, some (si (lastLen (dl vs))), e11, e12, e13])
    (fun k ρ => ∃ (te : T) (j11 j12 : Option T), ρ = [e0, e1, e2, some te, e4, e5, e6, e7, e8, e9, some (si (lastLen (dl vs))), j11, j12, e13] ∧ (te = .ol vs ∨ te = .sh (.lst (dl vs)))) ⟨_, e11, e12, rfl, .inl rfl⟩ (by
      rintro k t0 ρ e ⟨te, j11, j12, rfl, hte⟩
      rw [List.getElem?_map] at e
      obtain ⟨x, ex, rfl⟩ := Option.map_eq_some_iff.mp e
      have hne : oNe (.str "refused") (.str "refused") = some (.bl false) := by
        unfold oNe
        rw [if_pos ⟨so_refused, so_refused⟩]
        simp [D.py, PyData.eqv]
      by_cases c1 : x < lastLen (dl vs)
      · by_cases c2 : x ≤ 100000
        · have h := law_told_no hl (by rw [dlen]; exact hz) (most := x) (by omega) c1
          have hs := same_int (lastLen (dl vs))
          refine ⟨[e0, e1, e2, some (.sh (.lst (dl vs))), e4, e5, e6, e7, e8, e9, some (si (lastLen (dl vs))), some (si x), some (.ot [.sh (.str "refused"), si (lastLen (dl vs))]), e13], .inl ?_, _, some (si x), _, rfl, .inr rfl⟩
          rcases hte with rfl | rfl <;> simp [b_law_great_1, c1, c2, h, hs, hne]
        · refine ⟨_, .inl ?_, te, some (si x), j12, rfl, hte⟩
          simp [b_law_great_1, c1, c2]
      · refine ⟨_, .inl ?_, te, some (si x), j12, rfl, hte⟩
        simp [b_law_great_1, c1])
  exact ⟨te, j11, j12, hte, e⟩
theorem lastLen_at {l : List D} (h : 0 < l.length) : atI ((lenL l).map ig) (-1) = some (si (lastLen l)) := by
  unfold lastLen
  rcases List.eq_nil_or_concat (lenL l) with q | ⟨f, r, q⟩
  · have := lenL_len l
    rw [q] at this
    simp at this
    omega
  · rw [q, List.concat_eq_append, List.map_append]
    have := atI_last (f.map ig) (ig r)
    simpa using this
theorem turL_at {n : Nat} {rows : List (List Int)} {l : List D} (h : 0 < l.length) : atI ((turL n rows l).map D.ints) (-1) = some (.lst ((lastL n rows l).map .int)) := by
  unfold lastL
  rcases List.eq_nil_or_concat (turL n rows l) with q | ⟨f, r, q⟩
  · have := turL_len n rows l
    rw [q] at this
    simp at this
    omega
  · rw [q, List.concat_eq_append, List.map_append]
    have := atI_last (f.map D.ints) (D.ints r)
    simpa [D.ints] using this
theorem great_ok {n : Nat} {rows : List (List Int)} (h : MkOk n rows) (hm : 1 ≤ rows.length) {t : T} (ht : Pool t) : ∃ t', Pool t' ∧ F_law_great [t, si n, .sh (.lst (rows.map D.ints))] = .ok (.sh (.bl true)) [t', si n, .sh (.lst (rows.map D.ints))] := by
  have hn := h.1
  obtain ⟨t1, us, g1, hd, h60, e1⟩ := program_drawn ht hm h.2.1 (size := 60) (by omega) (most := 1000000000000000000000000000000000000000000000000000000000000) (by decide)
  obtain ⟨t2, x, g2, x0, x1, _, e2⟩ := pick_ok (m := 60) g1 (by decide)
  obtain ⟨t3, y, g3, y0, y1, _, e3⟩ := pick_ok (m := 4) g2 (by decide)
  obtain ⟨N, hN, hNb⟩ : ∃ N : Nat, x * y = N ∧ N ≤ 177 := by
    have q1 : 0 ≤ x * y := Int.mul_nonneg x0 y0
    have q2 : x * y ≤ 59 * 3 := Int.mul_le_mul (by omega) (by omega) y0 (by omega)
    exact ⟨(x * y).toNat, by omega, by omega⟩
  have hmul : oMul (.int x) (.int y) = some (.int (N : Int)) := by
    have := mul_int (i := x) (j := y) (.inl (by omega))
    rw [this, hN]
  obtain ⟨t4, vs, j5, j6, j7, j8, g4, hp, hvl, e4⟩ := great_loop2 hd.1 h60 g3 hNb (e1 := some (si n)) (e2 := some (.sh (.lst (rows.map D.ints)))) (e5 := none) (e6 := none) (e7 := none) (e8 := none) (e9 := none) (e10 := none) (e11 := none) (e12 := none) (e13 := none)
  have hL := dlen vs
  obtain ⟨z, hz⟩ := hp.repr (by have := h.2.1; omega) (by omega)
  have hla := lastLen_at (l := dl vs) (by omega)
  obtain ⟨t5, u, g5, u0, u1, _, e5⟩ := pick_ok (m := 60) g4 (by decide)
  obtain ⟨te, j11, j12, hte, e6⟩ := great_loop1 hp (by omega) (xs := [100000, u, lastLen (dl vs) - 1]) (e0 := some t5) (e1 := some (si n)) (e2 := some (.sh (.lst (rows.map D.ints)))) (e4 := some (.ol ((lenL (dl vs)).map ig))) (e5 := j5) (e6 := j6) (e7 := j7) (e8 := j8) (e9 := some (.sh (.str z))) (e11 := none) (e12 := none) (e13 := none)
  have bN := inR_nat (n := N) (by omega)
  have hlen := length_ok hp (by omega)
  have hsi := same_int (lastLen (dl vs))
  have hpt := program_ok h hp.v
  rw [hp.good (by omega)] at hpt
  have hrow := lastL_row h.row hp
  have hsr := same_row (p := lastL n rows (dl vs)) (by rw [hrow.1]; omega)
  have htu := turnings_ok (by omega) h.row hp (by omega)
  have hta := turL_at (n := n) (rows := rows) (l := dl vs) (by omega)
  have os : ∀ a b : Int, oSub (.int a) (.int b) = some (.int (a - b)) := fun _ _ => rfl
  refine ⟨t5, g5, ?_⟩
  simp at e1 e4 e6 hpt hsr htu hta hla
  rcases hte with rfl | rfl <;> simp [F_law_great, m_law_great, pow60, e1, e2, e3, hmul, bN, e4, hz, hla, hlen, hsi, e5, os, e6, htu, hpt, hta, hsr]
end
end Cl

set_option maxHeartbeats 2000000
namespace Cl
noncomputable section
open PySem L2 Z
def b_law_long_1 : SM := (mIf (eT (pB (pOp oEq (pOp oMod (pCB (o1 oInt) (aCons (pOp oAdd (pV 7) (pV 3)) aNil)) (pC (.int 7))) (pC (.int 0))))) (mSeq (mAppG 11 (eTup (eCons (eP (pC (.str "then"))) (eCons (eP (pOp oSub (pV 7) (pC (.int 1)))) (eCons (eP (pOp oSub (pV 7) (pC (.int 1)))) eNil))))) (mSet 12 (eP (pOp oMul (pV 12) (pC (.int 2)))))) (mAppG 11 (eTup (eCons (eP (pC (.str "back"))) (eCons (eP (pOp oSub (pV 7) (pC (.int 1)))) eNil)))))
def b_law_long_2 : SM := (mSeq (mIf (eT (qOr (qNot (pB (pCall 2 (F_law_same 6) (aCons (pCall 1 F_program_length (aCons (pV 5) aNil)) (aCons (pCB (o1 oLen) (aCons (pV 6) aNil)) aNil))))) (qNot (pB (pCall 3 F_law_written (aCons (pV 5) (aCons (pV 6) (aCons (pV 10) aNil)))))))) (mRet (eP (pC (.bl false)))) mNil) (mIf (eT (qOr (qNot (pB (pCall 2 (F_law_same 6) (aCons (pCall 1 F_program_length (aCons (pV 8) aNil)) (aCons (pC (.int 2)) aNil))))) (qNot (pB (pCall 3 F_law_written (aCons (pV 8) (aCons (pV 9) (aCons (pV 10) aNil)))))))) (mRet (eP (pC (.bl false)))) mNil))
def x_law_long_3 : EM := (eTup (eCons (eP (pC (.str "back"))) (eCons (eP (pOp oSub (pV 7) (pC (.int 1)))) eNil)))
def x_law_long_4 : EM := (eTup (eCons (eV 7) (eCons (eP (pUn oNeg (pC (.int 1)))) eNil)))
def b_law_long_5 : SM := (mAppG 5 (eOp ixT (eLst (eCons (eTup (eCons (eP (pC (.str "then"))) (eCons (eP (pOp oAdd (pV 7) (pC (.int 1)))) (eCons (eGet (vIx (vV 4) (pV 7))) eNil)))) (eCons (eTup (eCons (eP (pC (.str "then"))) (eCons (eGet (vIx (vV 4) (pV 7))) (eCons (eP (pOp oAdd (pV 7) (pC (.int 1)))) eNil)))) eNil))) (eV 2)))
def x_law_long_6 : EM := (eTup (eCons (eV 7) (eCons (eP (pC (.int 1))) eNil)))
def x_law_long_7 : EM := (eP (pOp oMod (pOp oMod (pCB (o1 oInt) (aCons (pOp oAdd (pOp oMul (pV 7) (pV 7)) (pOp oMul (pV 3) (pV 7))) aNil)) (pC (.int 7))) (pC (.int 2))))
def m_law_long : SM := (mSeq (mUnp (bTup [1, 2, 3]) (eTup (eCons (eOp (oS oSub) (eP (pC (.int 24000))) (eCallI 2 0 F_law_pick (eCons (eP (pC (.int 2))) eNil))) (eCons (eCallI 2 0 F_law_pick (eCons (eP (pC (.int 2))) eNil)) (eCons (eCallI 2 0 F_law_pick (eCons (eP (pC (.int 7))) eNil)) eNil))))) (mSeq (mSet 4 (eLC [7] (iR2 (eCons (eP (pC (.int 2))) (eCons (eP (pOp oSub (pC (.int 2000)) (pV 3))) eNil))) (bName 7) tAll x_law_long_7)) (mSeq (mPar 5 6 (eCons (eLst (eCons (eTup (eCons (eP (pC (.str "maker"))) (eCons (eP (pC (.int 0))) eNil))) (eCons (eTup (eCons (eP (pC (.str "maker"))) (eCons (eP (pC (.int 1))) eNil))) eNil))) (eCons (eFz (eOp eAddT (eLst (eCons (eTup (eCons (eP (pC (.int 1))) (eCons (eP (pC (.int 1))) eNil))) eNil)) (eLC [7] (iE (eV 4)) (bName 7) tAll x_law_long_6))) eNil))) (mSeq (mFor (iR1 (eCons (eP (pCB (o1 oLen) (aCons (pV 4) aNil))) eNil)) (bName 7) b_law_long_5) (mSeq (mAppG 5 (eTup (eCons (eP (pC (.str "back"))) (eCons (eP (pOp oSub (pCB (o1 oLen) (aCons (pV 5) aNil)) (pC (.int 1)))) eNil)))) (mSeq (mIf (eT (pB (pOp oEq (pV 2) (pC (.int 1))))) (mSet 6 (eFz (eRevL (vV 6)))) mNil) (mSeq (mSet 6 (eFz (eLC [7, 13] (iE (eRevL (vV 6))) (bTup [7, 13]) tAll x_law_long_4))) (mSeq (mSet 8 (eOp eAddT (eLst (eCons (eTup (eCons (eP (pC (.str "maker"))) (eCons (eP (pC (.int 0))) eNil))) (eCons (eTup (eCons (eP (pC (.str "maker"))) (eCons (eP (pC (.int 1))) eNil))) (eCons (eTup (eCons (eP (pC (.str "then"))) (eCons (eP (pC (.int 0))) (eCons (eP (pC (.int 1))) eNil)))) eNil)))) (eLC [7] (iR2 (eCons (eP (pC (.int 3))) (eCons (eV 1) eNil))) (bName 7) tAll x_law_long_3))) (mSeq (mSet 9 (eOp ixT (eLst (eCons (eLst (eCons (eTup (eCons (eP (pC (.int 0))) (eCons (eP (pC (.int 1))) eNil))) (eCons (eTup (eCons (eP (pC (.int 1))) (eCons (eP (pC (.int 1))) eNil))) eNil))) (eCons (eLst (eCons (eTup (eCons (eP (pC (.int 1))) (eCons (eP (pUn oNeg (pC (.int 1)))) eNil))) (eCons (eTup (eCons (eP (pC (.int 0))) (eCons (eP (pUn oNeg (pC (.int 1)))) eNil))) eNil))) eNil))) (eP (pOp oMod (pCB (o1 oInt) (aCons (pOp oSub (pV 1) (pC (.int 3))) aNil)) (pC (.int 2)))))) (mSeq (mFor (iE (eLst (eCons (eP (pC (.int 2000))) (eCons (eP (pCB (o1 oLen) (aCons (pV 6) aNil))) (eCons (eP (pOp oSub (pCB (o1 oLen) (aCons (pV 6) aNil)) (pC (.int 1)))) eNil))))) (bName 10) b_law_long_2) (mSeq (mPar 11 12 (eCons (eLst (eCons (eTup (eCons (eP (pC (.str "maker"))) (eCons (eP (pC (.int 0))) eNil))) eNil)) (eCons (eP (pC (.int 1))) eNil))) (mSeq (mFor (iR2 (eCons (eP (pC (.int 1))) (eCons (eV 1) eNil))) (bName 7) b_law_long_1) (mRet (eP (pAndV (pCall 2 (F_law_same 6) (aCons (pCall 1 F_program_length (aCons (pV 11) aNil)) (aCons (pV 12) aNil))) (pCall 2 (F_law_same 6) (aCons (pCall 2 F_law_told (aCons (pV 11) (aCons (pC (.int 100000)) aNil))) (aCons (pTup (aCons (pC (.str "refused")) (aCons (pV 12) aNil))) aNil))))))))))))))))))
def F_law_long : FM := mFunI 1 14 m_law_long
/-! ### the ends -/
theorem lc_nat {slots : List Nat} {i : Nat} {elt : EM} {ρ : Z.Env} {lo : Int} {n : Nat} (f : Int → T) (hz : n ≤ 100000) (h : ∀ k : Nat, k < n → ∃ ρ2, elt (ρ.set i (some (si (lo + k)))) = .ok (f (lo + k)) ρ2 ∧ wipeE ρ2 slots = ρ) :
    lcL slots (bName i) tAll elt (rangeT lo n) [] ρ = .ok ((rangeT lo n).map fun t => match t.d with | .int k => f k | _ => t) ρ := by
  have := lcL_map (slots := slots) (b := bName i) (elt := elt) (ρ := ρ) (fun t => match t.d with | .int k => f k | _ => t) (its := rangeT lo n) (acc := []) (fun t ht => by
    obtain ⟨k, hk, e⟩ := List.mem_iff_getElem.mp ht
    have e' : (rangeT lo n)[k]? = some t := by rw [List.getElem?_eq_getElem hk, e]
    obtain ⟨hk', rfl⟩ := rangeT_get e'
    obtain ⟨ρ2, h1, h2⟩ := h k hk'
    exact ⟨_, ρ2, rfl, h1, h2⟩) (by simp [rangeT_len]; unfold lim; omega)
  rw [this]
  simp
def endF (s k : Int) : Int := (k * k + s * k) % 7 % 2
theorem endF_01 (s k : Int) : endF s k = 0 ∨ endF s k = 1 := by unfold endF; omega
def endsL (s : Int) (n : Nat) : List Int := (List.range n).map fun k : Nat => endF s (2 + k)
theorem ends_01 {s : Int} {n : Nat} : ∀ e ∈ endsL s n, e = 0 ∨ e = 1 := fun e he => by
  obtain ⟨k, _, rfl⟩ := List.mem_map.mp he
  exact endF_01 _ _
theorem lc_ends {s : Int} (h0 : 0 ≤ s) (h1 : s < 7) {n : Nat} (hn : n ≤ 2000) {e0 e1 e2 e4 e5 e6 e8 e9 e10 e11 e12 e13 : Option T} : lcL [7] (bName 7) tAll x_law_long_7 (rangeT 2 n) [] [e0, e1, e2, some (si s), e4, e5, e6, none, e8, e9, e10, e11, e12, e13] = .ok ((endsL s n).map ig) [e0, e1, e2, some (si s), e4, e5, e6, none, e8, e9, e10, e11, e12, e13] := by
  rw [lc_nat (fun k => si (endF s k)) (by omega) (fun k hk => by
    refine ⟨[e0, e1, e2, some (si s), e4, e5, e6, some (si (2 + k)), e8, e9, e10, e11, e12, e13], ?_, rfl⟩
    obtain ⟨a, ha⟩ : ∃ a, a = 2 + (k : Int) := ⟨_, rfl⟩
    rw [← ha]
    have q1 : oMul (.int a) (.int a) = some (.int (a * a)) := mul_int (.inl (by omega))
    have q2 : oMul (.int s) (.int a) = some (.int (s * a)) := mul_int (.inl (by omega))
    have q3 := mod_int (i := a * a + s * a) (j := 7) (by decide)
    have q4 := mod_int (i := (a * a + s * a) % 7) (j := 2) (by decide)
    simp [x_law_long_7, q1, q2, q3, q4, endF])]
  congr 1
  unfold endsL rangeT
  rw [List.map_map, List.map_map]
  rfl
def ltr (k : Int) : Int × Int := (k, 1)
theorem lc_ltr {es : List Int} (hz : es.length ≤ 2000) {e0 e1 e2 e3 e4 e5 e6 e8 e9 e10 e11 e12 e13 : Option T} : lcL [7] (bName 7) tAll x_law_long_6 (es.map ig) [] [e0, e1, e2, e3, e4, e5, e6, none, e8, e9, e10, e11, e12, e13] = .ok ((es.map ltr).map lT) [e0, e1, e2, e3, e4, e5, e6, none, e8, e9, e10, e11, e12, e13] := by
  have := lcL_map (slots := [7]) (b := bName 7) (elt := x_law_long_6) (ρ := [e0, e1, e2, e3, e4, e5, e6, none, e8, e9, e10, e11, e12, e13]) (fun t => match t.d with | .int k => lT (ltr k) | _ => t) (its := es.map ig) (acc := []) (fun t ht => by
    obtain ⟨k, hk, rfl⟩ := List.mem_map.mp ht
    refine ⟨[e0, e1, e2, e3, e4, e5, e6, some (si k), e8, e9, e10, e11, e12, e13], [e0, e1, e2, e3, e4, e5, e6, some (si k), e8, e9, e10, e11, e12, e13], rfl, ?_, rfl⟩
    simp [x_law_long_6, lT, ltr]) (by simp; unfold lim; omega)
  rw [this]
  simp only [List.nil_append]
  congr 1
  rw [List.map_map, List.map_map]
  rfl
theorem lc_neg {w : Wd} (hw : w.length ≤ 400000) (h1 : ∀ p ∈ w, p.2 = 1) {e0 e1 e2 e3 e4 e5 e6 e8 e9 e10 e11 e12 : Option T} : lcL [7, 13] (bTup [7, 13]) tAll x_law_long_4 ((w.map lD).reverse.map .sh) [] [e0, e1, e2, e3, e4, e5, e6, none, e8, e9, e10, e11, e12, none] = .ok ((invW w).map lT) [e0, e1, e2, e3, e4, e5, e6, none, e8, e9, e10, e11, e12, none] := by
  have := lcL_map (slots := [7, 13]) (b := bTup [7, 13]) (elt := x_law_long_4) (ρ := [e0, e1, e2, e3, e4, e5, e6, none, e8, e9, e10, e11, e12, none]) (fun t => match t.d with | .tup [.int k, .int e] => lT (k, -e) | _ => t) (its := (w.map lD).reverse.map .sh) (acc := []) (fun t ht => by
    obtain ⟨d, hd, rfl⟩ := List.mem_map.mp ht
    obtain ⟨p, hp, rfl⟩ := List.mem_map.mp (List.mem_reverse.mp hd)
    refine ⟨[e0, e1, e2, e3, e4, e5, e6, some (si p.1), e8, e9, e10, e11, e12, some (si p.2)], [e0, e1, e2, e3, e4, e5, e6, some (si p.1), e8, e9, e10, e11, e12, some (si p.2)], rfl, ?_, rfl⟩
    have := h1 p hp
    simp [x_law_long_4, lD, lT, this]) (by simp; unfold lim; omega)
  rw [this]
  simp only [List.nil_append]
  congr 1
  unfold invW
  rw [← List.map_reverse, List.map_map, List.map_map, List.map_map]
  rfl
/-! ### one letter more at one end -/
def sideW (side : Int) (es : List Int) : Wd := if side = 0 then (1, 1) :: es.map ltr else ((1, 1) :: es.map ltr).reverse
theorem sideW_one (side : Int) (es : List Int) : ∀ p ∈ sideW side es, p.2 = 1 := fun p hp => by
  have : p ∈ (1, 1) :: es.map ltr := by
    unfold sideW at hp
    split at hp
    · exact hp
    · exact List.mem_reverse.mp hp
  rcases List.mem_cons.mp this with rfl | q
  · rfl
  · obtain ⟨k, _, rfl⟩ := List.mem_map.mp q
    rfl
theorem sideW_len (side : Int) (es : List Int) : (sideW side es).length = es.length + 1 := by unfold sideW; split <;> simp
def SidOk (side : Int) (us : List T) (es : List Int) : Prop := Prog 2 (dl us) ∧ us.length = 2 + es.length ∧ (dl us)[0]? = some (.tup [.str "maker", .int 0]) ∧ (dl us)[1]? = some (.tup [.str "maker", .int 1]) ∧ lastW (dl us) = sideW side es
theorem SidOk.snoc {side : Int} (hs : side = 0 ∨ side = 1) {us : List T} {es : List Int} (h : SidOk side us es) {e : Int} (he : e = 0 ∨ e = 1) {u : T} (hu : u = if side = 0 then .ot [.sh (.str "then"), si (es.length + 1), si e] else .ot [.sh (.str "then"), si e, si (es.length + 1)]) : SidOk side (us ++ [u]) (es ++ [e]) := by
  obtain ⟨h1, h2, h3, h4, h5⟩ := h
  have hL := dlen us
  have hlast := lastW_at (l := dl us) (by omega)
  have hw : (wrdL (dl us)).getD e.toNat [] = [(e, 1)] := by
    rcases he with rfl | rfl
    · exact wrd_maker h3
    · exact wrd_maker h4
  have hi : ((es.length : Int) + 1).toNat = (dl us).length - 1 := by omega
  have hp : Prog 2 (dl (us ++ [u])) := by
    rw [dl_app]
    refine h1.snoc ?_
    rw [hu]
    split
    · exact step3 (by rw [hL]; omega)
    · exact step3 (by rw [hL]; omega)
  refine ⟨hp, by simp; omega, ?_, ?_, ?_⟩
  · rw [dl_app, List.getElem?_append_left (by omega)]; exact h3
  · rw [dl_app, List.getElem?_append_left (by omega)]; exact h4
  · rw [dl_app]
    show lastW (dl us ++ [u.d]) = _
    rw [lastW_snoc, hu]
    rcases hs with rfl | rfl
    · simp only [if_true, ot_d, dl_cons, sh_d, dl_nil, wrdS, hi, hw]
      rw [← hlast, h5]
      simp [sideW, ltr]
    · simp only [if_neg (show ¬ (1 : Int) = 0 by decide), ot_d, dl_cons, sh_d, dl_nil, wrdS, hi, hw]
      rw [← hlast, h5]
      simp [sideW, ltr]
theorem side_loop {side : Int} (hs : side = 0 ∨ side = 1) {es : List Int} (he : ∀ e ∈ es, e = 0 ∨ e = 1) (hz : es.length ≤ 2000) {e0 e1 e3 e6 e7 e8 e9 e10 e11 e12 e13 : Option T} :
    ∃ (us : List T) (j7 : Option T), (j7 = e7 ∨ ∃ x : Int, j7 = some (si x)) ∧ SidOk side us es ∧ forL (bName 7) b_law_long_5 ((iota es.length).map ig) [e0, e1, some (si side), e3, some (.sh (.lst (es.map .int))), some (.ol [.ot [.sh (.str "maker"), si 0], .ot [.sh (.str "maker"), si 1]]), e6, e7, e8, e9, e10, e11, e12, e13] = .nx [e0, e1, some (si side), e3, some (.sh (.lst (es.map .int))), some (.ol us), e6, j7, e8, e9, e10, e11, e12, e13] := by
  obtain ⟨ρ', e, us, j7, rfl, h1, hj⟩ := forN_inv (i := 7) (body := b_law_long_5) (its := (iota es.length).map ig) (ρ := [e0, e1, some (si side), e3, some (.sh (.lst (es.map .int))), some (.ol [.ot [.sh (.str "maker"), si 0], .ot [.sh (.str "maker"), si 1]]), e6, e7, e8, e9, e10, e11, e12, e13])
    (fun k ρ => ∃ (us : List T) (j7 : Option T), ρ = [e0, e1, some (si side), e3, some (.sh (.lst (es.map .int))), some (.ol us), e6, j7, e8, e9, e10, e11, e12, e13] ∧ SidOk side us (es.take k) ∧ (j7 = e7 ∨ ∃ x : Int, j7 = some (si x))) ⟨_, e7, rfl, by
      refine ⟨fun k hk => ?_, rfl, rfl, rfl, ?_⟩
      · have : k = 0 ∨ k = 1 := by simp at hk; omega
        rcases this with rfl | rfl
        · exact step0 (by omega)
        · exact step0 (by omega)
      · rcases hs with rfl | rfl <;> simp [sideW, lastW, wrdL, runL, wrdS], .inl rfl⟩ (by
      rintro k t0 ρ e ⟨us, j7, rfl, h1, _⟩
      rw [← rangeT_iota] at e
      obtain ⟨hk, rfl⟩ := rangeT_get e
      rw [Int.zero_add]
      have ek : es[k]? = some es[k] := List.getElem?_eq_getElem hk
      have et : es.take (k + 1) = es.take k ++ [es[k]] := by rw [List.take_add_one, ek]; rfl
      have hek := he es[k] (List.getElem_mem hk)
      have hul := h1.2.1
      rw [List.length_take, Nat.min_eq_left (by omega)] at hul
      have hlt : us.length < lim := by unfold lim; omega
      have a1 := atI_T es (i := (k : Int)) (by omega) (by omega)
      rw [Int.toNat_natCast, List.getD_eq_getElem?_getD, ek, Option.getD_some] at a1
      have hn := h1.snoc hs hek (u := _) rfl
      rw [← et, List.length_take, Nat.min_eq_left (by omega)] at hn
      generalize es[k] = x at a1 hn
      rcases hs with rfl | rfl
      · refine ⟨_, .inl ?_, _, some (si k), rfl, hn, .inr ⟨_, rfl⟩⟩
        simp [b_law_long_5, a1, hlt]
      · refine ⟨_, .inl ?_, _, some (si k), rfl, hn, .inr ⟨_, rfl⟩⟩
        simp [b_law_long_5, a1, hlt])
  rw [List.length_map, iota_len, List.take_length] at h1
  exact ⟨us, j7, hj, h1, e⟩
end
end Cl

set_option maxHeartbeats 2000000
namespace Cl
noncomputable section
open PySem L2 Z
/-! ### backs alone -/
def bkT (k : Int) : T := .ot [.sh (.str "back"), si (k - 1)]
def bksT (n : Nat) : List T := (rangeT 3 n).map fun t => match t.d with | .int k => bkT k | _ => t
theorem bksT_succ (n : Nat) : bksT (n + 1) = bksT n ++ [bkT (3 + n)] := by
  unfold bksT rangeT
  rw [List.range_succ]
  simp
theorem bksT_len (n : Nat) : (bksT n).length = n := by simp [bksT, rangeT_len]
def base3 : List T := [.ot [.sh (.str "maker"), si 0], .ot [.sh (.str "maker"), si 1], .ot [.sh (.str "then"), si 0, si 1]]
def W01 : Wd := [(0, 1), (1, 1)]
theorem backs_prog : ∀ n : Nat, Prog 2 (dl (base3 ++ bksT n)) ∧ lastW (dl (base3 ++ bksT n)) = if (n : Int) % 2 = 0 then W01 else invW W01
  | 0 => by
    refine ⟨fun k hk => ?_, ?_⟩
    · have : k = 0 ∨ k = 1 ∨ k = 2 := by simp [base3, bksT, rangeT] at hk; omega
      rcases this with rfl | rfl | rfl
      · exact step0 (by omega)
      · exact step0 (by omega)
      · exact step3 (by omega)
    · simp [base3, bksT, rangeT, lastW, wrdL, runL, wrdS, W01]
  | n + 1 => by
    obtain ⟨h1, h2⟩ := backs_prog n
    have hl : (dl (base3 ++ bksT n)).length = 3 + n := by rw [dlen]; simp [base3, bksT_len]; omega
    have e : dl (base3 ++ bksT (n + 1)) = dl (base3 ++ bksT n) ++ [.tup [.str "back", .int (((dl (base3 ++ bksT n)).length : Int) - 1)]] := by
      rw [hl, bksT_succ, ← List.append_assoc, dl_app]
      simp [bkT]
    refine ⟨?_, ?_⟩
    · rw [e]
      exact h1.snoc (step1 (by omega))
    · rw [e, lastW_bk (by omega), h2]
      by_cases c : (n : Int) % 2 = 0
      · have : ¬ (((n + 1 : Nat) : Int) % 2 = 0) := by omega
        rw [if_pos c, if_neg this]
      · have : ((n + 1 : Nat) : Int) % 2 = 0 := by omega
        rw [if_neg c, if_pos this, inv_inv]
theorem lc_backs {n : Nat} (hn : n ≤ 30000) {e0 e1 e2 e3 e4 e5 e6 e8 e9 e10 e11 e12 e13 : Option T} : lcL [7] (bName 7) tAll x_law_long_3 (rangeT 3 n) [] [e0, e1, e2, e3, e4, e5, e6, none, e8, e9, e10, e11, e12, e13] = .ok (bksT n) [e0, e1, e2, e3, e4, e5, e6, none, e8, e9, e10, e11, e12, e13] := by
  rw [lc_nat bkT (by omega) (fun k hk => by
    refine ⟨[e0, e1, e2, e3, e4, e5, e6, some (si (3 + k)), e8, e9, e10, e11, e12, e13], ?_, rfl⟩
    have os : ∀ a b : Int, oSub (.int a) (.int b) = some (.int (a - b)) := fun _ _ => rfl
    simp [x_law_long_3, os, bkT])]
  rfl
/-! ### the questions -/
theorem ask_loop {l b : T} {pl pb : List D} (hl : l.d = .lst pl) (hb : b.d = .lst pb) (p1 : Prog 2 pl) (p2 : Prog 2 pb) (z1 : pl.length ≤ 30000) (z2 : pb.length ≤ 30000) (w2 : (lastW pb).length = 2) {sh : T} (hs : sh.d = .lst ((lastW pb).map lD)) {xs : List Int} (hx : ∀ x ∈ xs, x ≤ 200000) {e0 e1 e2 e3 e4 e7 e10 e11 e12 e13 : Option T} :
    ∃ j10, forL (bName 10) b_law_long_2 (xs.map ig) [e0, e1, e2, e3, e4, some l, some (wT (lastW pl)), e7, some b, some sh, e10, e11, e12, e13] = .nx [e0, e1, e2, e3, e4, some l, some (wT (lastW pl)), e7, some b, some sh, j10, e11, e12, e13] := by
  obtain ⟨ρ', e, j10, rfl⟩ := forN_inv (i := 10) (body := b_law_long_2) (its := xs.map ig) (ρ := [e0, e1, e2, e3, e4, some l, some (wT (lastW pl)), e7, some b, some sh, e10, e11, e12, e13])
    (fun k ρ => ∃ (j10 : Option T), ρ = [e0, e1, e2, e3, e4, some l, some (wT (lastW pl)), e7, some b, some sh, j10, e11, e12, e13]) ⟨e10, rfl⟩ (by
      rintro k t0 ρ e ⟨j10, rfl⟩
      rw [List.getElem?_map] at e
      obtain ⟨x, ex, rfl⟩ := Option.map_eq_some_iff.mp e
      have hx' := hx x (List.mem_of_getElem? ex)
      have a1 := length_ok p1 z1
      have a2 := length_ok p2 z2
      rw [lastLen_w p1] at a1
      rw [lastLen_w p2, w2] at a2
      have b1 := law_written_ok p1 z1 hx'
      have b2 := law_written_ok p2 z2 hx'
      have s1 := same_int (lastW pl).length
      have s2 := same_int 2
      refine ⟨_, .inl ?_, some (si x), rfl⟩
      simp [wT] at a2 b1 b2
      simp [b_law_long_2, wT, hl, hb, hs, a1, a2, b1, b2, s1, s2])
  exact ⟨j10, e⟩
/-! ### doublings and backs -/
theorem lastLen_snoc (l : List D) (d : D) : lastLen (l ++ [d]) = lenS (lenL l) d := by unfold lastLen; rw [lenL_snoc]; simp
theorem lastLen_get {l : List D} (h : 0 < l.length) : (lenL l).getD ((l.length : Int) - 1).toNat 0 = lastLen l := by
  have : ((l.length : Int) - 1).toNat = l.length - 1 := by omega
  unfold lastLen
  rw [last_at _ _ (by rw [lenL_len]; exact h), lenL_len, this]
theorem double_loop {s : Int} (h0 : 0 ≤ s) (h1 : s < 7) {N : Nat} (hN : N ≤ 30000) {e0 e1 e2 e4 e5 e6 e7 e8 e9 e10 e13 : Option T} :
    ∃ (us : List T) (j7 : Option T), Prog 1 (dl us) ∧ us.length = N + 1 ∧ lastLen (dl us) = 2 ^ (((N : Int) + s) / 7).toNat ∧ forL (bName 7) b_law_long_1 (rangeT 1 N) [e0, e1, e2, some (si s), e4, e5, e6, e7, e8, e9, e10, some (.ol [.ot [.sh (.str "maker"), si 0]]), some (si 1), e13] = .nx [e0, e1, e2, some (si s), e4, e5, e6, j7, e8, e9, e10, some (.ol us), some (si (lastLen (dl us))), e13] := by
  obtain ⟨ρ', e, us, j7, rfl, g1, g2, g3⟩ := forN_inv (i := 7) (body := b_law_long_1) (its := rangeT 1 N) (ρ := [e0, e1, e2, some (si s), e4, e5, e6, e7, e8, e9, e10, some (.ol [.ot [.sh (.str "maker"), si 0]]), some (si 1), e13])
    (fun k ρ => ∃ (us : List T) (j7 : Option T), ρ = [e0, e1, e2, some (si s), e4, e5, e6, j7, e8, e9, e10, some (.ol us), some (si (lastLen (dl us))), e13] ∧ Prog 1 (dl us) ∧ us.length = k + 1 ∧ lastLen (dl us) = 2 ^ (((k : Int) + s) / 7).toNat) ⟨_, e7, rfl, fun k hk => by
      have : k = 0 := by simp at hk; omega
      subst this
      exact step0 (by omega), rfl, by
      have : ((((0 : Nat) : Int) + s) / 7).toNat = 0 := by omega
      rw [this]
      simp [lastLen, lenL, runL, lenS]⟩ (by
      rintro k t0 ρ e ⟨us, j7, rfl, g1, g2, g3⟩
      obtain ⟨hk, rfl⟩ := rangeT_get e
      have hL := dlen us
      have hz : us.length < lim := by unfold lim; omega
      obtain ⟨a, ha⟩ : ∃ a, a = 1 + (k : Int) := ⟨_, rfl⟩
      rw [← ha]
      have hsub : oSub (.int a) (.int 1) = some (.int (a - 1)) := rfl
      obtain ⟨c, hc⟩ : ∃ c, c = a - 1 := ⟨_, rfl⟩
      rw [← hc] at hsub
      have md := mod_int (i := a + s) (j := 7) (by decide)
      have hcl : c = ((dl us).length : Int) - 1 := by omega
      have hgl := lastLen_get (l := dl us) (by omega)
      rw [← hcl] at hgl
      obtain ⟨L, hLe⟩ : ∃ L, L = lastLen (dl us) := ⟨_, rfl⟩
      have hmul : oMul (.int L) (.int 2) = some (.int (L * 2)) := mul_int (small_r ⟨by decide, by decide⟩)
      by_cases q : (a + s) % 7 = 0
      · have e1 : lastLen (dl (us ++ [.ot [.sh (.str "then"), si c, si c]])) = L * 2 := by
          rw [dl_app]
          show lastLen (dl us ++ [.tup [.str "then", .int c, .int c]]) = _
          rw [lastLen_snoc]
          simp only [lenS]
          rw [hgl, ← hLe]
          omega
        refine ⟨_, .inl ?_, us ++ [.ot [.sh (.str "then"), si c, si c]], some (si a), rfl, ?_, by simp; omega, ?_⟩
        · rw [e1, ← hLe]
          rw [q] at md
          simp [b_law_long_1, md, hsub, hz, hmul]
        · rw [dl_app]
          exact g1.snoc (step3 (by omega))
        · rw [e1, hLe, g3]
          have : ((((k + 1 : Nat) : Int) + s) / 7).toNat = (((k : Int) + s) / 7).toNat + 1 := by omega
          rw [this, Int.pow_succ]
      · have e1 : lastLen (dl (us ++ [.ot [.sh (.str "back"), si c]])) = L := by
          rw [dl_app]
          show lastLen (dl us ++ [.tup [.str "back", .int c]]) = _
          rw [lastLen_snoc]
          simp only [lenS, if_neg ne_mb]
          rw [hgl, ← hLe]
        refine ⟨_, .inl ?_, us ++ [.ot [.sh (.str "back"), si c]], some (si a), rfl, ?_, by simp; omega, ?_⟩
        · rw [e1, ← hLe]
          simp [b_law_long_1, md, q, hsub, hz]
        · rw [dl_app]
          exact g1.snoc (step1 (by omega))
        · rw [e1, hLe, g3]
          have : ((((k + 1 : Nat) : Int) + s) / 7).toNat = (((k : Int) + s) / 7).toNat := by omega
          rw [this])
  rw [rangeT_len] at g2 g3
  exact ⟨us, j7, g1, g2, g3, e⟩
end
end Cl

set_option maxHeartbeats 2000000
namespace Cl
noncomputable section
open PySem L2 Z
def m_long2 : SM := (mSeq (mSet 8 (eOp eAddT (eLst (eCons (eTup (eCons (eP (pC (.str "maker"))) (eCons (eP (pC (.int 0))) eNil))) (eCons (eTup (eCons (eP (pC (.str "maker"))) (eCons (eP (pC (.int 1))) eNil))) (eCons (eTup (eCons (eP (pC (.str "then"))) (eCons (eP (pC (.int 0))) (eCons (eP (pC (.int 1))) eNil)))) eNil)))) (eLC [7] (iR2 (eCons (eP (pC (.int 3))) (eCons (eV 1) eNil))) (bName 7) tAll x_law_long_3))) (mSeq (mSet 9 (eOp ixT (eLst (eCons (eLst (eCons (eTup (eCons (eP (pC (.int 0))) (eCons (eP (pC (.int 1))) eNil))) (eCons (eTup (eCons (eP (pC (.int 1))) (eCons (eP (pC (.int 1))) eNil))) eNil))) (eCons (eLst (eCons (eTup (eCons (eP (pC (.int 1))) (eCons (eP (pUn oNeg (pC (.int 1)))) eNil))) (eCons (eTup (eCons (eP (pC (.int 0))) (eCons (eP (pUn oNeg (pC (.int 1)))) eNil))) eNil))) eNil))) (eP (pOp oMod (pCB (o1 oInt) (aCons (pOp oSub (pV 1) (pC (.int 3))) aNil)) (pC (.int 2)))))) (mSeq (mFor (iE (eLst (eCons (eP (pC (.int 2000))) (eCons (eP (pCB (o1 oLen) (aCons (pV 6) aNil))) (eCons (eP (pOp oSub (pCB (o1 oLen) (aCons (pV 6) aNil)) (pC (.int 1)))) eNil))))) (bName 10) b_law_long_2) (mSeq (mPar 11 12 (eCons (eLst (eCons (eTup (eCons (eP (pC (.str "maker"))) (eCons (eP (pC (.int 0))) eNil))) eNil)) (eCons (eP (pC (.int 1))) eNil))) (mSeq (mFor (iR2 (eCons (eP (pC (.int 1))) (eCons (eV 1) eNil))) (bName 7) b_law_long_1) (mRet (eP (pAndV (pCall 2 (F_law_same 6) (aCons (pCall 1 F_program_length (aCons (pV 11) aNil)) (aCons (pV 12) aNil))) (pCall 2 (F_law_same 6) (aCons (pCall 2 F_law_told (aCons (pV 11) (aCons (pC (.int 100000)) aNil))) (aCons (pTup (aCons (pC (.str "refused")) (aCons (pV 12) aNil))) aNil)))))))))))
theorem m_long2_eq : m_law_long = (mSeq (mUnp (bTup [1, 2, 3]) (eTup (eCons (eOp (oS oSub) (eP (pC (.int 24000))) (eCallI 2 0 F_law_pick (eCons (eP (pC (.int 2))) eNil))) (eCons (eCallI 2 0 F_law_pick (eCons (eP (pC (.int 2))) eNil)) (eCons (eCallI 2 0 F_law_pick (eCons (eP (pC (.int 7))) eNil)) eNil))))) (mSeq (mSet 4 (eLC [7] (iR2 (eCons (eP (pC (.int 2))) (eCons (eP (pOp oSub (pC (.int 2000)) (pV 3))) eNil))) (bName 7) tAll x_law_long_7)) (mSeq (mPar 5 6 (eCons (eLst (eCons (eTup (eCons (eP (pC (.str "maker"))) (eCons (eP (pC (.int 0))) eNil))) (eCons (eTup (eCons (eP (pC (.str "maker"))) (eCons (eP (pC (.int 1))) eNil))) eNil))) (eCons (eFz (eOp eAddT (eLst (eCons (eTup (eCons (eP (pC (.int 1))) (eCons (eP (pC (.int 1))) eNil))) eNil)) (eLC [7] (iE (eV 4)) (bName 7) tAll x_law_long_6))) eNil))) (mSeq (mFor (iR1 (eCons (eP (pCB (o1 oLen) (aCons (pV 4) aNil))) eNil)) (bName 7) b_law_long_5) (mSeq (mAppG 5 (eTup (eCons (eP (pC (.str "back"))) (eCons (eP (pOp oSub (pCB (o1 oLen) (aCons (pV 5) aNil)) (pC (.int 1)))) eNil)))) (mSeq (mIf (eT (pB (pOp oEq (pV 2) (pC (.int 1))))) (mSet 6 (eFz (eRevL (vV 6)))) mNil) (mSeq (mSet 6 (eFz (eLC [7, 13] (iE (eRevL (vV 6))) (bTup [7, 13]) tAll x_law_long_4))) m_long2))))))) := rfl
theorem long1 {t : T} (ht : Pool t) : ∃ (t' : T) (n' : Nat) (side s : Int) (te : T) (us : List T) (j7 : Option T), Pool t' ∧ 23996 ≤ n' ∧ n' ≤ 23997 ∧ 0 ≤ s ∧ s < 7 ∧ Prog 2 (dl us) ∧ us.length ≤ 3000 ∧ (lastW (dl us)).length ≤ 3000 ∧ (j7 = none ∨ ∃ x : Int, j7 = some (si x)) ∧
    m_law_long [some t, none, none, none, none, none, none, none, none, none, none, none, none, none] = m_long2 [some t', some (si (3 + n')), some (si side), some (si s), some te, some (.ol us), some (wT (lastW (dl us))), j7, none, none, none, none, none, none] := by
  obtain ⟨t1, a, g1, a0, a1, _, e1⟩ := pick_ok (m := 2) ht (by decide)
  obtain ⟨t2, side, g2, s0, s1, _, e2⟩ := pick_ok (m := 2) g1 (by decide)
  obtain ⟨t3, s, g3, z0, z1, _, e3⟩ := pick_ok (m := 7) g2 (by decide)
  have hs : side = 0 ∨ side = 1 := by omega
  obtain ⟨N, hN⟩ : ∃ N : Nat, 2000 - s = 2 + N := ⟨(1998 - s).toNat, by omega⟩
  obtain ⟨n', hn'⟩ : ∃ n' : Nat, 24000 - a = 3 + n' := ⟨(23997 - a).toNat, by omega⟩
  have hsub1 : oSub (.int 24000) (.int a) = some (.int (3 + n')) := by rw [← hn']; rfl
  have hsub2 : oSub (.int 2000) (.int s) = some (.int (2 + N)) := by rw [← hN]; rfl
  have hN2 : (2 + (N : Int) - 2).toNat = N := by omega
  have b2 : InR 2 := InR.of (by decide) (by decide)
  have bN : InR (2 + (N : Int)) := InR.of (by omega) (by omega)
  have l1 := lc_ends z0 z1 (n := N) (by omega) (e0 := some t3) (e1 := some (si (3 + n'))) (e2 := some (si side)) (e4 := none) (e5 := none) (e6 := none) (e8 := none) (e9 := none) (e10 := none) (e11 := none) (e12 := none) (e13 := none)
  have hel : (endsL s N).length = N := by simp [endsL]
  obtain ⟨es, hes⟩ : ∃ es, es = endsL s N := ⟨_, rfl⟩
  have h01 : ∀ e ∈ es, e = 0 ∨ e = 1 := by rw [hes]; exact ends_01
  rw [← hes] at l1 hel
  have l2 := lc_ltr (es := es) (by omega) (e0 := some t3) (e1 := some (si (3 + n'))) (e2 := some (si side)) (e3 := some (si s)) (e4 := some (.sh (.lst (es.map .int)))) (e5 := none) (e6 := none) (e8 := none) (e9 := none) (e10 := none) (e11 := none) (e12 := none) (e13 := none)
  have hadd : eAddT (.ol [lT (1, 1)]) (.ol ((es.map ltr).map lT)) = some (.ol ([lT (1, 1)] ++ (es.map ltr).map lT)) := addT_lst (els_ol _) (els_ol _) (by simp; unfold lim; omega)
  obtain ⟨us, j7, hj7, ho, l3⟩ := side_loop hs h01 (by omega) (e0 := some t3) (e1 := some (si (3 + n'))) (e3 := some (si s)) (e6 := some (wT ((1, 1) :: es.map ltr))) (e7 := none) (e8 := none) (e9 := none) (e10 := none) (e11 := none) (e12 := none) (e13 := none)
  obtain ⟨h1, h2, _, _, h5⟩ := ho
  have hL := dlen us
  have bes := inR_nat (n := es.length) (by omega)
  have hz : us.length < lim := by unfold lim; omega
  have os : ∀ a b : Int, oSub (.int a) (.int b) = some (.int (a - b)) := fun _ _ => rfl
  obtain ⟨W, hW⟩ : ∃ W, W = sideW side es := ⟨_, rfl⟩
  have hWl := sideW_len side es
  have hW1 := sideW_one side es
  rw [← hW] at hWl hW1 h5
  obtain ⟨us', hus⟩ : ∃ us', us' = us ++ [.ot [.sh (.str "back"), si ((us.length : Int) - 1)]] := ⟨_, rfl⟩
  have hd : dl us' = dl us ++ [.tup [.str "back", .int (((dl us).length : Int) - 1)]] := by rw [hus, dl_app, hL]; simp
  have hl : lastW (dl us') = invW W := by rw [hd, lastW_bk (by omega), h5]
  have hdl0 : dl (es.map (lT ∘ ltr)) = es.map (lD ∘ ltr) := by rw [dl_eq, List.map_map]; rfl
  have hdl1 := dl_lT (invW W)
  have hdl2 : dl (es.map (T.sh ∘ lD ∘ ltr)) = es.map (lD ∘ ltr) := by rw [dl_eq, List.map_map]; rfl
  refine ⟨t3, n', side, s, .sh (.lst (es.map .int)), us', j7, g3, by omega, by omega, z0, z1, ?_, by rw [hus]; simp; omega, by rw [hl, inv_len]; omega, hj7, ?_⟩
  · rw [hd]
    exact h1.snoc (step1 (by omega))
  · rw [hl, hus, m_long2_eq]
    have l4 := @lc_neg W (by omega) hW1
    rcases hs with rfl | rfl
    · have : W = (1, 1) :: es.map ltr := by rw [hW]; simp [sideW]
      rw [this] at l4 hdl1 ⊢
      simp [lT, lD, wT] at l2 hadd l3 l4 hdl1
      rcases hj7 with rfl | ⟨_, rfl⟩ <;> simp [e1, e2, e3, hsub1, hsub2, hN2, b2, bN, l1, l2, hadd, hdl0, bes, l3, hz, os, wT, lT, lD, l4, hdl1, hdl2, dl_revX, dl_shlD]
    · have : W = ((1, 1) :: es.map ltr).reverse := by rw [hW]; simp [sideW]
      rw [this] at l4 hdl1 ⊢
      simp [lT, lD, wT] at l2 hadd l3 l4 hdl1
      rcases hj7 with rfl | ⟨_, rfl⟩ <;> simp [e1, e2, e3, hsub1, hsub2, hN2, b2, bN, l1, l2, hadd, hdl0, bes, l3, hz, os, wT, lT, lD, l4, hdl1, hdl2, dl_revX, dl_shlD]
end
end Cl

set_option maxHeartbeats 2000000
namespace Cl
noncomputable section
open PySem L2 Z
def b_law_1 : SM := (mIf (eNot (eB (eCallI 5 1 F_law_holds (eCons (eV 2) (eCons (eV 3) (eCons (eV 11) (eCons (eV 12) eNil))))))) (mRet (eP (pC (.bl false)))) mNil)
def m_lawR : SM := (mSeq (mSet 2 (eCallI 1 1 F_law_places eNil)) (mSeq (mSet 3 (eFz (eOp eAddT (eCallI 2 1 F_law_group (eCons (eV 2) eNil)) (eLst (eCons (eCallI 2 1 F_law_any (eCons (eV 2) eNil)) eNil))))) (mSeq (mSet 3 (eFz (eSl (vV 3) oNo (oYes (pC (.int 40)))))) (mSeq (mPar 4 5 (eCons (eP (pCB (o1 oReprV) (aCons (pV 3) aNil))) (eCons (eP (pCB (o1 oLen) (aCons (pV 3) aNil))) eNil))) (mSeq (mSet 6 (eOp ixT (eCallI 4 1 F_law_program (eCons (eV 5) (eCons (eOp ixT (eLst (eCons (eP (pC (.int 1))) (eCons (eP (pC (.int 2))) (eCons (eP (pC (.int 3))) (eCons (eP (pC (.int 8))) (eCons (eP (pC (.int 20))) (eCons (eP (pC (.int 40))) eNil))))))) (eCallI 2 1 F_law_pick (eCons (eP (pC (.int 6))) eNil))) (eCons (eP (pC (.int 400))) eNil)))) (eP (pC (.int 0))))) (mSeq (mSet 7 (eSlT (eV 6) (eCallI 2 1 F_law_pick (eCons (eP (pOp oAdd (pCB (o1 oLen) (aCons (pV 6) aNil)) (pC (.int 1)))) eNil)))) (mSeq (mSet 8 (eOp ixT (eLst (eCons (eP (pC (.int 1))) (eCons (eP (pC (.int 2))) (eCons (eOp eAddT (eP (pC (.int 1))) (eCallI 2 1 F_law_pick (eCons (eP (pC (.int 60))) eNil))) (eCons (eOp eAddT (eP (pC (.int 40))) (eOp (oS oMul) (eP (pC (.int 6))) (eCallI 2 1 F_law_pick (eCons (eP (pC (.int 60))) eNil)))) eNil))))) (eCallI 2 1 F_law_pick (eCons (eP (pC (.int 4))) eNil)))) (mSeq (mUnp (bTup [9, 10]) (eCallI 3 1 F_law_exact (eCons (eV 5) (eCons (eV 8) eNil)))) (mSeq (mFor (iE (eCallI 2 1 F_law_mixed (eCons (eLst (eCons (eTup (eCons (eV 6) (eCons (eCall 1 F_law_word (eCons (eV 6) eNil)) eNil))) (eCons (eTup (eCons (eV 7) (eCons (eCall 1 F_law_word (eCons (eV 7) eNil)) eNil))) (eCons (eTup (eCons (eV 9) (eCons (eV 10) eNil))) (eCons (eTup (eCons (eLst eNil) (eCons (eLst eNil) eNil))) eNil))))) eNil))) (bTup [11, 12]) b_law_1) (mSeq (mIf (eNot (eB (eCallI 3 1 F_law_great (eCons (eV 2) (eCons (eV 3) eNil))))) (mRet (eP (pC (.bl false)))) mNil) (mSeq (mSet 13 (eCallI 2 1 F_law_pick (eCons (eP (pC (.int 40))) eNil))) (mSeq (mIf (eT (pB (pOp oEq (pV 13) (pC (.int 7))))) (mSeq (mUnp (bTup [9, 10]) (eCallI 3 1 F_law_exact (eCons (eV 5) (eCons (eOp eAddT (eP (pC (.int 99999))) (eCallI 2 1 F_law_pick (eCons (eP (pC (.int 3))) eNil))) eNil)))) (mIf (eT (qOr (qNot (pB (pCall 3 F_law_written (aCons (pV 9) (aCons (pV 10) (aCons (pC (.int 100000)) aNil)))))) (qNot (pB (pCall 2 (F_law_same 6) (aCons (pCall 1 F_program_length (aCons (pV 9) aNil)) (aCons (pCB (o1 oLen) (aCons (pV 10) aNil)) aNil))))))) (mRet (eP (pC (.bl false)))) mNil)) mNil) (mSeq (mIf (eAnd (eT (pB (pOp oEq (pV 13) (pC (.int 11))))) (eNot (eB (eCallI 1 1 F_law_long eNil)))) (mRet (eP (pC (.bl false)))) mNil) (mRet (eP (pOp oEqS (pCB (o1 oReprV) (aCons (pV 3) aNil)) (pV 4)))))))))))))))))
def m_law (ns : List Int) : SM := mSeq (mSet 1 (eCallS F_law_stream ns)) m_lawR
def F_law : List Int → FOut := mFunS 14 m_law
theorem long_ok {t : T} (ht : Pool t) : ∃ t', Pool t' ∧ F_law_long [t] = .ok (.sh (.bl true)) [t'] := by
  obtain ⟨t', n', side, s, te, us, j7, g, hn0, hn1, s0, s1, hp, hz, hw, hj7, e⟩ := long1 ht
  obtain ⟨bp, bw⟩ := backs_prog n'
  have hL := dlen us
  have hLb : (dl (base3 ++ bksT n')).length = 3 + n' := by rw [dlen]; simp [base3, bksT_len]; omega
  obtain ⟨r, hr, hr2, sh, hsh, hshd⟩ : ∃ r : Int, oMod (.int (n' : Int)) (.int 2) = some (.int r) ∧ (r = 0 ∨ r = 1) ∧ ∃ sh : T, atI [T.ol [.ot [si 0, si 1], .ot [si 1, si 1]], .ol [.ot [si 1, si (-1)], .ot [si 0, si (-1)]]] r = some sh ∧ sh.d = .lst ((lastW (dl (base3 ++ bksT n'))).map lD) := by
    rw [bw]
    have md := mod_int (i := (n' : Int)) (j := 2) (by decide)
    have : (n' : Int) % 2 = 0 ∨ (n' : Int) % 2 = 1 := by omega
    rcases this with q | q
    · exact ⟨0, by rw [md, q], .inl rfl, _, rfl, by rw [if_pos q]; simp [W01, lD]⟩
    · refine ⟨1, by rw [md, q], .inr rfl, _, rfl, ?_⟩
      rw [if_neg (by omega)]
      simp [W01, lD, invW]
  have w2 : (lastW (dl (base3 ++ bksT n'))).length = 2 := by rw [bw]; split <;> simp [W01, inv_len]
  have os : ∀ a b : Int, oSub (.int a) (.int b) = some (.int (a - b)) := fun _ _ => rfl
  have l1 := lc_backs (n := n') (by omega) (e0 := some t') (e1 := some (si (3 + n'))) (e2 := some (si side)) (e3 := some (si s)) (e4 := some te) (e5 := some (.ol us)) (e6 := some (wT (lastW (dl us)))) (e8 := none) (e9 := none) (e10 := none) (e11 := none) (e12 := none) (e13 := none)
  have b3 : InR 3 := InR.of (by decide) (by decide)
  have b1 : InR 1 := InR.of (by decide) (by decide)
  have bn : InR (3 + (n' : Int)) := InR.of (by omega) (by omega)
  have q3 : (3 + (n' : Int) - 3).toNat = n' := by omega
  have q1 : (3 + (n' : Int) - 1).toNat = n' + 2 := by omega
  have s3 : oSub (.int (3 + (n' : Int))) (.int 3) = some (.int n') := by rw [os]; congr 2; omega
  have hadd : eAddT (.ol base3) (.ol (bksT n')) = some (.ol (base3 ++ bksT n')) := addT_lst (els_ol _) (els_ol _) (by simp [base3, bksT_len]; unfold lim; omega)
  obtain ⟨xs, hxs⟩ : ∃ xs : List Int, xs = [2000, ((lastW (dl us)).length : Int), ((lastW (dl us)).length : Int) - 1] := ⟨_, rfl⟩
  obtain ⟨j10, ask⟩ := ask_loop (l := .ol us) (b := .ol (base3 ++ bksT n')) rfl rfl hp bp (by omega) (by omega) w2 hshd (xs := xs) (fun x hx => by
    rw [hxs] at hx
    simp at hx
    omega) (e0 := some t') (e1 := some (si (3 + n'))) (e2 := some (si side)) (e3 := some (si s)) (e4 := some te) (e7 := j7) (e10 := none) (e11 := none) (e12 := none) (e13 := none)
  rw [hxs] at ask
  obtain ⟨vs, k7, dp, dz, dL, l2⟩ := double_loop s0 s1 (N := n' + 2) (by omega) (e0 := some t') (e1 := some (si (3 + n'))) (e2 := some (si side)) (e4 := some te) (e5 := some (.ol us)) (e6 := some (wT (lastW (dl us)))) (e7 := j7) (e8 := some (.ol (base3 ++ bksT n'))) (e9 := some sh) (e10 := j10) (e13 := none)
  have hLv := dlen vs
  have hbig : (100000 : Int) < lastLen (dl vs) := by
    have q : 20 ≤ ((((n' + 2 : Nat) : Int) + s) / 7).toNat := by omega
    have := Nat.pow_le_pow_right (n := 2) (by decide) q
    rw [dL]
    have h2 : ((2 ^ ((((n' + 2 : Nat) : Int) + s) / 7).toNat : Nat) : Int) = (2 : Int) ^ ((((n' + 2 : Nat) : Int) + s) / 7).toNat := by simp
    omega
  have hlen := length_ok dp (by omega)
  have htd := law_told_no dp (by omega) (most := 100000) (by omega) hbig
  obtain ⟨L, hLe⟩ : ∃ L, L = lastLen (dl vs) := ⟨_, rfl⟩
  rw [← hLe] at l2 hlen htd
  have hsi := same_int L
  have hst := same_refl 6 (.tup [.str "refused", .int L]) (by simp [dep, depl]) (by simp [szOk, szOkl, so_refused])
  refine ⟨t', g, ?_⟩
  simp [base3] at hadd
  simp [wT, base3] at ask l1 l2 e
  rcases hj7 with rfl | ⟨_, rfl⟩ <;> simp [F_law_long, e, m_long2, b3, b1, bn, q3, q1, l1, base3, hadd, s3, hr, hsh, os, ask, l2, hlen, hsi, htd, hst, wT]
/-! ### the law -/
theorem rows_repr {n : Nat} {rows : List (List Int)} (h : MkOk n rows) : ∃ z, oReprV (.lst (rows.map D.ints)) = some (.str z) := by
  have hk : okl 3 ((rows.map D.ints).length * (1500 + 1)) (rows.map D.ints) := okl_all fun d hd => by
    obtain ⟨r, hr, rfl⟩ := List.mem_map.mp hd
    have hl := (h.2.2 r hr).len
    have hn := h.1
    have h1 := okl_ints (k := 2) (turn_sm (h.2.2 r hr) (by omega)) (by decide)
    exact (h1.mono (by omega)).lst
  have hm := h.2.1
  exact ⟨_, repr_lst (hk.mono (w := (rows.map D.ints).length * (1500 + 1)) (v := 100000) (by simp; omega)) (by decide) (by decide)⟩
def CaseOk (m : Nat) (d : D) : Prop := ∃ l, d = .tup [.lst l, .lst ((lastW l).map lD)] ∧ Prog m l ∧ l.length ≤ 300 ∧ lastLen l ≤ 1000
theorem cases_loop {n : Nat} {rows : List (List Int)} (h : MkOk n rows) {t : T} (ht : Pool t) {fs : List D} (hf : ∀ d ∈ fs, CaseOk rows.length d) {e0 e4 e5 e6 e7 e8 e9 e10 e11 e12 e13 : Option T} :
    ∃ (t' : T) (j11 j12 : Option T), Pool t' ∧ forL (bTup [11, 12]) b_law_1 (fs.map .sh) [e0, some t, some (si n), some (.sh (.lst (rows.map D.ints))), e4, e5, e6, e7, e8, e9, e10, e11, e12, e13] = .nx [e0, some t', some (si n), some (.sh (.lst (rows.map D.ints))), e4, e5, e6, e7, e8, e9, e10, j11, j12, e13] := by
  obtain ⟨ρ', e, t', j11, j12, rfl, h1⟩ := forL_inv (b := bTup [11, 12]) (body := b_law_1) (its := fs.map .sh) (ρ := [e0, some t, some (si n), some (.sh (.lst (rows.map D.ints))), e4, e5, e6, e7, e8, e9, e10, e11, e12, e13])
    (fun k ρ => ∃ (t' : T) (j11 j12 : Option T), ρ = [e0, some t', some (si n), some (.sh (.lst (rows.map D.ints))), e4, e5, e6, e7, e8, e9, e10, j11, j12, e13] ∧ Pool t')
    ⟨t, e11, e12, rfl, ht⟩ (by
      rintro k t0 ρ e ⟨t1, j11, j12, rfl, h1⟩
      rw [List.getElem?_map] at e
      obtain ⟨d, ed, rfl⟩ := Option.map_eq_some_iff.mp e
      obtain ⟨l, rfl, hl, hz, hL⟩ := hf d (List.mem_of_getElem? ed)
      obtain ⟨t2, h2, e2⟩ := holds_ok h hl hz h1 hL
      refine ⟨[e0, some t1, some (si n), some (.sh (.lst (rows.map D.ints))), e4, e5, e6, e7, e8, e9, e10, some (.sh (.lst l)), some (wT (lastW l)), e13], [e0, some t2, some (si n), some (.sh (.lst (rows.map D.ints))), e4, e5, e6, e7, e8, e9, e10, some (.sh (.lst l)), some (wT (lastW l)), e13], rfl, .inl ?_, t2, _, _, rfl, h2⟩
      simp [wT] at e2
      simp [b_law_1, wT, e2])
  exact ⟨t', j11, j12, h1, e⟩
theorem drawn_len {m : Nat} {most : Int} {l : List D} (h : Drawn m most l) {k : Nat} (hk : k < l.length) : (((wrdL l).getD k []).length : Int) ≤ most := by
  rw [← len_wrd h.1 k hk]
  have := h.at (i := (k : Int)) (by omega) (by omega)
  simpa using this
theorem drawn_take {m : Nat} {most : Int} {l : List D} (h : Drawn m most l) (k : Nat) : Drawn m most (l.take k) := ⟨h.1.take k, fun x hx => by
  have : lenL (l.take k) = (lenL l).take k := (runL_take l k).symm
  rw [this] at hx
  exact h.2 x (List.mem_of_mem_take hx)⟩
theorem drawn_last {m : Nat} {most : Int} {l : List D} (h : Drawn m most l) (hm : 0 ≤ most) : lastLen l ≤ most := by
  unfold lastLen
  cases q : (lenL l).getLast? with
  | none => exact hm
  | some x => exact h.2 x (List.mem_of_getLast? q)
theorem drawn_word {m : Nat} {l : List D} (h : Drawn m 400 l) (hz : l.length ≤ 300) : F_law_word [.sh (.lst l)] = .ok (wT (lastW l)) [.sh (.lst l)] := word_w h.1 (by omega) fun k hk => by
  have := drawn_len h hk
  omega
def m_tail : SM := (mSeq (mIf (eT (pB (pOp oEq (pV 13) (pC (.int 7))))) (mSeq (mUnp (bTup [9, 10]) (eCallI 3 1 F_law_exact (eCons (eV 5) (eCons (eOp eAddT (eP (pC (.int 99999))) (eCallI 2 1 F_law_pick (eCons (eP (pC (.int 3))) eNil))) eNil)))) (mIf (eT (qOr (qNot (pB (pCall 3 F_law_written (aCons (pV 9) (aCons (pV 10) (aCons (pC (.int 100000)) aNil)))))) (qNot (pB (pCall 2 (F_law_same 6) (aCons (pCall 1 F_program_length (aCons (pV 9) aNil)) (aCons (pCB (o1 oLen) (aCons (pV 10) aNil)) aNil))))))) (mRet (eP (pC (.bl false)))) mNil)) mNil) (mSeq (mIf (eAnd (eT (pB (pOp oEq (pV 13) (pC (.int 11))))) (eNot (eB (eCallI 1 1 F_law_long eNil)))) (mRet (eP (pC (.bl false)))) mNil) (mRet (eP (pOp oEqS (pCB (o1 oReprV) (aCons (pV 3) aNil)) (pV 4))))))
theorem m_tail_eq : m_lawR = (mSeq (mSet 2 (eCallI 1 1 F_law_places eNil)) (mSeq (mSet 3 (eFz (eOp eAddT (eCallI 2 1 F_law_group (eCons (eV 2) eNil)) (eLst (eCons (eCallI 2 1 F_law_any (eCons (eV 2) eNil)) eNil))))) (mSeq (mSet 3 (eFz (eSl (vV 3) oNo (oYes (pC (.int 40)))))) (mSeq (mPar 4 5 (eCons (eP (pCB (o1 oReprV) (aCons (pV 3) aNil))) (eCons (eP (pCB (o1 oLen) (aCons (pV 3) aNil))) eNil))) (mSeq (mSet 6 (eOp ixT (eCallI 4 1 F_law_program (eCons (eV 5) (eCons (eOp ixT (eLst (eCons (eP (pC (.int 1))) (eCons (eP (pC (.int 2))) (eCons (eP (pC (.int 3))) (eCons (eP (pC (.int 8))) (eCons (eP (pC (.int 20))) (eCons (eP (pC (.int 40))) eNil))))))) (eCallI 2 1 F_law_pick (eCons (eP (pC (.int 6))) eNil))) (eCons (eP (pC (.int 400))) eNil)))) (eP (pC (.int 0))))) (mSeq (mSet 7 (eSlT (eV 6) (eCallI 2 1 F_law_pick (eCons (eP (pOp oAdd (pCB (o1 oLen) (aCons (pV 6) aNil)) (pC (.int 1)))) eNil)))) (mSeq (mSet 8 (eOp ixT (eLst (eCons (eP (pC (.int 1))) (eCons (eP (pC (.int 2))) (eCons (eOp eAddT (eP (pC (.int 1))) (eCallI 2 1 F_law_pick (eCons (eP (pC (.int 60))) eNil))) (eCons (eOp eAddT (eP (pC (.int 40))) (eOp (oS oMul) (eP (pC (.int 6))) (eCallI 2 1 F_law_pick (eCons (eP (pC (.int 60))) eNil)))) eNil))))) (eCallI 2 1 F_law_pick (eCons (eP (pC (.int 4))) eNil)))) (mSeq (mUnp (bTup [9, 10]) (eCallI 3 1 F_law_exact (eCons (eV 5) (eCons (eV 8) eNil)))) (mSeq (mFor (iE (eCallI 2 1 F_law_mixed (eCons (eLst (eCons (eTup (eCons (eV 6) (eCons (eCall 1 F_law_word (eCons (eV 6) eNil)) eNil))) (eCons (eTup (eCons (eV 7) (eCons (eCall 1 F_law_word (eCons (eV 7) eNil)) eNil))) (eCons (eTup (eCons (eV 9) (eCons (eV 10) eNil))) (eCons (eTup (eCons (eLst eNil) (eCons (eLst eNil) eNil))) eNil))))) eNil))) (bTup [11, 12]) b_law_1) (mSeq (mIf (eNot (eB (eCallI 3 1 F_law_great (eCons (eV 2) (eCons (eV 3) eNil))))) (mRet (eP (pC (.bl false)))) mNil) (mSeq (mSet 13 (eCallI 2 1 F_law_pick (eCons (eP (pC (.int 40))) eNil))) m_tail))))))))))) := rfl
theorem law_true : ∀ ns : List Int, ns.length ≤ 63 → F_law ns = .ok (.sh (.bl true)) [] := by
  intro ns hns
  obtain ⟨t0, h0, e0⟩ := stream_ok ns hns
  obtain ⟨t1, n, h1, hn, e1⟩ := places_ok h0
  obtain ⟨t2, rows0, h2, hr0, hm0, e2⟩ := makers_drawn h1 (n := n) (by omega)
  obtain ⟨t3, p, h3, hp, e3⟩ := any_ok h2 (n := n) (by omega)
  have hadd : eAddT (.ol (rows0.map rg)) (.ol [T.ints p]) = some (.ol (rows0.map rg ++ [T.ints p])) := addT_lst (els_ol _) (els_ol _) (by simp; unfold lim; omega)
  obtain ⟨rows, hrows⟩ : ∃ rows, rows = (rows0 ++ [p]).take 40 := ⟨_, rfl⟩
  have hM : MkOk n rows := ⟨hn, by rw [hrows]; simp; omega, fun r hr => by
    rw [hrows] at hr
    rcases List.mem_append.mp (List.mem_of_mem_take hr) with q | q
    · exact hr0 r q
    · rw [List.mem_singleton.mp q]; exact hp⟩
  have hm1 : 1 ≤ rows.length := by rw [hrows]; simp; omega
  have hcut : cutD (rows0.map D.ints ++ [D.ints p]) none (some 40) = rows.map D.ints := by
    have : rows0.map D.ints ++ [D.ints p] = (rows0 ++ [p]).map D.ints := by simp
    rw [this, hrows, List.map_take]
    by_cases q : 40 ≤ ((rows0 ++ [p]).map D.ints).length
    · have := cut_to ((rows0 ++ [p]).map D.ints) (i := 40) (by omega) (by omega)
      simpa using this
    · rw [List.take_of_length_le (by omega)]
      have q1 : HT.sIx ((rows0 ++ [p]).map D.ints).length ((rows0 ++ [p]).map D.ints).length (some 40) = ((rows0 ++ [p]).map D.ints).length := by
        unfold HT.sIx
        simp only
        rw [if_neg (by decide)]
        omega
      have q2 : HT.sIx ((rows0 ++ [p]).map D.ints).length 0 none = 0 := rfl
      unfold cutD
      rw [q1, q2, List.drop_zero]
      exact List.take_of_length_le (by omega)
  obtain ⟨z, hz⟩ := rows_repr hM
  obtain ⟨t4, y, h4, y0, y1, _, e4⟩ := pick_ok (m := 6) h3 (by decide)
  obtain ⟨S, hS, hS1⟩ : ∃ S : Nat, atI [si 1, si 2, si 3, si 8, si 20, si 40] y = some (si S) ∧ S ≤ 40 := by
    have : y = 0 ∨ y = 1 ∨ y = 2 ∨ y = 3 ∨ y = 4 ∨ y = 5 := by omega
    rcases this with rfl | rfl | rfl | rfl | rfl | rfl
    · exact ⟨1, rfl, by decide⟩
    · exact ⟨2, rfl, by decide⟩
    · exact ⟨3, rfl, by decide⟩
    · exact ⟨8, rfl, by decide⟩
    · exact ⟨20, rfl, by decide⟩
    · exact ⟨40, rfl, by decide⟩
  obtain ⟨t5, us, h5, hd, husl, e5⟩ := program_drawn h4 hm1 hM.2.1 (size := S) (by omega) (most := 400) (by decide)
  have hL := dlen us
  obtain ⟨t6, k, h6, k0, k1, _, e6⟩ := pick_ok (m := (us.length : Int) + 1) h5 (by omega)
  obtain ⟨l, hl⟩ : ∃ l, l = dl us := ⟨_, rfl⟩
  have hcut2 := cut_to l (i := k) k0 (by rw [hl]; omega)
  have hd1 : Drawn rows.length 400 l := by rw [hl]; exact hd
  obtain ⟨l2, hl2⟩ : ∃ l2, l2 = l.take k.toNat := ⟨_, rfl⟩
  rw [← hl2] at hcut2
  have hd2 : Drawn rows.length 400 l2 := by rw [hl2]; exact drawn_take hd1 _
  have hz1 : l.length ≤ 300 := by rw [hl]; omega
  have hz2 : l2.length ≤ 300 := by rw [hl2]; simp; omega
  have w1 := drawn_word hd1 hz1
  have w2 := drawn_word hd2 hz2
  obtain ⟨t7, x, h7, x0, x1, _, e7⟩ := pick_ok (m := 60) h6 (by decide)
  obtain ⟨t8, v, h8, v0, v1, _, e8⟩ := pick_ok (m := 60) h7 (by decide)
  obtain ⟨t9, r, h9, r0, r1, _, e9⟩ := pick_ok (m := 4) h8 (by decide)
  have hmul : oMul (.int 6) (.int v) = some (.int (6 * v)) := mul_int (.inl (by decide))
  obtain ⟨L, hLe, hL0, hL1⟩ : ∃ L : Int, atI [si 1, si 2, si (1 + x), si (40 + 6 * v)] r = some (si L) ∧ 1 ≤ L ∧ L ≤ 1000 := by
    have : r = 0 ∨ r = 1 ∨ r = 2 ∨ r = 3 := by omega
    rcases this with rfl | rfl | rfl | rfl
    · exact ⟨_, rfl, by omega, by omega⟩
    · exact ⟨_, rfl, by omega, by omega⟩
    · exact ⟨_, rfl, by omega, by omega⟩
    · exact ⟨_, rfl, by omega, by omega⟩
  obtain ⟨t10, vs, w, h10, hx, hxl, hwl, e10⟩ := exact_ok h9 hm1 hM.2.1 hL0 (by omega)
  have hLv := dlen vs
  obtain ⟨t11, fs, h11, hf, _, e11⟩ := mixed_len h10 (ds := [.tup [.lst l, .lst ((lastW l).map lD)], .tup [.lst l2, .lst ((lastW l2).map lD)], .tup [.lst (dl vs), .lst (w.map lD)], .tup [.lst [], .lst []]]) (by simp)
  obtain ⟨t12, j11, j12, h12, e12⟩ := cases_loop hM h11 (fs := fs) (fun d hd => by
    have := hf d hd
    simp at this
    rcases this with rfl | rfl | rfl | rfl
    · exact ⟨l, rfl, hd1.1, hz1, by have := drawn_last hd1 (by decide); omega⟩
    · exact ⟨l2, rfl, hd2.1, hz2, by have := drawn_last hd2 (by decide); omega⟩
    · exact ⟨dl vs, by rw [hx.2.2], hx.1, by omega, by rw [lastLen_w hx.1, hx.2.2, hwl]; omega⟩
    · exact ⟨[], rfl, fun k hk => by simp at hk, by simp, by simp [lastLen, lenL, runL]⟩) (e0 := none) (e4 := some (.sh (.str z))) (e5 := some (si rows.length)) (e6 := some (.sh (.lst l))) (e7 := some (.sh (.lst l2))) (e8 := some (si L)) (e9 := some (.sh (.lst (dl vs)))) (e10 := some (wT w)) (e11 := none) (e12 := none) (e13 := none)
  obtain ⟨t13, h13, e13⟩ := great_ok hM hm1 h12
  obtain ⟨t14, kd, h14, q0, q1, _, e14⟩ := pick_ok (m := 40) h13 (by decide)
  have hrw : dl (rows0.map rg ++ [T.ints p]) = rows0.map D.ints ++ [D.ints p] := by simp
  have hll : l.length = us.length := by rw [hl, hL]
  have hlw : lastW (dl vs) = w := hx.2.2
  show (match m_law ns (List.replicate 14 none) with | .rt t _ => FOut.ok t [] | _ => .bad) = _
  have pre : ∃ j11 j12, m_law ns (List.replicate 14 none) = m_tail [none, some t14, some (si n), some (.sh (.lst (rows.map D.ints))), some (.sh (.str z)), some (si rows.length), some (.sh (.lst l)), some (.sh (.lst l2)), some (si L), some (.sh (.lst (dl vs))), some (wT w), j11, j12, some (si kd)] := by
    refine ⟨j11, j12, ?_⟩
    simp [wT] at w1 w2 e10 e12
    simp [← hl] at e5
    unfold m_law
    rw [m_tail_eq]
    simp [e0, e1, e2, e3, hadd, hcut, hz, e4, hS, e5, ← hl, hll, e6, hcut2, e7, e8, e9, hmul, hLe, e10, w1, w2, e11, e12, e13, e14, wT]
  obtain ⟨i11, i12, pre⟩ := pre
  rw [pre]
  by_cases c7 : kd = 7
  · subst c7
    obtain ⟨t15, u, h15, u0, u1, _, e15⟩ := pick_ok (m := 3) h14 (by decide)
    obtain ⟨t16, ys, w', h16, hy, hyl, hyw, e16⟩ := exact_ok h15 hm1 hM.2.1 (len := 99999 + u) (by omega) (by omega)
    have hLy := dlen ys
    have hwr := law_written_ok hy.1 (by omega) (most := 100000) (by omega)
    have hlen := length_ok hy.1 (by omega)
    rw [lastLen_w hy.1, hy.2.2] at hlen
    rw [hy.2.2] at hwr
    have hsi := same_int w'.length
    simp [wT] at e16 hwr
    simp [m_tail, e15, e16, hwr, hlen, hsi, hz, wT]
  · by_cases c11 : kd = 11
    · obtain ⟨t15, h15, e15⟩ := long_ok h14
      simp [m_tail, c7, c11, e15, hz, wT]
    · simp [m_tail, c7, c11, hz, wT]
end
end Cl

namespace Cl
open PySem L2 Z
def top (i : Nat) : Stmt := PySem.Challenge.pw_siftyard_k09_whole_programs_written_out.main.body.getD i (.Pass ⟨0, 0, 0, 0⟩)
abbrev s_is_number : Stmt := top 9
abbrev s_is_place : Stmt := top 10
abbrev s_is_turning : Stmt := top 11
abbrev s_still : Stmt := top 12
abbrev s_then : Stmt := top 13
abbrev s_back : Stmt := top 14
abbrev s_check_makers : Stmt := top 19
abbrev s_check_group : Stmt := top 20
abbrev s_is_letter : Stmt := top 21
abbrev s_letter_turning : Stmt := top 22
abbrev s_word_turning : Stmt := top 23
abbrev s_is_step : Stmt := top 24
abbrev s_check_program : Stmt := top 25
abbrev s_step_turnings : Stmt := top 26
abbrev s_last_turning : Stmt := top 27
abbrev s_program_turning : Stmt := top 28
abbrev s_step_lengths : Stmt := top 29
abbrev s_program_length : Stmt := top 30
abbrev s_turned_steps : Stmt := top 31
abbrev s_written_out : Stmt := top 32
abbrev s_law_pool : Stmt := top 34
abbrev s_law_stream : Stmt := top 35
abbrev s_law_pick : Stmt := top 36
abbrev s_law_then : Stmt := top 37
abbrev s_law_back : Stmt := top 38
abbrev s_law_turning : Stmt := top 39
abbrev s_law_same : Stmt := top 40
abbrev s_law_places : Stmt := top 41
abbrev s_law_lengths : Stmt := top 42
abbrev s_law_shaped : Stmt := top 43
abbrev s_law_any : Stmt := top 44
abbrev s_law_mixed : Stmt := top 45
abbrev s_law_group : Stmt := top 46
abbrev s_law_program : Stmt := top 47
abbrev s_law_turnings : Stmt := top 48
abbrev s_law_letters : Stmt := top 49
abbrev s_law_word : Stmt := top 50
abbrev s_law_told : Stmt := top 51
abbrev s_law_written : Stmt := top 52
abbrev s_law_holds : Stmt := top 53
abbrev s_law_exact : Stmt := top 54
abbrev s_law_great : Stmt := top 55
abbrev s_law_long : Stmt := top 56
abbrev s_law : Stmt := top 57
abbrev i_BadSize : Stmt := (clsBody (top 3)).getD 0 (.Pass ⟨0, 0, 0, 0⟩)
theorem st_BadSize : SupSt i_BadSize "size" "size" := ⟨⟨_, _, _, _, _, _, _, _, _, _, rfl, ⟨_, fun env => rfl⟩⟩, ⟨_, rfl, rfl⟩, ⟨rfl, rfl, rfl, rfl, by decide +kernel, rfl, rfl, rfl⟩, by decide, by decide⟩
abbrev i_BadTurning : Stmt := (clsBody (top 4)).getD 0 (.Pass ⟨0, 0, 0, 0⟩)
theorem st_BadTurning : SupSt i_BadTurning "place" "place" := ⟨⟨_, _, _, _, _, _, _, _, _, _, rfl, ⟨_, fun env => rfl⟩⟩, ⟨_, rfl, rfl⟩, ⟨rfl, rfl, rfl, rfl, by decide +kernel, rfl, rfl, rfl⟩, by decide, by decide⟩
abbrev i_BadWord : Stmt := (clsBody (top 5)).getD 0 (.Pass ⟨0, 0, 0, 0⟩)
theorem st_BadWord : SupSt i_BadWord "place" "place" := ⟨⟨_, _, _, _, _, _, _, _, _, _, rfl, ⟨_, fun env => rfl⟩⟩, ⟨_, rfl, rfl⟩, ⟨rfl, rfl, rfl, rfl, by decide +kernel, rfl, rfl, rfl⟩, by decide, by decide⟩
abbrev i_BadProgram : Stmt := (clsBody (top 6)).getD 0 (.Pass ⟨0, 0, 0, 0⟩)
theorem st_BadProgram : SupSt i_BadProgram "step" "step" := ⟨⟨_, _, _, _, _, _, _, _, _, _, rfl, ⟨_, fun env => rfl⟩⟩, ⟨_, rfl, rfl⟩, ⟨rfl, rfl, rfl, rfl, by decide +kernel, rfl, rfl, rfl⟩, by decide, by decide⟩
abbrev i_TooMany : Stmt := (clsBody (top 7)).getD 0 (.Pass ⟨0, 0, 0, 0⟩)
theorem st_TooMany : SupSt i_TooMany "bound" "bound" := ⟨⟨_, _, _, _, _, _, _, _, _, _, rfl, ⟨_, fun env => rfl⟩⟩, ⟨_, rfl, rfl⟩, ⟨rfl, rfl, rfl, rfl, by decide +kernel, rfl, rfl, rfl⟩, by decide, by decide⟩
section
variable {P : Program} {w : World} {K : PySem.W.Frag} {mg : Str → Option Value} {base : Heap} {ct : CT}
/-! is_number: 0 value -/
theorem sc_is_number : FnScope ["value"] ["value"] (defScope s_is_number) := ⟨rfl, rfl, rfl, by decide +kernel, rfl, by decide +kernel, by decide +kernel⟩
theorem ok_is_number (dd : Dd K mg "is_number" s_is_number ["value"]) (b_bool : mg "bool" = none) (b_int : mg "int" = none) (b_isinstance : mg "isinstance" = none) :
    Fn P w K mg base "is_number" (1) ["value"] (spM ct 1 F_is_number) := by
  have sc := sc_is_number
  refine fn_def (k := 0) dd sc_is_number fun f cdv A outer s H E hr => ?_
  exact ⟨_, (pss_one (ps_ret (pe_and (pe_callB call_isi (by rfl) b_isinstance (by decide +kernel) (pa_cons (pv 0) (pa_cons (pe_bltn (v := .ty "int") (by rfl) b_int (by decide +kernel) rfl) pa_nil))) (pe_one (pe_not (pe_callB call_isi (by rfl) b_isinstance (by decide +kernel) (pa_cons (pv 0) (pa_cons (pe_bltn (v := .ty "bool") (by rfl) b_bool (by decide +kernel) rfl) pa_nil)))))))),
    (ss_ret (se_p (sp_andV (sp_isi Ty.int rfl sp_var) (sp_notV (sp_isi Ty.bool rfl sp_var)))))⟩
/-! is_place: 0 n, 1 value -/
theorem sc_is_place : FnScope ["n", "value"] ["n", "value"] (defScope s_is_place) := ⟨rfl, rfl, rfl, by decide +kernel, rfl, by decide +kernel, by decide +kernel⟩
theorem ok_is_place (dd : Dd K mg "is_place" s_is_place ["n", "value"]) (g_is_number : Fn P w K mg base "is_number" 1 ["value"] (spM ct 1 F_is_number)) :
    Fn P w K mg base "is_place" (2) ["n", "value"] (spM ct 2 F_is_place) := by
  obtain ⟨_, _, G_is_number, m_is_number, k_is_number, d_is_number⟩ := g_is_number
  have sc := sc_is_place
  refine fn_def (k := 1) dd sc_is_place fun f cdv A outer s H E hr => ?_
  exact ⟨_, (pss_one (ps_ret (pe_and (pe_callS G_is_number (hr.mono (by omega)) (by rfl) m_is_number k_is_number d_is_number (fun σ => passAt (takes_of rfl rfl rfl rfl) σ) (pa_cons (pv 1) pa_nil)) (pe_one (pe_chain u_le u_lt pe_int (pv 1) (pv 0)))))),
    (ss_ret (se_p (sp_andV (sp_callG (sa_cons sp_var sa_nil)) (sp_chain os_le os_lt sp_int sp_var sp_var))))⟩
/-! is_turning: 0 n, 1 value, 2 x -/
theorem sc_is_turning : FnScope ["n", "value", "x"] ["n", "value"] (defScope s_is_turning) := ⟨rfl, rfl, rfl, by decide +kernel, rfl, by decide +kernel, by decide +kernel⟩
theorem ok_is_turning (dd : Dd K mg "is_turning" s_is_turning ["n", "value"]) (b_all : mg "all" = none) (b_isinstance : mg "isinstance" = none) (b_len : mg "len" = none) (b_list : mg "list" = none) (g_is_place : Fn P w K mg base "is_place" 2 ["n", "value"] (spM ct 2 F_is_place)) :
    Fn P w K mg base "is_turning" (3) ["n", "value"] (spM ct 2 F_is_turning) := by
  obtain ⟨_, _, G_is_place, m_is_place, k_is_place, d_is_place⟩ := g_is_place
  have sc := sc_is_turning
  refine fn_def (k := 2) dd sc_is_turning fun f cdv A outer s H E hr => ?_
  exact ⟨_, (pss_cons (ps_if (PW.pt (pw_or (pt_not (pt_val (pe_callB call_isi (by rfl) b_isinstance (by decide +kernel) (pa_cons (pv 1) (pa_cons (pe_bltn (v := .ty "list") (by rfl) b_list (by decide +kernel) rfl) pa_nil))))) (pw_or (pt_cmpR (op_neD (eqU hr)) (pe_callB call_len (by rfl) b_len (by decide +kernel) (pa_cons (pv 1) pa_nil)) (pv 0) (nomark _)) (pw_or1 (pt_not (pt_val (pe_callB (cr_all rfl) (by rfl) b_all (by decide +kernel) (pa_cons (pe_lc (own := [("x", 2)]) rfl sc.nd (pi_seq (pv 1)) (blkOk_by (N := ["n", "value", "x"]) (sc := defScope s_is_turning) (by decide +kernel)) (fun _ _ _ _ _ => (pg_name (i := 2) sc.nd rfl (by first | exact Or.inl rfl | exact Or.inr rfl))) (fun _ _ _ _ _ => pts_nil) (fun _ _ _ _ _ => (pe_call G_is_place (hr.mono (by omega)) (by rfl) m_is_place k_is_place d_is_place .nil passL (pa_cons (pv 0) (pa_cons (pv 2) pa_nil))))) pa_nil)))))))) (pss_one (ps_ret pe_bl)) pss_nil) (pss_one (ps_ret (pe_cmpR (op_eqD (eqU hr)) (pe_callB call_lenD (by rfl) b_len (by decide +kernel) (pa_cons (pe_dc (own := [("x", 2)]) rfl sc.nd (pi_seq (pv 1)) (blkOk_by (N := ["n", "value", "x"]) (sc := defScope s_is_turning) (by decide +kernel)) (fun _ _ _ _ _ => (pg_name (i := 2) sc.nd rfl (by first | exact Or.inl rfl | exact Or.inr rfl))) (fun _ _ _ _ _ => pts_nil) (fun _ _ _ _ _ => (pv 2)) (fun _ _ _ _ _ => pe_bl)) pa_nil)) (pv 0) (nomark _))))),
    (ss_seq (ss_if (set_or (set_p (st_not (sp_b (sp_isi Ty.list rfl sp_var)))) (set_or (set_p (sp_test (sp_op os_ne (sp_cb cs_len (sa_cons sp_var sa_nil)) sp_var))) (set_not (set_b (se_cb (ce_s cs_all) (sea_cons (se_lc (slots := [2]) (si_e se_var) sg_name set_yes (se_p (sp_call0 (sa_cons sp_var (sa_cons sp_var sa_nil))))) sea_nil)))))) (ss_ret (se_p sp_bl)) ss_nil) (ss_ret (se_op (oe_s os_eq) (se_cb ce_lenD (sea_cons (se_dcI (si_e se_var)) sea_nil)) se_var)))⟩
/-! still: 0 n -/
theorem sc_still : FnScope ["n"] ["n"] (defScope s_still) := ⟨rfl, rfl, rfl, by decide +kernel, rfl, by decide +kernel, by decide +kernel⟩
theorem ok_still (dd : Dd K mg "still" s_still ["n"]) (b_list : mg "list" = none) (b_range : mg "range" = none) :
    Fn P w K mg base "still" (1) ["n"] (spM ct 1 F_still) := by
  have sc := sc_still
  refine fn_def (k := 0) dd sc_still fun f cdv A outer s H E hr => ?_
  exact ⟨_, (pss_one (ps_ret (pe_listRg rfl (by rfl) b_list (prg_1 (by rfl) b_range (pv 0))))),
    (ss_ret (se_rg1 sp_var))⟩
/-! then: 0 p, 1 q, 2 x -/
theorem sc_then : FnScope ["p", "q", "x"] ["p", "q"] (defScope s_then) := ⟨rfl, rfl, rfl, by decide +kernel, rfl, by decide +kernel, by decide +kernel⟩
theorem ok_then (dd : Dd K mg "then" s_then ["p", "q"]) :
    Fn P w K mg base "then" (1) ["p", "q"] (spM ct 2 F_then) := by
  have sc := sc_then
  refine fn_def (k := 0) dd sc_then fun f cdv A outer s H E hr => ?_
  exact ⟨_, (pss_one (ps_ret (pe_lc (own := [("x", 2)]) rfl sc.nd (pi_seq (pv 0)) (blkOk_by (N := ["p", "q", "x"]) (sc := defScope s_then) (by decide +kernel)) (fun _ _ _ _ _ => (pg_name (i := 2) sc.nd rfl (by first | exact Or.inl rfl | exact Or.inr rfl))) (fun _ _ _ _ _ => pts_nil) (fun _ _ _ _ _ => (pe_ix ix_seq (pv 1) (pv 2) (fun _ _ => rfl)))))),
    (ss_ret (se_lc (slots := [2]) (si_e se_var) sg_name set_yes (se_get (sv_ix sv_var sp_var))))⟩
/-! back: 0 p, 1 found, 2 x, 3 y -/
theorem sc_back : FnScope ["p", "found", "x", "y"] ["p"] (defScope s_back) := ⟨rfl, rfl, rfl, by decide +kernel, rfl, by decide +kernel, by decide +kernel⟩
theorem ok_back (dd : Dd K mg "back" s_back ["p"]) (b_enumerate : mg "enumerate" = none) (b_len : mg "len" = none) :
    Fn P w K mg base "back" (1) ["p"] (spM ct 1 F_back) := by
  have sc := sc_back
  refine fn_def (k := 0) dd sc_back fun f cdv A outer s H E hr => ?_
  exact ⟨_, (pss_cons (ps_set (i := 1) sc.nd rfl (Or.inl rfl) (pe_op u_mul (pe_lst (pa_cons pe_int pa_nil)) (pe_callB call_len (by rfl) b_len (by decide +kernel) (pa_cons (pv 0) pa_nil)))) (pss_cons (ps_for (passes_of rfl) rfl (pi_enum (by rfl) b_enumerate (pa_cons (pv 0) pa_nil)) (pg_tup (by rfl) (pgs_cons (pg_name (i := 2) sc.nd rfl (Or.inl rfl)) (pgs_cons (pg_name (i := 3) sc.nd rfl (Or.inl rfl)) pgs_nil))) (pss_one (ps_asg (pv 2) (pg_sub (pv 1) (pv 3) set_list)))) (pss_one (ps_ret (pv 1))))),
    (ss_seq (ss_set (se_op oe_repU (se_lst (sea_cons (se_p sp_int) sea_nil)) (se_p (sp_cb cs_len (sa_cons sp_var sa_nil)))) (by decide)) (ss_seq (ss_for (slots := [2, 3]) (si_en se_var) (sg_tup (is := [2, 3]) rfl) (by decide) (ss_store se_var sp_var)) (ss_ret se_mv)))⟩
/-! check_makers: 0 n, 1 makers, 2 most, 3 place, 4 p -/
theorem sc_check_makers : FnScope ["n", "makers", "most", "place", "p"] ["n", "makers", "most"] (defScope s_check_makers) := ⟨rfl, rfl, rfl, by decide +kernel, rfl, by decide +kernel, by decide +kernel⟩
theorem ok_check_makers (dd : Dd K mg "check_makers" s_check_makers ["n", "makers", "most"]) (b_enumerate : mg "enumerate" = none) (b_isinstance : mg "isinstance" = none) (b_len : mg "len" = none) (b_list : mg "list" = none) {t_MOST_MAKERS : Tok} (c_MOST_MAKERS : mg "MOST_MAKERS" = some (.int 40 t_MOST_MAKERS)) {A_BadPlaces A_BadSize A_BadTurning : Addr} {I_BadSize I_BadTurning : Addr} (x0_BadPlaces : Xc0 K mg ct "BadPlaces" A_BadPlaces) (x1_BadSize : Xc1 P K mg ct "BadSize" A_BadSize I_BadSize "size" "size") (x1_BadTurning : Xc1 P K mg ct "BadTurning" A_BadTurning I_BadTurning "place" "place") (g_is_turning : Fn P w K mg base "is_turning" 3 ["n", "value"] (spM ct 2 F_is_turning)) (g_is_number : Fn P w K mg base "is_number" 1 ["value"] (spM ct 1 F_is_number)) :
    Fn P w K mg base "check_makers" (4) ["n", "makers", "most"] (spM ct 3 F_check_makers) := by
  obtain ⟨_, _, G_is_turning, m_is_turning, k_is_turning, d_is_turning⟩ := g_is_turning
  obtain ⟨_, _, G_is_number, m_is_number, k_is_number, d_is_number⟩ := g_is_number
  have sc := sc_check_makers
  refine fn_def (k := 3) dd sc_check_makers fun f cdv A outer s H E hr => ?_
  exact ⟨_, (pss_cons (ps_if (PW.pt (pw_or (pt_not (pt_val (pe_callS G_is_number (hr.mono (by omega)) (by rfl) m_is_number k_is_number d_is_number (fun σ => passAt (takes_of rfl rfl rfl rfl) σ) (pa_cons (pv 0) pa_nil)))) (pw_or1 (pt_not (pt_chain u_le u_le pe_int (pv 0) (pv 2)))))) (pss_one (ps_raise rfl (takes_of rfl rfl rfl rfl) (pmk_x0 x0_BadPlaces (by rfl)))) pss_nil) (pss_cons (ps_if (pt_not (pt_val (pe_callB call_isi (by rfl) b_isinstance (by decide +kernel) (pa_cons (pv 1) (pa_cons (pe_bltn (v := .ty "list") (by rfl) b_list (by decide +kernel) rfl) pa_nil))))) (pss_one (ps_raise rfl (takes_of rfl rfl rfl rfl) (pmk_x1 x1_BadTurning (hr.mono (by omega)) (by rfl) (pe_un un_neg pe_int)))) pss_nil) (pss_cons (ps_if (pt_cmpR u_gt (pe_callB call_len (by rfl) b_len (by decide +kernel) (pa_cons (pv 1) pa_nil)) (pe_glob (v := .int (40)) rfl c_MOST_MAKERS ⟨_, rfl⟩) (nomark _)) (pss_one (ps_raise rfl (takes_of rfl rfl rfl rfl) (pmk_x1 x1_BadSize (hr.mono (by omega)) (by rfl) (pe_callB call_len (by rfl) b_len (by decide +kernel) (pa_cons (pv 1) pa_nil))))) pss_nil) (pss_one (ps_for (passes_of rfl) rfl (pi_enum (by rfl) b_enumerate (pa_cons (pv 1) pa_nil)) (pg_tup (by rfl) (pgs_cons (pg_name (i := 3) sc.nd rfl (Or.inl rfl)) (pgs_cons (pg_name (i := 4) sc.nd rfl (Or.inl rfl)) pgs_nil))) (pss_one (ps_if (pt_not (pt_val (pe_callS G_is_turning (hr.mono (by omega)) (by rfl) m_is_turning k_is_turning d_is_turning (fun σ => passAt (takes_of rfl rfl rfl rfl) σ) (pa_cons (pv 0) (pa_cons (pv 4) pa_nil))))) (pss_one (ps_raise rfl (takes_of rfl rfl rfl rfl) (pmk_x1 x1_BadTurning (hr.mono (by omega)) (by rfl) (pv 3)))) pss_nil))))))),
    (ss_seq (ss_if (set_p (st_or (st_not (sp_b (sp_callG (sa_cons sp_var sa_nil)))) (st_not (sp_test (sp_chain os_le os_le sp_int sp_var sp_var))))) (ss_raise0 x0_BadPlaces.c.cto) ss_nil) (ss_seq (ss_if (set_p (st_not (sp_b (sp_isi Ty.list rfl sp_var)))) (ss_raise1 x1_BadTurning.c.cto (se_p (sp_un us_neg sp_int))) ss_nil) (ss_seq (ss_if (set_p (sp_test (sp_op os_gt (sp_cb cs_len (sa_cons sp_var sa_nil)) sp_int))) (ss_raise1 x1_BadSize.c.cto (se_p (sp_cb cs_len (sa_cons sp_var sa_nil)))) ss_nil) (ss_for (slots := [3, 4]) (si_en se_var) (sg_tup (is := [3, 4]) rfl) (by decide) (ss_if (set_p (st_not (sp_b (sp_callG (sa_cons sp_var (sa_cons sp_var sa_nil)))))) (ss_raise1 x1_BadTurning.c.cto se_var) ss_nil)))))⟩
/-! check_group: 0 n, 1 makers -/
theorem sc_check_group : FnScope ["n", "makers"] ["n", "makers"] (defScope s_check_group) := ⟨rfl, rfl, rfl, by decide +kernel, rfl, by decide +kernel, by decide +kernel⟩
theorem ok_check_group (dd : Dd K mg "check_group" s_check_group ["n", "makers"]) {t_MOST_PLACES : Tok} (c_MOST_PLACES : mg "MOST_PLACES" = some (.int 24 t_MOST_PLACES)) (g_check_makers : Fn P w K mg base "check_makers" 4 ["n", "makers", "most"] (spM ct 3 F_check_makers)) :
    Fn P w K mg base "check_group" (5) ["n", "makers"] (spM ct 2 F_check_group) := by
  obtain ⟨_, _, G_check_makers, m_check_makers, k_check_makers, d_check_makers⟩ := g_check_makers
  have sc := sc_check_group
  refine fn_def (k := 4) dd sc_check_group fun f cdv A outer s H E hr => ?_
  exact ⟨_, (pss_one (ps_expr (pe_callS G_check_makers (hr.mono (by omega)) (by rfl) m_check_makers k_check_makers d_check_makers (fun σ => passAt (takes_of rfl rfl rfl rfl) σ) (pa_cons (pv 0) (pa_cons (pv 1) (pa_cons (pe_glob (v := .int (24)) rfl c_MOST_PLACES ⟨_, rfl⟩) pa_nil)))))),
    (ss_drop (se_call (sea_cons se_var (sea_cons se_var (sea_cons (se_p sp_int) sea_nil)))))⟩
/-! is_letter: 0 makers, 1 value -/
theorem sc_is_letter : FnScope ["makers", "value"] ["makers", "value"] (defScope s_is_letter) := ⟨rfl, rfl, rfl, by decide +kernel, rfl, by decide +kernel, by decide +kernel⟩
theorem ok_is_letter (dd : Dd K mg "is_letter" s_is_letter ["makers", "value"]) (b_isinstance : mg "isinstance" = none) (b_len : mg "len" = none) (b_tuple : mg "tuple" = none) (g_is_number : Fn P w K mg base "is_number" 1 ["value"] (spM ct 1 F_is_number)) :
    Fn P w K mg base "is_letter" (2) ["makers", "value"] (spM ct 2 F_is_letter) := by
  obtain ⟨_, _, G_is_number, m_is_number, k_is_number, d_is_number⟩ := g_is_number
  have sc := sc_is_letter
  refine fn_def (k := 1) dd sc_is_letter fun f cdv A outer s H E hr => ?_
  exact ⟨_, (pss_cons (ps_if (PW.pt (pw_or (pt_not (pt_val (pe_callB call_isi (by rfl) b_isinstance (by decide +kernel) (pa_cons (pv 1) (pa_cons (pe_bltn (v := .ty "tuple") (by rfl) b_tuple (by decide +kernel) rfl) pa_nil))))) (pw_or (pt_cmpR (op_neD (eqU hr)) (pe_callB call_len (by rfl) b_len (by decide +kernel) (pa_cons (pv 1) pa_nil)) pe_int (nomark _)) (pw_or (pt_not (pt_val (pe_callS G_is_number (hr.mono (by omega)) (by rfl) m_is_number k_is_number d_is_number (fun σ => passAt (takes_of rfl rfl rfl rfl) σ) (pa_cons (pe_ix ix_seq (pv 1) pe_int (fun _ _ => rfl)) pa_nil)))) (pw_or1 (pt_not (pt_val (pe_callS G_is_number (hr.mono (by omega)) (by rfl) m_is_number k_is_number d_is_number (fun σ => passAt (takes_of rfl rfl rfl rfl) σ) (pa_cons (pe_ix ix_seq (pv 1) pe_int (fun _ _ => rfl)) pa_nil))))))))) (pss_one (ps_ret pe_bl)) pss_nil) (pss_one (ps_ret (pe_and (pe_chain u_le u_lt pe_int (pe_ix ix_seq (pv 1) pe_int (fun _ _ => rfl)) (pe_callB call_len (by rfl) b_len (by decide +kernel) (pa_cons (pv 0) pa_nil))) (pe_one (pe_cmpR op_in_seq (pe_ix ix_seq (pv 1) pe_int (fun _ _ => rfl)) (pe_tup (pa_cons pe_int (pa_cons (pe_un un_neg pe_int) pa_nil))) (by rfl))))))),
    (ss_seq (ss_if (set_p (st_or (st_not (sp_b (sp_isi Ty.tuple rfl sp_var))) (st_or (sp_test (sp_op os_ne (sp_cb cs_len (sa_cons sp_var sa_nil)) sp_int)) (st_or (st_not (sp_b (sp_callG (sa_cons (sp_op os_ix sp_var sp_int) sa_nil)))) (st_not (sp_b (sp_callG (sa_cons (sp_op os_ix sp_var sp_int) sa_nil)))))))) (ss_ret (se_p sp_bl)) ss_nil) (ss_ret (se_p (sp_andV (sp_chain os_le os_lt sp_int (sp_op os_ix sp_var sp_int) (sp_cb cs_len (sa_cons sp_var sa_nil))) (sp_op os_in (sp_op os_ix sp_var sp_int) (sp_tup (sa_cons sp_int (sa_cons (sp_un us_neg sp_int) sa_nil))))))))⟩
/-! letter_turning: 0 makers, 1 letter -/
theorem sc_letter_turning : FnScope ["makers", "letter"] ["makers", "letter"] (defScope s_letter_turning) := ⟨rfl, rfl, rfl, by decide +kernel, rfl, by decide +kernel, by decide +kernel⟩
theorem ok_letter_turning (dd : Dd K mg "letter_turning" s_letter_turning ["makers", "letter"]) (b_list : mg "list" = none) (g_back : Fn P w K mg base "back" 1 ["p"] (spM ct 1 F_back)) :
    Fn P w K mg base "letter_turning" (2) ["makers", "letter"] (spM ct 2 F_letter_turning) := by
  obtain ⟨_, _, G_back, m_back, k_back, d_back⟩ := g_back
  have sc := sc_letter_turning
  refine fn_def (k := 1) dd sc_letter_turning fun f cdv A outer s H E hr => ?_
  exact ⟨_, (pss_one (ps_ret (pe_ifExp (pt_cmpR (op_eqD (eqU hr)) (pe_ix ix_seq (pv 1) pe_int (fun _ _ => rfl)) pe_int (nomark _)) (pe_callTy call_list_of (by rfl) b_list (by decide +kernel) (pa_cons (pe_ix ix_seq (pv 0) (pe_ix ix_seq (pv 1) pe_int (fun _ _ => rfl)) (fun _ _ => rfl)) pa_nil)) (pe_callS G_back (hr.mono (by omega)) (by rfl) m_back k_back d_back (fun σ => passAt (takes_of rfl rfl rfl rfl) σ) (pa_cons (pe_ix ix_seq (pv 0) (pe_ix ix_seq (pv 1) pe_int (fun _ _ => rfl)) (fun _ _ => rfl)) pa_nil))))),
    (ss_ret (se_if (set_p (sp_test (sp_op os_eq (sp_op os_ix sp_var sp_int) sp_int))) (se_list (sv_ix sv_var (sp_op os_ix sp_var sp_int))) (se_call (sea_cons (se_get (sv_ix sv_var (sp_op os_ix sp_var sp_int))) sea_nil))))⟩
/-! word_turning: 0 n, 1 makers, 2 word, 3 found, 4 place, 5 letter -/
theorem sc_word_turning : FnScope ["n", "makers", "word", "found", "place", "letter"] ["n", "makers", "word"] (defScope s_word_turning) := ⟨rfl, rfl, rfl, by decide +kernel, rfl, by decide +kernel, by decide +kernel⟩
theorem ok_word_turning (dd : Dd K mg "word_turning" s_word_turning ["n", "makers", "word"]) (b_enumerate : mg "enumerate" = none) {A_BadWord : Addr} {I_BadWord : Addr} (x1_BadWord : Xc1 P K mg ct "BadWord" A_BadWord I_BadWord "place" "place") (g_then : Fn P w K mg base "then" 1 ["p", "q"] (spM ct 2 F_then)) (g_letter_turning : Fn P w K mg base "letter_turning" 2 ["makers", "letter"] (spM ct 2 F_letter_turning)) (g_is_letter : Fn P w K mg base "is_letter" 2 ["makers", "value"] (spM ct 2 F_is_letter)) (g_still : Fn P w K mg base "still" 1 ["n"] (spM ct 1 F_still)) (g_check_group : Fn P w K mg base "check_group" 5 ["n", "makers"] (spM ct 2 F_check_group)) :
    Fn P w K mg base "word_turning" (6) ["n", "makers", "word"] (spM ct 3 F_word_turning) := by
  obtain ⟨_, _, G_then, m_then, k_then, d_then⟩ := g_then
  obtain ⟨_, _, G_letter_turning, m_letter_turning, k_letter_turning, d_letter_turning⟩ := g_letter_turning
  obtain ⟨_, _, G_is_letter, m_is_letter, k_is_letter, d_is_letter⟩ := g_is_letter
  obtain ⟨_, _, G_still, m_still, k_still, d_still⟩ := g_still
  obtain ⟨_, _, G_check_group, m_check_group, k_check_group, d_check_group⟩ := g_check_group
  have sc := sc_word_turning
  refine fn_def (k := 5) dd sc_word_turning fun f cdv A outer s H E hr => ?_
  exact ⟨_, (pss_cons (ps_expr (pe_callS G_check_group (hr.mono (by omega)) (by rfl) m_check_group k_check_group d_check_group (fun σ => passAt (takes_of rfl rfl rfl rfl) σ) (pa_cons (pv 0) (pa_cons (pv 1) pa_nil)))) (pss_cons (ps_set (i := 3) sc.nd rfl (Or.inl rfl) (pe_callS G_still (hr.mono (by omega)) (by rfl) m_still k_still d_still (fun σ => passAt (takes_of rfl rfl rfl rfl) σ) (pa_cons (pv 0) pa_nil))) (pss_cons (ps_for (passes_of rfl) rfl (pi_enum (by rfl) b_enumerate (pa_cons (pv 2) pa_nil)) (pg_tup (by rfl) (pgs_cons (pg_name (i := 4) sc.nd rfl (Or.inl rfl)) (pgs_cons (pg_name (i := 5) sc.nd rfl (Or.inl rfl)) pgs_nil))) (pss_cons (ps_if (pt_not (pt_val (pe_callS G_is_letter (hr.mono (by omega)) (by rfl) m_is_letter k_is_letter d_is_letter (fun σ => passAt (takes_of rfl rfl rfl rfl) σ) (pa_cons (pv 1) (pa_cons (pv 5) pa_nil))))) (pss_one (ps_raise rfl (takes_of rfl rfl rfl rfl) (pmk_x1 x1_BadWord (hr.mono (by omega)) (by rfl) (pv 4)))) pss_nil) (pss_one (ps_set (i := 3) sc.nd rfl (Or.inl rfl) (pe_callS G_then (hr.mono (by omega)) (by rfl) m_then k_then d_then (fun σ => passAt (takes_of rfl rfl rfl rfl) σ) (pa_cons (pv 3) (pa_cons (pe_callS G_letter_turning (hr.mono (by omega)) (by rfl) m_letter_turning k_letter_turning d_letter_turning (fun σ => passAt (takes_of rfl rfl rfl rfl) σ) (pa_cons (pv 1) (pa_cons (pv 5) pa_nil))) pa_nil))))))) (pss_one (ps_ret (pv 3)))))),
    (ss_seq (ss_drop (se_call (sea_cons se_var (sea_cons se_var sea_nil)))) (ss_seq (ss_set (se_call (sea_cons se_var sea_nil)) (by decide)) (ss_seq (ss_for (slots := [4, 5]) (si_en se_var) (sg_tup (is := [4, 5]) rfl) (by decide) (ss_seq (ss_if (set_p (st_not (sp_b (sp_callG (sa_cons sp_var (sa_cons sp_var sa_nil)))))) (ss_raise1 x1_BadWord.c.cto se_var) ss_nil) (ss_set (se_call (sea_cons se_var (sea_cons (se_call (sea_cons se_var (sea_cons se_var sea_nil))) sea_nil))) (by decide)))) (ss_ret se_mv))))⟩
/-! is_step: 0 many, 1 value, 2 place, 3 one -/
theorem sc_is_step : FnScope ["many", "value", "place", "one"] ["many", "value", "place"] (defScope s_is_step) := ⟨rfl, rfl, rfl, by decide +kernel, rfl, by decide +kernel, by decide +kernel⟩
theorem ok_is_step (dd : Dd K mg "is_step" s_is_step ["many", "value", "place"]) (b_all : mg "all" = none) (b_isinstance : mg "isinstance" = none) (b_len : mg "len" = none) (b_tuple : mg "tuple" = none) (g_is_number : Fn P w K mg base "is_number" 1 ["value"] (spM ct 1 F_is_number)) :
    Fn P w K mg base "is_step" (2) ["many", "value", "place"] (spM ct 3 F_is_step) := by
  obtain ⟨_, _, G_is_number, m_is_number, k_is_number, d_is_number⟩ := g_is_number
  have sc := sc_is_step
  refine fn_def (k := 1) dd sc_is_step fun f cdv A outer s H E hr => ?_
  exact ⟨_, (pss_cons (ps_if (PW.pt (pw_or (pt_not (pt_val (pe_callB call_isi (by rfl) b_isinstance (by decide +kernel) (pa_cons (pv 1) (pa_cons (pe_bltn (v := .ty "tuple") (by rfl) b_tuple (by decide +kernel) rfl) pa_nil))))) (pw_or (pt_not (pt_truth (pv 1) (by intro _; rfl))) (pw_or1 (pt_not (pt_val (pe_callB (cr_all rfl) (by rfl) b_all (by decide +kernel) (pa_cons (pe_lc (own := [("one", 3)]) rfl sc.nd (pi_seq (pe_slice (sl_list.or sl_tupA) (pv 1) (po_some pe_int) po_none)) (blkOk_by (N := ["many", "value", "place", "one"]) (sc := defScope s_is_step) (by decide +kernel)) (fun _ _ _ _ _ => (pg_name (i := 3) sc.nd rfl (by first | exact Or.inl rfl | exact Or.inr rfl))) (fun _ _ _ _ _ => pts_nil) (fun _ _ _ _ _ => (pe_call G_is_number (hr.mono (by omega)) (by rfl) m_is_number k_is_number d_is_number .nil passL (pa_cons (pv 3) pa_nil)))) pa_nil)))))))) (pss_one (ps_ret pe_bl)) pss_nil) (pss_cons (ps_if (pt_cmpR (op_eqD (eqU hr)) (pe_ix ix_seq (pv 1) pe_int (fun _ _ => rfl)) pe_str (nomark _)) (pss_one (ps_ret (pe_and (pe_cmpR (op_eqD (eqU hr)) (pe_callB call_len (by rfl) b_len (by decide +kernel) (pa_cons (pv 1) pa_nil)) pe_int (nomark _)) (pe_one (pe_chain u_le u_lt pe_int (pe_ix ix_seq (pv 1) pe_int (fun _ _ => rfl)) (pv 0)))))) pss_nil) (pss_cons (ps_if (pt_cmpR (op_eqD (eqU hr)) (pe_ix ix_seq (pv 1) pe_int (fun _ _ => rfl)) pe_str (nomark _)) (pss_one (ps_ret (pe_and (pe_cmpR (op_eqD (eqU hr)) (pe_callB call_len (by rfl) b_len (by decide +kernel) (pa_cons (pv 1) pa_nil)) pe_int (nomark _)) (pe_and (pe_chain u_le u_lt pe_int (pe_ix ix_seq (pv 1) pe_int (fun _ _ => rfl)) (pv 2)) (pe_one (pe_chain u_le u_lt pe_int (pe_ix ix_seq (pv 1) pe_int (fun _ _ => rfl)) (pv 2))))))) pss_nil) (pss_one (ps_ret (pe_and (pe_cmpR (op_eqD (eqU hr)) (pe_ix ix_seq (pv 1) pe_int (fun _ _ => rfl)) pe_str (nomark _)) (pe_and (pe_cmpR (op_eqD (eqU hr)) (pe_callB call_len (by rfl) b_len (by decide +kernel) (pa_cons (pv 1) pa_nil)) pe_int (nomark _)) (pe_one (pe_chain u_le u_lt pe_int (pe_ix ix_seq (pv 1) pe_int (fun _ _ => rfl)) (pv 2)))))))))),
    (ss_seq (ss_if (set_or (set_p (st_not (sp_b (sp_isi Ty.tuple rfl sp_var)))) (set_or (set_p (st_not (st_tru sp_var))) (set_not (set_b (se_cb (ce_s cs_all) (sea_cons (se_lc (slots := [3]) (si_e (se_slU sv_var (spo_yes sp_int) spo_no)) sg_name set_yes (se_p (sp_call0 (sa_cons sp_var sa_nil)))) sea_nil)))))) (ss_ret (se_p sp_bl)) ss_nil) (ss_seq (ss_if (set_p (sp_test (sp_op os_eq (sp_op os_ix sp_var sp_int) sp_str))) (ss_ret (se_p (sp_andV (sp_op os_eq (sp_cb cs_len (sa_cons sp_var sa_nil)) sp_int) (sp_chain os_le os_lt sp_int (sp_op os_ix sp_var sp_int) sp_var)))) ss_nil) (ss_seq (ss_if (set_p (sp_test (sp_op os_eq (sp_op os_ix sp_var sp_int) sp_str))) (ss_ret (se_p (sp_andV (sp_op os_eq (sp_cb cs_len (sa_cons sp_var sa_nil)) sp_int) (sp_andV (sp_chain os_le os_lt sp_int (sp_op os_ix sp_var sp_int) sp_var) (sp_chain os_le os_lt sp_int (sp_op os_ix sp_var sp_int) sp_var))))) ss_nil) (ss_ret (se_p (sp_andV (sp_op os_eq (sp_op os_ix sp_var sp_int) sp_str) (sp_andV (sp_op os_eq (sp_cb cs_len (sa_cons sp_var sa_nil)) sp_int) (sp_chain os_le os_lt sp_int (sp_op os_ix sp_var sp_int) sp_var))))))))⟩
/-! check_program: 0 many, 1 program, 2 place, 3 step -/
theorem sc_check_program : FnScope ["many", "program", "place", "step"] ["many", "program"] (defScope s_check_program) := ⟨rfl, rfl, rfl, by decide +kernel, rfl, by decide +kernel, by decide +kernel⟩
theorem ok_check_program (dd : Dd K mg "check_program" s_check_program ["many", "program"]) (b_enumerate : mg "enumerate" = none) (b_isinstance : mg "isinstance" = none) (b_len : mg "len" = none) (b_list : mg "list" = none) {t_MOST_STEPS : Tok} (c_MOST_STEPS : mg "MOST_STEPS" = some (.int 24000 t_MOST_STEPS)) {A_BadProgram : Addr} {I_BadProgram : Addr} (x1_BadProgram : Xc1 P K mg ct "BadProgram" A_BadProgram I_BadProgram "step" "step") (g_is_step : Fn P w K mg base "is_step" 2 ["many", "value", "place"] (spM ct 3 F_is_step)) :
    Fn P w K mg base "check_program" (3) ["many", "program"] (spM ct 2 F_check_program) := by
  obtain ⟨_, _, G_is_step, m_is_step, k_is_step, d_is_step⟩ := g_is_step
  have sc := sc_check_program
  refine fn_def (k := 2) dd sc_check_program fun f cdv A outer s H E hr => ?_
  exact ⟨_, (pss_cons (ps_if (pt_not (pt_val (pe_callB call_isi (by rfl) b_isinstance (by decide +kernel) (pa_cons (pv 1) (pa_cons (pe_bltn (v := .ty "list") (by rfl) b_list (by decide +kernel) rfl) pa_nil))))) (pss_one (ps_raise rfl (takes_of rfl rfl rfl rfl) (pmk_x1 x1_BadProgram (hr.mono (by omega)) (by rfl) (pe_un un_neg pe_int)))) pss_nil) (pss_cons (ps_for (passes_of rfl) rfl (pi_enum (by rfl) b_enumerate (pa_cons (pe_slice sl_list (pv 1) po_none (po_some (pe_glob (v := .int (24000)) rfl c_MOST_STEPS ⟨_, rfl⟩))) pa_nil)) (pg_tup (by rfl) (pgs_cons (pg_name (i := 2) sc.nd rfl (Or.inl rfl)) (pgs_cons (pg_name (i := 3) sc.nd rfl (Or.inl rfl)) pgs_nil))) (pss_one (ps_if (pt_not (pt_val (pe_callS G_is_step (hr.mono (by omega)) (by rfl) m_is_step k_is_step d_is_step (fun σ => passAt (takes_of rfl rfl rfl rfl) σ) (pa_cons (pv 0) (pa_cons (pv 3) (pa_cons (pv 2) pa_nil)))))) (pss_one (ps_raise rfl (takes_of rfl rfl rfl rfl) (pmk_x1 x1_BadProgram (hr.mono (by omega)) (by rfl) (pv 2)))) pss_nil))) (pss_one (ps_if (pt_cmpR u_gt (pe_callB call_len (by rfl) b_len (by decide +kernel) (pa_cons (pv 1) pa_nil)) (pe_glob (v := .int (24000)) rfl c_MOST_STEPS ⟨_, rfl⟩) (nomark _)) (pss_one (ps_raise rfl (takes_of rfl rfl rfl rfl) (pmk_x1 x1_BadProgram (hr.mono (by omega)) (by rfl) (pe_glob (v := .int (24000)) rfl c_MOST_STEPS ⟨_, rfl⟩)))) pss_nil)))),
    (ss_seq (ss_if (set_p (st_not (sp_b (sp_isi Ty.list rfl sp_var)))) (ss_raise1 x1_BadProgram.c.cto (se_p (sp_un us_neg sp_int))) ss_nil) (ss_seq (ss_for (slots := [2, 3]) (si_en (se_sl sv_var spo_no (spo_yes sp_int))) (sg_tup (is := [2, 3]) rfl) (by decide) (ss_if (set_p (st_not (sp_b (sp_callG (sa_cons sp_var (sa_cons sp_var (sa_cons sp_var sa_nil))))))) (ss_raise1 x1_BadProgram.c.cto se_var) ss_nil)) (ss_if (set_p (sp_test (sp_op os_gt (sp_cb cs_len (sa_cons sp_var sa_nil)) sp_int))) (ss_raise1 x1_BadProgram.c.cto (se_p sp_int)) ss_nil)))⟩
/-! step_turnings: 0 makers, 1 program, 2 found, 3 step -/
theorem sc_step_turnings : FnScope ["makers", "program", "found", "step"] ["makers", "program"] (defScope s_step_turnings) := ⟨rfl, rfl, rfl, by decide +kernel, rfl, by decide +kernel, by decide +kernel⟩
theorem ok_step_turnings (dd : Dd K mg "step_turnings" s_step_turnings ["makers", "program"]) (b_list : mg "list" = none) (g_then : Fn P w K mg base "then" 1 ["p", "q"] (spM ct 2 F_then)) (g_back : Fn P w K mg base "back" 1 ["p"] (spM ct 1 F_back)) :
    Fn P w K mg base "step_turnings" (2) ["makers", "program"] (spM ct 2 F_step_turnings) := by
  obtain ⟨_, _, G_then, m_then, k_then, d_then⟩ := g_then
  obtain ⟨_, _, G_back, m_back, k_back, d_back⟩ := g_back
  have sc := sc_step_turnings
  refine fn_def (k := 1) dd sc_step_turnings fun f cdv A outer s H E hr => ?_
  exact ⟨_, (pss_cons (ps_set (i := 2) sc.nd rfl (Or.inl rfl) (pe_lst pa_nil)) (pss_cons (ps_for (passes_of rfl) rfl (pi_seq (pv 1)) (pg_name (i := 3) sc.nd rfl (Or.inl rfl)) (pss_one (ps_if (pt_cmpR (op_eqD (eqU hr)) (pe_ix ix_seq (pv 3) pe_int (fun _ _ => rfl)) pe_str (nomark _)) (pss_one (ps_expr (pe_bm PySem.F.plainAttrs_list PySem.F.slot_list_append PySem.F.type_list_append mt_append (pv 2) (pa_cons (pe_callTy call_list_of (by rfl) b_list (by decide +kernel) (pa_cons (pe_ix ix_seq (pv 0) (pe_ix ix_seq (pv 3) pe_int (fun _ _ => rfl)) (fun _ _ => rfl)) pa_nil)) pa_nil)))) (pss_one (ps_if (pt_cmpR (op_eqD (eqU hr)) (pe_ix ix_seq (pv 3) pe_int (fun _ _ => rfl)) pe_str (nomark _)) (pss_one (ps_expr (pe_bm PySem.F.plainAttrs_list PySem.F.slot_list_append PySem.F.type_list_append mt_append (pv 2) (pa_cons (pe_callS G_then (hr.mono (by omega)) (by rfl) m_then k_then d_then (fun σ => passAt (takes_of rfl rfl rfl rfl) σ) (pa_cons (pe_ix ix_seq (pv 2) (pe_ix ix_seq (pv 3) pe_int (fun _ _ => rfl)) (fun _ _ => rfl)) (pa_cons (pe_ix ix_seq (pv 2) (pe_ix ix_seq (pv 3) pe_int (fun _ _ => rfl)) (fun _ _ => rfl)) pa_nil))) pa_nil)))) (pss_one (ps_expr (pe_bm PySem.F.plainAttrs_list PySem.F.slot_list_append PySem.F.type_list_append mt_append (pv 2) (pa_cons (pe_callS G_back (hr.mono (by omega)) (by rfl) m_back k_back d_back (fun σ => passAt (takes_of rfl rfl rfl rfl) σ) (pa_cons (pe_ix ix_seq (pv 2) (pe_ix ix_seq (pv 3) pe_int (fun _ _ => rfl)) (fun _ _ => rfl)) pa_nil)) pa_nil))))))))) (pss_one (ps_ret (pv 2))))),
    (ss_seq (ss_set (se_lst sea_nil) (by decide)) (ss_seq (ss_for (slots := [3]) (si_e se_var) sg_name (by decide) (ss_if (set_p (sp_test (sp_op os_eq (sp_op os_ix sp_var sp_int) sp_str))) (ss_app (se_list (sv_ix sv_var (sp_op os_ix sp_var sp_int)))) (ss_if (set_p (sp_test (sp_op os_eq (sp_op os_ix sp_var sp_int) sp_str))) (ss_app (se_callB (sa_cons (sp_op os_ix sp_var (sp_op os_ix sp_var sp_int)) (sa_cons (sp_op os_ix sp_var (sp_op os_ix sp_var sp_int)) sa_nil)))) (ss_app (se_callB (sa_cons (sp_op os_ix sp_var (sp_op os_ix sp_var sp_int)) sa_nil)))))) (ss_ret se_mv)))⟩
/-! last_turning: 0 n, 1 makers, 2 program -/
theorem sc_last_turning : FnScope ["n", "makers", "program"] ["n", "makers", "program"] (defScope s_last_turning) := ⟨rfl, rfl, rfl, by decide +kernel, rfl, by decide +kernel, by decide +kernel⟩
theorem ok_last_turning (dd : Dd K mg "last_turning" s_last_turning ["n", "makers", "program"]) (g_step_turnings : Fn P w K mg base "step_turnings" 2 ["makers", "program"] (spM ct 2 F_step_turnings)) (g_still : Fn P w K mg base "still" 1 ["n"] (spM ct 1 F_still)) :
    Fn P w K mg base "last_turning" (3) ["n", "makers", "program"] (spM ct 3 F_last_turning) := by
  obtain ⟨_, _, G_step_turnings, m_step_turnings, k_step_turnings, d_step_turnings⟩ := g_step_turnings
  obtain ⟨_, _, G_still, m_still, k_still, d_still⟩ := g_still
  have sc := sc_last_turning
  refine fn_def (k := 2) dd sc_last_turning fun f cdv A outer s H E hr => ?_
  exact ⟨_, (pss_one (ps_ret (pe_ifExp (pt_truth (pv 2) (by intro _; rfl)) (pe_ix ix_seq (pe_callS G_step_turnings (hr.mono (by omega)) (by rfl) m_step_turnings k_step_turnings d_step_turnings (fun σ => passAt (takes_of rfl rfl rfl rfl) σ) (pa_cons (pv 1) (pa_cons (pv 2) pa_nil))) (pe_un un_neg pe_int) (fun _ _ => rfl)) (pe_callS G_still (hr.mono (by omega)) (by rfl) m_still k_still d_still (fun σ => passAt (takes_of rfl rfl rfl rfl) σ) (pa_cons (pv 0) pa_nil))))),
    (ss_ret (se_if (set_p (st_tru sp_var)) (se_op oe_ix (se_call (sea_cons se_var (sea_cons se_var sea_nil))) (se_p (sp_un us_neg sp_int))) (se_call (sea_cons se_var sea_nil))))⟩
/-! program_turning: 0 n, 1 makers, 2 program -/
theorem sc_program_turning : FnScope ["n", "makers", "program"] ["n", "makers", "program"] (defScope s_program_turning) := ⟨rfl, rfl, rfl, by decide +kernel, rfl, by decide +kernel, by decide +kernel⟩
theorem ok_program_turning (dd : Dd K mg "program_turning" s_program_turning ["n", "makers", "program"]) (b_len : mg "len" = none) (g_last_turning : Fn P w K mg base "last_turning" 3 ["n", "makers", "program"] (spM ct 3 F_last_turning)) (g_check_program : Fn P w K mg base "check_program" 3 ["many", "program"] (spM ct 2 F_check_program)) (g_check_group : Fn P w K mg base "check_group" 5 ["n", "makers"] (spM ct 2 F_check_group)) :
    Fn P w K mg base "program_turning" (6) ["n", "makers", "program"] (spM ct 3 F_program_turning) := by
  obtain ⟨_, _, G_last_turning, m_last_turning, k_last_turning, d_last_turning⟩ := g_last_turning
  obtain ⟨_, _, G_check_program, m_check_program, k_check_program, d_check_program⟩ := g_check_program
  obtain ⟨_, _, G_check_group, m_check_group, k_check_group, d_check_group⟩ := g_check_group
  have sc := sc_program_turning
  refine fn_def (k := 5) dd sc_program_turning fun f cdv A outer s H E hr => ?_
  exact ⟨_, (pss_cons (ps_expr (pe_callS G_check_group (hr.mono (by omega)) (by rfl) m_check_group k_check_group d_check_group (fun σ => passAt (takes_of rfl rfl rfl rfl) σ) (pa_cons (pv 0) (pa_cons (pv 1) pa_nil)))) (pss_cons (ps_expr (pe_callS G_check_program (hr.mono (by omega)) (by rfl) m_check_program k_check_program d_check_program (fun σ => passAt (takes_of rfl rfl rfl rfl) σ) (pa_cons (pe_callB call_len (by rfl) b_len (by decide +kernel) (pa_cons (pv 1) pa_nil)) (pa_cons (pv 2) pa_nil)))) (pss_one (ps_ret (pe_callS G_last_turning (hr.mono (by omega)) (by rfl) m_last_turning k_last_turning d_last_turning (fun σ => passAt (takes_of rfl rfl rfl rfl) σ) (pa_cons (pv 0) (pa_cons (pv 1) (pa_cons (pv 2) pa_nil)))))))),
    (ss_seq (ss_drop (se_call (sea_cons se_var (sea_cons se_var sea_nil)))) (ss_seq (ss_drop (se_call (sea_cons (se_p (sp_cb cs_len (sa_cons sp_var sa_nil))) (sea_cons se_var sea_nil)))) (ss_ret (se_call (sea_cons se_var (sea_cons se_var (sea_cons se_var sea_nil)))))))⟩
/-! step_lengths: 0 program, 1 found, 2 step -/
theorem sc_step_lengths : FnScope ["program", "found", "step"] ["program"] (defScope s_step_lengths) := ⟨rfl, rfl, rfl, by decide +kernel, rfl, by decide +kernel, by decide +kernel⟩
theorem ok_step_lengths (dd : Dd K mg "step_lengths" s_step_lengths ["program"]) :
    Fn P w K mg base "step_lengths" (1) ["program"] (spM ct 1 F_step_lengths) := by
  have sc := sc_step_lengths
  refine fn_def (k := 0) dd sc_step_lengths fun f cdv A outer s H E hr => ?_
  exact ⟨_, (pss_cons (ps_set (i := 1) sc.nd rfl (Or.inl rfl) (pe_lst pa_nil)) (pss_cons (ps_for (passes_of rfl) rfl (pi_seq (pv 0)) (pg_name (i := 2) sc.nd rfl (Or.inl rfl)) (pss_one (ps_if (pt_cmpR (op_eqD (eqU hr)) (pe_ix ix_seq (pv 2) pe_int (fun _ _ => rfl)) pe_str (nomark _)) (pss_one (ps_expr (pe_bm PySem.F.plainAttrs_list PySem.F.slot_list_append PySem.F.type_list_append mt_append (pv 1) (pa_cons pe_int pa_nil)))) (pss_one (ps_if (pt_cmpR (op_eqD (eqU hr)) (pe_ix ix_seq (pv 2) pe_int (fun _ _ => rfl)) pe_str (nomark _)) (pss_one (ps_expr (pe_bm PySem.F.plainAttrs_list PySem.F.slot_list_append PySem.F.type_list_append mt_append (pv 1) (pa_cons (pe_op u_add (pe_ix ix_seq (pv 1) (pe_ix ix_seq (pv 2) pe_int (fun _ _ => rfl)) (fun _ _ => rfl)) (pe_ix ix_seq (pv 1) (pe_ix ix_seq (pv 2) pe_int (fun _ _ => rfl)) (fun _ _ => rfl))) pa_nil)))) (pss_one (ps_expr (pe_bm PySem.F.plainAttrs_list PySem.F.slot_list_append PySem.F.type_list_append mt_append (pv 1) (pa_cons (pe_ix ix_seq (pv 1) (pe_ix ix_seq (pv 2) pe_int (fun _ _ => rfl)) (fun _ _ => rfl)) pa_nil))))))))) (pss_one (ps_ret (pv 1))))),
    (ss_seq (ss_set (se_lst sea_nil) (by decide)) (ss_seq (ss_for (slots := [2]) (si_e se_var) sg_name (by decide) (ss_if (set_p (sp_test (sp_op os_eq (sp_op os_ix sp_var sp_int) sp_str))) (ss_app (se_p sp_int)) (ss_if (set_p (sp_test (sp_op os_eq (sp_op os_ix sp_var sp_int) sp_str))) (ss_app (se_op oe_add (se_get (sv_ix sv_var (sp_op os_ix sp_var sp_int))) (se_get (sv_ix sv_var (sp_op os_ix sp_var sp_int))))) (ss_app (se_get (sv_ix sv_var (sp_op os_ix sp_var sp_int))))))) (ss_ret se_mv)))⟩
/-! program_length: 0 program -/
theorem sc_program_length : FnScope ["program"] ["program"] (defScope s_program_length) := ⟨rfl, rfl, rfl, by decide +kernel, rfl, by decide +kernel, by decide +kernel⟩
theorem ok_program_length (dd : Dd K mg "program_length" s_program_length ["program"]) (g_step_lengths : Fn P w K mg base "step_lengths" 1 ["program"] (spM ct 1 F_step_lengths)) :
    Fn P w K mg base "program_length" (2) ["program"] (spM ct 1 F_program_length) := by
  obtain ⟨_, _, G_step_lengths, m_step_lengths, k_step_lengths, d_step_lengths⟩ := g_step_lengths
  have sc := sc_program_length
  refine fn_def (k := 1) dd sc_program_length fun f cdv A outer s H E hr => ?_
  exact ⟨_, (pss_one (ps_ret (pe_ifExp (pt_truth (pv 0) (by intro _; rfl)) (pe_ix ix_seq (pe_callS G_step_lengths (hr.mono (by omega)) (by rfl) m_step_lengths k_step_lengths d_step_lengths (fun σ => passAt (takes_of rfl rfl rfl rfl) σ) (pa_cons (pv 0) pa_nil)) (pe_un un_neg pe_int) (fun _ _ => rfl)) pe_int))),
    (ss_ret (se_if (set_p (st_tru sp_var)) (se_op oe_ix (se_call (sea_cons se_var sea_nil)) (se_p (sp_un us_neg sp_int))) (se_p sp_int)))⟩
/-! turned_steps: 0 program, 1 found, 2 place, 3 step -/
theorem sc_turned_steps : FnScope ["program", "found", "place", "step"] ["program"] (defScope s_turned_steps) := ⟨rfl, rfl, rfl, by decide +kernel, rfl, by decide +kernel, by decide +kernel⟩
theorem ok_turned_steps (dd : Dd K mg "turned_steps" s_turned_steps ["program"]) (b_enumerate : mg "enumerate" = none) :
    Fn P w K mg base "turned_steps" (1) ["program"] (spM ct 1 F_turned_steps) := by
  have sc := sc_turned_steps
  refine fn_def (k := 0) dd sc_turned_steps fun f cdv A outer s H E hr => ?_
  exact ⟨_, (pss_cons (ps_set (i := 1) sc.nd rfl (Or.inl rfl) (pe_lst pa_nil)) (pss_cons (ps_for (passes_of rfl) rfl (pi_enum (by rfl) b_enumerate (pa_cons (pv 0) pa_nil)) (pg_tup (by rfl) (pgs_cons (pg_name (i := 2) sc.nd rfl (Or.inl rfl)) (pgs_cons (pg_name (i := 3) sc.nd rfl (Or.inl rfl)) pgs_nil))) (pss_one (ps_expr (pe_bm PySem.F.plainAttrs_list PySem.F.slot_list_append PySem.F.type_list_append mt_append (pv 1) (pa_cons (pe_ifExp (pt_cmpR (op_eqD (eqU hr)) (pe_ix ix_seq (pv 3) pe_int (fun _ _ => rfl)) pe_str (nomark _)) (pe_tup (pa_cons (pe_ix ix_seq (pe_ix ix_seq (pv 1) (pe_ix ix_seq (pv 3) pe_int (fun _ _ => rfl)) (fun _ _ => rfl)) pe_int (fun _ _ => rfl)) (pa_cons (pe_un un_neg (pe_ix ix_seq (pe_ix ix_seq (pv 1) (pe_ix ix_seq (pv 3) pe_int (fun _ _ => rfl)) (fun _ _ => rfl)) pe_int (fun _ _ => rfl))) pa_nil))) (pe_tup (pa_cons (pv 2) (pa_cons pe_int pa_nil)))) pa_nil))))) (pss_one (ps_ret (pv 1))))),
    (ss_seq (ss_set (se_lst sea_nil) (by decide)) (ss_seq (ss_for (slots := [2, 3]) (si_en se_var) (sg_tup (is := [2, 3]) rfl) (by decide) (ss_app (se_if (set_p (sp_test (sp_op os_eq (sp_op os_ix sp_var sp_int) sp_str))) (se_tup (sea_cons (se_get (sv_ix (sv_ix sv_var (sp_op os_ix sp_var sp_int)) sp_int)) (sea_cons (se_p (sp_un us_neg (sp_op os_ix (sp_op os_ix sp_var (sp_op os_ix sp_var sp_int)) sp_int))) sea_nil))) (se_tup (sea_cons se_var (sea_cons (se_p sp_int) sea_nil)))))) (ss_ret se_mv)))⟩
/-! written_out: 0 program, 1 most, 2 many, 3 turned, 4 word, 5 waiting, 6 last, 7 e, 8 place, 9 step, 10 first -/
theorem sc_written_out : FnScope ["program", "most", "many", "turned", "word", "waiting", "last", "e", "place", "step", "first"] ["program", "most"] (defScope s_written_out) := ⟨rfl, rfl, rfl, by decide +kernel, rfl, by decide +kernel, by decide +kernel⟩
theorem ok_written_out (dd : Dd K mg "written_out" s_written_out ["program", "most"]) (b_len : mg "len" = none) {A_TooMany : Addr} {I_TooMany : Addr} (x1_TooMany : Xc1 P K mg ct "TooMany" A_TooMany I_TooMany "bound" "bound") (g_turned_steps : Fn P w K mg base "turned_steps" 1 ["program"] (spM ct 1 F_turned_steps)) (g_program_length : Fn P w K mg base "program_length" 2 ["program"] (spM ct 1 F_program_length)) :
    Fn P w K mg base "written_out" (3) ["program", "most"] (spM ct 2 F_written_out) := by
  obtain ⟨_, _, G_turned_steps, m_turned_steps, k_turned_steps, d_turned_steps⟩ := g_turned_steps
  obtain ⟨_, _, G_program_length, m_program_length, k_program_length, d_program_length⟩ := g_program_length
  have sc := sc_written_out
  refine fn_def (k := 2) dd sc_written_out fun f cdv A outer s H E hr => ?_
  exact ⟨_, (pss_cons (ps_set (i := 2) sc.nd rfl (Or.inl rfl) (pe_callS G_program_length (hr.mono (by omega)) (by rfl) m_program_length k_program_length d_program_length (fun σ => passAt (takes_of rfl rfl rfl rfl) σ) (pa_cons (pv 0) pa_nil))) (pss_cons (ps_if (pt_cmpR u_gt (pv 2) (pv 1) (nomark _)) (pss_one (ps_raise rfl (takes_of rfl rfl rfl rfl) (pmk_x1 x1_TooMany (hr.mono (by omega)) (by rfl) (pv 2)))) pss_nil) (pss_cons (ps_set (i := 3) sc.nd rfl (Or.inl rfl) (pe_callS G_turned_steps (hr.mono (by omega)) (by rfl) m_turned_steps k_turned_steps d_turned_steps (fun σ => passAt (takes_of rfl rfl rfl rfl) σ) (pa_cons (pv 0) pa_nil))) (pss_cons (ps_par (by rfl) sc.nd rfl rfl (by decide) rfl rfl (pa_cons (pe_lst pa_nil) (pa_cons (pe_ifExp (pt_truth (pv 0) (by intro _; rfl)) (pe_lst (pa_cons (pe_tup (pa_cons (pe_op u_sub (pe_callB call_len (by rfl) b_len (by decide +kernel) (pa_cons (pv 0) pa_nil)) pe_int) (pa_cons pe_int pa_nil))) pa_nil)) (pe_lst pa_nil)) pa_nil)) (by rfl)) (pss_cons (ps_while (passes_of rfl) (pt_truth (pv 5) (by intro _; rfl)) (pss_cons (ps_asg (pe_bm0 PySem.F.plainAttrs_list PySem.F.slot_list_pop PySem.F.type_list_pop mt_pop (pv 5)) (pg_tup (by rfl) (pgs_cons (pg_name (i := 6) sc.nd rfl (Or.inl rfl)) (pgs_cons (pg_name (i := 7) sc.nd rfl (Or.inl rfl)) pgs_nil)))) (pss_cons (ps_par (by rfl) sc.nd rfl rfl (by decide) rfl rfl (pa_cons (pe_ix ix_seq (pe_ix ix_seq (pv 3) (pv 6) (fun _ _ => rfl)) pe_int (fun _ _ => rfl)) (pa_cons (pe_op u_mul (pv 7) (pe_ix ix_seq (pe_ix ix_seq (pv 3) (pv 6) (fun _ _ => rfl)) pe_int (fun _ _ => rfl))) pa_nil)) (by rfl)) (pss_cons (ps_set (i := 9) sc.nd rfl (Or.inl rfl) (pe_ix ix_seq (pv 0) (pv 8) (fun _ _ => rfl))) (pss_one (ps_if (pt_cmpR (op_eqD (eqU hr)) (pe_ix ix_seq (pv 9) pe_int (fun _ _ => rfl)) pe_str (nomark _)) (pss_one (ps_expr (pe_bm PySem.F.plainAttrs_list PySem.F.slot_list_append PySem.F.type_list_append mt_append (pv 4) (pa_cons (pe_tup (pa_cons (pe_ix ix_seq (pv 9) pe_int (fun _ _ => rfl)) (pa_cons (pv 7) pa_nil))) pa_nil)))) (pss_cons (ps_asg (pe_ifExp (pt_cmpR (op_eqD (eqU hr)) (pv 7) pe_int (nomark _)) (pe_tup (pa_cons (pe_ix ix_seq (pv 9) pe_int (fun _ _ => rfl)) (pa_cons (pe_ix ix_seq (pv 9) pe_int (fun _ _ => rfl)) pa_nil))) (pe_tup (pa_cons (pe_ix ix_seq (pv 9) pe_int (fun _ _ => rfl)) (pa_cons (pe_ix ix_seq (pv 9) pe_int (fun _ _ => rfl)) pa_nil)))) (pg_tup (by rfl) (pgs_cons (pg_name (i := 10) sc.nd rfl (Or.inl rfl)) (pgs_cons (pg_name (i := 6) sc.nd rfl (Or.inl rfl)) pgs_nil)))) (pss_one (ps_expr (pe_bm PySem.F.plainAttrs_list PySem.F.slot_list_extend PySem.F.type_list_extend mt_extend (pv 5) (pa_cons (pe_lst (pa_cons (pe_tup (pa_cons (pv 6) (pa_cons (pv 7) pa_nil))) (pa_cons (pe_tup (pa_cons (pv 10) (pa_cons (pv 7) pa_nil))) pa_nil))) pa_nil))))))))))) (pss_one (ps_ret (pv 4)))))))),
    (ss_seq (ss_set (se_call (sea_cons se_var sea_nil)) (by decide)) (ss_seq (ss_if (set_p (sp_test (sp_op os_gt sp_var sp_var))) (ss_raise1 x1_TooMany.c.cto se_var) ss_nil) (ss_seq (ss_set (se_call (sea_cons se_var sea_nil)) (by decide)) (ss_seq (ss_par (sea_cons (se_lst sea_nil) (sea_cons (se_if (set_p (st_tru sp_var)) (se_lst (sea_cons (se_tup (sea_cons (se_p (sp_op os_sub (sp_cb cs_len (sa_cons sp_var sa_nil)) sp_int)) (sea_cons (se_p sp_int) sea_nil))) sea_nil)) (se_lst sea_nil)) sea_nil)) (by decide) (by decide)) (ss_seq (ss_while 1000000 (set_p (st_tru sp_var)) (ss_seq (ss_unp se_pop (sg_tup (is := [6, 7]) rfl) (by decide)) (ss_seq (ss_par (sea_cons (se_get (sv_ix (sv_ix sv_var sp_var) sp_int)) (sea_cons (se_p (sp_op os_mul sp_var (sp_op os_ix (sp_op os_ix sp_var sp_var) sp_int))) sea_nil)) (by decide) (by decide)) (ss_seq (ss_set (se_get (sv_ix sv_var sp_var)) (by decide)) (ss_if (set_p (sp_test (sp_op os_eq (sp_op os_ix sp_var sp_int) sp_str))) (ss_app (se_tup (sea_cons (se_get (sv_ix sv_var sp_int)) (sea_cons se_var sea_nil)))) (ss_seq (ss_unp (se_if (set_p (sp_test (sp_op os_eq sp_var sp_int))) (se_tup (sea_cons (se_get (sv_ix sv_var sp_int)) (sea_cons (se_get (sv_ix sv_var sp_int)) sea_nil))) (se_tup (sea_cons (se_get (sv_ix sv_var sp_int)) (sea_cons (se_get (sv_ix sv_var sp_int)) sea_nil)))) (sg_tup (is := [10, 6]) rfl) (by decide)) (ss_ext (se_lst (sea_cons (se_tup (sea_cons se_var (sea_cons se_var sea_nil))) (sea_cons (se_tup (sea_cons se_var (sea_cons se_var sea_nil))) sea_nil)))))))))) (ss_ret se_mv))))))⟩
/-! the pool and the stream: the same in all laws -/
theorem sc_law_pool : FnScope ["script", "pool", "cell", "rest", "k", "state"] ["script"] (defScope s_law_pool) := ⟨rfl, rfl, rfl, by decide +kernel, rfl, by decide +kernel, by decide +kernel⟩
theorem ok_law_pool (dd : Dd K mg "_law_pool" s_law_pool ["script"]) (b_int : mg "int" = none) (b_range : mg "range" = none) : Fn P w K mg base "_law_pool" 1 ["script"] (spSc ct K F_law_pool) := by
  have sc := sc_law_pool
  refine fn_defS (k := 0) dd sc_law_pool (by decide) fun f cdv A outer s H E hr => ?_
  exact ⟨_, (pss_cons (ps_set (i := 1) sc.nd rfl (Or.inl rfl) (pe_lst pa_nil)) (pss_cons (ps_for (passes_of rfl) rfl (pi_seq (pv 0)) (pg_name (i := 2) sc.nd rfl (Or.inl rfl)) (pss_cons (ps_set (i := 3) sc.nd rfl (Or.inl rfl) (pe_callTy call_int1 (by rfl) b_int (by decide +kernel) (pa_cons (pv 2) pa_nil))) (pss_one (ps_if (pt_cmpR u_ge (pv 3) (pe_op u_pow pe_int pe_int) (nomark _)) (pss_one (ps_for (passes_of rfl) rfl (pi_range1 (by rfl) b_range (pa_cons pe_int pa_nil)) (pg_name (i := 4) sc.nd rfl (Or.inl rfl)) (pss_cons (ps_expr (pe_bm PySem.F.plainAttrs_list PySem.F.slot_list_append PySem.F.type_list_append mt_append (pv 1) (pa_cons (pe_op u_mod (pe_callTy call_int1 (by rfl) b_int (by decide +kernel) (pa_cons (pv 3) pa_nil)) pe_int) pa_nil))) (pss_cons (ps_set (i := 3) sc.nd rfl (Or.inl rfl) (pe_callTy call_int1 (by rfl) b_int (by decide +kernel) (pa_cons (pe_op u_div (pv 3) pe_int) pa_nil))) (pss_one (ps_if (pt_cmpR (op_eqD (eqU hr)) (pv 3) pe_int (nomark _)) (pss_one ps_break) pss_nil)))))) (pss_one (ps_set (i := 1) sc.nd rfl (Or.inl rfl) (pe_op u_add (pv 1) (pe_lst (pa_cons (pe_op u_mod (pe_callTy call_int1 (by rfl) b_int (by decide +kernel) (pa_cons (pv 3) pa_nil)) pe_int) (pa_cons (pe_op u_mod (pe_callTy call_int1 (by rfl) b_int (by decide +kernel) (pa_cons (pe_op u_div (pv 3) pe_int) pa_nil)) pe_int) pa_nil)))))))))) (pss_cons (ps_set (i := 5) sc.nd rfl (Or.inl rfl) pe_int) (pss_cons (ps_for (passes_of rfl) rfl (pi_seq (pv 0)) (pg_name (i := 2) sc.nd rfl (Or.inl rfl)) (pss_one (ps_set (i := 5) sc.nd rfl (Or.inl rfl) (pe_op u_mod (pe_op u_add (pe_op u_mul (pv 5) pe_int) (pe_callTy call_int1 (by rfl) b_int (by decide +kernel) (pa_cons (pv 2) pa_nil))) pe_int)))) (pss_cons (ps_for (passes_of rfl) rfl (pi_range1 (by rfl) b_range (pa_cons pe_int pa_nil)) (pg_name (i := 4) sc.nd rfl (Or.inl rfl)) (pss_cons (ps_set (i := 5) sc.nd rfl (Or.inl rfl) (pe_op u_mod (pe_op u_add (pe_op u_mul (pv 5) pe_int) pe_int) pe_int)) (pss_one (ps_expr (pe_bm PySem.F.plainAttrs_list PySem.F.slot_list_append PySem.F.type_list_append mt_append (pv 1) (pa_cons (pe_op u_mod (pe_callTy call_int1 (by rfl) b_int (by decide +kernel) (pa_cons (pe_op u_div (pv 5) pe_int) pa_nil)) pe_int) pa_nil)))))) (pss_one (ps_ret (pv 1)))))))),
    fun ns => (ssa_seq (SS.a (ss_set (se_lst sea_nil) (by decide))) (ssa_seq (ssa_forS (slots := [2]) sg_name (by decide) (by decide) (ss_seq (ss_set (se_p (sp_cb cs_int (sa_cons sp_var sa_nil))) (by decide)) (ss_if (set_p (sp_test (sp_op os_ge sp_var (sp_op os_pow sp_int sp_int)))) (ss_for (slots := [4]) (si_r1 (sea_cons (se_p sp_int) sea_nil)) sg_name (by decide) (ss_seq (ss_app (se_p (sp_op os_mod (sp_cb cs_int (sa_cons sp_var sa_nil)) sp_int))) (ss_seq (ss_set (se_p (sp_cb cs_int (sa_cons (sp_op os_div sp_var sp_int) sa_nil))) (by decide)) (ss_if (set_p (sp_test (sp_op os_eq sp_var sp_int))) ss_bk ss_nil)))) (ss_set (se_op oe_add se_var (se_lst (sea_cons (se_p (sp_op os_mod (sp_cb cs_int (sa_cons sp_var sa_nil)) sp_int)) (sea_cons (se_p (sp_op os_mod (sp_cb cs_int (sa_cons (sp_op os_div sp_var sp_int) sa_nil)) sp_int)) sea_nil)))) (by decide))))) (ssa_seq (SS.a (ss_set (se_p sp_int) (by decide))) (ssa_seq (ssa_forS (slots := [2]) sg_name (by decide) (by decide) (ss_set (se_p (sp_op os_mod (sp_op os_add (sp_op os_mul sp_var sp_int) (sp_cb cs_int (sa_cons sp_var sa_nil))) sp_int)) (by decide))) (ssa_seq (SS.a (ss_for (slots := [4]) (si_r1 (sea_cons (se_p sp_int) sea_nil)) sg_name (by decide) (ss_seq (ss_set (se_p (sp_op os_mod (sp_op os_add (sp_op os_mul sp_var sp_int) sp_int) sp_int)) (by decide)) (ss_app (se_p (sp_op os_mod (sp_cb cs_int (sa_cons (sp_op os_div sp_var sp_int) sa_nil)) sp_int)))))) (SS.a (ss_ret se_mv)))))))⟩
theorem sc_law_stream : FnScope ["script"] ["script"] (defScope s_law_stream) := ⟨rfl, rfl, rfl, by decide +kernel, rfl, by decide +kernel, by decide +kernel⟩
theorem ok_law_stream (dd : Dd K mg "_law_stream" s_law_stream ["script"]) (g_law_pool : Fn P w K mg base "_law_pool" 1 ["script"] (spSc ct K F_law_pool)) : Fn P w K mg base "_law_stream" 2 ["script"] (spSc ct K F_law_stream) := by
  obtain ⟨_, _, G_law_pool, m_law_pool, k_law_pool, d_law_pool⟩ := g_law_pool
  have sc := sc_law_stream
  refine fn_defS (k := 1) dd sc_law_stream (by decide) fun f cdv A outer s H E hr => ?_
  exact ⟨_, (pss_one (ps_ret (pe_op u_add (pe_lst (pa_cons pe_int pa_nil)) (pe_callS G_law_pool (hr.mono (by omega)) (by rfl) m_law_pool k_law_pool d_law_pool (fun σ => passAt (takes_of rfl rfl rfl rfl) σ) (pa_cons (pv 0) pa_nil))))),
    fun ns => ssa_ret (by decide) (sea_op oe_add (se_lst (sea_cons (se_p sp_int) sea_nil)) sea_callS)⟩
/-! law_pick: 0 pool, 1 many, 2 place -/
theorem sc_law_pick : FnScope ["pool", "many", "place"] ["pool", "many"] (defScope s_law_pick) := ⟨rfl, rfl, rfl, by decide +kernel, rfl, by decide +kernel, by decide +kernel⟩
theorem ok_law_pick (dd : Dd K mg "_law_pick" s_law_pick ["pool", "many"]) (b_int : mg "int" = none) (b_len : mg "len" = none) :
    Fn P w K mg base "_law_pick" (1) ["pool", "many"] (spM ct 2 F_law_pick) := by
  have sc := sc_law_pick
  refine fn_defI (k := 0) dd sc_law_pick (by decide) fun f cdv A outer s H E hr => ?_
  exact ⟨_, (pss_cons (ps_set (i := 2) sc.nd rfl (Or.inl rfl) (pe_ix ix_seq (pv 0) pe_int (fun _ _ => rfl))) (pss_cons (ps_asg (pe_op u_add (pv 2) pe_int) (pg_sub (pv 0) pe_int set_list)) (pss_cons (ps_if (pt_cmpR (op_eqD (eqU hr)) (pe_ix ix_seq (pv 0) pe_int (fun _ _ => rfl)) (pe_callB call_len (by rfl) b_len (by decide +kernel) (pa_cons (pv 0) pa_nil)) (nomark _)) (pss_one (ps_asg pe_int (pg_sub (pv 0) pe_int set_list))) pss_nil) (pss_one (ps_ret (pe_op u_mod (pe_callTy call_int1 (by rfl) b_int (by decide +kernel) (pa_cons (pe_ix ix_seq (pv 0) (pv 2) (fun _ _ => rfl)) pa_nil)) (pv 1))))))),
    (ss_seq (ss_set (se_get (sv_ix sv_var sp_int)) (by decide)) (ss_seq (ss_store (se_p (sp_op os_add sp_var sp_int)) sp_int) (ss_seq (ss_if (set_p (sp_test (sp_op os_eq (sp_op os_ix sp_var sp_int) (sp_cb cs_len (sa_cons sp_var sa_nil))))) (ss_store (se_p sp_int) sp_int) ss_nil) (ss_ret (se_p (sp_op os_mod (sp_cb cs_int (sa_cons (sp_op os_ix sp_var sp_var) sa_nil)) sp_var))))))⟩
/-! law_then: 0 p, 1 q, 2 x -/
theorem sc_law_then : FnScope ["p", "q", "x"] ["p", "q"] (defScope s_law_then) := ⟨rfl, rfl, rfl, by decide +kernel, rfl, by decide +kernel, by decide +kernel⟩
theorem ok_law_then (dd : Dd K mg "_law_then" s_law_then ["p", "q"]) :
    Fn P w K mg base "_law_then" (1) ["p", "q"] (spM ct 2 F_law_then) := by
  have sc := sc_law_then
  refine fn_def (k := 0) dd sc_law_then fun f cdv A outer s H E hr => ?_
  exact ⟨_, (pss_one (ps_ret (pe_lc (own := [("x", 2)]) rfl sc.nd (pi_seq (pv 0)) (blkOk_by (N := ["p", "q", "x"]) (sc := defScope s_law_then) (by decide +kernel)) (fun _ _ _ _ _ => (pg_name (i := 2) sc.nd rfl (by first | exact Or.inl rfl | exact Or.inr rfl))) (fun _ _ _ _ _ => pts_nil) (fun _ _ _ _ _ => (pe_ix ix_seq (pv 1) (pv 2) (fun _ _ => rfl)))))),
    (ss_ret (se_lc (slots := [2]) (si_e se_var) sg_name set_yes (se_get (sv_ix sv_var sp_var))))⟩
/-! law_back: 0 p, 1 found, 2 x -/
theorem sc_law_back : FnScope ["p", "found", "x"] ["p"] (defScope s_law_back) := ⟨rfl, rfl, rfl, by decide +kernel, rfl, by decide +kernel, by decide +kernel⟩
theorem ok_law_back (dd : Dd K mg "_law_back" s_law_back ["p"]) (b_len : mg "len" = none) (b_range : mg "range" = none) :
    Fn P w K mg base "_law_back" (1) ["p"] (spM ct 1 F_law_back) := by
  have sc := sc_law_back
  refine fn_def (k := 0) dd sc_law_back fun f cdv A outer s H E hr => ?_
  exact ⟨_, (pss_cons (ps_set (i := 1) sc.nd rfl (Or.inl rfl) (pe_op u_mul (pe_lst (pa_cons pe_int pa_nil)) (pe_callB call_len (by rfl) b_len (by decide +kernel) (pa_cons (pv 0) pa_nil)))) (pss_cons (ps_for (passes_of rfl) rfl (pi_range1 (by rfl) b_range (pa_cons (pe_callB call_len (by rfl) b_len (by decide +kernel) (pa_cons (pv 0) pa_nil)) pa_nil)) (pg_name (i := 2) sc.nd rfl (Or.inl rfl)) (pss_one (ps_asg (pv 2) (pg_sub (pv 1) (pe_ix ix_seq (pv 0) (pv 2) (fun _ _ => rfl)) set_list)))) (pss_one (ps_ret (pv 1))))),
    (ss_seq (ss_set (se_op oe_repU (se_lst (sea_cons (se_p sp_int) sea_nil)) (se_p (sp_cb cs_len (sa_cons sp_var sa_nil)))) (by decide)) (ss_seq (ss_for (slots := [2]) (si_r1 (sea_cons (se_p (sp_cb cs_len (sa_cons sp_var sa_nil))) sea_nil)) sg_name (by decide) (ss_store se_var (sp_op os_ix sp_var sp_var))) (ss_ret se_mv)))⟩
/-! law_turning: 0 pool, 1 n, 2 left, 3 found, 4 x, 5 at -/
theorem sc_law_turning : FnScope ["pool", "n", "left", "found", "x", "at"] ["pool", "n"] (defScope s_law_turning) := ⟨rfl, rfl, rfl, by decide +kernel, rfl, by decide +kernel, by decide +kernel⟩
theorem ok_law_turning (dd : Dd K mg "_law_turning" s_law_turning ["pool", "n"]) (b_len : mg "len" = none) (b_list : mg "list" = none) (b_range : mg "range" = none) (g_law_pick : Fn P w K mg base "_law_pick" 1 ["pool", "many"] (spM ct 2 F_law_pick)) :
    Fn P w K mg base "_law_turning" (2) ["pool", "n"] (spM ct 2 F_law_turning) := by
  obtain ⟨_, _, G_law_pick, m_law_pick, k_law_pick, d_law_pick⟩ := g_law_pick
  have sc := sc_law_turning
  refine fn_defI (k := 1) dd sc_law_turning (by decide) fun f cdv A outer s H E hr => ?_
  exact ⟨_, (pss_cons (ps_par (by rfl) sc.nd rfl rfl (by decide) rfl rfl (pa_cons (pe_listRg rfl (by rfl) b_list (prg_1 (by rfl) b_range (pv 1))) (pa_cons (pe_lst pa_nil) pa_nil)) (by rfl)) (pss_cons (ps_for (passes_of rfl) rfl (pi_range1 (by rfl) b_range (pa_cons (pv 1) pa_nil)) (pg_name (i := 4) sc.nd rfl (Or.inl rfl)) (pss_cons (ps_set (i := 5) sc.nd rfl (Or.inl rfl) (pe_callS G_law_pick (hr.mono (by omega)) (by rfl) m_law_pick k_law_pick d_law_pick (fun σ => passAt (takes_of rfl rfl rfl rfl) σ) (pa_cons (pv 0) (pa_cons (pe_callB call_len (by rfl) b_len (by decide +kernel) (pa_cons (pv 2) pa_nil)) pa_nil)))) (pss_cons (ps_expr (pe_bm PySem.F.plainAttrs_list PySem.F.slot_list_append PySem.F.type_list_append mt_append (pv 3) (pa_cons (pe_ix ix_seq (pv 2) (pv 5) (fun _ _ => rfl)) pa_nil))) (pss_one (ps_set (i := 2) sc.nd rfl (Or.inl rfl) (pe_op u_add (pe_slice sl_list (pv 2) po_none (po_some (pv 5))) (pe_slice sl_list (pv 2) (po_some (pe_op u_add (pv 5) pe_int)) po_none))))))) (pss_one (ps_ret (pv 3))))),
    (ss_seq (ss_par (sea_cons (se_rg1 sp_var) (sea_cons (se_lst sea_nil) sea_nil)) (by decide) (by decide)) (ss_seq (ss_for (slots := [4]) (si_r1 (sea_cons se_var sea_nil)) sg_name (by decide) (ss_seq (ss_set (se_callI (sea_cons (se_p (sp_cb cs_len (sa_cons sp_var sa_nil))) sea_nil)) (by decide)) (ss_seq (ss_app (se_get (sv_ix sv_var sp_var))) (ss_set (se_op oe_add (se_sl sv_var spo_no (spo_yes sp_var)) (se_sl sv_var (spo_yes (sp_op os_add sp_var sp_int)) spo_no)) (by decide))))) (ss_ret se_mv)))⟩
/-! law_same: 0 one, 1 other, 2 k -/
theorem sc_law_same : FnScope ["one", "other", "k"] ["one", "other"] (defScope s_law_same) := ⟨rfl, rfl, rfl, by decide +kernel, rfl, by decide +kernel, by decide +kernel⟩
theorem ok_law_same (dd : Dd K mg "_law_same" s_law_same ["one", "other"]) (b_all : mg "all" = none) (b_bool : mg "bool" = none) (b_int : mg "int" = none) (b_isinstance : mg "isinstance" = none) (b_len : mg "len" = none) (b_list : mg "list" = none) (b_range : mg "range" = none) (b_str : mg "str" = none) (b_tuple : mg "tuple" = none) {F : FM} {lv : Nat} (hlv : 1 ≤ lv + 1) (g_law_same : Fn P w K mg base "_law_same" lv ["one", "other"] (spM ct 2 F)) :
    Fn P w K mg base "_law_same" (lv + 1) ["one", "other"] (spM ct 2 (mFun 2 3 (m_law_same F))) := by
  obtain ⟨_, _, G_law_same, m_law_same, k_law_same, d_law_same⟩ := g_law_same
  have sc := sc_law_same
  refine fn_def (k := lv) dd sc_law_same fun f cdv A outer s H E hr => ?_
  exact ⟨_, (pss_cons (ps_if (pt_cmpR op_isN (pv 1) pe_non (nomark _)) (pss_one (ps_ret (pe_cmpR op_isN (pv 0) pe_non (nomark _)))) pss_nil) (pss_cons (ps_if (pt_val (pe_callB call_isi (by rfl) b_isinstance (by decide +kernel) (pa_cons (pv 1) (pa_cons (pe_bltn (v := .ty "bool") (by rfl) b_bool (by decide +kernel) rfl) pa_nil)))) (pss_one (ps_ret (pe_and (pe_callB call_isi (by rfl) b_isinstance (by decide +kernel) (pa_cons (pv 0) (pa_cons (pe_bltn (v := .ty "bool") (by rfl) b_bool (by decide +kernel) rfl) pa_nil))) (pe_one (pe_cmpR (op_eqD (eqU hr)) (pv 0) (pv 1) (nomark _)))))) pss_nil) (pss_cons (ps_if (pt_val (pe_callB call_isi (by rfl) b_isinstance (by decide +kernel) (pa_cons (pv 1) (pa_cons (pe_bltn (v := .ty "int") (by rfl) b_int (by decide +kernel) rfl) pa_nil)))) (pss_one (ps_ret (pe_and (pe_callB call_isi (by rfl) b_isinstance (by decide +kernel) (pa_cons (pv 0) (pa_cons (pe_bltn (v := .ty "int") (by rfl) b_int (by decide +kernel) rfl) pa_nil))) (pe_and (pe_not (pe_callB call_isi (by rfl) b_isinstance (by decide +kernel) (pa_cons (pv 0) (pa_cons (pe_bltn (v := .ty "bool") (by rfl) b_bool (by decide +kernel) rfl) pa_nil)))) (pe_one (pe_cmpR (op_eqD (eqU hr)) (pv 0) (pv 1) (nomark _))))))) pss_nil) (pss_cons (ps_if (pt_val (pe_callB call_isi (by rfl) b_isinstance (by decide +kernel) (pa_cons (pv 1) (pa_cons (pe_bltn (v := .ty "str") (by rfl) b_str (by decide +kernel) rfl) pa_nil)))) (pss_one (ps_ret (pe_and (pe_callB call_isi (by rfl) b_isinstance (by decide +kernel) (pa_cons (pv 0) (pa_cons (pe_bltn (v := .ty "str") (by rfl) b_str (by decide +kernel) rfl) pa_nil))) (pe_one (pe_cmpR (op_eqD (eqU hr)) (pv 0) (pv 1) (nomark _)))))) pss_nil) (pss_cons (ps_if (PW.pt (pw_or (pt_cmpR (op_neD (eqU hr)) (pe_callB call_isi (by rfl) b_isinstance (by decide +kernel) (pa_cons (pv 0) (pa_cons (pe_bltn (v := .ty "list") (by rfl) b_list (by decide +kernel) rfl) pa_nil))) (pe_callB call_isi (by rfl) b_isinstance (by decide +kernel) (pa_cons (pv 1) (pa_cons (pe_bltn (v := .ty "list") (by rfl) b_list (by decide +kernel) rfl) pa_nil))) (nomark _)) (pw_or (pt_not (pt_val (pe_callB call_isiT (by rfl) b_isinstance (by decide +kernel) (pa_cons (pv 0) (pa_cons (pe_tup (pa_cons (pe_bltn (v := .ty "list") (by rfl) b_list (by decide +kernel) rfl) (pa_cons (pe_bltn (v := .ty "tuple") (by rfl) b_tuple (by decide +kernel) rfl) pa_nil))) pa_nil))))) (pw_or1 (pt_cmpR (op_neD (eqU hr)) (pe_callB call_len (by rfl) b_len (by decide +kernel) (pa_cons (pv 0) pa_nil)) (pe_callB call_len (by rfl) b_len (by decide +kernel) (pa_cons (pv 1) pa_nil)) (nomark _)))))) (pss_one (ps_ret pe_bl)) pss_nil) (pss_one (ps_ret (pe_callB (cr_all rfl) (by rfl) b_all (by decide +kernel) (pa_cons (pe_lc (own := [("k", 2)]) rfl sc.nd (pi_range1 (by rfl) b_range (pa_cons (pe_callB call_len (by rfl) b_len (by decide +kernel) (pa_cons (pv 1) pa_nil)) pa_nil)) (blkOk_by (N := ["one", "other", "k"]) (sc := defScope s_law_same) (by decide +kernel)) (fun _ _ _ _ _ => (pg_name (i := 2) sc.nd rfl (by first | exact Or.inl rfl | exact Or.inr rfl))) (fun _ _ _ _ _ => pts_nil) (fun _ _ _ _ _ => (pe_call G_law_same (hr.mono (by omega)) (by rfl) m_law_same k_law_same d_law_same .nil passL (pa_cons (pe_ix ix_seq (pv 0) (pv 2) (fun _ _ => rfl)) (pa_cons (pe_ix ix_seq (pv 1) (pv 2) (fun _ _ => rfl)) pa_nil))))) pa_nil))))))))),
    (ss_seq (ss_if (set_p (sp_test (sp_op os_isN sp_var sp_non))) (ss_ret (se_p (sp_op os_isN sp_var sp_non))) ss_nil) (ss_seq (ss_if (set_p (sp_b (sp_isi Ty.bool rfl sp_var))) (ss_ret (se_p (sp_andV (sp_isi Ty.bool rfl sp_var) (sp_op os_eq sp_var sp_var)))) ss_nil) (ss_seq (ss_if (set_p (sp_b (sp_isi Ty.int rfl sp_var))) (ss_ret (se_p (sp_andV (sp_isi Ty.int rfl sp_var) (sp_andV (sp_notV (sp_isi Ty.bool rfl sp_var)) (sp_op os_eq sp_var sp_var))))) ss_nil) (ss_seq (ss_if (set_p (sp_b (sp_isi Ty.str rfl sp_var))) (ss_ret (se_p (sp_andV (sp_isi Ty.str rfl sp_var) (sp_op os_eq sp_var sp_var)))) ss_nil) (ss_seq (ss_if (set_p (st_or (sp_test (sp_op os_ne (sp_isi Ty.list rfl sp_var) (sp_isi Ty.list rfl sp_var))) (st_or (st_not (sp_b (sp_isiM [.list, .tuple] rfl (by decide) sp_var))) (sp_test (sp_op os_ne (sp_cb cs_len (sa_cons sp_var sa_nil)) (sp_cb cs_len (sa_cons sp_var sa_nil))))))) (ss_ret (se_p sp_bl)) ss_nil) (ss_ret (se_cb (ce_s cs_all) (sea_cons (se_lc (slots := [2]) (si_r1 (sea_cons (se_p (sp_cb cs_len (sa_cons sp_var sa_nil))) sea_nil)) sg_name set_yes (se_p (sp_call0 (sa_cons (sp_op os_ix sp_var sp_var) (sa_cons (sp_op os_ix sp_var sp_var) sa_nil))))) sea_nil))))))))⟩
theorem all_law_same (dd : Dd K mg "_law_same" s_law_same ["one", "other"]) (b_all : mg "all" = none) (b_bool : mg "bool" = none) (b_int : mg "int" = none) (b_isinstance : mg "isinstance" = none) (b_len : mg "len" = none) (b_list : mg "list" = none) (b_range : mg "range" = none) (b_str : mg "str" = none) (b_tuple : mg "tuple" = none) : ∀ k : Nat, Fn P w K mg base "_law_same" (0 + k) ["one", "other"] (spM ct 2 (F_law_same k))
  | 0 => fn_bad dd
  | k + 1 => ok_law_same dd b_all b_bool b_int b_isinstance b_len b_list b_range b_str b_tuple (by omega) (all_law_same dd b_all b_bool b_int b_isinstance b_len b_list b_range b_str b_tuple k)
/-! law_places: 0 pool -/
theorem sc_law_places : FnScope ["pool"] ["pool"] (defScope s_law_places) := ⟨rfl, rfl, rfl, by decide +kernel, rfl, by decide +kernel, by decide +kernel⟩
theorem ok_law_places (dd : Dd K mg "_law_places" s_law_places ["pool"]) (g_law_pick : Fn P w K mg base "_law_pick" 1 ["pool", "many"] (spM ct 2 F_law_pick)) :
    Fn P w K mg base "_law_places" (2) ["pool"] (spM ct 1 F_law_places) := by
  obtain ⟨_, _, G_law_pick, m_law_pick, k_law_pick, d_law_pick⟩ := g_law_pick
  have sc := sc_law_places
  refine fn_defI (k := 1) dd sc_law_places (by decide) fun f cdv A outer s H E hr => ?_
  exact ⟨_, (pss_one (ps_ret (pe_ix ix_seq (pe_lst (pa_cons pe_int (pa_cons pe_int (pa_cons pe_int (pa_cons pe_int (pa_cons pe_int (pa_cons (pe_op u_add pe_int (pe_callS G_law_pick (hr.mono (by omega)) (by rfl) m_law_pick k_law_pick d_law_pick (fun σ => passAt (takes_of rfl rfl rfl rfl) σ) (pa_cons (pv 0) (pa_cons pe_int pa_nil)))) (pa_cons (pe_callS G_law_pick (hr.mono (by omega)) (by rfl) m_law_pick k_law_pick d_law_pick (fun σ => passAt (takes_of rfl rfl rfl rfl) σ) (pa_cons (pv 0) (pa_cons pe_int pa_nil))) (pa_cons (pe_callS G_law_pick (hr.mono (by omega)) (by rfl) m_law_pick k_law_pick d_law_pick (fun σ => passAt (takes_of rfl rfl rfl rfl) σ) (pa_cons (pv 0) (pa_cons pe_int pa_nil))) pa_nil))))))))) (pe_callS G_law_pick (hr.mono (by omega)) (by rfl) m_law_pick k_law_pick d_law_pick (fun σ => passAt (takes_of rfl rfl rfl rfl) σ) (pa_cons (pv 0) (pa_cons pe_int pa_nil))) (fun _ _ => rfl)))),
    (ss_ret (se_op oe_ix (se_lst (sea_cons (se_p sp_int) (sea_cons (se_p sp_int) (sea_cons (se_p sp_int) (sea_cons (se_p sp_int) (sea_cons (se_p sp_int) (sea_cons (se_op oe_add (se_p sp_int) (se_callI (sea_cons (se_p sp_int) sea_nil))) (sea_cons (se_callI (sea_cons (se_p sp_int) sea_nil)) (sea_cons (se_callI (sea_cons (se_p sp_int) sea_nil)) sea_nil))))))))) (se_callI (sea_cons (se_p sp_int) sea_nil))))⟩
/-! law_lengths: 0 pool, 1 n, 2 kind, 3 alike, 4 at, 5 left, 6 found, 7 turn, 8 size -/
theorem sc_law_lengths : FnScope ["pool", "n", "kind", "alike", "at", "left", "found", "turn", "size"] ["pool", "n"] (defScope s_law_lengths) := ⟨rfl, rfl, rfl, by decide +kernel, rfl, by decide +kernel, by decide +kernel⟩
theorem ok_law_lengths (dd : Dd K mg "_law_lengths" s_law_lengths ["pool", "n"]) (b_int : mg "int" = none) (b_max : mg "max" = none) (b_min : mg "min" = none) (b_range : mg "range" = none) (g_law_pick : Fn P w K mg base "_law_pick" 1 ["pool", "many"] (spM ct 2 F_law_pick)) :
    Fn P w K mg base "_law_lengths" (2) ["pool", "n"] (spM ct 2 F_law_lengths) := by
  obtain ⟨_, _, G_law_pick, m_law_pick, k_law_pick, d_law_pick⟩ := g_law_pick
  have sc := sc_law_lengths
  refine fn_defI (k := 1) dd sc_law_lengths (by decide) fun f cdv A outer s H E hr => ?_
  exact ⟨_, (pss_cons (ps_par3 (by rfl) sc.nd rfl rfl rfl (by decide) (by decide) (by decide) rfl rfl rfl (pa_cons (pe_callS G_law_pick (hr.mono (by omega)) (by rfl) m_law_pick k_law_pick d_law_pick (fun σ => passAt (takes_of rfl rfl rfl rfl) σ) (pa_cons (pv 0) (pa_cons pe_int pa_nil))) (pa_cons (pe_op u_add pe_int (pe_callS G_law_pick (hr.mono (by omega)) (by rfl) m_law_pick k_law_pick d_law_pick (fun σ => passAt (takes_of rfl rfl rfl rfl) σ) (pa_cons (pv 0) (pa_cons (pe_callB (call_max2 rfl) (by rfl) b_max (by decide +kernel) (pa_cons pe_int (pa_cons (pv 1) pa_nil))) pa_nil)))) (pa_cons (pe_op u_mul (pe_callS G_law_pick (hr.mono (by omega)) (by rfl) m_law_pick k_law_pick d_law_pick (fun σ => passAt (takes_of rfl rfl rfl rfl) σ) (pa_cons (pv 0) (pa_cons pe_int pa_nil))) (pe_callS G_law_pick (hr.mono (by omega)) (by rfl) m_law_pick k_law_pick d_law_pick (fun σ => passAt (takes_of rfl rfl rfl rfl) σ) (pa_cons (pv 0) (pa_cons pe_int pa_nil)))) pa_nil))) (by rfl)) (pss_cons (ps_par (by rfl) sc.nd rfl rfl (by decide) rfl rfl (pa_cons (pv 1) (pa_cons (pe_lst pa_nil) pa_nil)) (by rfl)) (pss_cons (ps_for (passes_of rfl) rfl (pi_range1 (by rfl) b_range (pa_cons (pv 1) pa_nil)) (pg_name (i := 7) sc.nd rfl (Or.inl rfl)) (pss_one (ps_if (pt_cmpR u_gt (pv 5) pe_int (nomark _)) (pss_cons (ps_set (i := 8) sc.nd rfl (Or.inl rfl) (pe_ix ix_seq (pe_lst (pa_cons (pv 3) (pa_cons (pv 5) (pa_cons (pe_ix ix_seq (pe_lst (pa_cons pe_int (pa_cons pe_int (pa_cons pe_int (pa_cons pe_int (pa_cons pe_int (pa_cons pe_int (pa_cons pe_int (pa_cons pe_int pa_nil))))))))) (pe_op u_mod (pe_callTy call_int1 (by rfl) b_int (by decide +kernel) (pa_cons (pe_op u_add (pv 4) (pv 7)) pa_nil)) pe_int) (fun _ _ => rfl)) (pa_cons pe_int (pa_cons pe_int pa_nil)))))) (pv 2) (fun _ _ => rfl))) (pss_cons (ps_if (pt_cmpR u_gt (pv 2) pe_int (nomark _)) (pss_one (ps_set (i := 8) sc.nd rfl (Or.inl rfl) (pe_op u_add pe_int (pe_callS G_law_pick (hr.mono (by omega)) (by rfl) m_law_pick k_law_pick d_law_pick (fun σ => passAt (takes_of rfl rfl rfl rfl) σ) (pa_cons (pv 0) (pa_cons (pe_ix ix_seq (pe_lst (pa_cons (pv 5) (pa_cons (pe_callB (call_min2 rfl) (by rfl) b_min (by decide +kernel) (pa_cons (pv 5) (pa_cons pe_int pa_nil))) pa_nil))) (pe_op u_sub (pv 2) pe_int) (fun _ _ => rfl)) pa_nil)))))) pss_nil) (pss_cons (ps_expr (pe_bm PySem.F.plainAttrs_list PySem.F.slot_list_append PySem.F.type_list_append mt_append (pv 6) (pa_cons (pe_callB (call_min2 rfl) (by rfl) b_min (by decide +kernel) (pa_cons (pv 8) (pa_cons (pv 5) pa_nil))) pa_nil))) (pss_one (ps_set (i := 5) sc.nd rfl (Or.inl rfl) (pe_op u_sub (pv 5) (pe_ix ix_seq (pv 6) (pe_un un_neg pe_int) (fun _ _ => rfl)))))))) pss_nil))) (pss_one (ps_ret (pv 6)))))),
    (ss_seq (ss_par3 (sea_cons (se_callI (sea_cons (se_p sp_int) sea_nil)) (sea_cons (se_op oe_add (se_p sp_int) (se_callI (sea_cons (se_p (sp_cb cs_max2 (sa_cons sp_int (sa_cons sp_var sa_nil)))) sea_nil))) (sea_cons (se_op (oe_s os_mul) (se_callI (sea_cons (se_p sp_int) sea_nil)) (se_callI (sea_cons (se_p sp_int) sea_nil))) sea_nil))) (by decide) (by decide) (by decide)) (ss_seq (ss_par (sea_cons se_var (sea_cons (se_lst sea_nil) sea_nil)) (by decide) (by decide)) (ss_seq (ss_for (slots := [7]) (si_r1 (sea_cons se_var sea_nil)) sg_name (by decide) (ss_if (set_p (sp_test (sp_op os_gt sp_var sp_int))) (ss_seq (ss_set (se_p (sp_op os_ix (sp_lst (sa_cons sp_var (sa_cons sp_var (sa_cons (sp_op os_ix (sp_lst (sa_cons sp_int (sa_cons sp_int (sa_cons sp_int (sa_cons sp_int (sa_cons sp_int (sa_cons sp_int (sa_cons sp_int (sa_cons sp_int sa_nil))))))))) (sp_op os_mod (sp_cb cs_int (sa_cons (sp_op os_add sp_var sp_var) sa_nil)) sp_int)) (sa_cons sp_int (sa_cons sp_int sa_nil)))))) sp_var)) (by decide)) (ss_seq (ss_if (set_p (sp_test (sp_op os_gt sp_var sp_int))) (ss_set (se_op oe_add (se_p sp_int) (se_callI (sea_cons (se_p (sp_op os_ix (sp_lst (sa_cons sp_var (sa_cons (sp_cb cs_min2 (sa_cons sp_var (sa_cons sp_int sa_nil))) sa_nil))) (sp_op os_sub sp_var sp_int))) sea_nil))) (by decide)) ss_nil) (ss_seq (ss_app (se_p (sp_cb cs_min2 (sa_cons sp_var (sa_cons sp_var sa_nil))))) (ss_set (se_p (sp_op os_sub sp_var (sp_op os_ix sp_var (sp_un us_neg sp_int)))) (by decide))))) ss_nil)) (ss_ret se_mv))))⟩
/-! law_shaped: 0 pool, 1 n, 2 places, 3 found, 4 at, 5 size, 6 k -/
theorem sc_law_shaped : FnScope ["pool", "n", "places", "found", "at", "size", "k"] ["pool", "n"] (defScope s_law_shaped) := ⟨rfl, rfl, rfl, by decide +kernel, rfl, by decide +kernel, by decide +kernel⟩
theorem ok_law_shaped (dd : Dd K mg "_law_shaped" s_law_shaped ["pool", "n"]) (b_int : mg "int" = none) (b_list : mg "list" = none) (b_range : mg "range" = none) (g_law_lengths : Fn P w K mg base "_law_lengths" 2 ["pool", "n"] (spM ct 2 F_law_lengths)) (g_law_turning : Fn P w K mg base "_law_turning" 2 ["pool", "n"] (spM ct 2 F_law_turning)) :
    Fn P w K mg base "_law_shaped" (3) ["pool", "n"] (spM ct 2 F_law_shaped) := by
  obtain ⟨_, _, G_law_lengths, m_law_lengths, k_law_lengths, d_law_lengths⟩ := g_law_lengths
  obtain ⟨_, _, G_law_turning, m_law_turning, k_law_turning, d_law_turning⟩ := g_law_turning
  have sc := sc_law_shaped
  refine fn_defI (k := 2) dd sc_law_shaped (by decide) fun f cdv A outer s H E hr => ?_
  exact ⟨_, (pss_cons (ps_par3 (by rfl) sc.nd rfl rfl rfl (by decide) (by decide) (by decide) rfl rfl rfl (pa_cons (pe_callS G_law_turning (hr.mono (by omega)) (by rfl) m_law_turning k_law_turning d_law_turning (fun σ => passAt (takes_of rfl rfl rfl rfl) σ) (pa_cons (pv 0) (pa_cons (pv 1) pa_nil))) (pa_cons (pe_listRg rfl (by rfl) b_list (prg_1 (by rfl) b_range (pv 1))) (pa_cons pe_int pa_nil))) (by rfl)) (pss_cons (ps_for (passes_of rfl) rfl (pi_seq (pe_callS G_law_lengths (hr.mono (by omega)) (by rfl) m_law_lengths k_law_lengths d_law_lengths (fun σ => passAt (takes_of rfl rfl rfl rfl) σ) (pa_cons (pv 0) (pa_cons (pv 1) pa_nil)))) (pg_name (i := 5) sc.nd rfl (Or.inl rfl)) (pss_cons (ps_for (passes_of rfl) rfl (pi_range1 (by rfl) b_range (pa_cons (pv 5) pa_nil)) (pg_name (i := 6) sc.nd rfl (Or.inl rfl)) (pss_one (ps_asg (pe_ix ix_seq (pv 2) (pe_op u_add (pv 4) (pe_op u_mod (pe_callTy call_int1 (by rfl) b_int (by decide +kernel) (pa_cons (pe_op u_add (pv 6) pe_int) pa_nil)) (pv 5))) (fun _ _ => rfl)) (pg_sub (pv 3) (pe_ix ix_seq (pv 2) (pe_op u_add (pv 4) (pv 6)) (fun _ _ => rfl)) set_list)))) (pss_one (ps_set (i := 4) sc.nd rfl (Or.inl rfl) (pe_op u_add (pv 4) (pv 5)))))) (pss_one (ps_ret (pv 3))))),
    (ss_seq (ss_par3 (sea_cons (se_callI (sea_cons se_var sea_nil)) (sea_cons (se_rg1 sp_var) (sea_cons (se_p sp_int) sea_nil))) (by decide) (by decide) (by decide)) (ss_seq (ss_for (slots := [5]) (si_e (se_callI (sea_cons se_var sea_nil))) sg_name (by decide) (ss_seq (ss_for (slots := [6]) (si_r1 (sea_cons se_var sea_nil)) sg_name (by decide) (ss_store (se_get (sv_ix sv_var (sp_op os_add sp_var (sp_op os_mod (sp_cb cs_int (sa_cons (sp_op os_add sp_var sp_int) sa_nil)) sp_var)))) (sp_op os_ix sp_var (sp_op os_add sp_var sp_var)))) (ss_set (se_p (sp_op os_add sp_var sp_var)) (by decide)))) (ss_ret se_mv)))⟩
/-! law_any: 0 pool, 1 n -/
theorem sc_law_any : FnScope ["pool", "n"] ["pool", "n"] (defScope s_law_any) := ⟨rfl, rfl, rfl, by decide +kernel, rfl, by decide +kernel, by decide +kernel⟩
theorem ok_law_any (dd : Dd K mg "_law_any" s_law_any ["pool", "n"]) (g_law_shaped : Fn P w K mg base "_law_shaped" 3 ["pool", "n"] (spM ct 2 F_law_shaped)) (g_law_turning : Fn P w K mg base "_law_turning" 2 ["pool", "n"] (spM ct 2 F_law_turning)) (g_law_pick : Fn P w K mg base "_law_pick" 1 ["pool", "many"] (spM ct 2 F_law_pick)) :
    Fn P w K mg base "_law_any" (4) ["pool", "n"] (spM ct 2 F_law_any) := by
  obtain ⟨_, _, G_law_shaped, m_law_shaped, k_law_shaped, d_law_shaped⟩ := g_law_shaped
  obtain ⟨_, _, G_law_turning, m_law_turning, k_law_turning, d_law_turning⟩ := g_law_turning
  obtain ⟨_, _, G_law_pick, m_law_pick, k_law_pick, d_law_pick⟩ := g_law_pick
  have sc := sc_law_any
  refine fn_defI (k := 3) dd sc_law_any (by decide) fun f cdv A outer s H E hr => ?_
  exact ⟨_, (pss_cons (ps_if (pt_cmpR (op_eqD (eqU hr)) (pe_callS G_law_pick (hr.mono (by omega)) (by rfl) m_law_pick k_law_pick d_law_pick (fun σ => passAt (takes_of rfl rfl rfl rfl) σ) (pa_cons (pv 0) (pa_cons pe_int pa_nil))) pe_int (nomark _)) (pss_one (ps_ret (pe_callS G_law_turning (hr.mono (by omega)) (by rfl) m_law_turning k_law_turning d_law_turning (fun σ => passAt (takes_of rfl rfl rfl rfl) σ) (pa_cons (pv 0) (pa_cons (pv 1) pa_nil))))) pss_nil) (pss_one (ps_ret (pe_callS G_law_shaped (hr.mono (by omega)) (by rfl) m_law_shaped k_law_shaped d_law_shaped (fun σ => passAt (takes_of rfl rfl rfl rfl) σ) (pa_cons (pv 0) (pa_cons (pv 1) pa_nil)))))),
    (ss_seq (ss_if (set_test (se_op (oe_s os_eq) (se_callI (sea_cons (se_p sp_int) sea_nil)) (se_p sp_int))) (ss_ret (se_callI (sea_cons se_var sea_nil))) ss_nil) (ss_ret (se_callI (sea_cons se_var sea_nil))))⟩
/-! law_mixed: 0 pool, 1 rows, 2 left, 3 found, 4 turn, 5 row -/
theorem sc_law_mixed : FnScope ["pool", "rows", "left", "found", "turn", "row"] ["pool", "rows"] (defScope s_law_mixed) := ⟨rfl, rfl, rfl, by decide +kernel, rfl, by decide +kernel, by decide +kernel⟩
theorem ok_law_mixed (dd : Dd K mg "_law_mixed" s_law_mixed ["pool", "rows"]) (b_len : mg "len" = none) (b_range : mg "range" = none) (g_law_pick : Fn P w K mg base "_law_pick" 1 ["pool", "many"] (spM ct 2 F_law_pick)) :
    Fn P w K mg base "_law_mixed" (2) ["pool", "rows"] (spM ct 2 F_law_mixed) := by
  obtain ⟨_, _, G_law_pick, m_law_pick, k_law_pick, d_law_pick⟩ := g_law_pick
  have sc := sc_law_mixed
  refine fn_defI (k := 1) dd sc_law_mixed (by decide) fun f cdv A outer s H E hr => ?_
  exact ⟨_, (pss_cons (ps_par (by rfl) sc.nd rfl rfl (by decide) rfl rfl (pa_cons (pe_lc (own := [("row", 5)]) rfl sc.nd (pi_seq (pv 1)) (blkOk_by (N := ["pool", "rows", "left", "found", "turn", "row"]) (sc := defScope s_law_mixed) (by decide +kernel)) (fun _ _ _ _ _ => (pg_name (i := 5) sc.nd rfl (by first | exact Or.inl rfl | exact Or.inr rfl))) (fun _ _ _ _ _ => pts_nil) (fun _ _ _ _ _ => (pv 5))) (pa_cons (pe_lst pa_nil) pa_nil)) (by rfl)) (pss_cons (ps_for (passes_of rfl) rfl (pi_range1 (by rfl) b_range (pa_cons (pe_callB call_len (by rfl) b_len (by decide +kernel) (pa_cons (pv 1) pa_nil)) pa_nil)) (pg_name (i := 4) sc.nd rfl (Or.inl rfl)) (pss_one (ps_expr (pe_bm PySem.F.plainAttrs_list PySem.F.slot_list_append PySem.F.type_list_append mt_append (pv 3) (pa_cons (pe_bm PySem.F.plainAttrs_list PySem.F.slot_list_pop PySem.F.type_list_pop mt_popAt (pv 2) (pa_cons (pe_callS G_law_pick (hr.mono (by omega)) (by rfl) m_law_pick k_law_pick d_law_pick (fun σ => passAt (takes_of rfl rfl rfl rfl) σ) (pa_cons (pv 0) (pa_cons (pe_callB call_len (by rfl) b_len (by decide +kernel) (pa_cons (pv 2) pa_nil)) pa_nil))) pa_nil)) pa_nil))))) (pss_one (ps_ret (pv 3))))),
    (ss_seq (ss_par (sea_cons (se_lc (slots := [5]) (si_e se_var) sg_name set_yes se_var) (sea_cons (se_lst sea_nil) sea_nil)) (by decide) (by decide)) (ss_seq (ss_for (slots := [4]) (si_r1 (sea_cons (se_p (sp_cb cs_len (sa_cons sp_var sa_nil))) sea_nil)) sg_name (by decide) (ss_app (se_popAt (se_callI (sea_cons (se_p (sp_cb cs_len (sa_cons sp_var sa_nil))) sea_nil))))) (ss_ret se_mv)))⟩
/-! law_group: 0 pool, 1 n, 2 many, 3 found, 4 k -/
theorem sc_law_group : FnScope ["pool", "n", "many", "found", "k"] ["pool", "n"] (defScope s_law_group) := ⟨rfl, rfl, rfl, by decide +kernel, rfl, by decide +kernel, by decide +kernel⟩
theorem ok_law_group (dd : Dd K mg "_law_group" s_law_group ["pool", "n"]) (b_range : mg "range" = none) (g_law_any : Fn P w K mg base "_law_any" 4 ["pool", "n"] (spM ct 2 F_law_any)) (g_law_then : Fn P w K mg base "_law_then" 1 ["p", "q"] (spM ct 2 F_law_then)) (g_law_pick : Fn P w K mg base "_law_pick" 1 ["pool", "many"] (spM ct 2 F_law_pick)) :
    Fn P w K mg base "_law_group" (5) ["pool", "n"] (spM ct 2 F_law_group) := by
  obtain ⟨_, _, G_law_any, m_law_any, k_law_any, d_law_any⟩ := g_law_any
  obtain ⟨_, _, G_law_then, m_law_then, k_law_then, d_law_then⟩ := g_law_then
  obtain ⟨_, _, G_law_pick, m_law_pick, k_law_pick, d_law_pick⟩ := g_law_pick
  have sc := sc_law_group
  refine fn_defI (k := 4) dd sc_law_group (by decide) fun f cdv A outer s H E hr => ?_
  exact ⟨_, (pss_cons (ps_par (by rfl) sc.nd rfl rfl (by decide) rfl rfl (pa_cons (pe_ix ix_seq (pe_lst (pa_cons pe_int (pa_cons pe_int (pa_cons pe_int (pa_cons pe_int (pa_cons pe_int (pa_cons pe_int (pa_cons (pe_callS G_law_pick (hr.mono (by omega)) (by rfl) m_law_pick k_law_pick d_law_pick (fun σ => passAt (takes_of rfl rfl rfl rfl) σ) (pa_cons (pv 0) (pa_cons pe_int pa_nil))) pa_nil)))))))) (pe_callS G_law_pick (hr.mono (by omega)) (by rfl) m_law_pick k_law_pick d_law_pick (fun σ => passAt (takes_of rfl rfl rfl rfl) σ) (pa_cons (pv 0) (pa_cons pe_int pa_nil))) (fun _ _ => rfl)) (pa_cons (pe_lst pa_nil) pa_nil)) (by rfl)) (pss_cons (ps_for (passes_of rfl) rfl (pi_range1 (by rfl) b_range (pa_cons (pv 2) pa_nil)) (pg_name (i := 4) sc.nd rfl (Or.inl rfl)) (pss_one (ps_if (pt_cmpR u_lt (pv 4) pe_int (nomark _)) (pss_one (ps_expr (pe_bm PySem.F.plainAttrs_list PySem.F.slot_list_append PySem.F.type_list_append mt_append (pv 3) (pa_cons (pe_callS G_law_any (hr.mono (by omega)) (by rfl) m_law_any k_law_any d_law_any (fun σ => passAt (takes_of rfl rfl rfl rfl) σ) (pa_cons (pv 0) (pa_cons (pv 1) pa_nil))) pa_nil)))) (pss_one (ps_expr (pe_bm PySem.F.plainAttrs_list PySem.F.slot_list_append PySem.F.type_list_append mt_append (pv 3) (pa_cons (pe_callS G_law_then (hr.mono (by omega)) (by rfl) m_law_then k_law_then d_law_then (fun σ => passAt (takes_of rfl rfl rfl rfl) σ) (pa_cons (pe_ix ix_seq (pv 3) (pe_callS G_law_pick (hr.mono (by omega)) (by rfl) m_law_pick k_law_pick d_law_pick (fun σ => passAt (takes_of rfl rfl rfl rfl) σ) (pa_cons (pv 0) (pa_cons (pv 4) pa_nil))) (fun _ _ => rfl)) (pa_cons (pe_ix ix_seq (pv 3) (pe_callS G_law_pick (hr.mono (by omega)) (by rfl) m_law_pick k_law_pick d_law_pick (fun σ => passAt (takes_of rfl rfl rfl rfl) σ) (pa_cons (pv 0) (pa_cons (pv 4) pa_nil))) (fun _ _ => rfl)) pa_nil))) pa_nil))))))) (pss_one (ps_ret (pv 3))))),
    (ss_seq (ss_par (sea_cons (se_op oe_ix (se_lst (sea_cons (se_p sp_int) (sea_cons (se_p sp_int) (sea_cons (se_p sp_int) (sea_cons (se_p sp_int) (sea_cons (se_p sp_int) (sea_cons (se_p sp_int) (sea_cons (se_fz (se_callI (sea_cons (se_p sp_int) sea_nil))) sea_nil)))))))) (se_callI (sea_cons (se_p sp_int) sea_nil))) (sea_cons (se_lst sea_nil) sea_nil)) (by decide) (by decide)) (ss_seq (ss_for (slots := [4]) (si_r1 (sea_cons se_var sea_nil)) sg_name (by decide) (ss_if (set_p (sp_test (sp_op os_lt sp_var sp_int))) (ss_app (se_fz (se_callI (sea_cons se_var sea_nil)))) (ss_app (se_fz (se_call (sea_cons (se_ixN (se_callI (sea_cons se_var sea_nil))) (sea_cons (se_ixN (se_callI (sea_cons se_var sea_nil))) sea_nil))))))) (ss_ret se_mv)))⟩
/-! law_program: 0 pool, 1 many, 2 size, 3 most, 4 steps, 5 lengths, 6 at, 7 kind, 8 near, 9 i, 10 j -/
theorem sc_law_program : FnScope ["pool", "many", "size", "most", "steps", "lengths", "at", "kind", "near", "i", "j"] ["pool", "many", "size", "most"] (defScope s_law_program) := ⟨rfl, rfl, rfl, by decide +kernel, rfl, by decide +kernel, by decide +kernel⟩
theorem ok_law_program (dd : Dd K mg "_law_program" s_law_program ["pool", "many", "size", "most"]) (b_min : mg "min" = none) (b_range : mg "range" = none) (g_law_pick : Fn P w K mg base "_law_pick" 1 ["pool", "many"] (spM ct 2 F_law_pick)) :
    Fn P w K mg base "_law_program" (2) ["pool", "many", "size", "most"] (spM ct 4 F_law_program) := by
  obtain ⟨_, _, G_law_pick, m_law_pick, k_law_pick, d_law_pick⟩ := g_law_pick
  have sc := sc_law_program
  refine fn_defI (k := 1) dd sc_law_program (by decide) fun f cdv A outer s H E hr => ?_
  exact ⟨_, (pss_cons (ps_par (by rfl) sc.nd rfl rfl (by decide) rfl rfl (pa_cons (pe_lst pa_nil) (pa_cons (pe_lst pa_nil) pa_nil)) (by rfl)) (pss_cons (ps_for (passes_of rfl) rfl (pi_range1 (by rfl) b_range (pa_cons (pv 2) pa_nil)) (pg_name (i := 6) sc.nd rfl (Or.inl rfl)) (pss_cons (ps_par (by rfl) sc.nd rfl rfl (by decide) rfl rfl (pa_cons (pe_callS G_law_pick (hr.mono (by omega)) (by rfl) m_law_pick k_law_pick d_law_pick (fun σ => passAt (takes_of rfl rfl rfl rfl) σ) (pa_cons (pv 0) (pa_cons pe_int pa_nil))) (pa_cons (pe_ix ix_seq (pe_lst (pa_cons pe_int (pa_cons pe_int (pa_cons pe_int (pa_cons pe_int pa_nil))))) (pe_callS G_law_pick (hr.mono (by omega)) (by rfl) m_law_pick k_law_pick d_law_pick (fun σ => passAt (takes_of rfl rfl rfl rfl) σ) (pa_cons (pv 0) (pa_cons pe_int pa_nil))) (fun _ _ => rfl)) pa_nil)) (by rfl)) (pss_cons (ps_par (by rfl) sc.nd rfl rfl (by decide) rfl rfl (pa_cons (pe_op u_sub (pv 6) pe_int) (pa_cons (pe_op u_sub (pv 6) pe_int) pa_nil)) (by rfl)) (pss_cons (ps_if (pt_cmpR u_gt (pv 6) pe_int (nomark _)) (pss_one (ps_par (by rfl) sc.nd rfl rfl (by decide) rfl rfl (pa_cons (pe_op u_sub (pe_op u_sub (pv 6) pe_int) (pe_callS G_law_pick (hr.mono (by omega)) (by rfl) m_law_pick k_law_pick d_law_pick (fun σ => passAt (takes_of rfl rfl rfl rfl) σ) (pa_cons (pv 0) (pa_cons (pe_callB (call_min2 rfl) (by rfl) b_min (by decide +kernel) (pa_cons (pv 6) (pa_cons (pv 8) pa_nil))) pa_nil)))) (pa_cons (pe_op u_sub (pe_op u_sub (pv 6) pe_int) (pe_callS G_law_pick (hr.mono (by omega)) (by rfl) m_law_pick k_law_pick d_law_pick (fun σ => passAt (takes_of rfl rfl rfl rfl) σ) (pa_cons (pv 0) (pa_cons (pe_callB (call_min2 rfl) (by rfl) b_min (by decide +kernel) (pa_cons (pv 6) (pa_cons (pv 8) pa_nil))) pa_nil)))) pa_nil)) (by rfl))) pss_nil) (pss_one (ps_if (PW.pt (pw_or (pt_cmpR (op_eqD (eqU hr)) (pv 6) pe_int (nomark _)) (pw_or1 (pt_cmpR u_lt (pv 7) pe_int (nomark _))))) (pss_cons (ps_expr (pe_bm PySem.F.plainAttrs_list PySem.F.slot_list_append PySem.F.type_list_append mt_append (pv 4) (pa_cons (pe_tup (pa_cons pe_str (pa_cons (pe_callS G_law_pick (hr.mono (by omega)) (by rfl) m_law_pick k_law_pick d_law_pick (fun σ => passAt (takes_of rfl rfl rfl rfl) σ) (pa_cons (pv 0) (pa_cons (pv 1) pa_nil))) pa_nil))) pa_nil))) (pss_one (ps_expr (pe_bm PySem.F.plainAttrs_list PySem.F.slot_list_append PySem.F.type_list_append mt_append (pv 5) (pa_cons pe_int pa_nil))))) (pss_one (ps_if (PW.pt (pw_or (pt_cmpR u_lt (pv 7) pe_int (nomark _)) (pw_or1 (pt_cmpR u_gt (pe_op u_add (pe_ix ix_seq (pv 5) (pv 9) (fun _ _ => rfl)) (pe_ix ix_seq (pv 5) (pv 10) (fun _ _ => rfl))) (pv 3) (nomark _))))) (pss_cons (ps_expr (pe_bm PySem.F.plainAttrs_list PySem.F.slot_list_append PySem.F.type_list_append mt_append (pv 4) (pa_cons (pe_tup (pa_cons pe_str (pa_cons (pv 9) pa_nil))) pa_nil))) (pss_one (ps_expr (pe_bm PySem.F.plainAttrs_list PySem.F.slot_list_append PySem.F.type_list_append mt_append (pv 5) (pa_cons (pe_ix ix_seq (pv 5) (pv 9) (fun _ _ => rfl)) pa_nil))))) (pss_cons (ps_expr (pe_bm PySem.F.plainAttrs_list PySem.F.slot_list_append PySem.F.type_list_append mt_append (pv 4) (pa_cons (pe_tup (pa_cons pe_str (pa_cons (pv 9) (pa_cons (pv 10) pa_nil)))) pa_nil))) (pss_one (ps_expr (pe_bm PySem.F.plainAttrs_list PySem.F.slot_list_append PySem.F.type_list_append mt_append (pv 5) (pa_cons (pe_op u_add (pe_ix ix_seq (pv 5) (pv 9) (fun _ _ => rfl)) (pe_ix ix_seq (pv 5) (pv 10) (fun _ _ => rfl))) pa_nil))))))))))))) (pss_one (ps_ret (pe_tup (pa_cons (pv 4) (pa_cons (pv 5) pa_nil))))))),
    (ss_seq (ss_par (sea_cons (se_lst sea_nil) (sea_cons (se_lst sea_nil) sea_nil)) (by decide) (by decide)) (ss_seq (ss_for (slots := [6]) (si_r1 (sea_cons se_var sea_nil)) sg_name (by decide) (ss_seq (ss_par (sea_cons (se_callI (sea_cons (se_p sp_int) sea_nil)) (sea_cons (se_op oe_ix (se_lst (sea_cons (se_p sp_int) (sea_cons (se_p sp_int) (sea_cons (se_p sp_int) (sea_cons (se_p sp_int) sea_nil))))) (se_callI (sea_cons (se_p sp_int) sea_nil))) sea_nil)) (by decide) (by decide)) (ss_seq (ss_par (sea_cons (se_p (sp_op os_sub sp_var sp_int)) (sea_cons (se_p (sp_op os_sub sp_var sp_int)) sea_nil)) (by decide) (by decide)) (ss_seq (ss_if (set_p (sp_test (sp_op os_gt sp_var sp_int))) (ss_par (sea_cons (se_op (oe_s os_sub) (se_p (sp_op os_sub sp_var sp_int)) (se_callI (sea_cons (se_p (sp_cb cs_min2 (sa_cons sp_var (sa_cons sp_var sa_nil)))) sea_nil))) (sea_cons (se_op (oe_s os_sub) (se_p (sp_op os_sub sp_var sp_int)) (se_callI (sea_cons (se_p (sp_cb cs_min2 (sa_cons sp_var (sa_cons sp_var sa_nil)))) sea_nil))) sea_nil)) (by decide) (by decide)) ss_nil) (ss_if (set_p (st_or (sp_test (sp_op os_eq sp_var sp_int)) (sp_test (sp_op os_lt sp_var sp_int)))) (ss_seq (ss_app (se_tup (sea_cons (se_p sp_str) (sea_cons (se_callI (sea_cons se_var sea_nil)) sea_nil)))) (ss_app (se_p sp_int))) (ss_if (set_or (set_p (sp_test (sp_op os_lt sp_var sp_int))) (set_test (se_op (oe_s os_gt) (se_op oe_add (se_get (sv_ix sv_var sp_var)) (se_get (sv_ix sv_var sp_var))) se_var))) (ss_seq (ss_app (se_tup (sea_cons (se_p sp_str) (sea_cons se_var sea_nil)))) (ss_app (se_get (sv_ix sv_var sp_var)))) (ss_seq (ss_app (se_tup (sea_cons (se_p sp_str) (sea_cons se_var (sea_cons se_var sea_nil))))) (ss_app (se_op oe_add (se_get (sv_ix sv_var sp_var)) (se_get (sv_ix sv_var sp_var))))))))))) (ss_ret (se_tup (sea_cons se_mv (sea_cons se_mv sea_nil))))))⟩
/-! law_turnings: 0 makers, 1 steps, 2 found, 3 step -/
theorem sc_law_turnings : FnScope ["makers", "steps", "found", "step"] ["makers", "steps"] (defScope s_law_turnings) := ⟨rfl, rfl, rfl, by decide +kernel, rfl, by decide +kernel, by decide +kernel⟩
theorem ok_law_turnings (dd : Dd K mg "_law_turnings" s_law_turnings ["makers", "steps"]) (g_law_back : Fn P w K mg base "_law_back" 1 ["p"] (spM ct 1 F_law_back)) (g_law_then : Fn P w K mg base "_law_then" 1 ["p", "q"] (spM ct 2 F_law_then)) :
    Fn P w K mg base "_law_turnings" (2) ["makers", "steps"] (spM ct 2 F_law_turnings) := by
  obtain ⟨_, _, G_law_back, m_law_back, k_law_back, d_law_back⟩ := g_law_back
  obtain ⟨_, _, G_law_then, m_law_then, k_law_then, d_law_then⟩ := g_law_then
  have sc := sc_law_turnings
  refine fn_def (k := 1) dd sc_law_turnings fun f cdv A outer s H E hr => ?_
  exact ⟨_, (pss_cons (ps_set (i := 2) sc.nd rfl (Or.inl rfl) (pe_lst pa_nil)) (pss_cons (ps_for (passes_of rfl) rfl (pi_seq (pv 1)) (pg_name (i := 3) sc.nd rfl (Or.inl rfl)) (pss_one (ps_if (pt_cmpR (op_eqD (eqU hr)) (pe_ix ix_seq (pv 3) pe_int (fun _ _ => rfl)) pe_str (nomark _)) (pss_one (ps_expr (pe_bm PySem.F.plainAttrs_list PySem.F.slot_list_append PySem.F.type_list_append mt_append (pv 2) (pa_cons (pe_ix ix_seq (pv 0) (pe_ix ix_seq (pv 3) pe_int (fun _ _ => rfl)) (fun _ _ => rfl)) pa_nil)))) (pss_one (ps_if (pt_cmpR (op_eqD (eqU hr)) (pe_ix ix_seq (pv 3) pe_int (fun _ _ => rfl)) pe_str (nomark _)) (pss_one (ps_expr (pe_bm PySem.F.plainAttrs_list PySem.F.slot_list_append PySem.F.type_list_append mt_append (pv 2) (pa_cons (pe_callS G_law_back (hr.mono (by omega)) (by rfl) m_law_back k_law_back d_law_back (fun σ => passAt (takes_of rfl rfl rfl rfl) σ) (pa_cons (pe_ix ix_seq (pv 2) (pe_ix ix_seq (pv 3) pe_int (fun _ _ => rfl)) (fun _ _ => rfl)) pa_nil)) pa_nil)))) (pss_one (ps_expr (pe_bm PySem.F.plainAttrs_list PySem.F.slot_list_append PySem.F.type_list_append mt_append (pv 2) (pa_cons (pe_callS G_law_then (hr.mono (by omega)) (by rfl) m_law_then k_law_then d_law_then (fun σ => passAt (takes_of rfl rfl rfl rfl) σ) (pa_cons (pe_ix ix_seq (pv 2) (pe_ix ix_seq (pv 3) pe_int (fun _ _ => rfl)) (fun _ _ => rfl)) (pa_cons (pe_ix ix_seq (pv 2) (pe_ix ix_seq (pv 3) pe_int (fun _ _ => rfl)) (fun _ _ => rfl)) pa_nil))) pa_nil))))))))) (pss_one (ps_ret (pv 2))))),
    (ss_seq (ss_set (se_lst sea_nil) (by decide)) (ss_seq (ss_for (slots := [3]) (si_e se_var) sg_name (by decide) (ss_if (set_p (sp_test (sp_op os_eq (sp_op os_ix sp_var sp_int) sp_str))) (ss_app (se_fz (se_get (sv_ix sv_var (sp_op os_ix sp_var sp_int))))) (ss_if (set_p (sp_test (sp_op os_eq (sp_op os_ix sp_var sp_int) sp_str))) (ss_app (se_fz (se_call (sea_cons (se_get (sv_ix sv_var (sp_op os_ix sp_var sp_int))) sea_nil)))) (ss_app (se_fz (se_call (sea_cons (se_get (sv_ix sv_var (sp_op os_ix sp_var sp_int))) (sea_cons (se_get (sv_ix sv_var (sp_op os_ix sp_var sp_int))) sea_nil)))))))) (ss_ret se_mv)))⟩
/-! law_letters: 0 one, 1 other, 2 a, 3 b -/
theorem sc_law_letters : FnScope ["one", "other", "a", "b"] ["one", "other"] (defScope s_law_letters) := ⟨rfl, rfl, rfl, by decide +kernel, rfl, by decide +kernel, by decide +kernel⟩
theorem ok_law_letters (dd : Dd K mg "_law_letters" s_law_letters ["one", "other"]) (b_bool : mg "bool" = none) (b_int : mg "int" = none) (b_isinstance : mg "isinstance" = none) (b_len : mg "len" = none) (b_list : mg "list" = none) (b_tuple : mg "tuple" = none) (b_zip : mg "zip" = none) :
    Fn P w K mg base "_law_letters" (1) ["one", "other"] (spM ct 2 F_law_letters) := by
  have sc := sc_law_letters
  refine fn_def (k := 0) dd sc_law_letters fun f cdv A outer s H E hr => ?_
  exact ⟨_, (pss_cons (ps_if (PW.pt (pw_or (pt_not (pt_val (pe_callB call_isi (by rfl) b_isinstance (by decide +kernel) (pa_cons (pv 0) (pa_cons (pe_bltn (v := .ty "list") (by rfl) b_list (by decide +kernel) rfl) pa_nil))))) (pw_or1 (pt_cmpR (op_neD (eqU hr)) (pe_callB call_len (by rfl) b_len (by decide +kernel) (pa_cons (pv 0) pa_nil)) (pe_callB call_len (by rfl) b_len (by decide +kernel) (pa_cons (pv 1) pa_nil)) (nomark _))))) (pss_one (ps_ret pe_bl)) pss_nil) (pss_cons (ps_for (passes_of rfl) rfl (pi_zip (by rfl) b_zip (pa_cons (pv 0) (pa_cons (pv 1) pa_nil))) (pg_tup (by rfl) (pgs_cons (pg_name (i := 2) sc.nd rfl (Or.inl rfl)) (pgs_cons (pg_name (i := 3) sc.nd rfl (Or.inl rfl)) pgs_nil))) (pss_cons (ps_if (PW.pt (pw_or (pt_not (pt_val (pe_callB call_isi (by rfl) b_isinstance (by decide +kernel) (pa_cons (pv 2) (pa_cons (pe_bltn (v := .ty "tuple") (by rfl) b_tuple (by decide +kernel) rfl) pa_nil))))) (pw_or (pt_cmpR (op_neD (eqU hr)) (pe_callB call_len (by rfl) b_len (by decide +kernel) (pa_cons (pv 2) pa_nil)) pe_int (nomark _)) (pw_or (pt_not (pt_val (pe_callB call_isi (by rfl) b_isinstance (by decide +kernel) (pa_cons (pe_ix ix_seq (pv 2) pe_int (fun _ _ => rfl)) (pa_cons (pe_bltn (v := .ty "int") (by rfl) b_int (by decide +kernel) rfl) pa_nil))))) (pw_or1 (pt_not (pt_val (pe_callB call_isi (by rfl) b_isinstance (by decide +kernel) (pa_cons (pe_ix ix_seq (pv 2) pe_int (fun _ _ => rfl)) (pa_cons (pe_bltn (v := .ty "int") (by rfl) b_int (by decide +kernel) rfl) pa_nil)))))))))) (pss_one (ps_ret pe_bl)) pss_nil) (pss_one (ps_if (PW.pt (pw_or (pt_val (pe_callB call_isi (by rfl) b_isinstance (by decide +kernel) (pa_cons (pe_ix ix_seq (pv 2) pe_int (fun _ _ => rfl)) (pa_cons (pe_bltn (v := .ty "bool") (by rfl) b_bool (by decide +kernel) rfl) pa_nil)))) (pw_or (pt_val (pe_callB call_isi (by rfl) b_isinstance (by decide +kernel) (pa_cons (pe_ix ix_seq (pv 2) pe_int (fun _ _ => rfl)) (pa_cons (pe_bltn (v := .ty "bool") (by rfl) b_bool (by decide +kernel) rfl) pa_nil)))) (pw_or (pt_cmpR (op_neD (eqU hr)) (pe_ix ix_seq (pv 2) pe_int (fun _ _ => rfl)) (pe_ix ix_seq (pv 3) pe_int (fun _ _ => rfl)) (nomark _)) (pw_or1 (pt_cmpR (op_neD (eqU hr)) (pe_ix ix_seq (pv 2) pe_int (fun _ _ => rfl)) (pe_ix ix_seq (pv 3) pe_int (fun _ _ => rfl)) (nomark _))))))) (pss_one (ps_ret pe_bl)) pss_nil)))) (pss_one (ps_ret pe_bl)))),
    (ss_seq (ss_if (set_p (st_or (st_not (sp_b (sp_isi Ty.list rfl sp_var))) (sp_test (sp_op os_ne (sp_cb cs_len (sa_cons sp_var sa_nil)) (sp_cb cs_len (sa_cons sp_var sa_nil)))))) (ss_ret (se_p sp_bl)) ss_nil) (ss_seq (ss_for (slots := [2, 3]) (si_zp se_var se_var) (sg_tup (is := [2, 3]) rfl) (by decide) (ss_seq (ss_if (set_p (st_or (st_not (sp_b (sp_isi Ty.tuple rfl sp_var))) (st_or (sp_test (sp_op os_ne (sp_cb cs_len (sa_cons sp_var sa_nil)) sp_int)) (st_or (st_not (sp_b (sp_isi Ty.int rfl (sp_op os_ix sp_var sp_int)))) (st_not (sp_b (sp_isi Ty.int rfl (sp_op os_ix sp_var sp_int)))))))) (ss_ret (se_p sp_bl)) ss_nil) (ss_if (set_p (st_or (sp_b (sp_isi Ty.bool rfl (sp_op os_ix sp_var sp_int))) (st_or (sp_b (sp_isi Ty.bool rfl (sp_op os_ix sp_var sp_int))) (st_or (sp_test (sp_op os_ne (sp_op os_ix sp_var sp_int) (sp_op os_ix sp_var sp_int))) (sp_test (sp_op os_ne (sp_op os_ix sp_var sp_int) (sp_op os_ix sp_var sp_int))))))) (ss_ret (se_p sp_bl)) ss_nil))) (ss_ret (se_p sp_bl))))⟩
/-! law_word: 0 steps, 1 found, 2 step, 3 k, 4 e -/
theorem sc_law_word : FnScope ["steps", "found", "step", "k", "e"] ["steps"] (defScope s_law_word) := ⟨rfl, rfl, rfl, by decide +kernel, rfl, by decide +kernel, by decide +kernel⟩
theorem ok_law_word (dd : Dd K mg "_law_word" s_law_word ["steps"]) :
    Fn P w K mg base "_law_word" (1) ["steps"] (spM ct 1 F_law_word) := by
  have sc := sc_law_word
  refine fn_def (k := 0) dd sc_law_word fun f cdv A outer s H E hr => ?_
  exact ⟨_, (pss_cons (ps_set (i := 1) sc.nd rfl (Or.inl rfl) (pe_lst (pa_cons (pe_lst pa_nil) pa_nil))) (pss_cons (ps_for (passes_of rfl) rfl (pi_seq (pv 0)) (pg_name (i := 2) sc.nd rfl (Or.inl rfl)) (pss_one (ps_if (pt_cmpR (op_eqD (eqU hr)) (pe_ix ix_seq (pv 2) pe_int (fun _ _ => rfl)) pe_str (nomark _)) (pss_one (ps_expr (pe_bm PySem.F.plainAttrs_list PySem.F.slot_list_append PySem.F.type_list_append mt_append (pv 1) (pa_cons (pe_lst (pa_cons (pe_tup (pa_cons (pe_ix ix_seq (pv 2) pe_int (fun _ _ => rfl)) (pa_cons pe_int pa_nil))) pa_nil)) pa_nil)))) (pss_one (ps_if (pt_cmpR (op_eqD (eqU hr)) (pe_ix ix_seq (pv 2) pe_int (fun _ _ => rfl)) pe_str (nomark _)) (pss_one (ps_expr (pe_bm PySem.F.plainAttrs_list PySem.F.slot_list_append PySem.F.type_list_append mt_append (pv 1) (pa_cons (pe_lc (own := [("k", 3), ("e", 4)]) rfl sc.nd (pi_seq (pe_revL (pe_ix ix_seq (pv 1) (pe_op u_add (pe_ix ix_seq (pv 2) pe_int (fun _ _ => rfl)) pe_int) (fun _ _ => rfl)))) (blkOk_by (N := ["steps", "found", "step", "k", "e"]) (sc := defScope s_law_word) (by decide +kernel)) (fun _ _ _ _ _ => (pg_tup (by rfl) (pgs_cons (pg_name (i := 3) sc.nd rfl (by first | exact Or.inl rfl | exact Or.inr rfl)) (pgs_cons (pg_name (i := 4) sc.nd rfl (by first | exact Or.inl rfl | exact Or.inr rfl)) pgs_nil)))) (fun _ _ _ _ _ => pts_nil) (fun _ _ _ _ _ => (pe_tup (pa_cons (pv 3) (pa_cons (pe_un un_neg (pv 4)) pa_nil))))) pa_nil)))) (pss_one (ps_expr (pe_bm PySem.F.plainAttrs_list PySem.F.slot_list_append PySem.F.type_list_append mt_append (pv 1) (pa_cons (pe_op u_add (pe_ix ix_seq (pv 1) (pe_op u_add (pe_ix ix_seq (pv 2) pe_int (fun _ _ => rfl)) pe_int) (fun _ _ => rfl)) (pe_ix ix_seq (pv 1) (pe_op u_add (pe_ix ix_seq (pv 2) pe_int (fun _ _ => rfl)) pe_int) (fun _ _ => rfl))) pa_nil))))))))) (pss_one (ps_ret (pe_ix ix_seq (pv 1) (pe_un un_neg pe_int) (fun _ _ => rfl)))))),
    (ss_seq (ss_set (se_lst (sea_cons (se_fz (se_lst sea_nil)) sea_nil)) (by decide)) (ss_seq (ss_for (slots := [2]) (si_e se_var) sg_name (by decide) (ss_if (set_p (sp_test (sp_op os_eq (sp_op os_ix sp_var sp_int) sp_str))) (ss_app (se_fz (se_lst (sea_cons (se_tup (sea_cons (se_get (sv_ix sv_var sp_int)) (sea_cons (se_p sp_int) sea_nil))) sea_nil)))) (ss_if (set_p (sp_test (sp_op os_eq (sp_op os_ix sp_var sp_int) sp_str))) (ss_app (se_fz (se_lc (slots := [3, 4]) (si_e (se_revL (sv_ix sv_var (sp_op os_add (sp_op os_ix sp_var sp_int) sp_int)))) (sg_tup (is := [3, 4]) rfl) set_yes (se_tup (sea_cons se_var (sea_cons (se_p (sp_un us_neg sp_var)) sea_nil)))))) (ss_app (se_fz (se_op oe_add (se_get (sv_ix sv_var (sp_op os_add (sp_op os_ix sp_var sp_int) sp_int))) (se_get (sv_ix sv_var (sp_op os_add (sp_op os_ix sp_var sp_int) sp_int))))))))) (ss_ret (se_get (sv_ix sv_var (sp_un us_neg sp_int))))))⟩
/-! law_told: 0 steps, 1 most, 2 told, 3 e -/
theorem sc_law_told : FnScope ["steps", "most", "told", "e"] ["steps", "most"] (defScope s_law_told) := ⟨rfl, rfl, rfl, by decide +kernel, rfl, by decide +kernel, by decide +kernel⟩
theorem ok_law_told (dd : Dd K mg "_law_told" s_law_told ["steps", "most"]) (b_isinstance : mg "isinstance" = none) {A_BadProgram A_BadSize A_BadTurning A_BadWord A_TooMany A_TurnError : Addr} (xc_BadProgram : Xc K mg ct "BadProgram" A_BadProgram) (xc_BadSize : Xc K mg ct "BadSize" A_BadSize) (xc_BadTurning : Xc K mg ct "BadTurning" A_BadTurning) (xc_BadWord : Xc K mg ct "BadWord" A_BadWord) (xc_TooMany : Xc K mg ct "TooMany" A_TooMany) (xc_TurnError : Xc K mg ct "TurnError" A_TurnError) (fo_TooMany : PySem.W.findIn K (.ref A_TooMany) "bound" = some none) (g_written_out : Fn P w K mg base "written_out" 3 ["program", "most"] (spM ct 2 F_written_out)) :
    Fn P w K mg base "_law_told" (4) ["steps", "most"] (spM ct 2 F_law_told) := by
  obtain ⟨_, _, G_written_out, m_written_out, k_written_out, d_written_out⟩ := g_written_out
  have sc := sc_law_told
  refine fn_def (k := 3) dd sc_law_told fun f cdv A outer s H E hr => ?_
  exact ⟨_, (pss_cons (ps_tryZ (i := 3) (pin := []) (bm := b_law_told_1) (sm := z_law_told_2) rfl rfl sc.nd rfl rfl ⟨rfl, by decide, .inl xc_TurnError.mgo⟩ (takes_of rfl rfl rfl rfl) xc_TurnError (fun W pn xe tk _ => ⟨_, (pss_one (ps_set (i := 2) sc.nd rfl (Or.inl rfl) (pe_callS G_written_out (hr.mono (by omega)) (by rfl) m_written_out k_written_out d_written_out (fun σ => passAt tk σ) (pa_cons (pv 0) (pa_cons (pv 1) pa_nil))))), (ss_set (se_call (sea_cons se_var (sea_cons se_var sea_nil))) (by decide))⟩) (fun a oe cls d pn hz hf => ⟨_, (pss_cons (ps_if (PW.pt (pw_or (pt_val (pe_callB (call_isX hz hf) (by rfl) b_isinstance (by decide +kernel) (pa_cons (pv 3) (pa_cons (pe_glob (v := .ref A_BadProgram) rfl xc_BadProgram.mgo rfl) pa_nil)))) (pw_or (pt_val (pe_callB (call_isX hz hf) (by rfl) b_isinstance (by decide +kernel) (pa_cons (pv 3) (pa_cons (pe_glob (v := .ref A_BadWord) rfl xc_BadWord.mgo rfl) pa_nil)))) (pw_or (pt_val (pe_callB (call_isX hz hf) (by rfl) b_isinstance (by decide +kernel) (pa_cons (pv 3) (pa_cons (pe_glob (v := .ref A_BadSize) rfl xc_BadSize.mgo rfl) pa_nil)))) (pw_or1 (pt_val (pe_callB (call_isX hz hf) (by rfl) b_isinstance (by decide +kernel) (pa_cons (pv 3) (pa_cons (pe_glob (v := .ref A_BadTurning) rfl xc_BadTurning.mgo rfl) pa_nil))))))))) (pss_one (ps_ret (pe_tup (pa_cons pe_str (pa_cons (pe_lst pa_nil) pa_nil))))) pss_nil) (pss_cons (ps_if (pt_val (pe_callB (call_isX hz hf) (by rfl) b_isinstance (by decide +kernel) (pa_cons (pv 3) (pa_cons (pe_glob (v := .ref A_TooMany) rfl xc_TooMany.mgo rfl) pa_nil)))) (pss_one (ps_ret (pe_tup (pa_cons pe_str (pa_cons (pe_xf xc_TooMany.own.xf fo_TooMany hz hf (pv 3)) pa_nil))))) pss_nil) (pss_one (ps_ret (pe_tup (pa_cons pe_str (pa_cons (pe_lst pa_nil) pa_nil))))))), fun x => (ssa_seq (xss_if (xet_or (xet_b (xe_is xc_BadProgram.is)) (xet_or (xet_b (xe_is xc_BadWord.is)) (xet_or (xet_b (xe_is xc_BadSize.is)) (xet_b (xe_is xc_BadTurning.is))))) (xss_ret (xe_up (se_tup (sea_cons (se_p sp_str) (sea_cons (se_lst sea_nil) sea_nil))))) (SS.a ss_nil)) (ssa_seq (xss_if (xet_b (xe_is xc_TooMany.is)) (xss_ret (xe_tup (xea_cons (xe_up (se_p sp_str)) (xea_cons (xe_fld xc_TooMany.cto) xea_nil)))) (SS.a ss_nil)) (xss_ret (xe_up (se_tup (sea_cons (se_p sp_str) (sea_cons (se_lst sea_nil) sea_nil)))))))⟩) (by decide)) (pss_one (ps_ret (pe_tup (pa_cons pe_str (pa_cons (pv 2) pa_nil)))))),
    (ss_seq ss_z (ss_ret (se_tup (sea_cons (se_p sp_str) (sea_cons se_mv sea_nil)))))⟩
/-! law_written: 0 steps, 1 word, 2 most, 3 told -/
theorem sc_law_written : FnScope ["steps", "word", "most", "told"] ["steps", "word", "most"] (defScope s_law_written) := ⟨rfl, rfl, rfl, by decide +kernel, rfl, by decide +kernel, by decide +kernel⟩
theorem ok_law_written (dd : Dd K mg "_law_written" s_law_written ["steps", "word", "most"]) (b_len : mg "len" = none) (g_law_letters : Fn P w K mg base "_law_letters" 1 ["one", "other"] (spM ct 2 F_law_letters)) (g_law_same : Fn P w K mg base "_law_same" 6 ["one", "other"] (spM ct 2 (F_law_same 6))) (g_law_told : Fn P w K mg base "_law_told" 4 ["steps", "most"] (spM ct 2 F_law_told)) :
    Fn P w K mg base "_law_written" (7) ["steps", "word", "most"] (spM ct 3 F_law_written) := by
  obtain ⟨_, _, G_law_letters, m_law_letters, k_law_letters, d_law_letters⟩ := g_law_letters
  obtain ⟨_, _, G_law_same, m_law_same, k_law_same, d_law_same⟩ := g_law_same
  obtain ⟨_, _, G_law_told, m_law_told, k_law_told, d_law_told⟩ := g_law_told
  have sc := sc_law_written
  refine fn_def (k := 6) dd sc_law_written fun f cdv A outer s H E hr => ?_
  exact ⟨_, (pss_cons (ps_set (i := 3) sc.nd rfl (Or.inl rfl) (pe_callS G_law_told (hr.mono (by omega)) (by rfl) m_law_told k_law_told d_law_told (fun σ => passAt (takes_of rfl rfl rfl rfl) σ) (pa_cons (pv 0) (pa_cons (pv 2) pa_nil)))) (pss_cons (ps_if (pt_cmpR u_gt (pe_callB call_len (by rfl) b_len (by decide +kernel) (pa_cons (pv 1) pa_nil)) (pv 2) (nomark _)) (pss_one (ps_ret (pe_and (pe_cmpR (op_eqD (eqU hr)) (pe_ix ix_seq (pv 3) pe_int (fun _ _ => rfl)) pe_str (nomark _)) (pe_one (pe_callS G_law_same (hr.mono (by omega)) (by rfl) m_law_same k_law_same d_law_same (fun σ => passAt (takes_of rfl rfl rfl rfl) σ) (pa_cons (pe_ix ix_seq (pv 3) pe_int (fun _ _ => rfl)) (pa_cons (pe_callB call_len (by rfl) b_len (by decide +kernel) (pa_cons (pv 1) pa_nil)) pa_nil))))))) pss_nil) (pss_cons (ps_if (PW.pt (pw_or (pt_cmpR (op_neD (eqU hr)) (pe_ix ix_seq (pv 3) pe_int (fun _ _ => rfl)) pe_str (nomark _)) (pw_or1 (pt_not (pt_val (pe_callS G_law_letters (hr.mono (by omega)) (by rfl) m_law_letters k_law_letters d_law_letters (fun σ => passAt (takes_of rfl rfl rfl rfl) σ) (pa_cons (pe_ix ix_seq (pv 3) pe_int (fun _ _ => rfl)) (pa_cons (pv 1) pa_nil)))))))) (pss_one (ps_ret pe_bl)) pss_nil) (pss_cons (ps_expr (pe_bm PySem.F.plainAttrs_list PySem.F.slot_list_append PySem.F.type_list_append mt_append (pe_ix ix_seq (pv 3) pe_int (fun _ _ => rfl)) (pa_cons (pv 2) pa_nil))) (pss_one (ps_ret pe_bl)))))),
    (ss_seq (ss_set (se_call (sea_cons se_var (sea_cons se_var sea_nil))) (by decide)) (ss_seq (ss_if (set_p (sp_test (sp_op os_gt (sp_cb cs_len (sa_cons sp_var sa_nil)) sp_var))) (ss_ret (se_p (sp_andV (sp_op os_eq (sp_op os_ix sp_var sp_int) sp_str) (sp_callG (sa_cons (sp_op os_ix sp_var sp_int) (sa_cons (sp_cb cs_len (sa_cons sp_var sa_nil)) sa_nil)))))) ss_nil) (ss_seq (ss_if (set_p (st_or (sp_test (sp_op os_ne (sp_op os_ix sp_var sp_int) sp_str)) (st_not (sp_b (sp_callG (sa_cons (sp_op os_ix sp_var sp_int) (sa_cons sp_var sa_nil))))))) (ss_ret (se_p sp_bl)) ss_nil) (ss_seq (ss_app1 sp_int sp_var) (ss_ret (se_p sp_bl))))))⟩
/-! law_holds: 0 pool, 1 n, 2 makers, 3 steps, 4 word, 5 kept, 6 length, 7 turning, 8 turn, 9 most, 10 told -/
theorem sc_law_holds : FnScope ["pool", "n", "makers", "steps", "word", "kept", "length", "turning", "turn", "most", "told"] ["pool", "n", "makers", "steps", "word"] (defScope s_law_holds) := ⟨rfl, rfl, rfl, by decide +kernel, rfl, by decide +kernel, by decide +kernel⟩
theorem ok_law_holds (dd : Dd K mg "_law_holds" s_law_holds ["pool", "n", "makers", "steps", "word"]) (b_int : mg "int" = none) (b_len : mg "len" = none) (b_list : mg "list" = none) (b_range : mg "range" = none) (b_repr : mg "repr" = none) (g_law_same : Fn P w K mg base "_law_same" 6 ["one", "other"] (spM ct 2 (F_law_same 6))) (g_word_turning : Fn P w K mg base "word_turning" 6 ["n", "makers", "word"] (spM ct 3 F_word_turning)) (g_law_letters : Fn P w K mg base "_law_letters" 1 ["one", "other"] (spM ct 2 F_law_letters)) (g_law_told : Fn P w K mg base "_law_told" 4 ["steps", "most"] (spM ct 2 F_law_told)) (g_program_turning : Fn P w K mg base "program_turning" 6 ["n", "makers", "program"] (spM ct 3 F_program_turning)) (g_program_length : Fn P w K mg base "program_length" 2 ["program"] (spM ct 1 F_program_length)) (g_law_written : Fn P w K mg base "_law_written" 7 ["steps", "word", "most"] (spM ct 3 F_law_written)) (g_law_mixed : Fn P w K mg base "_law_mixed" 2 ["pool", "rows"] (spM ct 2 F_law_mixed)) (g_law_pick : Fn P w K mg base "_law_pick" 1 ["pool", "many"] (spM ct 2 F_law_pick)) (g_law_turnings : Fn P w K mg base "_law_turnings" 2 ["makers", "steps"] (spM ct 2 F_law_turnings)) :
    FnGd P w K mg base "_law_holds" (8) ["pool", "n", "makers", "steps", "word"] (spM ct 5 F_law_holds) := by
  obtain ⟨_, _, G_law_same, m_law_same, k_law_same, d_law_same⟩ := g_law_same
  obtain ⟨_, _, G_word_turning, m_word_turning, k_word_turning, d_word_turning⟩ := g_word_turning
  obtain ⟨_, _, G_law_letters, m_law_letters, k_law_letters, d_law_letters⟩ := g_law_letters
  obtain ⟨_, _, G_law_told, m_law_told, k_law_told, d_law_told⟩ := g_law_told
  obtain ⟨_, _, G_program_turning, m_program_turning, k_program_turning, d_program_turning⟩ := g_program_turning
  obtain ⟨_, _, G_program_length, m_program_length, k_program_length, d_program_length⟩ := g_program_length
  obtain ⟨_, _, G_law_written, m_law_written, k_law_written, d_law_written⟩ := g_law_written
  obtain ⟨_, _, G_law_mixed, m_law_mixed, k_law_mixed, d_law_mixed⟩ := g_law_mixed
  obtain ⟨_, _, G_law_pick, m_law_pick, k_law_pick, d_law_pick⟩ := g_law_pick
  obtain ⟨_, _, G_law_turnings, m_law_turnings, k_law_turnings, d_law_turnings⟩ := g_law_turnings
  have sc := sc_law_holds
  refine fnG_defI (k := 7) dd sc_law_holds (by decide) fun f cdv A hg outer s H E hr => ?_
  exact ⟨_, (pss_cons (ps_par (by rfl) sc.nd rfl rfl (by decide) rfl rfl (pa_cons (pe_callB (call_reprV hg (eqU hr)) (by rfl) b_repr (by decide +kernel) (pa_cons (pv 3) pa_nil)) (pa_cons (pe_callB call_len (by rfl) b_len (by decide +kernel) (pa_cons (pv 4) pa_nil)) pa_nil)) (by rfl)) (pss_cons (ps_set (i := 7) sc.nd rfl (Or.inl rfl) (pe_ix ix_seq (pe_op u_add (pe_lst (pa_cons (pe_listRg rfl (by rfl) b_list (prg_1 (by rfl) b_range (pv 1))) pa_nil)) (pe_callS G_law_turnings (hr.mono (by omega)) (by rfl) m_law_turnings k_law_turnings d_law_turnings (fun σ => passAt (takes_of rfl rfl rfl rfl) σ) (pa_cons (pv 2) (pa_cons (pv 3) pa_nil)))) (pe_un un_neg pe_int) (fun _ _ => rfl))) (pss_cons (ps_for (passes_of rfl) rfl (pi_range1 (by rfl) b_range (pa_cons pe_int pa_nil)) (pg_name (i := 8) sc.nd rfl (Or.inl rfl)) (pss_cons (ps_for (passes_of rfl) rfl (pi_seq (pe_callS G_law_mixed (hr.mono (by omega)) (by rfl) m_law_mixed k_law_mixed d_law_mixed (fun σ => passAt (takes_of rfl rfl rfl rfl) σ) (pa_cons (pv 0) (pa_cons (pe_lst (pa_cons (pv 6) (pa_cons (pe_op u_sub (pv 6) pe_int) (pa_cons (pe_callTy call_int1 (by rfl) b_int (by decide +kernel) (pa_cons (pe_op u_div (pv 6) pe_int) pa_nil)) (pa_cons pe_int (pa_cons (pe_op u_add (pe_op u_add (pv 6) pe_int) (pe_callS G_law_pick (hr.mono (by omega)) (by rfl) m_law_pick k_law_pick d_law_pick (fun σ => passAt (takes_of rfl rfl rfl rfl) σ) (pa_cons (pv 0) (pa_cons pe_int pa_nil)))) (pa_cons pe_int pa_nil))))))) pa_nil)))) (pg_name (i := 9) sc.nd rfl (Or.inl rfl)) (pss_one (ps_if (PW.pt (pw_and (pt_cmpR u_ge (pv 9) pe_int (nomark _)) (pw_and1 (pt_not (pt_val (pe_callS G_law_written (hr.mono (by omega)) (by rfl) m_law_written k_law_written d_law_written (fun σ => passAt (takes_of rfl rfl rfl rfl) σ) (pa_cons (pv 3) (pa_cons (pv 4) (pa_cons (pv 9) pa_nil))))))))) (pss_one (ps_ret pe_bl)) pss_nil))) (pss_one (ps_if (PW.pt (pw_or (pt_not (pt_val (pe_callS G_law_same (hr.mono (by omega)) (by rfl) m_law_same k_law_same d_law_same (fun σ => passAt (takes_of rfl rfl rfl rfl) σ) (pa_cons (pe_callS G_program_length (hr.mono (by omega)) (by rfl) m_program_length k_program_length d_program_length (fun σ => passAt (takes_of rfl rfl rfl rfl) σ) (pa_cons (pv 3) pa_nil)) (pa_cons (pv 6) pa_nil))))) (pw_or1 (pt_not (pt_val (pe_callS G_law_same (hr.mono (by omega)) (by rfl) m_law_same k_law_same d_law_same (fun σ => passAt (takes_of rfl rfl rfl rfl) σ) (pa_cons (pe_callS G_program_turning (hr.mono (by omega)) (by rfl) m_program_turning k_program_turning d_program_turning (fun σ => passAt (takes_of rfl rfl rfl rfl) σ) (pa_cons (pv 1) (pa_cons (pv 2) (pa_cons (pv 3) pa_nil)))) (pa_cons (pv 7) pa_nil)))))))) (pss_one (ps_ret pe_bl)) pss_nil)))) (pss_cons (ps_set (i := 10) sc.nd rfl (Or.inl rfl) (pe_callS G_law_told (hr.mono (by omega)) (by rfl) m_law_told k_law_told d_law_told (fun σ => passAt (takes_of rfl rfl rfl rfl) σ) (pa_cons (pv 3) (pa_cons (pv 6) pa_nil)))) (pss_cons (ps_if (PW.pt (pw_or (pt_cmpR (op_neD (eqU hr)) (pe_ix ix_seq (pv 10) pe_int (fun _ _ => rfl)) pe_str (nomark _)) (pw_or1 (pt_not (pt_val (pe_callS G_law_letters (hr.mono (by omega)) (by rfl) m_law_letters k_law_letters d_law_letters (fun σ => passAt (takes_of rfl rfl rfl rfl) σ) (pa_cons (pe_ix ix_seq (pv 10) pe_int (fun _ _ => rfl)) (pa_cons (pv 4) pa_nil)))))))) (pss_one (ps_ret pe_bl)) pss_nil) (pss_one (ps_ret (pe_and (pe_callS G_law_same (hr.mono (by omega)) (by rfl) m_law_same k_law_same d_law_same (fun σ => passAt (takes_of rfl rfl rfl rfl) σ) (pa_cons (pe_callS G_word_turning (hr.mono (by omega)) (by rfl) m_word_turning k_word_turning d_word_turning (fun σ => passAt (takes_of rfl rfl rfl rfl) σ) (pa_cons (pv 1) (pa_cons (pv 2) (pa_cons (pe_ix ix_seq (pv 10) pe_int (fun _ _ => rfl)) pa_nil)))) (pa_cons (pv 7) pa_nil))) (pe_one (pe_cmpR op_eq (pe_callB (call_reprV hg (eqU hr)) (by rfl) b_repr (by decide +kernel) (pa_cons (pv 3) pa_nil)) (pv 5) (nomark _))))))))))),
    (ss_seq (ss_par (sea_cons (se_p (sp_cb cs_reprV (sa_cons sp_var sa_nil))) (sea_cons (se_p (sp_cb cs_len (sa_cons sp_var sa_nil))) sea_nil)) (by decide) (by decide)) (ss_seq (ss_set (se_op oe_ix (se_op oe_add (se_lst (sea_cons (se_rg1 sp_var) sea_nil)) (se_call (sea_cons se_var (sea_cons se_var sea_nil)))) (se_p (sp_un us_neg sp_int))) (by decide)) (ss_seq (ss_for (slots := [8]) (si_r1 (sea_cons (se_p sp_int) sea_nil)) sg_name (by decide) (ss_seq (ss_for (slots := [9]) (si_e (se_callI (sea_cons (se_lst (sea_cons se_var (sea_cons (se_p (sp_op os_sub sp_var sp_int)) (sea_cons (se_p (sp_cb cs_int (sa_cons (sp_op os_div sp_var sp_int) sa_nil))) (sea_cons (se_p sp_int) (sea_cons (se_op oe_add (se_p (sp_op os_add sp_var sp_int)) (se_callI (sea_cons (se_p sp_int) sea_nil))) (sea_cons (se_p sp_int) sea_nil))))))) sea_nil))) sg_name (by decide) (ss_if (set_p (st_and (sp_test (sp_op os_ge sp_var sp_int)) (st_not (sp_b (sp_callG (sa_cons sp_var (sa_cons sp_var (sa_cons sp_var sa_nil)))))))) (ss_ret (se_p sp_bl)) ss_nil)) (ss_if (set_p (st_or (st_not (sp_b (sp_callG (sa_cons (sp_callG (sa_cons sp_var sa_nil)) (sa_cons sp_var sa_nil))))) (st_not (sp_b (sp_callG (sa_cons (sp_callG (sa_cons sp_var (sa_cons sp_var (sa_cons sp_var sa_nil)))) (sa_cons sp_var sa_nil))))))) (ss_ret (se_p sp_bl)) ss_nil))) (ss_seq (ss_set (se_call (sea_cons se_var (sea_cons se_var sea_nil))) (by decide)) (ss_seq (ss_if (set_p (st_or (sp_test (sp_op os_ne (sp_op os_ix sp_var sp_int) sp_str)) (st_not (sp_b (sp_callG (sa_cons (sp_op os_ix sp_var sp_int) (sa_cons sp_var sa_nil))))))) (ss_ret (se_p sp_bl)) ss_nil) (ss_ret (se_p (sp_andV (sp_callG (sa_cons (sp_callG (sa_cons sp_var (sa_cons sp_var (sa_cons (sp_op os_ix sp_var sp_int) sa_nil)))) (sa_cons sp_var sa_nil))) (sp_op os_eqS (sp_cb cs_reprV (sa_cons sp_var sa_nil)) sp_var)))))))))⟩
/-! law_exact: 0 pool, 1 many, 2 length, 3 k, 4 bits, 5 left, 6 steps, 7 word, 8 turn, 9 bit, 10 last, 11 kind, 12 a, 13 e -/
theorem sc_law_exact : FnScope ["pool", "many", "length", "k", "bits", "left", "steps", "word", "turn", "bit", "last", "kind", "a", "e"] ["pool", "many", "length"] (defScope s_law_exact) := ⟨rfl, rfl, rfl, by decide +kernel, rfl, by decide +kernel, by decide +kernel⟩
theorem ok_law_exact (dd : Dd K mg "_law_exact" s_law_exact ["pool", "many", "length"]) (b_int : mg "int" = none) (b_len : mg "len" = none) (b_range : mg "range" = none) (g_law_pick : Fn P w K mg base "_law_pick" 1 ["pool", "many"] (spM ct 2 F_law_pick)) :
    Fn P w K mg base "_law_exact" (2) ["pool", "many", "length"] (spM ct 3 F_law_exact) := by
  obtain ⟨_, _, G_law_pick, m_law_pick, k_law_pick, d_law_pick⟩ := g_law_pick
  have sc := sc_law_exact
  refine fn_defI (k := 1) dd sc_law_exact (by decide) fun f cdv A outer s H E hr => ?_
  exact ⟨_, (pss_cons (ps_par3 (by rfl) sc.nd rfl rfl rfl (by decide) (by decide) (by decide) rfl rfl rfl (pa_cons (pe_callS G_law_pick (hr.mono (by omega)) (by rfl) m_law_pick k_law_pick d_law_pick (fun σ => passAt (takes_of rfl rfl rfl rfl) σ) (pa_cons (pv 0) (pa_cons (pv 1) pa_nil))) (pa_cons (pe_lst pa_nil) (pa_cons (pv 2) pa_nil))) (by rfl)) (pss_cons (ps_par (by rfl) sc.nd rfl rfl (by decide) rfl rfl (pa_cons (pe_lst (pa_cons (pe_tup (pa_cons pe_str (pa_cons (pv 3) pa_nil))) pa_nil)) (pa_cons (pe_lst (pa_cons (pe_tup (pa_cons (pv 3) (pa_cons pe_int pa_nil))) pa_nil)) pa_nil)) (by rfl)) (pss_cons (ps_for (passes_of rfl) rfl (pi_range1 (by rfl) b_range (pa_cons pe_int pa_nil)) (pg_name (i := 8) sc.nd rfl (Or.inl rfl)) (pss_one (ps_if (pt_cmpR u_gt (pv 5) pe_int (nomark _)) (pss_cons (ps_expr (pe_bm PySem.F.plainAttrs_list PySem.F.slot_list_append PySem.F.type_list_append mt_append (pv 4) (pa_cons (pe_op u_mod (pe_callTy call_int1 (by rfl) b_int (by decide +kernel) (pa_cons (pv 5) pa_nil)) pe_int) pa_nil))) (pss_one (ps_set (i := 5) sc.nd rfl (Or.inl rfl) (pe_callTy call_int1 (by rfl) b_int (by decide +kernel) (pa_cons (pe_op u_div (pv 5) pe_int) pa_nil))))) pss_nil))) (pss_cons (ps_for (passes_of rfl) rfl (pi_seq (pe_revL (pv 4))) (pg_name (i := 9) sc.nd rfl (Or.inl rfl)) (pss_cons (ps_par3 (by rfl) sc.nd rfl rfl rfl (by decide) (by decide) (by decide) rfl rfl rfl (pa_cons (pe_op u_sub (pe_callB call_len (by rfl) b_len (by decide +kernel) (pa_cons (pv 6) pa_nil)) pe_int) (pa_cons (pe_callS G_law_pick (hr.mono (by omega)) (by rfl) m_law_pick k_law_pick d_law_pick (fun σ => passAt (takes_of rfl rfl rfl rfl) σ) (pa_cons (pv 0) (pa_cons (pv 1) pa_nil))) (pa_cons (pe_callS G_law_pick (hr.mono (by omega)) (by rfl) m_law_pick k_law_pick d_law_pick (fun σ => passAt (takes_of rfl rfl rfl rfl) σ) (pa_cons (pv 0) (pa_cons pe_int pa_nil))) pa_nil))) (by rfl)) (pss_cons (ps_expr (pe_bm PySem.F.plainAttrs_list PySem.F.slot_list_append PySem.F.type_list_append mt_append (pv 6) (pa_cons (pe_tup (pa_cons pe_str (pa_cons (pv 10) (pa_cons (pv 10) pa_nil)))) pa_nil))) (pss_cons (ps_set (i := 7) sc.nd rfl (Or.inl rfl) (pe_op u_add (pv 7) (pv 7))) (pss_cons (ps_if (pt_cmpR (op_eqD (eqU hr)) (pv 9) pe_int (nomark _)) (pss_cons (ps_expr (pe_bm PySem.F.plainAttrs_list PySem.F.slot_list_append PySem.F.type_list_append mt_append (pv 6) (pa_cons (pe_tup (pa_cons pe_str (pa_cons (pv 3) pa_nil))) pa_nil))) (pss_cons (ps_expr (pe_bm PySem.F.plainAttrs_list PySem.F.slot_list_append PySem.F.type_list_append mt_append (pv 6) (pa_cons (pe_ix ix_seq (pe_lst (pa_cons (pe_tup (pa_cons pe_str (pa_cons (pe_op u_add (pv 10) pe_int) (pa_cons (pe_op u_add (pv 10) pe_int) pa_nil)))) (pa_cons (pe_tup (pa_cons pe_str (pa_cons (pe_op u_add (pv 10) pe_int) (pa_cons (pe_op u_add (pv 10) pe_int) pa_nil)))) pa_nil))) (pe_op u_mod (pe_callTy call_int1 (by rfl) b_int (by decide +kernel) (pa_cons (pv 11) pa_nil)) pe_int) (fun _ _ => rfl)) pa_nil))) (pss_one (ps_set (i := 7) sc.nd rfl (Or.inl rfl) (pe_ix ix_seq (pe_lst (pa_cons (pe_op u_add (pv 7) (pe_lst (pa_cons (pe_tup (pa_cons (pv 3) (pa_cons pe_int pa_nil))) pa_nil))) (pa_cons (pe_op u_add (pe_lst (pa_cons (pe_tup (pa_cons (pv 3) (pa_cons pe_int pa_nil))) pa_nil)) (pv 7)) pa_nil))) (pe_op u_mod (pe_callTy call_int1 (by rfl) b_int (by decide +kernel) (pa_cons (pv 11) pa_nil)) pe_int) (fun _ _ => rfl)))))) pss_nil) (pss_one (ps_if (pt_cmpR u_lt (pv 11) pe_int (nomark _)) (pss_cons (ps_expr (pe_bm PySem.F.plainAttrs_list PySem.F.slot_list_append PySem.F.type_list_append mt_append (pv 6) (pa_cons (pe_tup (pa_cons pe_str (pa_cons (pe_op u_sub (pe_callB call_len (by rfl) b_len (by decide +kernel) (pa_cons (pv 6) pa_nil)) pe_int) pa_nil))) pa_nil))) (pss_one (ps_setLc (i := 7) (own := [("a", 12), ("e", 13)]) rfl sc.nd rfl rfl (sw_true rfl rfl rfl (by decide +kernel)) (pi_seq (pe_revL (pv 7))) (blkOk_by (N := ["pool", "many", "length", "k", "bits", "left", "steps", "word", "turn", "bit", "last", "kind", "a", "e"]) (sc := defScope s_law_exact) (by decide +kernel)) (fun _ _ _ _ _ => (pg_tup (by rfl) (pgs_cons (pg_name (i := 12) sc.nd rfl (by first | exact Or.inl rfl | exact Or.inr rfl)) (pgs_cons (pg_name (i := 13) sc.nd rfl (by first | exact Or.inl rfl | exact Or.inr rfl)) pgs_nil)))) (fun _ _ _ _ _ => pts_nil) (fun _ _ _ _ _ => (pe_tup (pa_cons (pv 12) (pa_cons (pe_un un_neg (pv 13)) pa_nil))))))) pss_nil))))))) (pss_one (ps_ret (pe_tup (pa_cons (pv 6) (pa_cons (pv 7) pa_nil))))))))),
    (ss_seq (ss_par3 (sea_cons (se_callI (sea_cons se_var sea_nil)) (sea_cons (se_lst sea_nil) (sea_cons se_var sea_nil))) (by decide) (by decide) (by decide)) (ss_seq (ss_par (sea_cons (se_lst (sea_cons (se_tup (sea_cons (se_p sp_str) (sea_cons se_var sea_nil))) sea_nil)) (sea_cons (se_fz (se_lst (sea_cons (se_tup (sea_cons se_var (sea_cons (se_p sp_int) sea_nil))) sea_nil))) sea_nil)) (by decide) (by decide)) (ss_seq (ss_for (slots := [8]) (si_r1 (sea_cons (se_p sp_int) sea_nil)) sg_name (by decide) (ss_if (set_p (sp_test (sp_op os_gt sp_var sp_int))) (ss_seq (ss_app (se_p (sp_op os_mod (sp_cb cs_int (sa_cons sp_var sa_nil)) sp_int))) (ss_set (se_p (sp_cb cs_int (sa_cons (sp_op os_div sp_var sp_int) sa_nil))) (by decide))) ss_nil)) (ss_seq (ss_for (slots := [9]) (si_e (se_revL sv_var)) sg_name (by decide) (ss_seq (ss_par3 (sea_cons (se_p (sp_op os_sub (sp_cb cs_len (sa_cons sp_var sa_nil)) sp_int)) (sea_cons (se_callI (sea_cons se_var sea_nil)) (sea_cons (se_callI (sea_cons (se_p sp_int) sea_nil)) sea_nil))) (by decide) (by decide) (by decide)) (ss_seq (ss_app (se_tup (sea_cons (se_p sp_str) (sea_cons se_var (sea_cons se_var sea_nil))))) (ss_seq (ss_set (se_fz (se_op oe_add se_var se_var)) (by decide)) (ss_seq (ss_if (set_p (sp_test (sp_op os_eq sp_var sp_int))) (ss_seq (ss_app (se_tup (sea_cons (se_p sp_str) (sea_cons se_var sea_nil)))) (ss_seq (ss_app (se_op oe_ix (se_lst (sea_cons (se_tup (sea_cons (se_p sp_str) (sea_cons (se_p (sp_op os_add sp_var sp_int)) (sea_cons (se_p (sp_op os_add sp_var sp_int)) sea_nil)))) (sea_cons (se_tup (sea_cons (se_p sp_str) (sea_cons (se_p (sp_op os_add sp_var sp_int)) (sea_cons (se_p (sp_op os_add sp_var sp_int)) sea_nil)))) sea_nil))) (se_p (sp_op os_mod (sp_cb cs_int (sa_cons sp_var sa_nil)) sp_int)))) (ss_set (se_fz (se_op oe_ix (se_lst (sea_cons (se_op oe_add se_var (se_lst (sea_cons (se_tup (sea_cons se_var (sea_cons (se_p sp_int) sea_nil))) sea_nil))) (sea_cons (se_op oe_add (se_lst (sea_cons (se_tup (sea_cons se_var (sea_cons (se_p sp_int) sea_nil))) sea_nil)) se_var) sea_nil))) (se_p (sp_op os_mod (sp_cb cs_int (sa_cons sp_var sa_nil)) sp_int)))) (by decide)))) ss_nil) (ss_if (set_p (sp_test (sp_op os_lt sp_var sp_int))) (ss_seq (ss_app (se_tup (sea_cons (se_p sp_str) (sea_cons (se_p (sp_op os_sub (sp_cb cs_len (sa_cons sp_var sa_nil)) sp_int)) sea_nil)))) (ss_set (se_fz (se_lc (slots := [12, 13]) (si_e (se_revL sv_var)) (sg_tup (is := [12, 13]) rfl) set_yes (se_tup (sea_cons se_var (sea_cons (se_p (sp_un us_neg sp_var)) sea_nil))))) (by decide))) ss_nil)))))) (ss_ret (se_tup (sea_cons se_mv (sea_cons se_mv sea_nil))))))))⟩
/-! law_great: 0 pool, 1 n, 2 makers, 3 steps, 4 lengths, 5 turn, 6 last, 7 kind, 8 other, 9 kept, 10 length, 11 most, 12 told, 13 turnings -/
theorem sc_law_great : FnScope ["pool", "n", "makers", "steps", "lengths", "turn", "last", "kind", "other", "kept", "length", "most", "told", "turnings"] ["pool", "n", "makers"] (defScope s_law_great) := ⟨rfl, rfl, rfl, by decide +kernel, rfl, by decide +kernel, by decide +kernel⟩
theorem ok_law_great (dd : Dd K mg "_law_great" s_law_great ["pool", "n", "makers"]) (b_len : mg "len" = none) (b_range : mg "range" = none) (b_repr : mg "repr" = none) (g_law_same : Fn P w K mg base "_law_same" 6 ["one", "other"] (spM ct 2 (F_law_same 6))) (g_program_turning : Fn P w K mg base "program_turning" 6 ["n", "makers", "program"] (spM ct 3 F_program_turning)) (g_law_turnings : Fn P w K mg base "_law_turnings" 2 ["makers", "steps"] (spM ct 2 F_law_turnings)) (g_law_told : Fn P w K mg base "_law_told" 4 ["steps", "most"] (spM ct 2 F_law_told)) (g_law_pick : Fn P w K mg base "_law_pick" 1 ["pool", "many"] (spM ct 2 F_law_pick)) (g_program_length : Fn P w K mg base "program_length" 2 ["program"] (spM ct 1 F_program_length)) (g_law_program : Fn P w K mg base "_law_program" 2 ["pool", "many", "size", "most"] (spM ct 4 F_law_program)) :
    FnGd P w K mg base "_law_great" (7) ["pool", "n", "makers"] (spM ct 3 F_law_great) := by
  obtain ⟨_, _, G_law_same, m_law_same, k_law_same, d_law_same⟩ := g_law_same
  obtain ⟨_, _, G_program_turning, m_program_turning, k_program_turning, d_program_turning⟩ := g_program_turning
  obtain ⟨_, _, G_law_turnings, m_law_turnings, k_law_turnings, d_law_turnings⟩ := g_law_turnings
  obtain ⟨_, _, G_law_told, m_law_told, k_law_told, d_law_told⟩ := g_law_told
  obtain ⟨_, _, G_law_pick, m_law_pick, k_law_pick, d_law_pick⟩ := g_law_pick
  obtain ⟨_, _, G_program_length, m_program_length, k_program_length, d_program_length⟩ := g_program_length
  obtain ⟨_, _, G_law_program, m_law_program, k_law_program, d_law_program⟩ := g_law_program
  have sc := sc_law_great
  refine fnG_defI (k := 6) dd sc_law_great (by decide) fun f cdv A hg outer s H E hr => ?_
  exact ⟨_, (pss_cons (ps_asg (pe_callS G_law_program (hr.mono (by omega)) (by rfl) m_law_program k_law_program d_law_program (fun σ => passAt (takes_of rfl rfl rfl rfl) σ) (pa_cons (pv 0) (pa_cons (pe_callB call_len (by rfl) b_len (by decide +kernel) (pa_cons (pv 2) pa_nil)) (pa_cons pe_int (pa_cons (pe_op u_pow pe_int pe_int) pa_nil))))) (pg_tup (by rfl) (pgs_cons (pg_name (i := 3) sc.nd rfl (Or.inl rfl)) (pgs_cons (pg_name (i := 4) sc.nd rfl (Or.inl rfl)) pgs_nil)))) (pss_cons (ps_for (passes_of rfl) rfl (pi_range1 (by rfl) b_range (pa_cons (pe_op u_mul (pe_callS G_law_pick (hr.mono (by omega)) (by rfl) m_law_pick k_law_pick d_law_pick (fun σ => passAt (takes_of rfl rfl rfl rfl) σ) (pa_cons (pv 0) (pa_cons pe_int pa_nil))) (pe_callS G_law_pick (hr.mono (by omega)) (by rfl) m_law_pick k_law_pick d_law_pick (fun σ => passAt (takes_of rfl rfl rfl rfl) σ) (pa_cons (pv 0) (pa_cons pe_int pa_nil)))) pa_nil)) (pg_name (i := 5) sc.nd rfl (Or.inl rfl)) (pss_cons (ps_par (by rfl) sc.nd rfl rfl (by decide) rfl rfl (pa_cons (pe_op u_sub (pe_callB call_len (by rfl) b_len (by decide +kernel) (pa_cons (pv 3) pa_nil)) pe_int) (pa_cons (pe_callS G_law_pick (hr.mono (by omega)) (by rfl) m_law_pick k_law_pick d_law_pick (fun σ => passAt (takes_of rfl rfl rfl rfl) σ) (pa_cons (pv 0) (pa_cons pe_int pa_nil))) pa_nil)) (by rfl)) (pss_cons (ps_set (i := 8) sc.nd rfl (Or.inl rfl) (pe_op u_sub (pv 6) (pe_callS G_law_pick (hr.mono (by omega)) (by rfl) m_law_pick k_law_pick d_law_pick (fun σ => passAt (takes_of rfl rfl rfl rfl) σ) (pa_cons (pv 0) (pa_cons pe_int pa_nil))))) (pss_cons (ps_expr (pe_bm PySem.F.plainAttrs_list PySem.F.slot_list_append PySem.F.type_list_append mt_append (pv 3) (pa_cons (pe_ix ix_seq (pe_lst (pa_cons (pe_tup (pa_cons pe_str (pa_cons (pv 6) (pa_cons (pv 8) pa_nil)))) (pa_cons (pe_tup (pa_cons pe_str (pa_cons (pv 8) (pa_cons (pv 6) pa_nil)))) (pa_cons (pe_tup (pa_cons pe_str (pa_cons (pv 6) (pa_cons (pv 6) pa_nil)))) pa_nil)))) (pv 7) (fun _ _ => rfl)) pa_nil))) (pss_one (ps_expr (pe_bm PySem.F.plainAttrs_list PySem.F.slot_list_append PySem.F.type_list_append mt_append (pv 4) (pa_cons (pe_op u_add (pe_ix ix_seq (pv 4) (pe_ix ix_seq (pe_ix ix_seq (pv 3) (pe_un un_neg pe_int) (fun _ _ => rfl)) pe_int (fun _ _ => rfl)) (fun _ _ => rfl)) (pe_ix ix_seq (pv 4) (pe_ix ix_seq (pe_ix ix_seq (pv 3) (pe_un un_neg pe_int) (fun _ _ => rfl)) pe_int (fun _ _ => rfl)) (fun _ _ => rfl))) pa_nil)))))))) (pss_cons (ps_par (by rfl) sc.nd rfl rfl (by decide) rfl rfl (pa_cons (pe_callB (call_reprV hg (eqU hr)) (by rfl) b_repr (by decide +kernel) (pa_cons (pv 3) pa_nil)) (pa_cons (pe_ix ix_seq (pv 4) (pe_un un_neg pe_int) (fun _ _ => rfl)) pa_nil)) (by rfl)) (pss_cons (ps_if (pt_not (pt_val (pe_callS G_law_same (hr.mono (by omega)) (by rfl) m_law_same k_law_same d_law_same (fun σ => passAt (takes_of rfl rfl rfl rfl) σ) (pa_cons (pe_callS G_program_length (hr.mono (by omega)) (by rfl) m_program_length k_program_length d_program_length (fun σ => passAt (takes_of rfl rfl rfl rfl) σ) (pa_cons (pv 3) pa_nil)) (pa_cons (pv 10) pa_nil))))) (pss_one (ps_ret pe_bl)) pss_nil) (pss_cons (ps_for (passes_of rfl) rfl (pi_seq (pe_lst (pa_cons pe_int (pa_cons (pe_callS G_law_pick (hr.mono (by omega)) (by rfl) m_law_pick k_law_pick d_law_pick (fun σ => passAt (takes_of rfl rfl rfl rfl) σ) (pa_cons (pv 0) (pa_cons pe_int pa_nil))) (pa_cons (pe_op u_sub (pv 10) pe_int) pa_nil))))) (pg_name (i := 11) sc.nd rfl (Or.inl rfl)) (pss_one (ps_if (PW.pt (pw_and (pt_cmpR u_lt (pv 11) (pv 10) (nomark _)) (pw_and1 (pt_cmpR u_le (pv 11) pe_int (nomark _))))) (pss_cons (ps_set (i := 12) sc.nd rfl (Or.inl rfl) (pe_callS G_law_told (hr.mono (by omega)) (by rfl) m_law_told k_law_told d_law_told (fun σ => passAt (takes_of rfl rfl rfl rfl) σ) (pa_cons (pv 3) (pa_cons (pv 11) pa_nil)))) (pss_one (ps_if (PW.pt (pw_or (pt_cmpR (op_neD (eqU hr)) (pe_ix ix_seq (pv 12) pe_int (fun _ _ => rfl)) pe_str (nomark _)) (pw_or1 (pt_not (pt_val (pe_callS G_law_same (hr.mono (by omega)) (by rfl) m_law_same k_law_same d_law_same (fun σ => passAt (takes_of rfl rfl rfl rfl) σ) (pa_cons (pe_ix ix_seq (pv 12) pe_int (fun _ _ => rfl)) (pa_cons (pv 10) pa_nil)))))))) (pss_one (ps_ret pe_bl)) pss_nil))) pss_nil))) (pss_cons (ps_set (i := 13) sc.nd rfl (Or.inl rfl) (pe_callS G_law_turnings (hr.mono (by omega)) (by rfl) m_law_turnings k_law_turnings d_law_turnings (fun σ => passAt (takes_of rfl rfl rfl rfl) σ) (pa_cons (pv 2) (pa_cons (pv 3) pa_nil)))) (pss_one (ps_ret (pe_and (pe_callS G_law_same (hr.mono (by omega)) (by rfl) m_law_same k_law_same d_law_same (fun σ => passAt (takes_of rfl rfl rfl rfl) σ) (pa_cons (pe_callS G_program_turning (hr.mono (by omega)) (by rfl) m_program_turning k_program_turning d_program_turning (fun σ => passAt (takes_of rfl rfl rfl rfl) σ) (pa_cons (pv 1) (pa_cons (pv 2) (pa_cons (pv 3) pa_nil)))) (pa_cons (pe_ix ix_seq (pv 13) (pe_un un_neg pe_int) (fun _ _ => rfl)) pa_nil))) (pe_one (pe_cmpR op_eq (pe_callB (call_reprV hg (eqU hr)) (by rfl) b_repr (by decide +kernel) (pa_cons (pv 3) pa_nil)) (pv 9) (nomark _)))))))))))),
    (ss_seq (ss_unp (se_callI (sea_cons (se_p (sp_cb cs_len (sa_cons sp_var sa_nil))) (sea_cons (se_p sp_int) (sea_cons (se_p (sp_op os_pow sp_int sp_int)) sea_nil)))) (sg_tup (is := [3, 4]) rfl) (by decide)) (ss_seq (ss_for (slots := [5]) (si_r1 (sea_cons (se_op (oe_s os_mul) (se_callI (sea_cons (se_p sp_int) sea_nil)) (se_callI (sea_cons (se_p sp_int) sea_nil))) sea_nil)) sg_name (by decide) (ss_seq (ss_par (sea_cons (se_p (sp_op os_sub (sp_cb cs_len (sa_cons sp_var sa_nil)) sp_int)) (sea_cons (se_callI (sea_cons (se_p sp_int) sea_nil)) sea_nil)) (by decide) (by decide)) (ss_seq (ss_set (se_op (oe_s os_sub) se_var (se_callI (sea_cons (se_p sp_int) sea_nil))) (by decide)) (ss_seq (ss_app (se_op oe_ix (se_lst (sea_cons (se_tup (sea_cons (se_p sp_str) (sea_cons se_var (sea_cons se_var sea_nil)))) (sea_cons (se_tup (sea_cons (se_p sp_str) (sea_cons se_var (sea_cons se_var sea_nil)))) (sea_cons (se_tup (sea_cons (se_p sp_str) (sea_cons se_var (sea_cons se_var sea_nil)))) sea_nil)))) se_var)) (ss_app (se_op oe_add (se_get (sv_ix sv_var (sp_op os_ix (sp_op os_ix sp_var (sp_un us_neg sp_int)) sp_int))) (se_get (sv_ix sv_var (sp_op os_ix (sp_op os_ix sp_var (sp_un us_neg sp_int)) sp_int))))))))) (ss_seq (ss_par (sea_cons (se_p (sp_cb cs_reprV (sa_cons sp_var sa_nil))) (sea_cons (se_get (sv_ix sv_var (sp_un us_neg sp_int))) sea_nil)) (by decide) (by decide)) (ss_seq (ss_if (set_p (st_not (sp_b (sp_callG (sa_cons (sp_callG (sa_cons sp_var sa_nil)) (sa_cons sp_var sa_nil)))))) (ss_ret (se_p sp_bl)) ss_nil) (ss_seq (ss_for (slots := [11]) (si_e (se_lst (sea_cons (se_p sp_int) (sea_cons (se_callI (sea_cons (se_p sp_int) sea_nil)) (sea_cons (se_p (sp_op os_sub sp_var sp_int)) sea_nil))))) sg_name (by decide) (ss_if (set_p (st_and (sp_test (sp_op os_lt sp_var sp_var)) (sp_test (sp_op os_le sp_var sp_int)))) (ss_seq (ss_set (se_call (sea_cons se_var (sea_cons se_var sea_nil))) (by decide)) (ss_if (set_p (st_or (sp_test (sp_op os_ne (sp_op os_ix sp_var sp_int) sp_str)) (st_not (sp_b (sp_callG (sa_cons (sp_op os_ix sp_var sp_int) (sa_cons sp_var sa_nil))))))) (ss_ret (se_p sp_bl)) ss_nil)) ss_nil)) (ss_seq (ss_set (se_call (sea_cons se_var (sea_cons se_var sea_nil))) (by decide)) (ss_ret (se_p (sp_andV (sp_callG (sa_cons (sp_callG (sa_cons sp_var (sa_cons sp_var (sa_cons sp_var sa_nil)))) (sa_cons (sp_op os_ix sp_var (sp_un us_neg sp_int)) sa_nil))) (sp_op os_eqS (sp_cb cs_reprV (sa_cons sp_var sa_nil)) sp_var))))))))))⟩
/-! law_long: 0 pool, 1 many, 2 side, 3 shift, 4 ends, 5 steps, 6 word, 7 k, 8 backs, 9 short, 10 most, 11 double, 12 length, 13 e -/
theorem sc_law_long : FnScope ["pool", "many", "side", "shift", "ends", "steps", "word", "k", "backs", "short", "most", "double", "length", "e"] ["pool"] (defScope s_law_long) := ⟨rfl, rfl, rfl, by decide +kernel, rfl, by decide +kernel, by decide +kernel⟩
theorem ok_law_long (dd : Dd K mg "_law_long" s_law_long ["pool"]) (b_int : mg "int" = none) (b_len : mg "len" = none) (b_range : mg "range" = none) (g_law_same : Fn P w K mg base "_law_same" 6 ["one", "other"] (spM ct 2 (F_law_same 6))) (g_law_told : Fn P w K mg base "_law_told" 4 ["steps", "most"] (spM ct 2 F_law_told)) (g_program_length : Fn P w K mg base "program_length" 2 ["program"] (spM ct 1 F_program_length)) (g_law_written : Fn P w K mg base "_law_written" 7 ["steps", "word", "most"] (spM ct 3 F_law_written)) (g_law_pick : Fn P w K mg base "_law_pick" 1 ["pool", "many"] (spM ct 2 F_law_pick)) :
    Fn P w K mg base "_law_long" (8) ["pool"] (spM ct 1 F_law_long) := by
  obtain ⟨_, _, G_law_same, m_law_same, k_law_same, d_law_same⟩ := g_law_same
  obtain ⟨_, _, G_law_told, m_law_told, k_law_told, d_law_told⟩ := g_law_told
  obtain ⟨_, _, G_program_length, m_program_length, k_program_length, d_program_length⟩ := g_program_length
  obtain ⟨_, _, G_law_written, m_law_written, k_law_written, d_law_written⟩ := g_law_written
  obtain ⟨_, _, G_law_pick, m_law_pick, k_law_pick, d_law_pick⟩ := g_law_pick
  have sc := sc_law_long
  refine fn_defI (k := 7) dd sc_law_long (by decide) fun f cdv A outer s H E hr => ?_
  exact ⟨_, (pss_cons (ps_asg (pe_tup (pa_cons (pe_op u_sub pe_int (pe_callS G_law_pick (hr.mono (by omega)) (by rfl) m_law_pick k_law_pick d_law_pick (fun σ => passAt (takes_of rfl rfl rfl rfl) σ) (pa_cons (pv 0) (pa_cons pe_int pa_nil)))) (pa_cons (pe_callS G_law_pick (hr.mono (by omega)) (by rfl) m_law_pick k_law_pick d_law_pick (fun σ => passAt (takes_of rfl rfl rfl rfl) σ) (pa_cons (pv 0) (pa_cons pe_int pa_nil))) (pa_cons (pe_callS G_law_pick (hr.mono (by omega)) (by rfl) m_law_pick k_law_pick d_law_pick (fun σ => passAt (takes_of rfl rfl rfl rfl) σ) (pa_cons (pv 0) (pa_cons pe_int pa_nil))) pa_nil)))) (pg_tup (by rfl) (pgs_cons (pg_name (i := 1) sc.nd rfl (Or.inl rfl)) (pgs_cons (pg_name (i := 2) sc.nd rfl (Or.inl rfl)) (pgs_cons (pg_name (i := 3) sc.nd rfl (Or.inr rfl)) pgs_nil))))) (pss_cons (ps_setLc (i := 4) (own := [("k", 7)]) rfl sc.nd rfl rfl (sw_true rfl rfl rfl (by decide +kernel)) (pi_range2 (by rfl) b_range (pa_cons pe_int (pa_cons (pe_op u_sub pe_int (pv 3)) pa_nil))) (blkOk_by (N := ["pool", "many", "side", "shift", "ends", "steps", "word", "k", "backs", "short", "most", "double", "length", "e"]) (sc := defScope s_law_long) (by decide +kernel)) (fun _ _ _ _ _ => (pg_name (i := 7) sc.nd rfl (by first | exact Or.inl rfl | exact Or.inr rfl))) (fun _ _ _ _ _ => pts_nil) (fun _ _ _ _ _ => (pe_op u_mod (pe_op u_mod (pe_callTy call_int1 (by rfl) b_int (by decide +kernel) (pa_cons (pe_op u_add (pe_op u_mul (pv 7) (pv 7)) (pe_op u_mul (pv 3) (pv 7))) pa_nil)) pe_int) pe_int))) (pss_cons (ps_par (by rfl) sc.nd rfl rfl (by decide) rfl rfl (pa_cons (pe_lst (pa_cons (pe_tup (pa_cons pe_str (pa_cons pe_int pa_nil))) (pa_cons (pe_tup (pa_cons pe_str (pa_cons pe_int pa_nil))) pa_nil))) (pa_cons (pe_op u_add (pe_lst (pa_cons (pe_tup (pa_cons pe_int (pa_cons pe_int pa_nil))) pa_nil)) (pe_lc (own := [("k", 7)]) rfl sc.nd (pi_seq (pv 4)) (blkOk_by (N := ["pool", "many", "side", "shift", "ends", "steps", "word", "k", "backs", "short", "most", "double", "length", "e"]) (sc := defScope s_law_long) (by decide +kernel)) (fun _ _ _ _ _ => (pg_name (i := 7) sc.nd rfl (by first | exact Or.inl rfl | exact Or.inr rfl))) (fun _ _ _ _ _ => pts_nil) (fun _ _ _ _ _ => (pe_tup (pa_cons (pv 7) (pa_cons pe_int pa_nil)))))) pa_nil)) (by rfl)) (pss_cons (ps_for (passes_of rfl) rfl (pi_range1 (by rfl) b_range (pa_cons (pe_callB call_len (by rfl) b_len (by decide +kernel) (pa_cons (pv 4) pa_nil)) pa_nil)) (pg_name (i := 7) sc.nd rfl (Or.inl rfl)) (pss_one (ps_expr (pe_bm PySem.F.plainAttrs_list PySem.F.slot_list_append PySem.F.type_list_append mt_append (pv 5) (pa_cons (pe_ix ix_seq (pe_lst (pa_cons (pe_tup (pa_cons pe_str (pa_cons (pe_op u_add (pv 7) pe_int) (pa_cons (pe_ix ix_seq (pv 4) (pv 7) (fun _ _ => rfl)) pa_nil)))) (pa_cons (pe_tup (pa_cons pe_str (pa_cons (pe_ix ix_seq (pv 4) (pv 7) (fun _ _ => rfl)) (pa_cons (pe_op u_add (pv 7) pe_int) pa_nil)))) pa_nil))) (pv 2) (fun _ _ => rfl)) pa_nil))))) (pss_cons (ps_expr (pe_bm PySem.F.plainAttrs_list PySem.F.slot_list_append PySem.F.type_list_append mt_append (pv 5) (pa_cons (pe_tup (pa_cons pe_str (pa_cons (pe_op u_sub (pe_callB call_len (by rfl) b_len (by decide +kernel) (pa_cons (pv 5) pa_nil)) pe_int) pa_nil))) pa_nil))) (pss_cons (ps_if (pt_cmpR (op_eqD (eqU hr)) (pv 2) pe_int (nomark _)) (pss_one (ps_set (i := 6) sc.nd rfl (Or.inl rfl) (pe_revL (pv 6)))) pss_nil) (pss_cons (ps_setLc (i := 6) (own := [("k", 7), ("e", 13)]) rfl sc.nd rfl rfl (sw_true rfl rfl rfl (by decide +kernel)) (pi_seq (pe_revL (pv 6))) (blkOk_by (N := ["pool", "many", "side", "shift", "ends", "steps", "word", "k", "backs", "short", "most", "double", "length", "e"]) (sc := defScope s_law_long) (by decide +kernel)) (fun _ _ _ _ _ => (pg_tup (by rfl) (pgs_cons (pg_name (i := 7) sc.nd rfl (by first | exact Or.inl rfl | exact Or.inr rfl)) (pgs_cons (pg_name (i := 13) sc.nd rfl (by first | exact Or.inl rfl | exact Or.inr rfl)) pgs_nil)))) (fun _ _ _ _ _ => pts_nil) (fun _ _ _ _ _ => (pe_tup (pa_cons (pv 7) (pa_cons (pe_un un_neg pe_int) pa_nil))))) (pss_cons (ps_set (i := 8) sc.nd rfl (Or.inl rfl) (pe_op u_add (pe_lst (pa_cons (pe_tup (pa_cons pe_str (pa_cons pe_int pa_nil))) (pa_cons (pe_tup (pa_cons pe_str (pa_cons pe_int pa_nil))) (pa_cons (pe_tup (pa_cons pe_str (pa_cons pe_int (pa_cons pe_int pa_nil)))) pa_nil)))) (pe_lc (own := [("k", 7)]) rfl sc.nd (pi_range2 (by rfl) b_range (pa_cons pe_int (pa_cons (pv 1) pa_nil))) (blkOk_by (N := ["pool", "many", "side", "shift", "ends", "steps", "word", "k", "backs", "short", "most", "double", "length", "e"]) (sc := defScope s_law_long) (by decide +kernel)) (fun _ _ _ _ _ => (pg_name (i := 7) sc.nd rfl (by first | exact Or.inl rfl | exact Or.inr rfl))) (fun _ _ _ _ _ => pts_nil) (fun _ _ _ _ _ => (pe_tup (pa_cons pe_str (pa_cons (pe_op u_sub (pv 7) pe_int) pa_nil))))))) (pss_cons (ps_set (i := 9) sc.nd rfl (Or.inl rfl) (pe_ix ix_seq (pe_lst (pa_cons (pe_lst (pa_cons (pe_tup (pa_cons pe_int (pa_cons pe_int pa_nil))) (pa_cons (pe_tup (pa_cons pe_int (pa_cons pe_int pa_nil))) pa_nil))) (pa_cons (pe_lst (pa_cons (pe_tup (pa_cons pe_int (pa_cons (pe_un un_neg pe_int) pa_nil))) (pa_cons (pe_tup (pa_cons pe_int (pa_cons (pe_un un_neg pe_int) pa_nil))) pa_nil))) pa_nil))) (pe_op u_mod (pe_callTy call_int1 (by rfl) b_int (by decide +kernel) (pa_cons (pe_op u_sub (pv 1) pe_int) pa_nil)) pe_int) (fun _ _ => rfl))) (pss_cons (ps_for (passes_of rfl) rfl (pi_seq (pe_lst (pa_cons pe_int (pa_cons (pe_callB call_len (by rfl) b_len (by decide +kernel) (pa_cons (pv 6) pa_nil)) (pa_cons (pe_op u_sub (pe_callB call_len (by rfl) b_len (by decide +kernel) (pa_cons (pv 6) pa_nil)) pe_int) pa_nil))))) (pg_name (i := 10) sc.nd rfl (Or.inl rfl)) (pss_cons (ps_if (PW.pt (pw_or (pt_not (pt_val (pe_callS G_law_same (hr.mono (by omega)) (by rfl) m_law_same k_law_same d_law_same (fun σ => passAt (takes_of rfl rfl rfl rfl) σ) (pa_cons (pe_callS G_program_length (hr.mono (by omega)) (by rfl) m_program_length k_program_length d_program_length (fun σ => passAt (takes_of rfl rfl rfl rfl) σ) (pa_cons (pv 5) pa_nil)) (pa_cons (pe_callB call_len (by rfl) b_len (by decide +kernel) (pa_cons (pv 6) pa_nil)) pa_nil))))) (pw_or1 (pt_not (pt_val (pe_callS G_law_written (hr.mono (by omega)) (by rfl) m_law_written k_law_written d_law_written (fun σ => passAt (takes_of rfl rfl rfl rfl) σ) (pa_cons (pv 5) (pa_cons (pv 6) (pa_cons (pv 10) pa_nil))))))))) (pss_one (ps_ret pe_bl)) pss_nil) (pss_one (ps_if (PW.pt (pw_or (pt_not (pt_val (pe_callS G_law_same (hr.mono (by omega)) (by rfl) m_law_same k_law_same d_law_same (fun σ => passAt (takes_of rfl rfl rfl rfl) σ) (pa_cons (pe_callS G_program_length (hr.mono (by omega)) (by rfl) m_program_length k_program_length d_program_length (fun σ => passAt (takes_of rfl rfl rfl rfl) σ) (pa_cons (pv 8) pa_nil)) (pa_cons pe_int pa_nil))))) (pw_or1 (pt_not (pt_val (pe_callS G_law_written (hr.mono (by omega)) (by rfl) m_law_written k_law_written d_law_written (fun σ => passAt (takes_of rfl rfl rfl rfl) σ) (pa_cons (pv 8) (pa_cons (pv 9) (pa_cons (pv 10) pa_nil))))))))) (pss_one (ps_ret pe_bl)) pss_nil)))) (pss_cons (ps_par (by rfl) sc.nd rfl rfl (by decide) rfl rfl (pa_cons (pe_lst (pa_cons (pe_tup (pa_cons pe_str (pa_cons pe_int pa_nil))) pa_nil)) (pa_cons pe_int pa_nil)) (by rfl)) (pss_cons (ps_for (passes_of rfl) rfl (pi_range2 (by rfl) b_range (pa_cons pe_int (pa_cons (pv 1) pa_nil))) (pg_name (i := 7) sc.nd rfl (Or.inl rfl)) (pss_one (ps_if (pt_cmpR (op_eqD (eqU hr)) (pe_op u_mod (pe_callTy call_int1 (by rfl) b_int (by decide +kernel) (pa_cons (pe_op u_add (pv 7) (pv 3)) pa_nil)) pe_int) pe_int (nomark _)) (pss_cons (ps_expr (pe_bm PySem.F.plainAttrs_list PySem.F.slot_list_append PySem.F.type_list_append mt_append (pv 11) (pa_cons (pe_tup (pa_cons pe_str (pa_cons (pe_op u_sub (pv 7) pe_int) (pa_cons (pe_op u_sub (pv 7) pe_int) pa_nil)))) pa_nil))) (pss_one (ps_set (i := 12) sc.nd rfl (Or.inl rfl) (pe_op u_mul (pv 12) pe_int)))) (pss_one (ps_expr (pe_bm PySem.F.plainAttrs_list PySem.F.slot_list_append PySem.F.type_list_append mt_append (pv 11) (pa_cons (pe_tup (pa_cons pe_str (pa_cons (pe_op u_sub (pv 7) pe_int) pa_nil))) pa_nil))))))) (pss_one (ps_ret (pe_and (pe_callS G_law_same (hr.mono (by omega)) (by rfl) m_law_same k_law_same d_law_same (fun σ => passAt (takes_of rfl rfl rfl rfl) σ) (pa_cons (pe_callS G_program_length (hr.mono (by omega)) (by rfl) m_program_length k_program_length d_program_length (fun σ => passAt (takes_of rfl rfl rfl rfl) σ) (pa_cons (pv 11) pa_nil)) (pa_cons (pv 12) pa_nil))) (pe_one (pe_callS G_law_same (hr.mono (by omega)) (by rfl) m_law_same k_law_same d_law_same (fun σ => passAt (takes_of rfl rfl rfl rfl) σ) (pa_cons (pe_callS G_law_told (hr.mono (by omega)) (by rfl) m_law_told k_law_told d_law_told (fun σ => passAt (takes_of rfl rfl rfl rfl) σ) (pa_cons (pv 11) (pa_cons pe_int pa_nil))) (pa_cons (pe_tup (pa_cons pe_str (pa_cons (pv 12) pa_nil))) pa_nil))))))))))))))))))),
    (ss_seq (ss_unp (se_tup (sea_cons (se_op (oe_s os_sub) (se_p sp_int) (se_callI (sea_cons (se_p sp_int) sea_nil))) (sea_cons (se_callI (sea_cons (se_p sp_int) sea_nil)) (sea_cons (se_callI (sea_cons (se_p sp_int) sea_nil)) sea_nil)))) (sg_tup (is := [1, 2, 3]) rfl) (by decide)) (ss_seq (ss_set (se_lc (slots := [7]) (si_r2 (sea_cons (se_p sp_int) (sea_cons (se_p (sp_op os_sub sp_int sp_var)) sea_nil))) sg_name set_yes (se_p (sp_op os_mod (sp_op os_mod (sp_cb cs_int (sa_cons (sp_op os_add (sp_op os_mul sp_var sp_var) (sp_op os_mul sp_var sp_var)) sa_nil)) sp_int) sp_int))) (by decide)) (ss_seq (ss_par (sea_cons (se_lst (sea_cons (se_tup (sea_cons (se_p sp_str) (sea_cons (se_p sp_int) sea_nil))) (sea_cons (se_tup (sea_cons (se_p sp_str) (sea_cons (se_p sp_int) sea_nil))) sea_nil))) (sea_cons (se_fz (se_op oe_add (se_lst (sea_cons (se_tup (sea_cons (se_p sp_int) (sea_cons (se_p sp_int) sea_nil))) sea_nil)) (se_lc (slots := [7]) (si_e se_var) sg_name set_yes (se_tup (sea_cons se_var (sea_cons (se_p sp_int) sea_nil)))))) sea_nil)) (by decide) (by decide)) (ss_seq (ss_for (slots := [7]) (si_r1 (sea_cons (se_p (sp_cb cs_len (sa_cons sp_var sa_nil))) sea_nil)) sg_name (by decide) (ss_app (se_op oe_ix (se_lst (sea_cons (se_tup (sea_cons (se_p sp_str) (sea_cons (se_p (sp_op os_add sp_var sp_int)) (sea_cons (se_get (sv_ix sv_var sp_var)) sea_nil)))) (sea_cons (se_tup (sea_cons (se_p sp_str) (sea_cons (se_get (sv_ix sv_var sp_var)) (sea_cons (se_p (sp_op os_add sp_var sp_int)) sea_nil)))) sea_nil))) se_var))) (ss_seq (ss_app (se_tup (sea_cons (se_p sp_str) (sea_cons (se_p (sp_op os_sub (sp_cb cs_len (sa_cons sp_var sa_nil)) sp_int)) sea_nil)))) (ss_seq (ss_if (set_p (sp_test (sp_op os_eq sp_var sp_int))) (ss_set (se_fz (se_revL sv_var)) (by decide)) ss_nil) (ss_seq (ss_set (se_fz (se_lc (slots := [7, 13]) (si_e (se_revL sv_var)) (sg_tup (is := [7, 13]) rfl) set_yes (se_tup (sea_cons se_var (sea_cons (se_p (sp_un us_neg sp_int)) sea_nil))))) (by decide)) (ss_seq (ss_set (se_op oe_add (se_lst (sea_cons (se_tup (sea_cons (se_p sp_str) (sea_cons (se_p sp_int) sea_nil))) (sea_cons (se_tup (sea_cons (se_p sp_str) (sea_cons (se_p sp_int) sea_nil))) (sea_cons (se_tup (sea_cons (se_p sp_str) (sea_cons (se_p sp_int) (sea_cons (se_p sp_int) sea_nil)))) sea_nil)))) (se_lc (slots := [7]) (si_r2 (sea_cons (se_p sp_int) (sea_cons se_var sea_nil))) sg_name set_yes (se_tup (sea_cons (se_p sp_str) (sea_cons (se_p (sp_op os_sub sp_var sp_int)) sea_nil))))) (by decide)) (ss_seq (ss_set (se_op oe_ix (se_lst (sea_cons (se_lst (sea_cons (se_tup (sea_cons (se_p sp_int) (sea_cons (se_p sp_int) sea_nil))) (sea_cons (se_tup (sea_cons (se_p sp_int) (sea_cons (se_p sp_int) sea_nil))) sea_nil))) (sea_cons (se_lst (sea_cons (se_tup (sea_cons (se_p sp_int) (sea_cons (se_p (sp_un us_neg sp_int)) sea_nil))) (sea_cons (se_tup (sea_cons (se_p sp_int) (sea_cons (se_p (sp_un us_neg sp_int)) sea_nil))) sea_nil))) sea_nil))) (se_p (sp_op os_mod (sp_cb cs_int (sa_cons (sp_op os_sub sp_var sp_int) sa_nil)) sp_int))) (by decide)) (ss_seq (ss_for (slots := [10]) (si_e (se_lst (sea_cons (se_p sp_int) (sea_cons (se_p (sp_cb cs_len (sa_cons sp_var sa_nil))) (sea_cons (se_p (sp_op os_sub (sp_cb cs_len (sa_cons sp_var sa_nil)) sp_int)) sea_nil))))) sg_name (by decide) (ss_seq (ss_if (set_p (st_or (st_not (sp_b (sp_callG (sa_cons (sp_callG (sa_cons sp_var sa_nil)) (sa_cons (sp_cb cs_len (sa_cons sp_var sa_nil)) sa_nil))))) (st_not (sp_b (sp_callG (sa_cons sp_var (sa_cons sp_var (sa_cons sp_var sa_nil)))))))) (ss_ret (se_p sp_bl)) ss_nil) (ss_if (set_p (st_or (st_not (sp_b (sp_callG (sa_cons (sp_callG (sa_cons sp_var sa_nil)) (sa_cons sp_int sa_nil))))) (st_not (sp_b (sp_callG (sa_cons sp_var (sa_cons sp_var (sa_cons sp_var sa_nil)))))))) (ss_ret (se_p sp_bl)) ss_nil))) (ss_seq (ss_par (sea_cons (se_lst (sea_cons (se_tup (sea_cons (se_p sp_str) (sea_cons (se_p sp_int) sea_nil))) sea_nil)) (sea_cons (se_p sp_int) sea_nil)) (by decide) (by decide)) (ss_seq (ss_for (slots := [7]) (si_r2 (sea_cons (se_p sp_int) (sea_cons se_var sea_nil))) sg_name (by decide) (ss_if (set_p (sp_test (sp_op os_eq (sp_op os_mod (sp_cb cs_int (sa_cons (sp_op os_add sp_var sp_var) sa_nil)) sp_int) sp_int))) (ss_seq (ss_app (se_tup (sea_cons (se_p sp_str) (sea_cons (se_p (sp_op os_sub sp_var sp_int)) (sea_cons (se_p (sp_op os_sub sp_var sp_int)) sea_nil))))) (ss_set (se_p (sp_op os_mul sp_var sp_int)) (by decide))) (ss_app (se_tup (sea_cons (se_p sp_str) (sea_cons (se_p (sp_op os_sub sp_var sp_int)) sea_nil)))))) (ss_ret (se_p (sp_andV (sp_callG (sa_cons (sp_callG (sa_cons sp_var sa_nil)) (sa_cons sp_var sa_nil))) (sp_callG (sa_cons (sp_callG (sa_cons sp_var (sa_cons sp_int sa_nil))) (sa_cons (sp_tup (sa_cons sp_str (sa_cons sp_var sa_nil))) sa_nil))))))))))))))))))⟩
/-! law: 0 script, 1 pool, 2 n, 3 makers, 4 kept, 5 many, 6 steps, 7 part, 8 length, 9 exact, 10 word, 11 program, 12 letters, 13 kind -/
theorem sc_law : FnScope ["script", "pool", "n", "makers", "kept", "many", "steps", "part", "length", "exact", "word", "program", "letters", "kind"] ["script"] (defScope s_law) := ⟨rfl, rfl, rfl, by decide +kernel, rfl, by decide +kernel, by decide +kernel⟩
theorem ok_law (dd : Dd K mg "law" s_law ["script"]) (b_len : mg "len" = none) (b_repr : mg "repr" = none) (g_law_stream : Fn P w K mg base "_law_stream" 2 ["script"] (spSc ct K F_law_stream)) (g_law_long : Fn P w K mg base "_law_long" 8 ["pool"] (spM ct 1 F_law_long)) (g_law_same : Fn P w K mg base "_law_same" 6 ["one", "other"] (spM ct 2 (F_law_same 6))) (g_program_length : Fn P w K mg base "program_length" 2 ["program"] (spM ct 1 F_program_length)) (g_law_written : Fn P w K mg base "_law_written" 7 ["steps", "word", "most"] (spM ct 3 F_law_written)) (g_law_exact : Fn P w K mg base "_law_exact" 2 ["pool", "many", "length"] (spM ct 3 F_law_exact)) (g_law_pick : Fn P w K mg base "_law_pick" 1 ["pool", "many"] (spM ct 2 F_law_pick)) (g_law_great : FnGd P w K mg base "_law_great" 7 ["pool", "n", "makers"] (spM ct 3 F_law_great)) (g_law_holds : FnGd P w K mg base "_law_holds" 8 ["pool", "n", "makers", "steps", "word"] (spM ct 5 F_law_holds)) (g_law_mixed : Fn P w K mg base "_law_mixed" 2 ["pool", "rows"] (spM ct 2 F_law_mixed)) (g_law_word : Fn P w K mg base "_law_word" 1 ["steps"] (spM ct 1 F_law_word)) (g_law_program : Fn P w K mg base "_law_program" 2 ["pool", "many", "size", "most"] (spM ct 4 F_law_program)) (g_law_group : Fn P w K mg base "_law_group" 5 ["pool", "n"] (spM ct 2 F_law_group)) (g_law_any : Fn P w K mg base "_law_any" 4 ["pool", "n"] (spM ct 2 F_law_any)) (g_law_places : Fn P w K mg base "_law_places" 2 ["pool"] (spM ct 1 F_law_places)) :
    FlG P w K mg base "law" s_law 9 ["script"] (spSc ct K F_law) := by
  obtain ⟨_, _, G_law_stream, m_law_stream, k_law_stream, d_law_stream⟩ := g_law_stream
  obtain ⟨_, _, G_law_long, m_law_long, k_law_long, d_law_long⟩ := g_law_long
  obtain ⟨_, _, G_law_same, m_law_same, k_law_same, d_law_same⟩ := g_law_same
  obtain ⟨_, _, G_program_length, m_program_length, k_program_length, d_program_length⟩ := g_program_length
  obtain ⟨_, _, G_law_written, m_law_written, k_law_written, d_law_written⟩ := g_law_written
  obtain ⟨_, _, G_law_exact, m_law_exact, k_law_exact, d_law_exact⟩ := g_law_exact
  obtain ⟨_, _, G_law_pick, m_law_pick, k_law_pick, d_law_pick⟩ := g_law_pick
  obtain ⟨_, _, G_law_great, m_law_great, k_law_great, d_law_great⟩ := g_law_great
  obtain ⟨_, _, G_law_holds, m_law_holds, k_law_holds, d_law_holds⟩ := g_law_holds
  obtain ⟨_, _, G_law_mixed, m_law_mixed, k_law_mixed, d_law_mixed⟩ := g_law_mixed
  obtain ⟨_, _, G_law_word, m_law_word, k_law_word, d_law_word⟩ := g_law_word
  obtain ⟨_, _, G_law_program, m_law_program, k_law_program, d_law_program⟩ := g_law_program
  obtain ⟨_, _, G_law_group, m_law_group, k_law_group, d_law_group⟩ := g_law_group
  obtain ⟨_, _, G_law_any, m_law_any, k_law_any, d_law_any⟩ := g_law_any
  obtain ⟨_, _, G_law_places, m_law_places, k_law_places, d_law_places⟩ := g_law_places
  have sc := sc_law
  refine fnG_defL (k := 8) dd sc_law (by decide) fun f cdv A hg outer s H E hr => ?_
  exact ⟨_, (pss_cons (ps_set (i := 1) sc.nd rfl (Or.inl rfl) (pe_callS G_law_stream (hr.mono (by omega)) (by rfl) m_law_stream k_law_stream d_law_stream (fun σ => passAt (takes_of rfl rfl rfl rfl) σ) (pa_cons (pv 0) pa_nil))) (pss_cons (ps_set (i := 2) sc.nd rfl (Or.inl rfl) (pe_callS G_law_places (hr.mono (by omega)) (by rfl) m_law_places k_law_places d_law_places (fun σ => passAt (takes_of rfl rfl rfl rfl) σ) (pa_cons (pv 1) pa_nil))) (pss_cons (ps_set (i := 3) sc.nd rfl (Or.inl rfl) (pe_op u_add (pe_callS G_law_group (hr.mono (by omega)) (by rfl) m_law_group k_law_group d_law_group (fun σ => passAt (takes_of rfl rfl rfl rfl) σ) (pa_cons (pv 1) (pa_cons (pv 2) pa_nil))) (pe_lst (pa_cons (pe_callS G_law_any (hr.mono (by omega)) (by rfl) m_law_any k_law_any d_law_any (fun σ => passAt (takes_of rfl rfl rfl rfl) σ) (pa_cons (pv 1) (pa_cons (pv 2) pa_nil))) pa_nil)))) (pss_cons (ps_set (i := 3) sc.nd rfl (Or.inl rfl) (pe_slice sl_list (pv 3) po_none (po_some pe_int))) (pss_cons (ps_par (by rfl) sc.nd rfl rfl (by decide) rfl rfl (pa_cons (pe_callB (call_reprV hg (eqU hr)) (by rfl) b_repr (by decide +kernel) (pa_cons (pv 3) pa_nil)) (pa_cons (pe_callB call_len (by rfl) b_len (by decide +kernel) (pa_cons (pv 3) pa_nil)) pa_nil)) (by rfl)) (pss_cons (ps_set (i := 6) sc.nd rfl (Or.inl rfl) (pe_ix ix_seq (pe_callS G_law_program (hr.mono (by omega)) (by rfl) m_law_program k_law_program d_law_program (fun σ => passAt (takes_of rfl rfl rfl rfl) σ) (pa_cons (pv 1) (pa_cons (pv 5) (pa_cons (pe_ix ix_seq (pe_lst (pa_cons pe_int (pa_cons pe_int (pa_cons pe_int (pa_cons pe_int (pa_cons pe_int (pa_cons pe_int pa_nil))))))) (pe_callS G_law_pick (hr.mono (by omega)) (by rfl) m_law_pick k_law_pick d_law_pick (fun σ => passAt (takes_of rfl rfl rfl rfl) σ) (pa_cons (pv 1) (pa_cons pe_int pa_nil))) (fun _ _ => rfl)) (pa_cons pe_int pa_nil))))) pe_int (fun _ _ => rfl))) (pss_cons (ps_set (i := 7) sc.nd rfl (Or.inl rfl) (pe_slice sl_list (pv 6) po_none (po_some (pe_callS G_law_pick (hr.mono (by omega)) (by rfl) m_law_pick k_law_pick d_law_pick (fun σ => passAt (takes_of rfl rfl rfl rfl) σ) (pa_cons (pv 1) (pa_cons (pe_op u_add (pe_callB call_len (by rfl) b_len (by decide +kernel) (pa_cons (pv 6) pa_nil)) pe_int) pa_nil)))))) (pss_cons (ps_set (i := 8) sc.nd rfl (Or.inl rfl) (pe_ix ix_seq (pe_lst (pa_cons pe_int (pa_cons pe_int (pa_cons (pe_op u_add pe_int (pe_callS G_law_pick (hr.mono (by omega)) (by rfl) m_law_pick k_law_pick d_law_pick (fun σ => passAt (takes_of rfl rfl rfl rfl) σ) (pa_cons (pv 1) (pa_cons pe_int pa_nil)))) (pa_cons (pe_op u_add pe_int (pe_op u_mul pe_int (pe_callS G_law_pick (hr.mono (by omega)) (by rfl) m_law_pick k_law_pick d_law_pick (fun σ => passAt (takes_of rfl rfl rfl rfl) σ) (pa_cons (pv 1) (pa_cons pe_int pa_nil))))) pa_nil))))) (pe_callS G_law_pick (hr.mono (by omega)) (by rfl) m_law_pick k_law_pick d_law_pick (fun σ => passAt (takes_of rfl rfl rfl rfl) σ) (pa_cons (pv 1) (pa_cons pe_int pa_nil))) (fun _ _ => rfl))) (pss_cons (ps_asg (pe_callS G_law_exact (hr.mono (by omega)) (by rfl) m_law_exact k_law_exact d_law_exact (fun σ => passAt (takes_of rfl rfl rfl rfl) σ) (pa_cons (pv 1) (pa_cons (pv 5) (pa_cons (pv 8) pa_nil)))) (pg_tup (by rfl) (pgs_cons (pg_name (i := 9) sc.nd rfl (Or.inl rfl)) (pgs_cons (pg_name (i := 10) sc.nd rfl (Or.inl rfl)) pgs_nil)))) (pss_cons (ps_for (passes_of rfl) rfl (pi_seq (pe_callS G_law_mixed (hr.mono (by omega)) (by rfl) m_law_mixed k_law_mixed d_law_mixed (fun σ => passAt (takes_of rfl rfl rfl rfl) σ) (pa_cons (pv 1) (pa_cons (pe_lst (pa_cons (pe_tup (pa_cons (pv 6) (pa_cons (pe_callS G_law_word (hr.mono (by omega)) (by rfl) m_law_word k_law_word d_law_word (fun σ => passAt (takes_of rfl rfl rfl rfl) σ) (pa_cons (pv 6) pa_nil)) pa_nil))) (pa_cons (pe_tup (pa_cons (pv 7) (pa_cons (pe_callS G_law_word (hr.mono (by omega)) (by rfl) m_law_word k_law_word d_law_word (fun σ => passAt (takes_of rfl rfl rfl rfl) σ) (pa_cons (pv 7) pa_nil)) pa_nil))) (pa_cons (pe_tup (pa_cons (pv 9) (pa_cons (pv 10) pa_nil))) (pa_cons (pe_tup (pa_cons (pe_lst pa_nil) (pa_cons (pe_lst pa_nil) pa_nil))) pa_nil))))) pa_nil)))) (pg_tup (by rfl) (pgs_cons (pg_name (i := 11) sc.nd rfl (Or.inl rfl)) (pgs_cons (pg_name (i := 12) sc.nd rfl (Or.inl rfl)) pgs_nil))) (pss_one (ps_if (pt_not (pt_val (pe_callSG G_law_holds hg (fun _ _ _ _ h => h.1) (hr.mono (by omega)) (by rfl) m_law_holds k_law_holds d_law_holds (fun σ => passAt (takes_of rfl rfl rfl rfl) σ) (pa_cons (pv 1) (pa_cons (pv 2) (pa_cons (pv 3) (pa_cons (pv 11) (pa_cons (pv 12) pa_nil)))))))) (pss_one (ps_ret pe_bl)) pss_nil))) (pss_cons (ps_if (pt_not (pt_val (pe_callSG G_law_great hg (fun _ _ _ _ h => h.1) (hr.mono (by omega)) (by rfl) m_law_great k_law_great d_law_great (fun σ => passAt (takes_of rfl rfl rfl rfl) σ) (pa_cons (pv 1) (pa_cons (pv 2) (pa_cons (pv 3) pa_nil)))))) (pss_one (ps_ret pe_bl)) pss_nil) (pss_cons (ps_set (i := 13) sc.nd rfl (Or.inl rfl) (pe_callS G_law_pick (hr.mono (by omega)) (by rfl) m_law_pick k_law_pick d_law_pick (fun σ => passAt (takes_of rfl rfl rfl rfl) σ) (pa_cons (pv 1) (pa_cons pe_int pa_nil)))) (pss_cons (ps_if (pt_cmpR (op_eqD (eqU hr)) (pv 13) pe_int (nomark _)) (pss_cons (ps_asg (pe_callS G_law_exact (hr.mono (by omega)) (by rfl) m_law_exact k_law_exact d_law_exact (fun σ => passAt (takes_of rfl rfl rfl rfl) σ) (pa_cons (pv 1) (pa_cons (pv 5) (pa_cons (pe_op u_add pe_int (pe_callS G_law_pick (hr.mono (by omega)) (by rfl) m_law_pick k_law_pick d_law_pick (fun σ => passAt (takes_of rfl rfl rfl rfl) σ) (pa_cons (pv 1) (pa_cons pe_int pa_nil)))) pa_nil)))) (pg_tup (by rfl) (pgs_cons (pg_name (i := 9) sc.nd rfl (Or.inl rfl)) (pgs_cons (pg_name (i := 10) sc.nd rfl (Or.inl rfl)) pgs_nil)))) (pss_one (ps_if (PW.pt (pw_or (pt_not (pt_val (pe_callS G_law_written (hr.mono (by omega)) (by rfl) m_law_written k_law_written d_law_written (fun σ => passAt (takes_of rfl rfl rfl rfl) σ) (pa_cons (pv 9) (pa_cons (pv 10) (pa_cons pe_int pa_nil)))))) (pw_or1 (pt_not (pt_val (pe_callS G_law_same (hr.mono (by omega)) (by rfl) m_law_same k_law_same d_law_same (fun σ => passAt (takes_of rfl rfl rfl rfl) σ) (pa_cons (pe_callS G_program_length (hr.mono (by omega)) (by rfl) m_program_length k_program_length d_program_length (fun σ => passAt (takes_of rfl rfl rfl rfl) σ) (pa_cons (pv 9) pa_nil)) (pa_cons (pe_callB call_len (by rfl) b_len (by decide +kernel) (pa_cons (pv 10) pa_nil)) pa_nil)))))))) (pss_one (ps_ret pe_bl)) pss_nil))) pss_nil) (pss_cons (ps_if (PW.pt (pw_and (pt_cmpR (op_eqD (eqU hr)) (pv 13) pe_int (nomark _)) (pw_and1 (pt_not (pt_val (pe_callS G_law_long (hr.mono (by omega)) (by rfl) m_law_long k_law_long d_law_long (fun σ => passAt (takes_of rfl rfl rfl rfl) σ) (pa_cons (pv 1) pa_nil))))))) (pss_one (ps_ret pe_bl)) pss_nil) (pss_one (ps_ret (pe_cmpR op_eq (pe_callB (call_reprV hg (eqU hr)) (by rfl) b_repr (by decide +kernel) (pa_cons (pv 3) pa_nil)) (pv 4) (nomark _)))))))))))))))))),
    fun ns => ssa_seq (ssa_set (by decide) sea_callS (by decide)) (SS.a (ss_seq (ss_set (se_callI sea_nil) (by decide)) (ss_seq (ss_set (se_fz (se_op oe_add (se_callI (sea_cons se_var sea_nil)) (se_lst (sea_cons (se_callI (sea_cons se_var sea_nil)) sea_nil)))) (by decide)) (ss_seq (ss_set (se_fz (se_sl sv_var spo_no (spo_yes sp_int))) (by decide)) (ss_seq (ss_par (sea_cons (se_p (sp_cb cs_reprV (sa_cons sp_var sa_nil))) (sea_cons (se_p (sp_cb cs_len (sa_cons sp_var sa_nil))) sea_nil)) (by decide) (by decide)) (ss_seq (ss_set (se_op oe_ix (se_callI (sea_cons se_var (sea_cons (se_op oe_ix (se_lst (sea_cons (se_p sp_int) (sea_cons (se_p sp_int) (sea_cons (se_p sp_int) (sea_cons (se_p sp_int) (sea_cons (se_p sp_int) (sea_cons (se_p sp_int) sea_nil))))))) (se_callI (sea_cons (se_p sp_int) sea_nil))) (sea_cons (se_p sp_int) sea_nil)))) (se_p sp_int)) (by decide)) (ss_seq (ss_set (se_slT se_var (se_callI (sea_cons (se_p (sp_op os_add (sp_cb cs_len (sa_cons sp_var sa_nil)) sp_int)) sea_nil))) (by decide)) (ss_seq (ss_set (se_op oe_ix (se_lst (sea_cons (se_p sp_int) (sea_cons (se_p sp_int) (sea_cons (se_op oe_add (se_p sp_int) (se_callI (sea_cons (se_p sp_int) sea_nil))) (sea_cons (se_op oe_add (se_p sp_int) (se_op (oe_s os_mul) (se_p sp_int) (se_callI (sea_cons (se_p sp_int) sea_nil)))) sea_nil))))) (se_callI (sea_cons (se_p sp_int) sea_nil))) (by decide)) (ss_seq (ss_unp (se_callI (sea_cons se_var (sea_cons se_var sea_nil))) (sg_tup (is := [9, 10]) rfl) (by decide)) (ss_seq (ss_for (slots := [11, 12]) (si_e (se_callI (sea_cons (se_lst (sea_cons (se_tup (sea_cons se_var (sea_cons (se_call (sea_cons se_var sea_nil)) sea_nil))) (sea_cons (se_tup (sea_cons se_var (sea_cons (se_call (sea_cons se_var sea_nil)) sea_nil))) (sea_cons (se_tup (sea_cons se_var (sea_cons se_var sea_nil))) (sea_cons (se_tup (sea_cons (se_lst sea_nil) (sea_cons (se_lst sea_nil) sea_nil))) sea_nil))))) sea_nil))) (sg_tup (is := [11, 12]) rfl) (by decide) (ss_if (set_not (set_b (se_callI (sea_cons se_var (sea_cons se_var (sea_cons se_var (sea_cons se_var sea_nil))))))) (ss_ret (se_p sp_bl)) ss_nil)) (ss_seq (ss_if (set_not (set_b (se_callI (sea_cons se_var (sea_cons se_var sea_nil))))) (ss_ret (se_p sp_bl)) ss_nil) (ss_seq (ss_set (se_callI (sea_cons (se_p sp_int) sea_nil)) (by decide)) (ss_seq (ss_if (set_p (sp_test (sp_op os_eq sp_var sp_int))) (ss_seq (ss_unp (se_callI (sea_cons se_var (sea_cons (se_op oe_add (se_p sp_int) (se_callI (sea_cons (se_p sp_int) sea_nil))) sea_nil))) (sg_tup (is := [9, 10]) rfl) (by decide)) (ss_if (set_p (st_or (st_not (sp_b (sp_callG (sa_cons sp_var (sa_cons sp_var (sa_cons sp_int sa_nil)))))) (st_not (sp_b (sp_callG (sa_cons (sp_callG (sa_cons sp_var sa_nil)) (sa_cons (sp_cb cs_len (sa_cons sp_var sa_nil)) sa_nil))))))) (ss_ret (se_p sp_bl)) ss_nil)) ss_nil) (ss_seq (ss_if (set_and (set_p (sp_test (sp_op os_eq sp_var sp_int))) (set_not (set_b (se_callI sea_nil)))) (ss_ret (se_p sp_bl)) ss_nil) (ss_ret (se_p (sp_op os_eqS (sp_cb cs_reprV (sa_cons sp_var sa_nil)) sp_var)))))))))))))))))⟩
end
theorem all_mk {l : PySem.W.OpenLaw} {w : World} {K : PySem.W.Frag} {h : Heap} {mg : Str → Option Value} {fa : Addr} (X : K.In h) (G : h.Ns mainGlobals mg) (hfa : mg "law" = some (.ref fa))
    {f0 : Addr} {od0 an0 : Option Addr} {sl0 : Array (Option Value)} {oc0 kV0 dc0 pm0 cd0 ct0 : Value}
    {f1 : Addr} {od1 an1 : Option Addr} {sl1 : Array (Option Value)} {oc1 kV1 dc1 pm1 cd1 ct1 : Value}
    {f2 : Addr} {od2 an2 : Option Addr} {sl2 : Array (Option Value)} {oc2 kV2 dc2 pm2 cd2 ct2 : Value}
    {f3 : Addr} {od3 an3 : Option Addr} {sl3 : Array (Option Value)} {oc3 kV3 dc3 pm3 cd3 ct3 : Value}
    {f4 : Addr} {od4 an4 : Option Addr} {sl4 : Array (Option Value)} {oc4 kV4 dc4 pm4 cd4 ct4 : Value}
    {f5 : Addr} {od5 an5 : Option Addr} {sl5 : Array (Option Value)} {oc5 kV5 dc5 pm5 cd5 ct5 : Value}
    {f6 : Addr} {od6 an6 : Option Addr} {sl6 : Array (Option Value)} {oc6 kV6 dc6 pm6 cd6 ct6 : Value}
    {f7 : Addr} {od7 an7 : Option Addr} {sl7 : Array (Option Value)} {oc7 kV7 dc7 pm7 cd7 ct7 : Value}
    {f8 : Addr} {od8 an8 : Option Addr} {sl8 : Array (Option Value)} {oc8 kV8 dc8 pm8 cd8 ct8 : Value}
    {f9 : Addr} {od9 an9 : Option Addr} {sl9 : Array (Option Value)} {oc9 kV9 dc9 pm9 cd9 ct9 : Value}
    {f10 : Addr} {od10 an10 : Option Addr} {sl10 : Array (Option Value)} {oc10 kV10 dc10 pm10 cd10 ct10 : Value}
    {f11 : Addr} {od11 an11 : Option Addr} {sl11 : Array (Option Value)} {oc11 kV11 dc11 pm11 cd11 ct11 : Value}
    {f12 : Addr} {od12 an12 : Option Addr} {sl12 : Array (Option Value)} {oc12 kV12 dc12 pm12 cd12 ct12 : Value}
    {f13 : Addr} {od13 an13 : Option Addr} {sl13 : Array (Option Value)} {oc13 kV13 dc13 pm13 cd13 ct13 : Value}
    {f14 : Addr} {od14 an14 : Option Addr} {sl14 : Array (Option Value)} {oc14 kV14 dc14 pm14 cd14 ct14 : Value}
    {f15 : Addr} {od15 an15 : Option Addr} {sl15 : Array (Option Value)} {oc15 kV15 dc15 pm15 cd15 ct15 : Value}
    {f16 : Addr} {od16 an16 : Option Addr} {sl16 : Array (Option Value)} {oc16 kV16 dc16 pm16 cd16 ct16 : Value}
    {f17 : Addr} {od17 an17 : Option Addr} {sl17 : Array (Option Value)} {oc17 kV17 dc17 pm17 cd17 ct17 : Value}
    {f18 : Addr} {od18 an18 : Option Addr} {sl18 : Array (Option Value)} {oc18 kV18 dc18 pm18 cd18 ct18 : Value}
    {f19 : Addr} {od19 an19 : Option Addr} {sl19 : Array (Option Value)} {oc19 kV19 dc19 pm19 cd19 ct19 : Value}
    {f20 : Addr} {od20 an20 : Option Addr} {sl20 : Array (Option Value)} {oc20 kV20 dc20 pm20 cd20 ct20 : Value}
    {f21 : Addr} {od21 an21 : Option Addr} {sl21 : Array (Option Value)} {oc21 kV21 dc21 pm21 cd21 ct21 : Value}
    {f22 : Addr} {od22 an22 : Option Addr} {sl22 : Array (Option Value)} {oc22 kV22 dc22 pm22 cd22 ct22 : Value}
    {f23 : Addr} {od23 an23 : Option Addr} {sl23 : Array (Option Value)} {oc23 kV23 dc23 pm23 cd23 ct23 : Value}
    {f24 : Addr} {od24 an24 : Option Addr} {sl24 : Array (Option Value)} {oc24 kV24 dc24 pm24 cd24 ct24 : Value}
    {f25 : Addr} {od25 an25 : Option Addr} {sl25 : Array (Option Value)} {oc25 kV25 dc25 pm25 cd25 ct25 : Value}
    {f26 : Addr} {od26 an26 : Option Addr} {sl26 : Array (Option Value)} {oc26 kV26 dc26 pm26 cd26 ct26 : Value}
    {f27 : Addr} {od27 an27 : Option Addr} {sl27 : Array (Option Value)} {oc27 kV27 dc27 pm27 cd27 ct27 : Value}
    {f28 : Addr} {od28 an28 : Option Addr} {sl28 : Array (Option Value)} {oc28 kV28 dc28 pm28 cd28 ct28 : Value}
    {f29 : Addr} {od29 an29 : Option Addr} {sl29 : Array (Option Value)} {oc29 kV29 dc29 pm29 cd29 ct29 : Value}
    {f30 : Addr} {od30 an30 : Option Addr} {sl30 : Array (Option Value)} {oc30 kV30 dc30 pm30 cd30 ct30 : Value}
    {f31 : Addr} {od31 an31 : Option Addr} {sl31 : Array (Option Value)} {oc31 kV31 dc31 pm31 cd31 ct31 : Value}
    {f32 : Addr} {od32 an32 : Option Addr} {sl32 : Array (Option Value)} {oc32 kV32 dc32 pm32 cd32 ct32 : Value}
    {f33 : Addr} {od33 an33 : Option Addr} {sl33 : Array (Option Value)} {oc33 kV33 dc33 pm33 cd33 ct33 : Value}
    {f34 : Addr} {od34 an34 : Option Addr} {sl34 : Array (Option Value)} {oc34 kV34 dc34 pm34 cd34 ct34 : Value}
    {f35 : Addr} {od35 an35 : Option Addr} {sl35 : Array (Option Value)} {oc35 kV35 dc35 pm35 cd35 ct35 : Value}
    {f36 : Addr} {od36 an36 : Option Addr} {sl36 : Array (Option Value)} {oc36 kV36 dc36 pm36 cd36 ct36 : Value}
    {f37 : Addr} {od37 an37 : Option Addr} {sl37 : Array (Option Value)} {oc37 kV37 dc37 pm37 cd37 ct37 : Value}
    {f38 : Addr} {od38 an38 : Option Addr} {sl38 : Array (Option Value)} {oc38 kV38 dc38 pm38 cd38 ct38 : Value}
    {f39 : Addr} {od39 an39 : Option Addr} {sl39 : Array (Option Value)} {oc39 kV39 dc39 pm39 cd39 ct39 : Value}
    {f40 : Addr} {od40 an40 : Option Addr} {sl40 : Array (Option Value)} {oc40 kV40 dc40 pm40 cd40 ct40 : Value}
    {f41 : Addr} {od41 an41 : Option Addr} {sl41 : Array (Option Value)} {oc41 kV41 dc41 pm41 cd41 ct41 : Value}
    {f42 : Addr} {od42 an42 : Option Addr} {sl42 : Array (Option Value)} {oc42 kV42 dc42 pm42 cd42 ct42 : Value}
    {f43 : Addr} {od43 an43 : Option Addr} {sl43 : Array (Option Value)} {oc43 kV43 dc43 pm43 cd43 ct43 : Value}
    (a0 : PySem.W.nsIn K mainGlobals "is_number" = some (some (.ref f0))) (l0 : K.lookup f0 = some ⟨oc0, od0, .func (PySem.W.fnOf "is_number" "is_number" (defArgs s_is_number) (defBody s_is_number) (defScope s_is_number) .none kV0 dc0 pm0 an0 cd0 ct0), sl0⟩) (c0 : PySem.W.codeIn K cd0 "is_number" = true) (k0 : PySem.W.keepIn K (.ref f0) = true)
    (a1 : PySem.W.nsIn K mainGlobals "is_place" = some (some (.ref f1))) (l1 : K.lookup f1 = some ⟨oc1, od1, .func (PySem.W.fnOf "is_place" "is_place" (defArgs s_is_place) (defBody s_is_place) (defScope s_is_place) .none kV1 dc1 pm1 an1 cd1 ct1), sl1⟩) (c1 : PySem.W.codeIn K cd1 "is_place" = true) (k1 : PySem.W.keepIn K (.ref f1) = true)
    (a2 : PySem.W.nsIn K mainGlobals "is_turning" = some (some (.ref f2))) (l2 : K.lookup f2 = some ⟨oc2, od2, .func (PySem.W.fnOf "is_turning" "is_turning" (defArgs s_is_turning) (defBody s_is_turning) (defScope s_is_turning) .none kV2 dc2 pm2 an2 cd2 ct2), sl2⟩) (c2 : PySem.W.codeIn K cd2 "is_turning" = true) (k2 : PySem.W.keepIn K (.ref f2) = true)
    (a3 : PySem.W.nsIn K mainGlobals "still" = some (some (.ref f3))) (l3 : K.lookup f3 = some ⟨oc3, od3, .func (PySem.W.fnOf "still" "still" (defArgs s_still) (defBody s_still) (defScope s_still) .none kV3 dc3 pm3 an3 cd3 ct3), sl3⟩) (c3 : PySem.W.codeIn K cd3 "still" = true) (k3 : PySem.W.keepIn K (.ref f3) = true)
    (a4 : PySem.W.nsIn K mainGlobals "then" = some (some (.ref f4))) (l4 : K.lookup f4 = some ⟨oc4, od4, .func (PySem.W.fnOf "then" "then" (defArgs s_then) (defBody s_then) (defScope s_then) .none kV4 dc4 pm4 an4 cd4 ct4), sl4⟩) (c4 : PySem.W.codeIn K cd4 "then" = true) (k4 : PySem.W.keepIn K (.ref f4) = true)
    (a5 : PySem.W.nsIn K mainGlobals "back" = some (some (.ref f5))) (l5 : K.lookup f5 = some ⟨oc5, od5, .func (PySem.W.fnOf "back" "back" (defArgs s_back) (defBody s_back) (defScope s_back) .none kV5 dc5 pm5 an5 cd5 ct5), sl5⟩) (c5 : PySem.W.codeIn K cd5 "back" = true) (k5 : PySem.W.keepIn K (.ref f5) = true)
    (a6 : PySem.W.nsIn K mainGlobals "check_makers" = some (some (.ref f6))) (l6 : K.lookup f6 = some ⟨oc6, od6, .func (PySem.W.fnOf "check_makers" "check_makers" (defArgs s_check_makers) (defBody s_check_makers) (defScope s_check_makers) .none kV6 dc6 pm6 an6 cd6 ct6), sl6⟩) (c6 : PySem.W.codeIn K cd6 "check_makers" = true) (k6 : PySem.W.keepIn K (.ref f6) = true)
    (a7 : PySem.W.nsIn K mainGlobals "check_group" = some (some (.ref f7))) (l7 : K.lookup f7 = some ⟨oc7, od7, .func (PySem.W.fnOf "check_group" "check_group" (defArgs s_check_group) (defBody s_check_group) (defScope s_check_group) .none kV7 dc7 pm7 an7 cd7 ct7), sl7⟩) (c7 : PySem.W.codeIn K cd7 "check_group" = true) (k7 : PySem.W.keepIn K (.ref f7) = true)
    (a8 : PySem.W.nsIn K mainGlobals "is_letter" = some (some (.ref f8))) (l8 : K.lookup f8 = some ⟨oc8, od8, .func (PySem.W.fnOf "is_letter" "is_letter" (defArgs s_is_letter) (defBody s_is_letter) (defScope s_is_letter) .none kV8 dc8 pm8 an8 cd8 ct8), sl8⟩) (c8 : PySem.W.codeIn K cd8 "is_letter" = true) (k8 : PySem.W.keepIn K (.ref f8) = true)
    (a9 : PySem.W.nsIn K mainGlobals "letter_turning" = some (some (.ref f9))) (l9 : K.lookup f9 = some ⟨oc9, od9, .func (PySem.W.fnOf "letter_turning" "letter_turning" (defArgs s_letter_turning) (defBody s_letter_turning) (defScope s_letter_turning) .none kV9 dc9 pm9 an9 cd9 ct9), sl9⟩) (c9 : PySem.W.codeIn K cd9 "letter_turning" = true) (k9 : PySem.W.keepIn K (.ref f9) = true)
    (a10 : PySem.W.nsIn K mainGlobals "word_turning" = some (some (.ref f10))) (l10 : K.lookup f10 = some ⟨oc10, od10, .func (PySem.W.fnOf "word_turning" "word_turning" (defArgs s_word_turning) (defBody s_word_turning) (defScope s_word_turning) .none kV10 dc10 pm10 an10 cd10 ct10), sl10⟩) (c10 : PySem.W.codeIn K cd10 "word_turning" = true) (k10 : PySem.W.keepIn K (.ref f10) = true)
    (a11 : PySem.W.nsIn K mainGlobals "is_step" = some (some (.ref f11))) (l11 : K.lookup f11 = some ⟨oc11, od11, .func (PySem.W.fnOf "is_step" "is_step" (defArgs s_is_step) (defBody s_is_step) (defScope s_is_step) .none kV11 dc11 pm11 an11 cd11 ct11), sl11⟩) (c11 : PySem.W.codeIn K cd11 "is_step" = true) (k11 : PySem.W.keepIn K (.ref f11) = true)
    (a12 : PySem.W.nsIn K mainGlobals "check_program" = some (some (.ref f12))) (l12 : K.lookup f12 = some ⟨oc12, od12, .func (PySem.W.fnOf "check_program" "check_program" (defArgs s_check_program) (defBody s_check_program) (defScope s_check_program) .none kV12 dc12 pm12 an12 cd12 ct12), sl12⟩) (c12 : PySem.W.codeIn K cd12 "check_program" = true) (k12 : PySem.W.keepIn K (.ref f12) = true)
    (a13 : PySem.W.nsIn K mainGlobals "step_turnings" = some (some (.ref f13))) (l13 : K.lookup f13 = some ⟨oc13, od13, .func (PySem.W.fnOf "step_turnings" "step_turnings" (defArgs s_step_turnings) (defBody s_step_turnings) (defScope s_step_turnings) .none kV13 dc13 pm13 an13 cd13 ct13), sl13⟩) (c13 : PySem.W.codeIn K cd13 "step_turnings" = true) (k13 : PySem.W.keepIn K (.ref f13) = true)
    (a14 : PySem.W.nsIn K mainGlobals "last_turning" = some (some (.ref f14))) (l14 : K.lookup f14 = some ⟨oc14, od14, .func (PySem.W.fnOf "last_turning" "last_turning" (defArgs s_last_turning) (defBody s_last_turning) (defScope s_last_turning) .none kV14 dc14 pm14 an14 cd14 ct14), sl14⟩) (c14 : PySem.W.codeIn K cd14 "last_turning" = true) (k14 : PySem.W.keepIn K (.ref f14) = true)
    (a15 : PySem.W.nsIn K mainGlobals "program_turning" = some (some (.ref f15))) (l15 : K.lookup f15 = some ⟨oc15, od15, .func (PySem.W.fnOf "program_turning" "program_turning" (defArgs s_program_turning) (defBody s_program_turning) (defScope s_program_turning) .none kV15 dc15 pm15 an15 cd15 ct15), sl15⟩) (c15 : PySem.W.codeIn K cd15 "program_turning" = true) (k15 : PySem.W.keepIn K (.ref f15) = true)
    (a16 : PySem.W.nsIn K mainGlobals "step_lengths" = some (some (.ref f16))) (l16 : K.lookup f16 = some ⟨oc16, od16, .func (PySem.W.fnOf "step_lengths" "step_lengths" (defArgs s_step_lengths) (defBody s_step_lengths) (defScope s_step_lengths) .none kV16 dc16 pm16 an16 cd16 ct16), sl16⟩) (c16 : PySem.W.codeIn K cd16 "step_lengths" = true) (k16 : PySem.W.keepIn K (.ref f16) = true)
    (a17 : PySem.W.nsIn K mainGlobals "program_length" = some (some (.ref f17))) (l17 : K.lookup f17 = some ⟨oc17, od17, .func (PySem.W.fnOf "program_length" "program_length" (defArgs s_program_length) (defBody s_program_length) (defScope s_program_length) .none kV17 dc17 pm17 an17 cd17 ct17), sl17⟩) (c17 : PySem.W.codeIn K cd17 "program_length" = true) (k17 : PySem.W.keepIn K (.ref f17) = true)
    (a18 : PySem.W.nsIn K mainGlobals "turned_steps" = some (some (.ref f18))) (l18 : K.lookup f18 = some ⟨oc18, od18, .func (PySem.W.fnOf "turned_steps" "turned_steps" (defArgs s_turned_steps) (defBody s_turned_steps) (defScope s_turned_steps) .none kV18 dc18 pm18 an18 cd18 ct18), sl18⟩) (c18 : PySem.W.codeIn K cd18 "turned_steps" = true) (k18 : PySem.W.keepIn K (.ref f18) = true)
    (a19 : PySem.W.nsIn K mainGlobals "written_out" = some (some (.ref f19))) (l19 : K.lookup f19 = some ⟨oc19, od19, .func (PySem.W.fnOf "written_out" "written_out" (defArgs s_written_out) (defBody s_written_out) (defScope s_written_out) .none kV19 dc19 pm19 an19 cd19 ct19), sl19⟩) (c19 : PySem.W.codeIn K cd19 "written_out" = true) (k19 : PySem.W.keepIn K (.ref f19) = true)
    (a20 : PySem.W.nsIn K mainGlobals "_law_pool" = some (some (.ref f20))) (l20 : K.lookup f20 = some ⟨oc20, od20, .func (PySem.W.fnOf "_law_pool" "_law_pool" (defArgs s_law_pool) (defBody s_law_pool) (defScope s_law_pool) .none kV20 dc20 pm20 an20 cd20 ct20), sl20⟩) (c20 : PySem.W.codeIn K cd20 "_law_pool" = true) (k20 : PySem.W.keepIn K (.ref f20) = true)
    (a21 : PySem.W.nsIn K mainGlobals "_law_stream" = some (some (.ref f21))) (l21 : K.lookup f21 = some ⟨oc21, od21, .func (PySem.W.fnOf "_law_stream" "_law_stream" (defArgs s_law_stream) (defBody s_law_stream) (defScope s_law_stream) .none kV21 dc21 pm21 an21 cd21 ct21), sl21⟩) (c21 : PySem.W.codeIn K cd21 "_law_stream" = true) (k21 : PySem.W.keepIn K (.ref f21) = true)
    (a22 : PySem.W.nsIn K mainGlobals "_law_pick" = some (some (.ref f22))) (l22 : K.lookup f22 = some ⟨oc22, od22, .func (PySem.W.fnOf "_law_pick" "_law_pick" (defArgs s_law_pick) (defBody s_law_pick) (defScope s_law_pick) .none kV22 dc22 pm22 an22 cd22 ct22), sl22⟩) (c22 : PySem.W.codeIn K cd22 "_law_pick" = true) (k22 : PySem.W.keepIn K (.ref f22) = true)
    (a23 : PySem.W.nsIn K mainGlobals "_law_then" = some (some (.ref f23))) (l23 : K.lookup f23 = some ⟨oc23, od23, .func (PySem.W.fnOf "_law_then" "_law_then" (defArgs s_law_then) (defBody s_law_then) (defScope s_law_then) .none kV23 dc23 pm23 an23 cd23 ct23), sl23⟩) (c23 : PySem.W.codeIn K cd23 "_law_then" = true) (k23 : PySem.W.keepIn K (.ref f23) = true)
    (a24 : PySem.W.nsIn K mainGlobals "_law_back" = some (some (.ref f24))) (l24 : K.lookup f24 = some ⟨oc24, od24, .func (PySem.W.fnOf "_law_back" "_law_back" (defArgs s_law_back) (defBody s_law_back) (defScope s_law_back) .none kV24 dc24 pm24 an24 cd24 ct24), sl24⟩) (c24 : PySem.W.codeIn K cd24 "_law_back" = true) (k24 : PySem.W.keepIn K (.ref f24) = true)
    (a25 : PySem.W.nsIn K mainGlobals "_law_turning" = some (some (.ref f25))) (l25 : K.lookup f25 = some ⟨oc25, od25, .func (PySem.W.fnOf "_law_turning" "_law_turning" (defArgs s_law_turning) (defBody s_law_turning) (defScope s_law_turning) .none kV25 dc25 pm25 an25 cd25 ct25), sl25⟩) (c25 : PySem.W.codeIn K cd25 "_law_turning" = true) (k25 : PySem.W.keepIn K (.ref f25) = true)
    (a26 : PySem.W.nsIn K mainGlobals "_law_same" = some (some (.ref f26))) (l26 : K.lookup f26 = some ⟨oc26, od26, .func (PySem.W.fnOf "_law_same" "_law_same" (defArgs s_law_same) (defBody s_law_same) (defScope s_law_same) .none kV26 dc26 pm26 an26 cd26 ct26), sl26⟩) (c26 : PySem.W.codeIn K cd26 "_law_same" = true) (k26 : PySem.W.keepIn K (.ref f26) = true)
    (a27 : PySem.W.nsIn K mainGlobals "_law_places" = some (some (.ref f27))) (l27 : K.lookup f27 = some ⟨oc27, od27, .func (PySem.W.fnOf "_law_places" "_law_places" (defArgs s_law_places) (defBody s_law_places) (defScope s_law_places) .none kV27 dc27 pm27 an27 cd27 ct27), sl27⟩) (c27 : PySem.W.codeIn K cd27 "_law_places" = true) (k27 : PySem.W.keepIn K (.ref f27) = true)
    (a28 : PySem.W.nsIn K mainGlobals "_law_lengths" = some (some (.ref f28))) (l28 : K.lookup f28 = some ⟨oc28, od28, .func (PySem.W.fnOf "_law_lengths" "_law_lengths" (defArgs s_law_lengths) (defBody s_law_lengths) (defScope s_law_lengths) .none kV28 dc28 pm28 an28 cd28 ct28), sl28⟩) (c28 : PySem.W.codeIn K cd28 "_law_lengths" = true) (k28 : PySem.W.keepIn K (.ref f28) = true)
    (a29 : PySem.W.nsIn K mainGlobals "_law_shaped" = some (some (.ref f29))) (l29 : K.lookup f29 = some ⟨oc29, od29, .func (PySem.W.fnOf "_law_shaped" "_law_shaped" (defArgs s_law_shaped) (defBody s_law_shaped) (defScope s_law_shaped) .none kV29 dc29 pm29 an29 cd29 ct29), sl29⟩) (c29 : PySem.W.codeIn K cd29 "_law_shaped" = true) (k29 : PySem.W.keepIn K (.ref f29) = true)
    (a30 : PySem.W.nsIn K mainGlobals "_law_any" = some (some (.ref f30))) (l30 : K.lookup f30 = some ⟨oc30, od30, .func (PySem.W.fnOf "_law_any" "_law_any" (defArgs s_law_any) (defBody s_law_any) (defScope s_law_any) .none kV30 dc30 pm30 an30 cd30 ct30), sl30⟩) (c30 : PySem.W.codeIn K cd30 "_law_any" = true) (k30 : PySem.W.keepIn K (.ref f30) = true)
    (a31 : PySem.W.nsIn K mainGlobals "_law_mixed" = some (some (.ref f31))) (l31 : K.lookup f31 = some ⟨oc31, od31, .func (PySem.W.fnOf "_law_mixed" "_law_mixed" (defArgs s_law_mixed) (defBody s_law_mixed) (defScope s_law_mixed) .none kV31 dc31 pm31 an31 cd31 ct31), sl31⟩) (c31 : PySem.W.codeIn K cd31 "_law_mixed" = true) (k31 : PySem.W.keepIn K (.ref f31) = true)
    (a32 : PySem.W.nsIn K mainGlobals "_law_group" = some (some (.ref f32))) (l32 : K.lookup f32 = some ⟨oc32, od32, .func (PySem.W.fnOf "_law_group" "_law_group" (defArgs s_law_group) (defBody s_law_group) (defScope s_law_group) .none kV32 dc32 pm32 an32 cd32 ct32), sl32⟩) (c32 : PySem.W.codeIn K cd32 "_law_group" = true) (k32 : PySem.W.keepIn K (.ref f32) = true)
    (a33 : PySem.W.nsIn K mainGlobals "_law_program" = some (some (.ref f33))) (l33 : K.lookup f33 = some ⟨oc33, od33, .func (PySem.W.fnOf "_law_program" "_law_program" (defArgs s_law_program) (defBody s_law_program) (defScope s_law_program) .none kV33 dc33 pm33 an33 cd33 ct33), sl33⟩) (c33 : PySem.W.codeIn K cd33 "_law_program" = true) (k33 : PySem.W.keepIn K (.ref f33) = true)
    (a34 : PySem.W.nsIn K mainGlobals "_law_turnings" = some (some (.ref f34))) (l34 : K.lookup f34 = some ⟨oc34, od34, .func (PySem.W.fnOf "_law_turnings" "_law_turnings" (defArgs s_law_turnings) (defBody s_law_turnings) (defScope s_law_turnings) .none kV34 dc34 pm34 an34 cd34 ct34), sl34⟩) (c34 : PySem.W.codeIn K cd34 "_law_turnings" = true) (k34 : PySem.W.keepIn K (.ref f34) = true)
    (a35 : PySem.W.nsIn K mainGlobals "_law_letters" = some (some (.ref f35))) (l35 : K.lookup f35 = some ⟨oc35, od35, .func (PySem.W.fnOf "_law_letters" "_law_letters" (defArgs s_law_letters) (defBody s_law_letters) (defScope s_law_letters) .none kV35 dc35 pm35 an35 cd35 ct35), sl35⟩) (c35 : PySem.W.codeIn K cd35 "_law_letters" = true) (k35 : PySem.W.keepIn K (.ref f35) = true)
    (a36 : PySem.W.nsIn K mainGlobals "_law_word" = some (some (.ref f36))) (l36 : K.lookup f36 = some ⟨oc36, od36, .func (PySem.W.fnOf "_law_word" "_law_word" (defArgs s_law_word) (defBody s_law_word) (defScope s_law_word) .none kV36 dc36 pm36 an36 cd36 ct36), sl36⟩) (c36 : PySem.W.codeIn K cd36 "_law_word" = true) (k36 : PySem.W.keepIn K (.ref f36) = true)
    (a37 : PySem.W.nsIn K mainGlobals "_law_told" = some (some (.ref f37))) (l37 : K.lookup f37 = some ⟨oc37, od37, .func (PySem.W.fnOf "_law_told" "_law_told" (defArgs s_law_told) (defBody s_law_told) (defScope s_law_told) .none kV37 dc37 pm37 an37 cd37 ct37), sl37⟩) (c37 : PySem.W.codeIn K cd37 "_law_told" = true) (k37 : PySem.W.keepIn K (.ref f37) = true)
    (a38 : PySem.W.nsIn K mainGlobals "_law_written" = some (some (.ref f38))) (l38 : K.lookup f38 = some ⟨oc38, od38, .func (PySem.W.fnOf "_law_written" "_law_written" (defArgs s_law_written) (defBody s_law_written) (defScope s_law_written) .none kV38 dc38 pm38 an38 cd38 ct38), sl38⟩) (c38 : PySem.W.codeIn K cd38 "_law_written" = true) (k38 : PySem.W.keepIn K (.ref f38) = true)
    (a39 : PySem.W.nsIn K mainGlobals "_law_holds" = some (some (.ref f39))) (l39 : K.lookup f39 = some ⟨oc39, od39, .func (PySem.W.fnOf "_law_holds" "_law_holds" (defArgs s_law_holds) (defBody s_law_holds) (defScope s_law_holds) .none kV39 dc39 pm39 an39 cd39 ct39), sl39⟩) (c39 : PySem.W.codeIn K cd39 "_law_holds" = true) (k39 : PySem.W.keepIn K (.ref f39) = true)
    (a40 : PySem.W.nsIn K mainGlobals "_law_exact" = some (some (.ref f40))) (l40 : K.lookup f40 = some ⟨oc40, od40, .func (PySem.W.fnOf "_law_exact" "_law_exact" (defArgs s_law_exact) (defBody s_law_exact) (defScope s_law_exact) .none kV40 dc40 pm40 an40 cd40 ct40), sl40⟩) (c40 : PySem.W.codeIn K cd40 "_law_exact" = true) (k40 : PySem.W.keepIn K (.ref f40) = true)
    (a41 : PySem.W.nsIn K mainGlobals "_law_great" = some (some (.ref f41))) (l41 : K.lookup f41 = some ⟨oc41, od41, .func (PySem.W.fnOf "_law_great" "_law_great" (defArgs s_law_great) (defBody s_law_great) (defScope s_law_great) .none kV41 dc41 pm41 an41 cd41 ct41), sl41⟩) (c41 : PySem.W.codeIn K cd41 "_law_great" = true) (k41 : PySem.W.keepIn K (.ref f41) = true)
    (a42 : PySem.W.nsIn K mainGlobals "_law_long" = some (some (.ref f42))) (l42 : K.lookup f42 = some ⟨oc42, od42, .func (PySem.W.fnOf "_law_long" "_law_long" (defArgs s_law_long) (defBody s_law_long) (defScope s_law_long) .none kV42 dc42 pm42 an42 cd42 ct42), sl42⟩) (c42 : PySem.W.codeIn K cd42 "_law_long" = true) (k42 : PySem.W.keepIn K (.ref f42) = true)
    (a43 : PySem.W.nsIn K mainGlobals "law" = some (some (.ref f43))) (l43 : K.lookup f43 = some ⟨oc43, od43, .func (PySem.W.fnOf "law" "law" (defArgs s_law) (defBody s_law) (defScope s_law) .none kV43 dc43 pm43 an43 cd43 ct43), sl43⟩) (c43 : PySem.W.codeIn K cd43 "law" = true) (k43 : PySem.W.keepIn K (.ref f43) = true)
    {A_BadPlaces A_BadProgram A_BadSize A_BadTurning A_BadWord A_TooMany A_TurnError : Addr}
    (gA_BadPlaces : PySem.W.nsIn K mainGlobals "BadPlaces" = some (some (.ref A_BadPlaces)))
    (gA_BadProgram : PySem.W.nsIn K mainGlobals "BadProgram" = some (some (.ref A_BadProgram)))
    (gA_BadSize : PySem.W.nsIn K mainGlobals "BadSize" = some (some (.ref A_BadSize)))
    (gA_BadTurning : PySem.W.nsIn K mainGlobals "BadTurning" = some (some (.ref A_BadTurning)))
    (gA_BadWord : PySem.W.nsIn K mainGlobals "BadWord" = some (some (.ref A_BadWord)))
    (gA_TooMany : PySem.W.nsIn K mainGlobals "TooMany" = some (some (.ref A_TooMany)))
    (gA_TurnError : PySem.W.nsIn K mainGlobals "TurnError" = some (some (.ref A_TurnError)))
    (tBl : tabB K [("BadPlaces", A_BadPlaces), ("BadProgram", A_BadProgram), ("BadSize", A_BadSize), ("BadTurning", A_BadTurning), ("BadWord", A_BadWord), ("TooMany", A_TooMany), ("TurnError", A_TurnError)] = true)
    (eX_BadPlaces : PySem.W.excIn K A_BadPlaces exB "Exception.__new__" = true)
    (fo_TooMany : PySem.W.findIn K (.ref A_TooMany) "bound" = some none)
    (zs : PySem.W.nsIn K mainGlobals "super" = some none) (htop : (l.prog.main.scope.names.lookup ("super" : Str)).isSome = false)
    {I_BadProgram cda_BadProgram cc_BadProgram : Addr} {oc_BadProgram kV_BadProgram doc_BadProgram pm_BadProgram ctv_BadProgram ccl_BadProgram cl_BadProgram : Value} {od_BadProgram an_BadProgram cdd_BadProgram cld_BadProgram : Option Addr} {osl_BadProgram ccs_BadProgram csl_BadProgram : Array (Option Value)} {vs_BadProgram : Array Value} {file_BadProgram : Str} {tf_BadProgram : Tok}
    (fi_BadProgram : PySem.W.findIn K (.ref A_BadProgram) "__init__" = some (some (.ref I_BadProgram)))
    (lf_BadProgram : K.lookup I_BadProgram = some ⟨oc_BadProgram, od_BadProgram, .func (PySem.W.ksFn "__init__" "BadProgram.__init__" (defArgs i_BadProgram) (defBody i_BadProgram) (defScope i_BadProgram) .none kV_BadProgram doc_BadProgram pm_BadProgram an_BadProgram (.ref cda_BadProgram) ctv_BadProgram cc_BadProgram), osl_BadProgram⟩)
    (hcd_BadProgram : PySem.W.codeIn K (.ref cda_BadProgram) "BadProgram.__init__" = true) (lcd_BadProgram : K.lookup cda_BadProgram = some ⟨ccl_BadProgram, cdd_BadProgram, .fields vs_BadProgram, ccs_BadProgram⟩) (hvs_BadProgram : vs_BadProgram[2]? = some (.str file_BadProgram tf_BadProgram)) (hfl_BadProgram : ((l.prog.main.file : Str) == file_BadProgram) = true) (lcc_BadProgram : K.lookup cc_BadProgram = some ⟨cl_BadProgram, cld_BadProgram, .cell (some (.ref A_BadProgram)), csl_BadProgram⟩)
    (sB_BadProgram : supB K A_BadProgram I_BadProgram "step" = true)
    {I_BadSize cda_BadSize cc_BadSize : Addr} {oc_BadSize kV_BadSize doc_BadSize pm_BadSize ctv_BadSize ccl_BadSize cl_BadSize : Value} {od_BadSize an_BadSize cdd_BadSize cld_BadSize : Option Addr} {osl_BadSize ccs_BadSize csl_BadSize : Array (Option Value)} {vs_BadSize : Array Value} {file_BadSize : Str} {tf_BadSize : Tok}
    (fi_BadSize : PySem.W.findIn K (.ref A_BadSize) "__init__" = some (some (.ref I_BadSize)))
    (lf_BadSize : K.lookup I_BadSize = some ⟨oc_BadSize, od_BadSize, .func (PySem.W.ksFn "__init__" "BadSize.__init__" (defArgs i_BadSize) (defBody i_BadSize) (defScope i_BadSize) .none kV_BadSize doc_BadSize pm_BadSize an_BadSize (.ref cda_BadSize) ctv_BadSize cc_BadSize), osl_BadSize⟩)
    (hcd_BadSize : PySem.W.codeIn K (.ref cda_BadSize) "BadSize.__init__" = true) (lcd_BadSize : K.lookup cda_BadSize = some ⟨ccl_BadSize, cdd_BadSize, .fields vs_BadSize, ccs_BadSize⟩) (hvs_BadSize : vs_BadSize[2]? = some (.str file_BadSize tf_BadSize)) (hfl_BadSize : ((l.prog.main.file : Str) == file_BadSize) = true) (lcc_BadSize : K.lookup cc_BadSize = some ⟨cl_BadSize, cld_BadSize, .cell (some (.ref A_BadSize)), csl_BadSize⟩)
    (sB_BadSize : supB K A_BadSize I_BadSize "size" = true)
    {I_BadTurning cda_BadTurning cc_BadTurning : Addr} {oc_BadTurning kV_BadTurning doc_BadTurning pm_BadTurning ctv_BadTurning ccl_BadTurning cl_BadTurning : Value} {od_BadTurning an_BadTurning cdd_BadTurning cld_BadTurning : Option Addr} {osl_BadTurning ccs_BadTurning csl_BadTurning : Array (Option Value)} {vs_BadTurning : Array Value} {file_BadTurning : Str} {tf_BadTurning : Tok}
    (fi_BadTurning : PySem.W.findIn K (.ref A_BadTurning) "__init__" = some (some (.ref I_BadTurning)))
    (lf_BadTurning : K.lookup I_BadTurning = some ⟨oc_BadTurning, od_BadTurning, .func (PySem.W.ksFn "__init__" "BadTurning.__init__" (defArgs i_BadTurning) (defBody i_BadTurning) (defScope i_BadTurning) .none kV_BadTurning doc_BadTurning pm_BadTurning an_BadTurning (.ref cda_BadTurning) ctv_BadTurning cc_BadTurning), osl_BadTurning⟩)
    (hcd_BadTurning : PySem.W.codeIn K (.ref cda_BadTurning) "BadTurning.__init__" = true) (lcd_BadTurning : K.lookup cda_BadTurning = some ⟨ccl_BadTurning, cdd_BadTurning, .fields vs_BadTurning, ccs_BadTurning⟩) (hvs_BadTurning : vs_BadTurning[2]? = some (.str file_BadTurning tf_BadTurning)) (hfl_BadTurning : ((l.prog.main.file : Str) == file_BadTurning) = true) (lcc_BadTurning : K.lookup cc_BadTurning = some ⟨cl_BadTurning, cld_BadTurning, .cell (some (.ref A_BadTurning)), csl_BadTurning⟩)
    (sB_BadTurning : supB K A_BadTurning I_BadTurning "place" = true)
    {I_BadWord cda_BadWord cc_BadWord : Addr} {oc_BadWord kV_BadWord doc_BadWord pm_BadWord ctv_BadWord ccl_BadWord cl_BadWord : Value} {od_BadWord an_BadWord cdd_BadWord cld_BadWord : Option Addr} {osl_BadWord ccs_BadWord csl_BadWord : Array (Option Value)} {vs_BadWord : Array Value} {file_BadWord : Str} {tf_BadWord : Tok}
    (fi_BadWord : PySem.W.findIn K (.ref A_BadWord) "__init__" = some (some (.ref I_BadWord)))
    (lf_BadWord : K.lookup I_BadWord = some ⟨oc_BadWord, od_BadWord, .func (PySem.W.ksFn "__init__" "BadWord.__init__" (defArgs i_BadWord) (defBody i_BadWord) (defScope i_BadWord) .none kV_BadWord doc_BadWord pm_BadWord an_BadWord (.ref cda_BadWord) ctv_BadWord cc_BadWord), osl_BadWord⟩)
    (hcd_BadWord : PySem.W.codeIn K (.ref cda_BadWord) "BadWord.__init__" = true) (lcd_BadWord : K.lookup cda_BadWord = some ⟨ccl_BadWord, cdd_BadWord, .fields vs_BadWord, ccs_BadWord⟩) (hvs_BadWord : vs_BadWord[2]? = some (.str file_BadWord tf_BadWord)) (hfl_BadWord : ((l.prog.main.file : Str) == file_BadWord) = true) (lcc_BadWord : K.lookup cc_BadWord = some ⟨cl_BadWord, cld_BadWord, .cell (some (.ref A_BadWord)), csl_BadWord⟩)
    (sB_BadWord : supB K A_BadWord I_BadWord "place" = true)
    {I_TooMany cda_TooMany cc_TooMany : Addr} {oc_TooMany kV_TooMany doc_TooMany pm_TooMany ctv_TooMany ccl_TooMany cl_TooMany : Value} {od_TooMany an_TooMany cdd_TooMany cld_TooMany : Option Addr} {osl_TooMany ccs_TooMany csl_TooMany : Array (Option Value)} {vs_TooMany : Array Value} {file_TooMany : Str} {tf_TooMany : Tok}
    (fi_TooMany : PySem.W.findIn K (.ref A_TooMany) "__init__" = some (some (.ref I_TooMany)))
    (lf_TooMany : K.lookup I_TooMany = some ⟨oc_TooMany, od_TooMany, .func (PySem.W.ksFn "__init__" "TooMany.__init__" (defArgs i_TooMany) (defBody i_TooMany) (defScope i_TooMany) .none kV_TooMany doc_TooMany pm_TooMany an_TooMany (.ref cda_TooMany) ctv_TooMany cc_TooMany), osl_TooMany⟩)
    (hcd_TooMany : PySem.W.codeIn K (.ref cda_TooMany) "TooMany.__init__" = true) (lcd_TooMany : K.lookup cda_TooMany = some ⟨ccl_TooMany, cdd_TooMany, .fields vs_TooMany, ccs_TooMany⟩) (hvs_TooMany : vs_TooMany[2]? = some (.str file_TooMany tf_TooMany)) (hfl_TooMany : ((l.prog.main.file : Str) == file_TooMany) = true) (lcc_TooMany : K.lookup cc_TooMany = some ⟨cl_TooMany, cld_TooMany, .cell (some (.ref A_TooMany)), csl_TooMany⟩)
    (sB_TooMany : supB K A_TooMany I_TooMany "bound" = true)
    (z_all : PySem.W.nsIn K mainGlobals "all" = some none)
    (z_bool : PySem.W.nsIn K mainGlobals "bool" = some none)
    (z_enumerate : PySem.W.nsIn K mainGlobals "enumerate" = some none)
    (z_int : PySem.W.nsIn K mainGlobals "int" = some none)
    (z_isinstance : PySem.W.nsIn K mainGlobals "isinstance" = some none)
    (z_len : PySem.W.nsIn K mainGlobals "len" = some none)
    (z_list : PySem.W.nsIn K mainGlobals "list" = some none)
    (z_max : PySem.W.nsIn K mainGlobals "max" = some none)
    (z_min : PySem.W.nsIn K mainGlobals "min" = some none)
    (z_range : PySem.W.nsIn K mainGlobals "range" = some none)
    (z_repr : PySem.W.nsIn K mainGlobals "repr" = some none)
    (z_str : PySem.W.nsIn K mainGlobals "str" = some none)
    (z_tuple : PySem.W.nsIn K mainGlobals "tuple" = some none)
    (z_zip : PySem.W.nsIn K mainGlobals "zip" = some none)
    {t_MOST_MAKERS : Tok} (y_MOST_MAKERS : PySem.W.nsIn K mainGlobals "MOST_MAKERS" = some (some (.int 40 t_MOST_MAKERS)))
    {t_MOST_PLACES : Tok} (y_MOST_PLACES : PySem.W.nsIn K mainGlobals "MOST_PLACES" = some (some (.int 24 t_MOST_PLACES)))
    {t_MOST_STEPS : Tok} (y_MOST_STEPS : PySem.W.nsIn K mainGlobals "MOST_STEPS" = some (some (.int 24000 t_MOST_STEPS)))
    (hlaw : ∀ ns : List Int, ns.length ≤ 63 → F_law ns = .ok (.sh (.bl true)) []) :
    ∃ fd : FuncData, (∀ (s : Shared) (v : Value), BindsTo s fd ⟨[v], []⟩ [("script", v)]) ∧ ∀ base : Heap, K.In base → base.Ns mainGlobals mg → FnG l.prog w K mg base (L2.CX l.prog w) 9 fa fd ["script"] (Z.spLaw K) := by
  have dd_is_number : Dd K mg "is_number" s_is_number ["value"] := dd_mk X G a0 l0 c0 k0 fun _ _ _ _ _ _ us hl => match us, hl with | [_], _ => rfl
  have dd_is_place : Dd K mg "is_place" s_is_place ["n", "value"] := dd_mk X G a1 l1 c1 k1 fun _ _ _ _ _ _ us hl => match us, hl with | [_, _], _ => rfl
  have dd_is_turning : Dd K mg "is_turning" s_is_turning ["n", "value"] := dd_mk X G a2 l2 c2 k2 fun _ _ _ _ _ _ us hl => match us, hl with | [_, _], _ => rfl
  have dd_still : Dd K mg "still" s_still ["n"] := dd_mk X G a3 l3 c3 k3 fun _ _ _ _ _ _ us hl => match us, hl with | [_], _ => rfl
  have dd_then : Dd K mg "then" s_then ["p", "q"] := dd_mk X G a4 l4 c4 k4 fun _ _ _ _ _ _ us hl => match us, hl with | [_, _], _ => rfl
  have dd_back : Dd K mg "back" s_back ["p"] := dd_mk X G a5 l5 c5 k5 fun _ _ _ _ _ _ us hl => match us, hl with | [_], _ => rfl
  have dd_check_makers : Dd K mg "check_makers" s_check_makers ["n", "makers", "most"] := dd_mk X G a6 l6 c6 k6 fun _ _ _ _ _ _ us hl => match us, hl with | [_, _, _], _ => rfl
  have dd_check_group : Dd K mg "check_group" s_check_group ["n", "makers"] := dd_mk X G a7 l7 c7 k7 fun _ _ _ _ _ _ us hl => match us, hl with | [_, _], _ => rfl
  have dd_is_letter : Dd K mg "is_letter" s_is_letter ["makers", "value"] := dd_mk X G a8 l8 c8 k8 fun _ _ _ _ _ _ us hl => match us, hl with | [_, _], _ => rfl
  have dd_letter_turning : Dd K mg "letter_turning" s_letter_turning ["makers", "letter"] := dd_mk X G a9 l9 c9 k9 fun _ _ _ _ _ _ us hl => match us, hl with | [_, _], _ => rfl
  have dd_word_turning : Dd K mg "word_turning" s_word_turning ["n", "makers", "word"] := dd_mk X G a10 l10 c10 k10 fun _ _ _ _ _ _ us hl => match us, hl with | [_, _, _], _ => rfl
  have dd_is_step : Dd K mg "is_step" s_is_step ["many", "value", "place"] := dd_mk X G a11 l11 c11 k11 fun _ _ _ _ _ _ us hl => match us, hl with | [_, _, _], _ => rfl
  have dd_check_program : Dd K mg "check_program" s_check_program ["many", "program"] := dd_mk X G a12 l12 c12 k12 fun _ _ _ _ _ _ us hl => match us, hl with | [_, _], _ => rfl
  have dd_step_turnings : Dd K mg "step_turnings" s_step_turnings ["makers", "program"] := dd_mk X G a13 l13 c13 k13 fun _ _ _ _ _ _ us hl => match us, hl with | [_, _], _ => rfl
  have dd_last_turning : Dd K mg "last_turning" s_last_turning ["n", "makers", "program"] := dd_mk X G a14 l14 c14 k14 fun _ _ _ _ _ _ us hl => match us, hl with | [_, _, _], _ => rfl
  have dd_program_turning : Dd K mg "program_turning" s_program_turning ["n", "makers", "program"] := dd_mk X G a15 l15 c15 k15 fun _ _ _ _ _ _ us hl => match us, hl with | [_, _, _], _ => rfl
  have dd_step_lengths : Dd K mg "step_lengths" s_step_lengths ["program"] := dd_mk X G a16 l16 c16 k16 fun _ _ _ _ _ _ us hl => match us, hl with | [_], _ => rfl
  have dd_program_length : Dd K mg "program_length" s_program_length ["program"] := dd_mk X G a17 l17 c17 k17 fun _ _ _ _ _ _ us hl => match us, hl with | [_], _ => rfl
  have dd_turned_steps : Dd K mg "turned_steps" s_turned_steps ["program"] := dd_mk X G a18 l18 c18 k18 fun _ _ _ _ _ _ us hl => match us, hl with | [_], _ => rfl
  have dd_written_out : Dd K mg "written_out" s_written_out ["program", "most"] := dd_mk X G a19 l19 c19 k19 fun _ _ _ _ _ _ us hl => match us, hl with | [_, _], _ => rfl
  have dd_law_pool : Dd K mg "_law_pool" s_law_pool ["script"] := dd_mk X G a20 l20 c20 k20 fun _ _ _ _ _ _ us hl => match us, hl with | [_], _ => rfl
  have dd_law_stream : Dd K mg "_law_stream" s_law_stream ["script"] := dd_mk X G a21 l21 c21 k21 fun _ _ _ _ _ _ us hl => match us, hl with | [_], _ => rfl
  have dd_law_pick : Dd K mg "_law_pick" s_law_pick ["pool", "many"] := dd_mk X G a22 l22 c22 k22 fun _ _ _ _ _ _ us hl => match us, hl with | [_, _], _ => rfl
  have dd_law_then : Dd K mg "_law_then" s_law_then ["p", "q"] := dd_mk X G a23 l23 c23 k23 fun _ _ _ _ _ _ us hl => match us, hl with | [_, _], _ => rfl
  have dd_law_back : Dd K mg "_law_back" s_law_back ["p"] := dd_mk X G a24 l24 c24 k24 fun _ _ _ _ _ _ us hl => match us, hl with | [_], _ => rfl
  have dd_law_turning : Dd K mg "_law_turning" s_law_turning ["pool", "n"] := dd_mk X G a25 l25 c25 k25 fun _ _ _ _ _ _ us hl => match us, hl with | [_, _], _ => rfl
  have dd_law_same : Dd K mg "_law_same" s_law_same ["one", "other"] := dd_mk X G a26 l26 c26 k26 fun _ _ _ _ _ _ us hl => match us, hl with | [_, _], _ => rfl
  have dd_law_places : Dd K mg "_law_places" s_law_places ["pool"] := dd_mk X G a27 l27 c27 k27 fun _ _ _ _ _ _ us hl => match us, hl with | [_], _ => rfl
  have dd_law_lengths : Dd K mg "_law_lengths" s_law_lengths ["pool", "n"] := dd_mk X G a28 l28 c28 k28 fun _ _ _ _ _ _ us hl => match us, hl with | [_, _], _ => rfl
  have dd_law_shaped : Dd K mg "_law_shaped" s_law_shaped ["pool", "n"] := dd_mk X G a29 l29 c29 k29 fun _ _ _ _ _ _ us hl => match us, hl with | [_, _], _ => rfl
  have dd_law_any : Dd K mg "_law_any" s_law_any ["pool", "n"] := dd_mk X G a30 l30 c30 k30 fun _ _ _ _ _ _ us hl => match us, hl with | [_, _], _ => rfl
  have dd_law_mixed : Dd K mg "_law_mixed" s_law_mixed ["pool", "rows"] := dd_mk X G a31 l31 c31 k31 fun _ _ _ _ _ _ us hl => match us, hl with | [_, _], _ => rfl
  have dd_law_group : Dd K mg "_law_group" s_law_group ["pool", "n"] := dd_mk X G a32 l32 c32 k32 fun _ _ _ _ _ _ us hl => match us, hl with | [_, _], _ => rfl
  have dd_law_program : Dd K mg "_law_program" s_law_program ["pool", "many", "size", "most"] := dd_mk X G a33 l33 c33 k33 fun _ _ _ _ _ _ us hl => match us, hl with | [_, _, _, _], _ => rfl
  have dd_law_turnings : Dd K mg "_law_turnings" s_law_turnings ["makers", "steps"] := dd_mk X G a34 l34 c34 k34 fun _ _ _ _ _ _ us hl => match us, hl with | [_, _], _ => rfl
  have dd_law_letters : Dd K mg "_law_letters" s_law_letters ["one", "other"] := dd_mk X G a35 l35 c35 k35 fun _ _ _ _ _ _ us hl => match us, hl with | [_, _], _ => rfl
  have dd_law_word : Dd K mg "_law_word" s_law_word ["steps"] := dd_mk X G a36 l36 c36 k36 fun _ _ _ _ _ _ us hl => match us, hl with | [_], _ => rfl
  have dd_law_told : Dd K mg "_law_told" s_law_told ["steps", "most"] := dd_mk X G a37 l37 c37 k37 fun _ _ _ _ _ _ us hl => match us, hl with | [_, _], _ => rfl
  have dd_law_written : Dd K mg "_law_written" s_law_written ["steps", "word", "most"] := dd_mk X G a38 l38 c38 k38 fun _ _ _ _ _ _ us hl => match us, hl with | [_, _, _], _ => rfl
  have dd_law_holds : Dd K mg "_law_holds" s_law_holds ["pool", "n", "makers", "steps", "word"] := dd_mk X G a39 l39 c39 k39 fun _ _ _ _ _ _ us hl => match us, hl with | [_, _, _, _, _], _ => rfl
  have dd_law_exact : Dd K mg "_law_exact" s_law_exact ["pool", "many", "length"] := dd_mk X G a40 l40 c40 k40 fun _ _ _ _ _ _ us hl => match us, hl with | [_, _, _], _ => rfl
  have dd_law_great : Dd K mg "_law_great" s_law_great ["pool", "n", "makers"] := dd_mk X G a41 l41 c41 k41 fun _ _ _ _ _ _ us hl => match us, hl with | [_, _, _], _ => rfl
  have dd_law_long : Dd K mg "_law_long" s_law_long ["pool"] := dd_mk X G a42 l42 c42 k42 fun _ _ _ _ _ _ us hl => match us, hl with | [_], _ => rfl
  have dd_law : Dd K mg "law" s_law ["script"] := dd_mk X G a43 l43 c43 k43 fun _ _ _ _ _ _ us hl => match us, hl with | [_], _ => rfl
  have b_all := PySem.W.mg_none_of X G z_all
  have b_bool := PySem.W.mg_none_of X G z_bool
  have b_enumerate := PySem.W.mg_none_of X G z_enumerate
  have b_int := PySem.W.mg_none_of X G z_int
  have b_isinstance := PySem.W.mg_none_of X G z_isinstance
  have b_len := PySem.W.mg_none_of X G z_len
  have b_list := PySem.W.mg_none_of X G z_list
  have b_max := PySem.W.mg_none_of X G z_max
  have b_min := PySem.W.mg_none_of X G z_min
  have b_range := PySem.W.mg_none_of X G z_range
  have b_repr := PySem.W.mg_none_of X G z_repr
  have b_str := PySem.W.mg_none_of X G z_str
  have b_tuple := PySem.W.mg_none_of X G z_tuple
  have b_zip := PySem.W.mg_none_of X G z_zip
  have c_MOST_MAKERS := PySem.W.mg_of X G y_MOST_MAKERS
  have c_MOST_PLACES := PySem.W.mg_of X G y_MOST_PLACES
  have c_MOST_STEPS := PySem.W.mg_of X G y_MOST_STEPS
  have xc_BadPlaces : Xc K mg (ctL [("BadPlaces", A_BadPlaces), ("BadProgram", A_BadProgram), ("BadSize", A_BadSize), ("BadTurning", A_BadTurning), ("BadWord", A_BadWord), ("TooMany", A_TooMany), ("TurnError", A_TurnError)]) "BadPlaces" A_BadPlaces := xc_of tBl (by rfl) (PySem.W.mg_of X G gA_BadPlaces)
  have xc_BadProgram : Xc K mg (ctL [("BadPlaces", A_BadPlaces), ("BadProgram", A_BadProgram), ("BadSize", A_BadSize), ("BadTurning", A_BadTurning), ("BadWord", A_BadWord), ("TooMany", A_TooMany), ("TurnError", A_TurnError)]) "BadProgram" A_BadProgram := xc_of tBl (by rfl) (PySem.W.mg_of X G gA_BadProgram)
  have xc_BadSize : Xc K mg (ctL [("BadPlaces", A_BadPlaces), ("BadProgram", A_BadProgram), ("BadSize", A_BadSize), ("BadTurning", A_BadTurning), ("BadWord", A_BadWord), ("TooMany", A_TooMany), ("TurnError", A_TurnError)]) "BadSize" A_BadSize := xc_of tBl (by rfl) (PySem.W.mg_of X G gA_BadSize)
  have xc_BadTurning : Xc K mg (ctL [("BadPlaces", A_BadPlaces), ("BadProgram", A_BadProgram), ("BadSize", A_BadSize), ("BadTurning", A_BadTurning), ("BadWord", A_BadWord), ("TooMany", A_TooMany), ("TurnError", A_TurnError)]) "BadTurning" A_BadTurning := xc_of tBl (by rfl) (PySem.W.mg_of X G gA_BadTurning)
  have xc_BadWord : Xc K mg (ctL [("BadPlaces", A_BadPlaces), ("BadProgram", A_BadProgram), ("BadSize", A_BadSize), ("BadTurning", A_BadTurning), ("BadWord", A_BadWord), ("TooMany", A_TooMany), ("TurnError", A_TurnError)]) "BadWord" A_BadWord := xc_of tBl (by rfl) (PySem.W.mg_of X G gA_BadWord)
  have xc_TooMany : Xc K mg (ctL [("BadPlaces", A_BadPlaces), ("BadProgram", A_BadProgram), ("BadSize", A_BadSize), ("BadTurning", A_BadTurning), ("BadWord", A_BadWord), ("TooMany", A_TooMany), ("TurnError", A_TurnError)]) "TooMany" A_TooMany := xc_of tBl (by rfl) (PySem.W.mg_of X G gA_TooMany)
  have xc_TurnError : Xc K mg (ctL [("BadPlaces", A_BadPlaces), ("BadProgram", A_BadProgram), ("BadSize", A_BadSize), ("BadTurning", A_BadTurning), ("BadWord", A_BadWord), ("TooMany", A_TooMany), ("TurnError", A_TurnError)]) "TurnError" A_TurnError := xc_of tBl (by rfl) (PySem.W.mg_of X G gA_TurnError)
  have x0_BadPlaces : Xc0 K mg (ctL [("BadPlaces", A_BadPlaces), ("BadProgram", A_BadProgram), ("BadSize", A_BadSize), ("BadTurning", A_BadTurning), ("BadWord", A_BadWord), ("TooMany", A_TooMany), ("TurnError", A_TurnError)]) "BadPlaces" A_BadPlaces := ⟨xc_BadPlaces, eX_BadPlaces⟩
  have x1_BadProgram : Xc1 l.prog K mg (ctL [("BadPlaces", A_BadPlaces), ("BadProgram", A_BadProgram), ("BadSize", A_BadSize), ("BadTurning", A_BadTurning), ("BadWord", A_BadWord), ("TooMany", A_TooMany), ("TurnError", A_TurnError)]) "BadProgram" A_BadProgram I_BadProgram "step" "step" := ⟨xc_BadProgram, sup_mk lf_BadProgram hcd_BadProgram lcd_BadProgram hvs_BadProgram hfl_BadProgram lcc_BadProgram sB_BadProgram st_BadProgram (fun _ _ _ _ _ _ _ _ _ => rfl) htop xc_BadProgram.own, PySem.W.mg_none_of X G zs⟩
  have x1_BadSize : Xc1 l.prog K mg (ctL [("BadPlaces", A_BadPlaces), ("BadProgram", A_BadProgram), ("BadSize", A_BadSize), ("BadTurning", A_BadTurning), ("BadWord", A_BadWord), ("TooMany", A_TooMany), ("TurnError", A_TurnError)]) "BadSize" A_BadSize I_BadSize "size" "size" := ⟨xc_BadSize, sup_mk lf_BadSize hcd_BadSize lcd_BadSize hvs_BadSize hfl_BadSize lcc_BadSize sB_BadSize st_BadSize (fun _ _ _ _ _ _ _ _ _ => rfl) htop xc_BadSize.own, PySem.W.mg_none_of X G zs⟩
  have x1_BadTurning : Xc1 l.prog K mg (ctL [("BadPlaces", A_BadPlaces), ("BadProgram", A_BadProgram), ("BadSize", A_BadSize), ("BadTurning", A_BadTurning), ("BadWord", A_BadWord), ("TooMany", A_TooMany), ("TurnError", A_TurnError)]) "BadTurning" A_BadTurning I_BadTurning "place" "place" := ⟨xc_BadTurning, sup_mk lf_BadTurning hcd_BadTurning lcd_BadTurning hvs_BadTurning hfl_BadTurning lcc_BadTurning sB_BadTurning st_BadTurning (fun _ _ _ _ _ _ _ _ _ => rfl) htop xc_BadTurning.own, PySem.W.mg_none_of X G zs⟩
  have x1_BadWord : Xc1 l.prog K mg (ctL [("BadPlaces", A_BadPlaces), ("BadProgram", A_BadProgram), ("BadSize", A_BadSize), ("BadTurning", A_BadTurning), ("BadWord", A_BadWord), ("TooMany", A_TooMany), ("TurnError", A_TurnError)]) "BadWord" A_BadWord I_BadWord "place" "place" := ⟨xc_BadWord, sup_mk lf_BadWord hcd_BadWord lcd_BadWord hvs_BadWord hfl_BadWord lcc_BadWord sB_BadWord st_BadWord (fun _ _ _ _ _ _ _ _ _ => rfl) htop xc_BadWord.own, PySem.W.mg_none_of X G zs⟩
  have x1_TooMany : Xc1 l.prog K mg (ctL [("BadPlaces", A_BadPlaces), ("BadProgram", A_BadProgram), ("BadSize", A_BadSize), ("BadTurning", A_BadTurning), ("BadWord", A_BadWord), ("TooMany", A_TooMany), ("TurnError", A_TurnError)]) "TooMany" A_TooMany I_TooMany "bound" "bound" := ⟨xc_TooMany, sup_mk lf_TooMany hcd_TooMany lcd_TooMany hvs_TooMany hfl_TooMany lcc_TooMany sB_TooMany st_TooMany (fun _ _ _ _ _ _ _ _ _ => rfl) htop xc_TooMany.own, PySem.W.mg_none_of X G zs⟩
  refine law_atG (st := s_law) X G hfa a43 l43 (fun _ _ _ _ _ _ us hl => match us, hl with | [_], _ => rfl) fun base _ _ => ?_
  have g_is_number : Fn l.prog w K mg base "is_number" 1 ["value"] (spM (ctL [("BadPlaces", A_BadPlaces), ("BadProgram", A_BadProgram), ("BadSize", A_BadSize), ("BadTurning", A_BadTurning), ("BadWord", A_BadWord), ("TooMany", A_TooMany), ("TurnError", A_TurnError)]) 1 F_is_number) := ok_is_number dd_is_number b_bool b_int b_isinstance
  have g_is_place : Fn l.prog w K mg base "is_place" 2 ["n", "value"] (spM (ctL [("BadPlaces", A_BadPlaces), ("BadProgram", A_BadProgram), ("BadSize", A_BadSize), ("BadTurning", A_BadTurning), ("BadWord", A_BadWord), ("TooMany", A_TooMany), ("TurnError", A_TurnError)]) 2 F_is_place) := ok_is_place dd_is_place g_is_number
  have g_is_turning : Fn l.prog w K mg base "is_turning" 3 ["n", "value"] (spM (ctL [("BadPlaces", A_BadPlaces), ("BadProgram", A_BadProgram), ("BadSize", A_BadSize), ("BadTurning", A_BadTurning), ("BadWord", A_BadWord), ("TooMany", A_TooMany), ("TurnError", A_TurnError)]) 2 F_is_turning) := ok_is_turning dd_is_turning b_all b_isinstance b_len b_list g_is_place
  have g_still : Fn l.prog w K mg base "still" 1 ["n"] (spM (ctL [("BadPlaces", A_BadPlaces), ("BadProgram", A_BadProgram), ("BadSize", A_BadSize), ("BadTurning", A_BadTurning), ("BadWord", A_BadWord), ("TooMany", A_TooMany), ("TurnError", A_TurnError)]) 1 F_still) := ok_still dd_still b_list b_range
  have g_then : Fn l.prog w K mg base "then" 1 ["p", "q"] (spM (ctL [("BadPlaces", A_BadPlaces), ("BadProgram", A_BadProgram), ("BadSize", A_BadSize), ("BadTurning", A_BadTurning), ("BadWord", A_BadWord), ("TooMany", A_TooMany), ("TurnError", A_TurnError)]) 2 F_then) := ok_then dd_then 
  have g_back : Fn l.prog w K mg base "back" 1 ["p"] (spM (ctL [("BadPlaces", A_BadPlaces), ("BadProgram", A_BadProgram), ("BadSize", A_BadSize), ("BadTurning", A_BadTurning), ("BadWord", A_BadWord), ("TooMany", A_TooMany), ("TurnError", A_TurnError)]) 1 F_back) := ok_back dd_back b_enumerate b_len
  have g_check_makers : Fn l.prog w K mg base "check_makers" 4 ["n", "makers", "most"] (spM (ctL [("BadPlaces", A_BadPlaces), ("BadProgram", A_BadProgram), ("BadSize", A_BadSize), ("BadTurning", A_BadTurning), ("BadWord", A_BadWord), ("TooMany", A_TooMany), ("TurnError", A_TurnError)]) 3 F_check_makers) := ok_check_makers dd_check_makers b_enumerate b_isinstance b_len b_list c_MOST_MAKERS x0_BadPlaces x1_BadSize x1_BadTurning g_is_turning g_is_number
  have g_check_group : Fn l.prog w K mg base "check_group" 5 ["n", "makers"] (spM (ctL [("BadPlaces", A_BadPlaces), ("BadProgram", A_BadProgram), ("BadSize", A_BadSize), ("BadTurning", A_BadTurning), ("BadWord", A_BadWord), ("TooMany", A_TooMany), ("TurnError", A_TurnError)]) 2 F_check_group) := ok_check_group dd_check_group c_MOST_PLACES g_check_makers
  have g_is_letter : Fn l.prog w K mg base "is_letter" 2 ["makers", "value"] (spM (ctL [("BadPlaces", A_BadPlaces), ("BadProgram", A_BadProgram), ("BadSize", A_BadSize), ("BadTurning", A_BadTurning), ("BadWord", A_BadWord), ("TooMany", A_TooMany), ("TurnError", A_TurnError)]) 2 F_is_letter) := ok_is_letter dd_is_letter b_isinstance b_len b_tuple g_is_number
  have g_letter_turning : Fn l.prog w K mg base "letter_turning" 2 ["makers", "letter"] (spM (ctL [("BadPlaces", A_BadPlaces), ("BadProgram", A_BadProgram), ("BadSize", A_BadSize), ("BadTurning", A_BadTurning), ("BadWord", A_BadWord), ("TooMany", A_TooMany), ("TurnError", A_TurnError)]) 2 F_letter_turning) := ok_letter_turning dd_letter_turning b_list g_back
  have g_word_turning : Fn l.prog w K mg base "word_turning" 6 ["n", "makers", "word"] (spM (ctL [("BadPlaces", A_BadPlaces), ("BadProgram", A_BadProgram), ("BadSize", A_BadSize), ("BadTurning", A_BadTurning), ("BadWord", A_BadWord), ("TooMany", A_TooMany), ("TurnError", A_TurnError)]) 3 F_word_turning) := ok_word_turning dd_word_turning b_enumerate x1_BadWord g_then g_letter_turning g_is_letter g_still g_check_group
  have g_is_step : Fn l.prog w K mg base "is_step" 2 ["many", "value", "place"] (spM (ctL [("BadPlaces", A_BadPlaces), ("BadProgram", A_BadProgram), ("BadSize", A_BadSize), ("BadTurning", A_BadTurning), ("BadWord", A_BadWord), ("TooMany", A_TooMany), ("TurnError", A_TurnError)]) 3 F_is_step) := ok_is_step dd_is_step b_all b_isinstance b_len b_tuple g_is_number
  have g_check_program : Fn l.prog w K mg base "check_program" 3 ["many", "program"] (spM (ctL [("BadPlaces", A_BadPlaces), ("BadProgram", A_BadProgram), ("BadSize", A_BadSize), ("BadTurning", A_BadTurning), ("BadWord", A_BadWord), ("TooMany", A_TooMany), ("TurnError", A_TurnError)]) 2 F_check_program) := ok_check_program dd_check_program b_enumerate b_isinstance b_len b_list c_MOST_STEPS x1_BadProgram g_is_step
  have g_step_turnings : Fn l.prog w K mg base "step_turnings" 2 ["makers", "program"] (spM (ctL [("BadPlaces", A_BadPlaces), ("BadProgram", A_BadProgram), ("BadSize", A_BadSize), ("BadTurning", A_BadTurning), ("BadWord", A_BadWord), ("TooMany", A_TooMany), ("TurnError", A_TurnError)]) 2 F_step_turnings) := ok_step_turnings dd_step_turnings b_list g_then g_back
  have g_last_turning : Fn l.prog w K mg base "last_turning" 3 ["n", "makers", "program"] (spM (ctL [("BadPlaces", A_BadPlaces), ("BadProgram", A_BadProgram), ("BadSize", A_BadSize), ("BadTurning", A_BadTurning), ("BadWord", A_BadWord), ("TooMany", A_TooMany), ("TurnError", A_TurnError)]) 3 F_last_turning) := ok_last_turning dd_last_turning g_step_turnings g_still
  have g_program_turning : Fn l.prog w K mg base "program_turning" 6 ["n", "makers", "program"] (spM (ctL [("BadPlaces", A_BadPlaces), ("BadProgram", A_BadProgram), ("BadSize", A_BadSize), ("BadTurning", A_BadTurning), ("BadWord", A_BadWord), ("TooMany", A_TooMany), ("TurnError", A_TurnError)]) 3 F_program_turning) := ok_program_turning dd_program_turning b_len g_last_turning g_check_program g_check_group
  have g_step_lengths : Fn l.prog w K mg base "step_lengths" 1 ["program"] (spM (ctL [("BadPlaces", A_BadPlaces), ("BadProgram", A_BadProgram), ("BadSize", A_BadSize), ("BadTurning", A_BadTurning), ("BadWord", A_BadWord), ("TooMany", A_TooMany), ("TurnError", A_TurnError)]) 1 F_step_lengths) := ok_step_lengths dd_step_lengths 
  have g_program_length : Fn l.prog w K mg base "program_length" 2 ["program"] (spM (ctL [("BadPlaces", A_BadPlaces), ("BadProgram", A_BadProgram), ("BadSize", A_BadSize), ("BadTurning", A_BadTurning), ("BadWord", A_BadWord), ("TooMany", A_TooMany), ("TurnError", A_TurnError)]) 1 F_program_length) := ok_program_length dd_program_length g_step_lengths
  have g_turned_steps : Fn l.prog w K mg base "turned_steps" 1 ["program"] (spM (ctL [("BadPlaces", A_BadPlaces), ("BadProgram", A_BadProgram), ("BadSize", A_BadSize), ("BadTurning", A_BadTurning), ("BadWord", A_BadWord), ("TooMany", A_TooMany), ("TurnError", A_TurnError)]) 1 F_turned_steps) := ok_turned_steps dd_turned_steps b_enumerate
  have g_written_out : Fn l.prog w K mg base "written_out" 3 ["program", "most"] (spM (ctL [("BadPlaces", A_BadPlaces), ("BadProgram", A_BadProgram), ("BadSize", A_BadSize), ("BadTurning", A_BadTurning), ("BadWord", A_BadWord), ("TooMany", A_TooMany), ("TurnError", A_TurnError)]) 2 F_written_out) := ok_written_out dd_written_out b_len x1_TooMany g_turned_steps g_program_length
  have g_law_pool : Fn l.prog w K mg base "_law_pool" 1 ["script"] (spSc (ctL [("BadPlaces", A_BadPlaces), ("BadProgram", A_BadProgram), ("BadSize", A_BadSize), ("BadTurning", A_BadTurning), ("BadWord", A_BadWord), ("TooMany", A_TooMany), ("TurnError", A_TurnError)]) K F_law_pool) := ok_law_pool dd_law_pool b_int b_range
  have g_law_stream := ok_law_stream dd_law_stream g_law_pool
  have g_law_pick : Fn l.prog w K mg base "_law_pick" 1 ["pool", "many"] (spM (ctL [("BadPlaces", A_BadPlaces), ("BadProgram", A_BadProgram), ("BadSize", A_BadSize), ("BadTurning", A_BadTurning), ("BadWord", A_BadWord), ("TooMany", A_TooMany), ("TurnError", A_TurnError)]) 2 F_law_pick) := ok_law_pick dd_law_pick b_int b_len
  have g_law_then : Fn l.prog w K mg base "_law_then" 1 ["p", "q"] (spM (ctL [("BadPlaces", A_BadPlaces), ("BadProgram", A_BadProgram), ("BadSize", A_BadSize), ("BadTurning", A_BadTurning), ("BadWord", A_BadWord), ("TooMany", A_TooMany), ("TurnError", A_TurnError)]) 2 F_law_then) := ok_law_then dd_law_then 
  have g_law_back : Fn l.prog w K mg base "_law_back" 1 ["p"] (spM (ctL [("BadPlaces", A_BadPlaces), ("BadProgram", A_BadProgram), ("BadSize", A_BadSize), ("BadTurning", A_BadTurning), ("BadWord", A_BadWord), ("TooMany", A_TooMany), ("TurnError", A_TurnError)]) 1 F_law_back) := ok_law_back dd_law_back b_len b_range
  have g_law_turning : Fn l.prog w K mg base "_law_turning" 2 ["pool", "n"] (spM (ctL [("BadPlaces", A_BadPlaces), ("BadProgram", A_BadProgram), ("BadSize", A_BadSize), ("BadTurning", A_BadTurning), ("BadWord", A_BadWord), ("TooMany", A_TooMany), ("TurnError", A_TurnError)]) 2 F_law_turning) := ok_law_turning dd_law_turning b_len b_list b_range g_law_pick
  have g_law_same : Fn l.prog w K mg base "_law_same" 6 ["one", "other"] (spM (ctL [("BadPlaces", A_BadPlaces), ("BadProgram", A_BadProgram), ("BadSize", A_BadSize), ("BadTurning", A_BadTurning), ("BadWord", A_BadWord), ("TooMany", A_TooMany), ("TurnError", A_TurnError)]) 2 (F_law_same 6)) := all_law_same dd_law_same b_all b_bool b_int b_isinstance b_len b_list b_range b_str b_tuple 6
  have g_law_places : Fn l.prog w K mg base "_law_places" 2 ["pool"] (spM (ctL [("BadPlaces", A_BadPlaces), ("BadProgram", A_BadProgram), ("BadSize", A_BadSize), ("BadTurning", A_BadTurning), ("BadWord", A_BadWord), ("TooMany", A_TooMany), ("TurnError", A_TurnError)]) 1 F_law_places) := ok_law_places dd_law_places g_law_pick
  have g_law_lengths : Fn l.prog w K mg base "_law_lengths" 2 ["pool", "n"] (spM (ctL [("BadPlaces", A_BadPlaces), ("BadProgram", A_BadProgram), ("BadSize", A_BadSize), ("BadTurning", A_BadTurning), ("BadWord", A_BadWord), ("TooMany", A_TooMany), ("TurnError", A_TurnError)]) 2 F_law_lengths) := ok_law_lengths dd_law_lengths b_int b_max b_min b_range g_law_pick
  have g_law_shaped : Fn l.prog w K mg base "_law_shaped" 3 ["pool", "n"] (spM (ctL [("BadPlaces", A_BadPlaces), ("BadProgram", A_BadProgram), ("BadSize", A_BadSize), ("BadTurning", A_BadTurning), ("BadWord", A_BadWord), ("TooMany", A_TooMany), ("TurnError", A_TurnError)]) 2 F_law_shaped) := ok_law_shaped dd_law_shaped b_int b_list b_range g_law_lengths g_law_turning
  have g_law_any : Fn l.prog w K mg base "_law_any" 4 ["pool", "n"] (spM (ctL [("BadPlaces", A_BadPlaces), ("BadProgram", A_BadProgram), ("BadSize", A_BadSize), ("BadTurning", A_BadTurning), ("BadWord", A_BadWord), ("TooMany", A_TooMany), ("TurnError", A_TurnError)]) 2 F_law_any) := ok_law_any dd_law_any g_law_shaped g_law_turning g_law_pick
  have g_law_mixed : Fn l.prog w K mg base "_law_mixed" 2 ["pool", "rows"] (spM (ctL [("BadPlaces", A_BadPlaces), ("BadProgram", A_BadProgram), ("BadSize", A_BadSize), ("BadTurning", A_BadTurning), ("BadWord", A_BadWord), ("TooMany", A_TooMany), ("TurnError", A_TurnError)]) 2 F_law_mixed) := ok_law_mixed dd_law_mixed b_len b_range g_law_pick
  have g_law_group : Fn l.prog w K mg base "_law_group" 5 ["pool", "n"] (spM (ctL [("BadPlaces", A_BadPlaces), ("BadProgram", A_BadProgram), ("BadSize", A_BadSize), ("BadTurning", A_BadTurning), ("BadWord", A_BadWord), ("TooMany", A_TooMany), ("TurnError", A_TurnError)]) 2 F_law_group) := ok_law_group dd_law_group b_range g_law_any g_law_then g_law_pick
  have g_law_program : Fn l.prog w K mg base "_law_program" 2 ["pool", "many", "size", "most"] (spM (ctL [("BadPlaces", A_BadPlaces), ("BadProgram", A_BadProgram), ("BadSize", A_BadSize), ("BadTurning", A_BadTurning), ("BadWord", A_BadWord), ("TooMany", A_TooMany), ("TurnError", A_TurnError)]) 4 F_law_program) := ok_law_program dd_law_program b_min b_range g_law_pick
  have g_law_turnings : Fn l.prog w K mg base "_law_turnings" 2 ["makers", "steps"] (spM (ctL [("BadPlaces", A_BadPlaces), ("BadProgram", A_BadProgram), ("BadSize", A_BadSize), ("BadTurning", A_BadTurning), ("BadWord", A_BadWord), ("TooMany", A_TooMany), ("TurnError", A_TurnError)]) 2 F_law_turnings) := ok_law_turnings dd_law_turnings g_law_back g_law_then
  have g_law_letters : Fn l.prog w K mg base "_law_letters" 1 ["one", "other"] (spM (ctL [("BadPlaces", A_BadPlaces), ("BadProgram", A_BadProgram), ("BadSize", A_BadSize), ("BadTurning", A_BadTurning), ("BadWord", A_BadWord), ("TooMany", A_TooMany), ("TurnError", A_TurnError)]) 2 F_law_letters) := ok_law_letters dd_law_letters b_bool b_int b_isinstance b_len b_list b_tuple b_zip
  have g_law_word : Fn l.prog w K mg base "_law_word" 1 ["steps"] (spM (ctL [("BadPlaces", A_BadPlaces), ("BadProgram", A_BadProgram), ("BadSize", A_BadSize), ("BadTurning", A_BadTurning), ("BadWord", A_BadWord), ("TooMany", A_TooMany), ("TurnError", A_TurnError)]) 1 F_law_word) := ok_law_word dd_law_word 
  have g_law_told : Fn l.prog w K mg base "_law_told" 4 ["steps", "most"] (spM (ctL [("BadPlaces", A_BadPlaces), ("BadProgram", A_BadProgram), ("BadSize", A_BadSize), ("BadTurning", A_BadTurning), ("BadWord", A_BadWord), ("TooMany", A_TooMany), ("TurnError", A_TurnError)]) 2 F_law_told) := ok_law_told dd_law_told b_isinstance xc_BadProgram xc_BadSize xc_BadTurning xc_BadWord xc_TooMany xc_TurnError fo_TooMany g_written_out
  have g_law_written : Fn l.prog w K mg base "_law_written" 7 ["steps", "word", "most"] (spM (ctL [("BadPlaces", A_BadPlaces), ("BadProgram", A_BadProgram), ("BadSize", A_BadSize), ("BadTurning", A_BadTurning), ("BadWord", A_BadWord), ("TooMany", A_TooMany), ("TurnError", A_TurnError)]) 3 F_law_written) := ok_law_written dd_law_written b_len g_law_letters g_law_same g_law_told
  have g_law_holds : FnGd l.prog w K mg base "_law_holds" 8 ["pool", "n", "makers", "steps", "word"] (spM (ctL [("BadPlaces", A_BadPlaces), ("BadProgram", A_BadProgram), ("BadSize", A_BadSize), ("BadTurning", A_BadTurning), ("BadWord", A_BadWord), ("TooMany", A_TooMany), ("TurnError", A_TurnError)]) 5 F_law_holds) := ok_law_holds dd_law_holds b_int b_len b_list b_range b_repr g_law_same g_word_turning g_law_letters g_law_told g_program_turning g_program_length g_law_written g_law_mixed g_law_pick g_law_turnings
  have g_law_exact : Fn l.prog w K mg base "_law_exact" 2 ["pool", "many", "length"] (spM (ctL [("BadPlaces", A_BadPlaces), ("BadProgram", A_BadProgram), ("BadSize", A_BadSize), ("BadTurning", A_BadTurning), ("BadWord", A_BadWord), ("TooMany", A_TooMany), ("TurnError", A_TurnError)]) 3 F_law_exact) := ok_law_exact dd_law_exact b_int b_len b_range g_law_pick
  have g_law_great : FnGd l.prog w K mg base "_law_great" 7 ["pool", "n", "makers"] (spM (ctL [("BadPlaces", A_BadPlaces), ("BadProgram", A_BadProgram), ("BadSize", A_BadSize), ("BadTurning", A_BadTurning), ("BadWord", A_BadWord), ("TooMany", A_TooMany), ("TurnError", A_TurnError)]) 3 F_law_great) := ok_law_great dd_law_great b_len b_range b_repr g_law_same g_program_turning g_law_turnings g_law_told g_law_pick g_program_length g_law_program
  have g_law_long : Fn l.prog w K mg base "_law_long" 8 ["pool"] (spM (ctL [("BadPlaces", A_BadPlaces), ("BadProgram", A_BadProgram), ("BadSize", A_BadSize), ("BadTurning", A_BadTurning), ("BadWord", A_BadWord), ("TooMany", A_TooMany), ("TurnError", A_TurnError)]) 1 F_law_long) := ok_law_long dd_law_long b_int b_len b_range g_law_same g_law_told g_program_length g_law_written g_law_pick
  exact fnG_law (ok_law dd_law b_len b_repr g_law_stream g_law_long g_law_same g_program_length g_law_written g_law_exact g_law_pick g_law_great g_law_holds g_law_mixed g_law_word g_law_program g_law_group g_law_any g_law_places) hlaw
end Cl

open PySem PySem.W PyProof.Rows
set_option maxRecDepth 100000 in
set_option maxHeartbeats 0 in
theorem PySem.Challenge.cw_siftyard_k09_whole_programs_written_out_holds : PySem.Challenge.rw_siftyard_k09_whole_programs_written_out.Holds := by
  w_on; o_law; k_head; (case hw => w_witness2)
  k_fill
  refine Z.walkG (l := PySem.Challenge.rw_siftyard_k09_whole_programs_written_out) 9 ⟨rfl, by decide, by decide⟩ rfl rfl (fun w h Y => PySem.W.kIn_of Y) ?F
  case F =>
    intro w mg fa h KX G hmg
    refine' Cl.all_mk KX G hmg ?a0 ?l0 ?c0 ?k0 ?a1 ?l1 ?c1 ?k1 ?a2 ?l2 ?c2 ?k2 ?a3 ?l3 ?c3 ?k3 ?a4 ?l4 ?c4 ?k4 ?a5 ?l5 ?c5 ?k5 ?a6 ?l6 ?c6 ?k6 ?a7 ?l7 ?c7 ?k7 ?a8 ?l8 ?c8 ?k8 ?a9 ?l9 ?c9 ?k9 ?a10 ?l10 ?c10 ?k10 ?a11 ?l11 ?c11 ?k11 ?a12 ?l12 ?c12 ?k12 ?a13 ?l13 ?c13 ?k13 ?a14 ?l14 ?c14 ?k14 ?a15 ?l15 ?c15 ?k15 ?a16 ?l16 ?c16 ?k16 ?a17 ?l17 ?c17 ?k17 ?a18 ?l18 ?c18 ?k18 ?a19 ?l19 ?c19 ?k19 ?a20 ?l20 ?c20 ?k20 ?a21 ?l21 ?c21 ?k21 ?a22 ?l22 ?c22 ?k22 ?a23 ?l23 ?c23 ?k23 ?a24 ?l24 ?c24 ?k24 ?a25 ?l25 ?c25 ?k25 ?a26 ?l26 ?c26 ?k26 ?a27 ?l27 ?c27 ?k27 ?a28 ?l28 ?c28 ?k28 ?a29 ?l29 ?c29 ?k29 ?a30 ?l30 ?c30 ?k30 ?a31 ?l31 ?c31 ?k31 ?a32 ?l32 ?c32 ?k32 ?a33 ?l33 ?c33 ?k33 ?a34 ?l34 ?c34 ?k34 ?a35 ?l35 ?c35 ?k35 ?a36 ?l36 ?c36 ?k36 ?a37 ?l37 ?c37 ?k37 ?a38 ?l38 ?c38 ?k38 ?a39 ?l39 ?c39 ?k39 ?a40 ?l40 ?c40 ?k40 ?a41 ?l41 ?c41 ?k41 ?a42 ?l42 ?c42 ?k42 ?a43 ?l43 ?c43 ?k43 ?gA_BadPlaces ?gA_BadProgram ?gA_BadSize ?gA_BadTurning ?gA_BadWord ?gA_TooMany ?gA_TurnError ?tBl ?eX_BadPlaces ?fo_TooMany ?zs ?htop ?fi_BadProgram ?lf_BadProgram ?hcd_BadProgram ?lcd_BadProgram ?hvs_BadProgram ?hfl_BadProgram ?lcc_BadProgram ?sB_BadProgram ?fi_BadSize ?lf_BadSize ?hcd_BadSize ?lcd_BadSize ?hvs_BadSize ?hfl_BadSize ?lcc_BadSize ?sB_BadSize ?fi_BadTurning ?lf_BadTurning ?hcd_BadTurning ?lcd_BadTurning ?hvs_BadTurning ?hfl_BadTurning ?lcc_BadTurning ?sB_BadTurning ?fi_BadWord ?lf_BadWord ?hcd_BadWord ?lcd_BadWord ?hvs_BadWord ?hfl_BadWord ?lcc_BadWord ?sB_BadWord ?fi_TooMany ?lf_TooMany ?hcd_TooMany ?lcd_TooMany ?hvs_TooMany ?hfl_TooMany ?lcc_TooMany ?sB_TooMany ?z_all ?z_bool ?z_enumerate ?z_int ?z_isinstance ?z_len ?z_list ?z_max ?z_min ?z_range ?z_repr ?z_str ?z_tuple ?z_zip ?y_MOST_MAKERS ?y_MOST_PLACES ?y_MOST_STEPS Cl.law_true
    (case a0 => k_is); (case l0 => k_is); (case c0 => k_is); (case k0 => k_is)
    (case a1 => k_is); (case l1 => k_is); (case c1 => k_is); (case k1 => k_is)
    (case a2 => k_is); (case l2 => k_is); (case c2 => k_is); (case k2 => k_is)
    (case a3 => k_is); (case l3 => k_is); (case c3 => k_is); (case k3 => k_is)
    (case a4 => k_is); (case l4 => k_is); (case c4 => k_is); (case k4 => k_is)
    (case a5 => k_is); (case l5 => k_is); (case c5 => k_is); (case k5 => k_is)
    (case a6 => k_is); (case l6 => k_is); (case c6 => k_is); (case k6 => k_is)
    (case a7 => k_is); (case l7 => k_is); (case c7 => k_is); (case k7 => k_is)
    (case a8 => k_is); (case l8 => k_is); (case c8 => k_is); (case k8 => k_is)
    (case a9 => k_is); (case l9 => k_is); (case c9 => k_is); (case k9 => k_is)
    (case a10 => k_is); (case l10 => k_is); (case c10 => k_is); (case k10 => k_is)
    (case a11 => k_is); (case l11 => k_is); (case c11 => k_is); (case k11 => k_is)
    (case a12 => k_is); (case l12 => k_is); (case c12 => k_is); (case k12 => k_is)
    (case a13 => k_is); (case l13 => k_is); (case c13 => k_is); (case k13 => k_is)
    (case a14 => k_is); (case l14 => k_is); (case c14 => k_is); (case k14 => k_is)
    (case a15 => k_is); (case l15 => k_is); (case c15 => k_is); (case k15 => k_is)
    (case a16 => k_is); (case l16 => k_is); (case c16 => k_is); (case k16 => k_is)
    (case a17 => k_is); (case l17 => k_is); (case c17 => k_is); (case k17 => k_is)
    (case a18 => k_is); (case l18 => k_is); (case c18 => k_is); (case k18 => k_is)
    (case a19 => k_is); (case l19 => k_is); (case c19 => k_is); (case k19 => k_is)
    (case a20 => k_is); (case l20 => k_is); (case c20 => k_is); (case k20 => k_is)
    (case a21 => k_is); (case l21 => k_is); (case c21 => k_is); (case k21 => k_is)
    (case a22 => k_is); (case l22 => k_is); (case c22 => k_is); (case k22 => k_is)
    (case a23 => k_is); (case l23 => k_is); (case c23 => k_is); (case k23 => k_is)
    (case a24 => k_is); (case l24 => k_is); (case c24 => k_is); (case k24 => k_is)
    (case a25 => k_is); (case l25 => k_is); (case c25 => k_is); (case k25 => k_is)
    (case a26 => k_is); (case l26 => k_is); (case c26 => k_is); (case k26 => k_is)
    (case a27 => k_is); (case l27 => k_is); (case c27 => k_is); (case k27 => k_is)
    (case a28 => k_is); (case l28 => k_is); (case c28 => k_is); (case k28 => k_is)
    (case a29 => k_is); (case l29 => k_is); (case c29 => k_is); (case k29 => k_is)
    (case a30 => k_is); (case l30 => k_is); (case c30 => k_is); (case k30 => k_is)
    (case a31 => k_is); (case l31 => k_is); (case c31 => k_is); (case k31 => k_is)
    (case a32 => k_is); (case l32 => k_is); (case c32 => k_is); (case k32 => k_is)
    (case a33 => k_is); (case l33 => k_is); (case c33 => k_is); (case k33 => k_is)
    (case a34 => k_is); (case l34 => k_is); (case c34 => k_is); (case k34 => k_is)
    (case a35 => k_is); (case l35 => k_is); (case c35 => k_is); (case k35 => k_is)
    (case a36 => k_is); (case l36 => k_is); (case c36 => k_is); (case k36 => k_is)
    (case a37 => k_is); (case l37 => k_is); (case c37 => k_is); (case k37 => k_is)
    (case a38 => k_is); (case l38 => k_is); (case c38 => k_is); (case k38 => k_is)
    (case a39 => k_is); (case l39 => k_is); (case c39 => k_is); (case k39 => k_is)
    (case a40 => k_is); (case l40 => k_is); (case c40 => k_is); (case k40 => k_is)
    (case a41 => k_is); (case l41 => k_is); (case c41 => k_is); (case k41 => k_is)
    (case a42 => k_is); (case l42 => k_is); (case c42 => k_is); (case k42 => k_is)
    (case a43 => k_is); (case l43 => k_is); (case c43 => k_is); (case k43 => k_is)
    (case gA_BadPlaces => k_is)
    (case gA_BadProgram => k_is)
    (case gA_BadSize => k_is)
    (case gA_BadTurning => k_is)
    (case gA_BadWord => k_is)
    (case gA_TooMany => k_is)
    (case gA_TurnError => k_is)
    (case tBl => kernel_rfl)
    (case eX_BadPlaces => kernel_rfl)
    (case fo_TooMany => k_is)
    (case zs => k_is); (case htop => rfl)
    (case fi_BadProgram => k_is); (case lf_BadProgram => k_is); (case hcd_BadProgram => k_is); (case lcd_BadProgram => k_is); (case hvs_BadProgram => rfl); (case hfl_BadProgram => first | rfl | decide +kernel); (case lcc_BadProgram => k_is); (case sB_BadProgram => kernel_rfl)
    (case fi_BadSize => k_is); (case lf_BadSize => k_is); (case hcd_BadSize => k_is); (case lcd_BadSize => k_is); (case hvs_BadSize => rfl); (case hfl_BadSize => first | rfl | decide +kernel); (case lcc_BadSize => k_is); (case sB_BadSize => kernel_rfl)
    (case fi_BadTurning => k_is); (case lf_BadTurning => k_is); (case hcd_BadTurning => k_is); (case lcd_BadTurning => k_is); (case hvs_BadTurning => rfl); (case hfl_BadTurning => first | rfl | decide +kernel); (case lcc_BadTurning => k_is); (case sB_BadTurning => kernel_rfl)
    (case fi_BadWord => k_is); (case lf_BadWord => k_is); (case hcd_BadWord => k_is); (case lcd_BadWord => k_is); (case hvs_BadWord => rfl); (case hfl_BadWord => first | rfl | decide +kernel); (case lcc_BadWord => k_is); (case sB_BadWord => kernel_rfl)
    (case fi_TooMany => k_is); (case lf_TooMany => k_is); (case hcd_TooMany => k_is); (case lcd_TooMany => k_is); (case hvs_TooMany => rfl); (case hfl_TooMany => first | rfl | decide +kernel); (case lcc_TooMany => k_is); (case sB_TooMany => kernel_rfl)
    (case z_all => k_is)
    (case z_bool => k_is)
    (case z_enumerate => k_is)
    (case z_int => k_is)
    (case z_isinstance => k_is)
    (case z_len => k_is)
    (case z_list => k_is)
    (case z_max => k_is)
    (case z_min => k_is)
    (case z_range => k_is)
    (case z_repr => k_is)
    (case z_str => k_is)
    (case z_tuple => k_is)
    (case z_zip => k_is)
    (case y_MOST_MAKERS => k_is)
    (case y_MOST_PLACES => k_is)
    (case y_MOST_STEPS => k_is)
